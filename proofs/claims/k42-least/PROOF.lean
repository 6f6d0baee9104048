import PyProof.Rows.All
import Wide.All
import OpenK.AllK
import Wide.FinOn
import KE.KStateDown
import Lean
import HandS.ForMost
import HandS.Exc
import HandS.TryOnly
import HandS.ExcOwn
import HandS.WordsExc
import HandS.More
import HandS.Flow
import HandS.Style
import HandS.IsInst
import HandS.Deep
import KE.DataFind
import KE.GoesEnum
import HandS.WideBits
import HandS.TupAny
import HandS.TupLe
import HandS.Wide
import HandS.FStr
import HandS.Zip
import HandS.Conv
import HandS.Codes
import HandS.OwnEq
import HandS.SortOrd
import HandS.DictTup
import HandS.Defaults
import HandS.SetFor
import HandS.Small
import HandS.ForDict
import KE.KDictDisplayH
import KE.DataMinMax
import KE.SortData
import HandS.Walk
import HandS.TupLen
import PyProof.Rows.TupDisplay
import HandS.Head0
import HandS.Head1
import HandS.Head2
import HandS.HeadEnd
import HandS.HeadHook1
import HandS.HeadHook2
import HandS.HeadHook3
import HandS.HeadHook4
import HandS.TupSets
import PySem.Challenge.RW_turnedleaves_k42_whole_least_papers
set_option Elab.async false
set_option linter.all false
set_option maxRecDepth 100000
set_option maxHeartbeats 4000000
namespace TL
open PySem PySem.Spec PyProof.Rows L2
/-! ### defs by name -/
def fdOf (K : PySem.W.Frag) (p : Str × Option Str) : FuncData := match K.lookup (He.fAd K p) with
  | some ⟨_, _, .func fd, _⟩ => fd
  | _ => PySem.W.fnOf "" "" { posonlyargs := [], args := [], vararg := none, kwonlyargs := [], kw_defaults := [], kwarg := none, defaults := [] } [] { kind := .function, names := [], isGenerator := false, isCoroutine := false } .none .none .none .none none .none .none
abbrev Df (K : PySem.W.Frag) (p : Str × Option Str) (x q : Str) (st : Stmt) (dv : List V) : Prop := FunD K x q (defArgs st) (defBody st) (defScope st) dv [] (He.fAd K p) (fdOf K p)
theorem df_of {K : PySem.W.Frag} {p : Str × Option Str} {x q : Str} {pa : Arguments} {bd : List Stmt} {sc : Scope} {dv : List V} {kw : List (Str × V)} (h : ∃ fd, FunD K x q pa bd sc dv kw (He.fAd K p) fd) : FunD K x q pa bd sc dv kw (He.fAd K p) (fdOf K p) := by
  obtain ⟨fd, F⟩ := h
  obtain ⟨oc, od, dV, kV, doc, pm, an, cdv, ct, osl, e, lk, _⟩ := id F.ex
  have e2 : fdOf K p = fd := by
    unfold fdOf
    rw [lk]
  rw [e2]
  exact F
abbrev OkF (P : Program) (w : World) (K : PySem.W.Frag) (mg : Str → Option Value) (base : Heap) (CX : CXT) (k : Nat) (p : Str × Option Str) (ps : List Str) (sp : Sp) : Prop := FnOk P w K mg base CX k (He.fAd K p) (fdOf K p) ps sp
section
variable {P : Program} {w : World} {K : PySem.W.Frag} {mg : Str → Option Value} {base : Heap} {x qual : Str} {params : Arguments} {body : List Stmt} {scope : Scope} {dvs : List V} {kws : List (Str × V)} {f : Addr} {fd : FuncData}
theorem okN {N ps : List Str} {k : Nat} {sp : Sp} (F : FunD K x qual params body scope dvs kws f fd) (S : FnScope N ps scope) (len : ∀ vs H Q E, sp vs H Q E → vs.length = ps.length)
    (hbody : ∀ (cdv : Value) (A : Around) (outer : List Env) (s : Shared) (H : Hp) (vs : List V) (Q : VK) (E : XK), Room k (A.deeper (envOfC qual scope s.heap.objs.size f cdv)) → sp vs H Q E →
      ∃ t, PSs (cxOf CX0 P w K mg base N qual scope f cdv A outer s H E).nox body t ∧ t { nx := fun _ H' => Q .non H', rt := Q } (start N vs) H) : FnOk P w K mg base CX0 (k + 1) f fd ps sp := by
  refine F.ok S len fun cdv A outer s H vs Q E hr hsp => ?_
  obtain ⟨t, h, q⟩ := hbody cdv A outer s H vs Q E hr hsp
  exact ⟨t, h.nox, q⟩
end
/-! ### heaps -/
theorem same_upd {H : Hp} {p : Addr} {o : HO} (h : H p = none) : Same H (upd H p o) := fun b x e => by
  rw [upd_ne (ne_of_none e h)]
  exact e
theorem same_updR {H H1 : Hp} {p : Addr} {o : HO} (s : Same H H1) (h : H p = none) : Same H (upd H1 p o) := fun b x e => by
  rw [upd_ne (ne_of_none e h)]
  exact s b x e
theorem same_sqt {K : PySem.W.Frag} {H H' : Hp} {a : Addr} {xs : List V} (e : Same H H') (h : SqT K H a xs) : SqT K H' a xs := by
  rcases h with (h | ⟨o, h⟩) | h
  · exact .inl (.inl (e _ _ h))
  · exact .inl (.inr ⟨o, e _ _ h⟩)
  · exact .inr h
/-- all that was tracked is as it was but at ds; tuples and what is locked stay -/
structure Fr (ds : List Addr) (H H' : Hp) : Prop where
  keep : ∀ b o, b ∉ ds → H b = some o → H' b = some o
  tu : ∀ b xs, H b = some (.tup xs) → H' b = some (.tup xs)
  fz : ∀ b o u, H b = some (.frz o u) → H' b = some (.frz o u)
theorem Fr.of {H H' : Hp} (s : Same H H') (ds : List Addr) : Fr ds H H' := ⟨fun b o _ e => s b o e, fun b xs e => s b _ e, fun b o u e => s b _ e⟩
theorem Fr.refl (ds : List Addr) (H : Hp) : Fr ds H H := Fr.of (Same.refl H) ds
theorem Fr.trans {ds : List Addr} {H H1 H2 : Hp} (a : Fr ds H H1) (b : Fr ds H1 H2) : Fr ds H H2 := ⟨fun c o n e => b.keep c o n (a.keep c o n e), fun c xs e => b.tu c xs (a.tu c xs e), fun c o u e => b.fz c o u (a.fz c o u e)⟩
theorem Fr.mono {ds es : List Addr} {H H1 : Hp} (a : Fr ds H H1) (h : ∀ d ∈ ds, d ∈ es) : Fr es H H1 := ⟨fun c o n e => a.keep c o (fun z => n (h c z)) e, a.tu, a.fz⟩
theorem Fr.same {H H' : Hp} (a : Fr [] H H') : Same H H' := fun b o e => a.keep b o (by simp) e
theorem Fr.upd {d : Addr} {ds : List Addr} {H : Hp} {o u : HO} (h : H d = some o) (m : Mut (some o)) (hd : d ∈ ds) : Fr ds H (L2.upd H d u) := by
  have ne : ∀ b v, H b = some v → ¬ Mut (some v) → b ≠ d := fun b v e nm z => by
    subst z
    rw [h] at e
    cases e
    exact nm m
  refine ⟨fun b v n e => ?_, fun b xs e => ?_, fun b ob w e => ?_⟩
  · rw [upd_ne (show b ≠ d from fun z => n (by rw [z]; exact hd))]
    exact e
  · rw [upd_ne (ne b _ e fun z => z)]
    exact e
  · rw [upd_ne (ne b _ e fun z => z)]
    exact e
theorem Fr.sqt {K : PySem.W.Frag} {ds : List Addr} {H H' : Hp} {a : Addr} {xs : List V} (e : Fr ds H H') (h : SqT K H a xs) : SqT K H' a xs := by
  rcases h with (h | ⟨o, h⟩) | h
  · exact .inl (.inl (e.tu _ _ h))
  · exact .inl (.inr ⟨o, e.fz _ _ _ h⟩)
  · exact .inr h
/-! ### data -/
mutual
/-- no list in it -/
def isT : PyData → Bool
  | .none => true
  | .bool _ => true
  | .int _ => true
  | .str _ => true
  | .list _ => false
  | .tuple xs => isTs xs
  | .dict _ => false
def isTs : List PyData → Bool
  | [] => true
  | x :: xs => isT x && isTs xs
end
section
variable {K : PySem.W.Frag} {H H' : Hp}
mutual
theorem dp_tu (e : ∀ a xs, SqT K H a xs → SqT K H' a xs) : ∀ {v : V} {d : PyData}, Dp K H v d → isT d = true → Dp K H' v d
  | _, _, .non, _ => .non
  | _, _, .bl b, _ => .bl b
  | _, _, .int i, _ => .int i
  | _, _, .str x, _ => .str x
  | _, _, .lst _ _, h => by cases h
  | _, _, .tup s a, h => .tup (e _ _ s) (dpa_tu e a h)
theorem dpa_tu (e : ∀ a xs, SqT K H a xs → SqT K H' a xs) : ∀ {vs : List V} {ds : List PyData}, DpAll K H vs ds → isTs ds = true → DpAll K H' vs ds
  | _, _, .nil, _ => .nil
  | _, _, .cons d r, h => by
    obtain ⟨h1, h2⟩ := Bool.and_eq_true_iff.mp h
    exact .cons (dp_tu e d h1) (dpa_tu e r h2)
end
mutual
theorem dp_same (e : Same H H') : ∀ {v : V} {d : PyData}, Dp K H v d → Dp K H' v d
  | _, _, .non => .non
  | _, _, .bl b => .bl b
  | _, _, .int i => .int i
  | _, _, .str x => .str x
  | _, _, .lst s a => .lst (e.seq s) (dpa_same e a)
  | _, _, .tup s a => .tup (same_sqt e s) (dpa_same e a)
theorem dpa_same (e : Same H H') : ∀ {vs : List V} {ds : List PyData}, DpAll K H vs ds → DpAll K H' vs ds
  | _, _, .nil => .nil
  | _, _, .cons d r => .cons (dp_same e d) (dpa_same e r)
end
theorem Fr.dp {ds : List Addr} (e : Fr ds H H') {v : V} {d : PyData} (h : Dp K H v d) (t : isT d = true) : Dp K H' v d := dp_tu (fun _ _ z => e.sqt z) h t
theorem Fr.dpa {ds : List Addr} (e : Fr ds H H') {vs : List V} {xs : List PyData} (h : DpAll K H vs xs) (t : isTs xs = true) : DpAll K H' vs xs := dpa_tu (fun _ _ z => e.sqt z) h t
theorem dpa_len : ∀ {vs : List V} {ds : List PyData}, DpAll K H vs ds → vs.length = ds.length
  | _, _, .nil => rfl
  | _, _, .cons _ r => congrArg Nat.succ (dpa_len r)
theorem dpa_at : ∀ {vs : List V} {ds : List PyData} {i : Nat} {v : V}, DpAll K H vs ds → vs[i]? = some v → ∃ d, ds[i]? = some d ∧ Dp K H v d
  | _, _, _, _, .nil, e => by simp at e
  | _, _, 0, _, .cons d r, e => by simp at e; subst e; exact ⟨_, rfl, d⟩
  | _, _, i + 1, v, .cons d r, e => by
    obtain ⟨d', h1, h2⟩ := dpa_at (i := i) (v := v) r (by simpa using e)
    exact ⟨d', by simpa using h1, h2⟩
theorem dpa_atD : ∀ {vs : List V} {ds : List PyData} {i : Nat} {d : PyData}, DpAll K H vs ds → ds[i]? = some d → ∃ v, vs[i]? = some v ∧ Dp K H v d
  | _, _, _, _, .nil, e => by simp at e
  | _, _, 0, _, .cons d r, e => by simp at e; subst e; exact ⟨_, rfl, d⟩
  | _, _, i + 1, v, .cons d r, e => by
    obtain ⟨d', h1, h2⟩ := dpa_atD (i := i) (d := v) r (by simpa using e)
    exact ⟨d', by simpa using h1, h2⟩
theorem dpa_app : ∀ {vs ws : List V} {ds es : List PyData}, DpAll K H vs ds → DpAll K H ws es → DpAll K H (vs ++ ws) (ds ++ es)
  | _, _, _, _, .nil, h => h
  | _, _, _, _, .cons d r, h => .cons d (dpa_app r h)
theorem dpa_snoc {vs : List V} {ds : List PyData} {v : V} {d : PyData} (h : DpAll K H vs ds) (e : Dp K H v d) : DpAll K H (vs ++ [v]) (ds ++ [d]) := dpa_app h (.cons e .nil)
theorem dpa_take : ∀ {vs : List V} {ds : List PyData} (n : Nat), DpAll K H vs ds → DpAll K H (vs.take n) (ds.take n)
  | _, _, 0, _ => .nil
  | _, _, _ + 1, .nil => .nil
  | _, _, n + 1, .cons d r => .cons d (dpa_take n r)
theorem dpa_drop : ∀ {vs : List V} {ds : List PyData} (n : Nat), DpAll K H vs ds → DpAll K H (vs.drop n) (ds.drop n)
  | _, _, 0, h => h
  | _, _, _ + 1, .nil => .nil
  | _, _, n + 1, .cons d r => dpa_drop n r
theorem dpa_rev : ∀ {vs : List V} {ds : List PyData}, DpAll K H vs ds → DpAll K H vs.reverse ds.reverse
  | _, _, .nil => .nil
  | _, _, .cons d r => by
    rw [List.reverse_cons, List.reverse_cons]
    exact dpa_snoc (dpa_rev r) d
theorem dpa1 {xs : List V} {d0 : PyData} (h : DpAll K H xs [d0]) : ∃ v0, xs = [v0] ∧ Dp K H v0 d0 := by
  cases h with
  | cons h0 r =>
    cases r
    exact ⟨_, rfl, h0⟩
theorem dpa2 {xs : List V} {d0 d1 : PyData} (h : DpAll K H xs [d0, d1]) : ∃ v0 v1, xs = [v0, v1] ∧ Dp K H v0 d0 ∧ Dp K H v1 d1 := by
  cases h with
  | cons h0 r =>
    cases r with
    | cons h1 r =>
      cases r
      exact ⟨_, _, rfl, h0, h1⟩
theorem dpa3 {xs : List V} {d0 d1 d2 : PyData} (h : DpAll K H xs [d0, d1, d2]) : ∃ v0 v1 v2, xs = [v0, v1, v2] ∧ Dp K H v0 d0 ∧ Dp K H v1 d1 ∧ Dp K H v2 d2 := by
  cases h with
  | cons h0 r =>
    cases r with
    | cons h1 r =>
      cases r with
      | cons h2 r =>
        cases r
        exact ⟨_, _, _, rfl, h0, h1, h2⟩
theorem dpa4 {xs : List V} {d0 d1 d2 d3 : PyData} (h : DpAll K H xs [d0, d1, d2, d3]) : ∃ v0 v1 v2 v3, xs = [v0, v1, v2, v3] ∧ Dp K H v0 d0 ∧ Dp K H v1 d1 ∧ Dp K H v2 d2 ∧ Dp K H v3 d3 := by
  cases h with
  | cons h0 r =>
    cases r with
    | cons h1 r =>
      cases r with
      | cons h2 r =>
        cases r with
        | cons h3 r =>
          cases r
          exact ⟨_, _, _, _, rfl, h0, h1, h2, h3⟩
theorem len3 {α : Type} {l : List α} (h : l.length = 3) : ∃ a b c, l = [a, b, c] := by
  match l, h with
  | [a, b, c], _ => exact ⟨a, b, c, rfl⟩
theorem len2 {α : Type} {l : List α} (h : l.length = 2) : ∃ a b, l = [a, b] := by
  match l, h with
  | [a, b], _ => exact ⟨a, b, rfl⟩
theorem len4 {α : Type} {l : List α} (h : l.length = 4) : ∃ a b c d, l = [a, b, c, d] := by
  match l, h with
  | [a, b, c, d], _ => exact ⟨a, b, c, d, rfl⟩
/-- the type's name -/
def tyD : PyData → String
  | .none => "NoneType"
  | .bool _ => "bool"
  | .int _ => "int"
  | .str _ => "str"
  | .list _ => "list"
  | .tuple _ => "tuple"
  | .dict _ => "dict"
theorem dp_ty {v : V} {d : PyData} (h : Dp K H v d) : TyX K H v (.type (tyD d)) := by
  cases h with
  | non => exact .base .non
  | bl b => exact .base (.bl b)
  | int i => exact .base (.int i)
  | str x => exact .base (.str x)
  | lst s a =>
    rcases s with (s | ⟨o, s⟩) | ⟨o, its, n, k, c, _⟩
    · exact .base (.lst s)
    · exact .base (.frz s)
    · exact .kList k c
  | tup s a =>
    rcases s with (s | ⟨o, s⟩) | ⟨o, its, n, k, c, _⟩
    · exact .base (.tup s)
    · exact .fTuple s
    · exact .kTuple k c
end
/-! ### tests of numbers -/
section
variable {A B : Prop} {i j : Int}
theorem iteEQ (h : i = j) (x : A) : if decide (V.int i = V.int j) = true then A else B := by
  rw [decide_eq_true (congrArg V.int h)]
  exact iteT x
theorem iteNQ (h : i ≠ j) (x : B) : if decide (V.int i = V.int j) = true then A else B := by
  rw [decide_eq_false (fun e => h (V.int.inj e))]
  exact iteF x
theorem iteNEQ (h : i ≠ j) (x : A) : if (!decide (V.int i = V.int j)) = true then A else B := by
  rw [decide_eq_false (fun e => h (V.int.inj e))]
  exact iteT x
theorem iteNNQ (h : i = j) (x : B) : if (!decide (V.int i = V.int j)) = true then A else B := by
  rw [decide_eq_true (congrArg V.int h)]
  exact iteF x
theorem ite2Q (h1 : i = j → A) (h2 : i ≠ j → B) : if decide (V.int i = V.int j) = true then A else B := by
  by_cases h : i = j
  · exact iteEQ h (h1 h)
  · exact iteNQ h (h2 h)
theorem ite2NQ (h1 : i ≠ j → A) (h2 : i = j → B) : if (!decide (V.int i = V.int j)) = true then A else B := by
  by_cases h : i = j
  · exact iteNNQ h (h2 h)
  · exact iteNEQ h (h1 h)
theorem iteP {c : Prop} [Decidable c] (h : c) (x : A) : if decide c = true then A else B := by
  rw [decide_eq_true h]
  exact iteT x
theorem iteN {c : Prop} [Decidable c] (h : ¬ c) (x : B) : if decide c = true then A else B := by
  rw [decide_eq_false h]
  exact iteF x
theorem ite2P {c : Prop} [Decidable c] (h1 : c → A) (h2 : ¬ c → B) : if decide c = true then A else B := by
  by_cases h : c
  · exact iteP h (h1 h)
  · exact iteN h (h2 h)
theorem iteNP {c : Prop} [Decidable c] (h : ¬ c) (x : A) : if (!decide c) = true then A else B := by
  rw [decide_eq_false h]
  exact iteT x
theorem iteNN {c : Prop} [Decidable c] (h : c) (x : B) : if (!decide c) = true then A else B := by
  rw [decide_eq_true h]
  exact iteF x
end
/-! ### isinstance -/
def isIntB : PyData → Bool
  | .int _ => true
  | .bool _ => true
  | _ => false
def isBoolB : PyData → Bool
  | .bool _ => true
  | _ => false
def isTupB : PyData → Bool
  | .tuple _ => true
  | _ => false
def isLstB : PyData → Bool
  | .list _ => true
  | _ => false
def isStrB : PyData → Bool
  | .str _ => true
  | _ => false
section
variable {K : PySem.W.Frag}
theorem kit_int : ∀ d : PyData, PySem.W.kitOne K (.type (tyD d)) (.type "int") = some (isIntB d)
  | .none => kit_ty (a := "NoneType") (b := "int") (r := false) (by decide +kernel)
  | .bool _ => kit_ty (a := "bool") (b := "int") (r := true) (by decide +kernel)
  | .int _ => kit_ty (a := "int") (b := "int") (r := true) (by decide +kernel)
  | .str _ => kit_ty (a := "str") (b := "int") (r := false) (by decide +kernel)
  | .list _ => kit_ty (a := "list") (b := "int") (r := false) (by decide +kernel)
  | .tuple _ => kit_ty (a := "tuple") (b := "int") (r := false) (by decide +kernel)
  | .dict _ => kit_ty (a := "dict") (b := "int") (r := false) (by decide +kernel)
theorem kit_bool : ∀ d : PyData, PySem.W.kitOne K (.type (tyD d)) (.type "bool") = some (isBoolB d)
  | .none => kit_ty (a := "NoneType") (b := "bool") (r := false) (by decide +kernel)
  | .bool _ => kit_ty (a := "bool") (b := "bool") (r := true) (by decide +kernel)
  | .int _ => kit_ty (a := "int") (b := "bool") (r := false) (by decide +kernel)
  | .str _ => kit_ty (a := "str") (b := "bool") (r := false) (by decide +kernel)
  | .list _ => kit_ty (a := "list") (b := "bool") (r := false) (by decide +kernel)
  | .tuple _ => kit_ty (a := "tuple") (b := "bool") (r := false) (by decide +kernel)
  | .dict _ => kit_ty (a := "dict") (b := "bool") (r := false) (by decide +kernel)
theorem kit_tup : ∀ d : PyData, PySem.W.kitOne K (.type (tyD d)) (.type "tuple") = some (isTupB d)
  | .none => kit_ty (a := "NoneType") (b := "tuple") (r := false) (by decide +kernel)
  | .bool _ => kit_ty (a := "bool") (b := "tuple") (r := false) (by decide +kernel)
  | .int _ => kit_ty (a := "int") (b := "tuple") (r := false) (by decide +kernel)
  | .str _ => kit_ty (a := "str") (b := "tuple") (r := false) (by decide +kernel)
  | .list _ => kit_ty (a := "list") (b := "tuple") (r := false) (by decide +kernel)
  | .tuple _ => kit_ty (a := "tuple") (b := "tuple") (r := true) (by decide +kernel)
  | .dict _ => kit_ty (a := "dict") (b := "tuple") (r := false) (by decide +kernel)
theorem kit_lst : ∀ d : PyData, PySem.W.kitOne K (.type (tyD d)) (.type "list") = some (isLstB d)
  | .none => kit_ty (a := "NoneType") (b := "list") (r := false) (by decide +kernel)
  | .bool _ => kit_ty (a := "bool") (b := "list") (r := false) (by decide +kernel)
  | .int _ => kit_ty (a := "int") (b := "list") (r := false) (by decide +kernel)
  | .str _ => kit_ty (a := "str") (b := "list") (r := false) (by decide +kernel)
  | .list _ => kit_ty (a := "list") (b := "list") (r := true) (by decide +kernel)
  | .tuple _ => kit_ty (a := "tuple") (b := "list") (r := false) (by decide +kernel)
  | .dict _ => kit_ty (a := "dict") (b := "list") (r := false) (by decide +kernel)
theorem kit_str : ∀ d : PyData, PySem.W.kitOne K (.type (tyD d)) (.type "str") = some (isStrB d)
  | .none => kit_ty (a := "NoneType") (b := "str") (r := false) (by decide +kernel)
  | .bool _ => kit_ty (a := "bool") (b := "str") (r := false) (by decide +kernel)
  | .int _ => kit_ty (a := "int") (b := "str") (r := false) (by decide +kernel)
  | .str _ => kit_ty (a := "str") (b := "str") (r := true) (by decide +kernel)
  | .list _ => kit_ty (a := "list") (b := "str") (r := false) (by decide +kernel)
  | .tuple _ => kit_ty (a := "tuple") (b := "str") (r := false) (by decide +kernel)
  | .dict _ => kit_ty (a := "dict") (b := "str") (r := false) (by decide +kernel)
theorem isi {H : Hp} {x : V} {d : PyData} {n : String} {b : Bool} {Q : VK} (hd : Dp K H x d) (hk : PySem.W.kitOne K (.type (tyD d)) (.type n) = some b) (q : Q (.bl b) H) : rIsi K [x, .ty n] H Q := ⟨x, .ty n, _, _, b, rfl, .ty _, dp_ty hd, hk, q⟩
end
/-- a tuple of the written part -/
def tupIs (K : PySem.W.Frag) (a : Addr) (vs : List V) : Bool := match K.lookup a with
  | some ⟨.type c, _, .seq its _, _⟩ => decide (c = "tuple") && (decide (its.size ≤ sizeLine) && He.relAll vs its.toList)
  | _ => false
theorem tupIs_ok {K : PySem.W.Frag} {a : Addr} {vs : List V} (h : tupIs K a vs = true) (H : Hp) : SqT K H a vs := by
  unfold tupIs at h
  cases q : K.lookup a with
  | none =>
    rw [q] at h
    cases h
  | some o =>
    obtain ⟨oc, od, dt, osl⟩ := o
    rw [q] at h
    cases oc with
    | type c =>
      cases dt with
      | seq its n =>
        obtain ⟨h1, h2⟩ := He.ba h
        obtain ⟨h3, h4⟩ := He.ba h2
        exact .inr ⟨_, its, n, q, congrArg Value.type (of_decide_eq_true h1), rfl, of_decide_eq_true h3, He.relAll_ok h4⟩
      | _ => cases h
    | _ => cases dt <;> cases h
def topS (i : Nat) : Stmt := PySem.Challenge.pw_turnedleaves_k42_whole_least_papers.main.body.getD i (.Pass ⟨0, 0, 0, 0⟩)
abbrev s__wall : Stmt := topS 0
abbrev s_is_number : Stmt := topS 9
abbrev s_is_bar : Stmt := topS 10
abbrev s_beats_of : Stmt := topS 11
abbrev s_Part_init : Stmt := inClass (topS 12) 0
abbrev s_Part_len : Stmt := inClass (topS 12) 1
abbrev s_Part_eq : Stmt := inClass (topS 12) 2
abbrev s_Part_str : Stmt := inClass (topS 12) 3
abbrev s_Part_bars : Stmt := inClass (topS 12) 4
abbrev s_Part_becomes : Stmt := inClass (topS 12) 5
abbrev s_Part_put : Stmt := inClass (topS 12) 6
abbrev s_Part_drop : Stmt := inClass (topS 12) 7
abbrev s_Part_take_back : Stmt := inClass (topS 12) 8
abbrev s_Part_ahead : Stmt := inClass (topS 12) 9
abbrev s_Part_behind : Stmt := inClass (topS 12) 10
abbrev s_Part_rest : Stmt := inClass (topS 12) 11
abbrev s_Part_wide : Stmt := inClass (topS 12) 12
abbrev s_need_desk : Stmt := topS 15
abbrev s_may_turn : Stmt := topS 17
abbrev s_steps : Stmt := topS 18
abbrev s_begin_of : Stmt := topS 19
abbrev s_reached : Stmt := topS 20
abbrev s_best_from : Stmt := topS 21
abbrev s_fewest : Stmt := topS 22
abbrev s_is_state : Stmt := topS 24
abbrev s_paper : Stmt := topS 25
abbrev s_least_paper : Stmt := topS 26
abbrev s_is_row : Stmt := topS 27
abbrev s_shows_least : Stmt := topS 28
abbrev s__law_cell : Stmt := topS 30
abbrev s__law_drawn : Stmt := topS 31
abbrev s__law_roll : Stmt := topS 32
abbrev s__law_rounds : Stmt := topS 33
abbrev s__law_bar : Stmt := topS 34
abbrev s__law_row : Stmt := topS 35
abbrev s__law_stand : Stmt := topS 36
abbrev s__law_run : Stmt := topS 37
abbrev s__law_rest : Stmt := topS 38
abbrev s__law_width : Stmt := topS 39
abbrev s__law_steps : Stmt := topS 40
abbrev s__law_first : Stmt := topS 41
abbrev s__law_is_number : Stmt := topS 42
abbrev s__law_is_state : Stmt := topS 43
abbrev s__law_shows_least : Stmt := topS 44
abbrev s_law : Stmt := topS 45
def dd_is_number : He.DefD := ⟨("is_number", none), "is_number", "is_number", defArgs s_is_number, defBody s_is_number, defScope s_is_number, [], []⟩
def dd_is_bar : He.DefD := ⟨("is_bar", none), "is_bar", "is_bar", defArgs s_is_bar, defBody s_is_bar, defScope s_is_bar, [], []⟩
def dd_beats_of : He.DefD := ⟨("beats_of", none), "beats_of", "beats_of", defArgs s_beats_of, defBody s_beats_of, defScope s_beats_of, [], []⟩
def dd_Part_init : He.DefD := ⟨("Part", some "__init__"), "__init__", "Part.__init__", defArgs s_Part_init, defBody s_Part_init, defScope s_Part_init, [.non], []⟩
def dd_Part_len : He.DefD := ⟨("Part", some "__len__"), "__len__", "Part.__len__", defArgs s_Part_len, defBody s_Part_len, defScope s_Part_len, [], []⟩
def dd_Part_eq : He.DefD := ⟨("Part", some "__eq__"), "__eq__", "Part.__eq__", defArgs s_Part_eq, defBody s_Part_eq, defScope s_Part_eq, [], []⟩
def dd_Part_str : He.DefD := ⟨("Part", some "__str__"), "__str__", "Part.__str__", defArgs s_Part_str, defBody s_Part_str, defScope s_Part_str, [], []⟩
def dd_Part_bars : He.DefD := ⟨("Part", some "bars"), "bars", "Part.bars", defArgs s_Part_bars, defBody s_Part_bars, defScope s_Part_bars, [], []⟩
def dd_Part_ahead : He.DefD := ⟨("Part", some "ahead"), "ahead", "Part.ahead", defArgs s_Part_ahead, defBody s_Part_ahead, defScope s_Part_ahead, [], []⟩
def dd_Part_behind : He.DefD := ⟨("Part", some "behind"), "behind", "Part.behind", defArgs s_Part_behind, defBody s_Part_behind, defScope s_Part_behind, [], []⟩
def dd_Part_rest : He.DefD := ⟨("Part", some "rest"), "rest", "Part.rest", defArgs s_Part_rest, defBody s_Part_rest, defScope s_Part_rest, [], []⟩
def dd_Part_wide : He.DefD := ⟨("Part", some "wide"), "wide", "Part.wide", defArgs s_Part_wide, defBody s_Part_wide, defScope s_Part_wide, [], []⟩
def dd_need_desk : He.DefD := ⟨("need_desk", none), "need_desk", "need_desk", defArgs s_need_desk, defBody s_need_desk, defScope s_need_desk, [], []⟩
def dd_may_turn : He.DefD := ⟨("may_turn", none), "may_turn", "may_turn", defArgs s_may_turn, defBody s_may_turn, defScope s_may_turn, [], []⟩
def dd_steps : He.DefD := ⟨("steps", none), "steps", "steps", defArgs s_steps, defBody s_steps, defScope s_steps, [], []⟩
def dd_begin_of : He.DefD := ⟨("begin_of", none), "begin_of", "begin_of", defArgs s_begin_of, defBody s_begin_of, defScope s_begin_of, [], []⟩
def dd_reached : He.DefD := ⟨("reached", none), "reached", "reached", defArgs s_reached, defBody s_reached, defScope s_reached, [], []⟩
def dd_best_from : He.DefD := ⟨("best_from", none), "best_from", "best_from", defArgs s_best_from, defBody s_best_from, defScope s_best_from, [], []⟩
def dd_fewest : He.DefD := ⟨("fewest", none), "fewest", "fewest", defArgs s_fewest, defBody s_fewest, defScope s_fewest, [], []⟩
def dd_is_state : He.DefD := ⟨("is_state", none), "is_state", "is_state", defArgs s_is_state, defBody s_is_state, defScope s_is_state, [], []⟩
def dd_paper : He.DefD := ⟨("paper", none), "paper", "paper", defArgs s_paper, defBody s_paper, defScope s_paper, [], []⟩
def dd_least_paper : He.DefD := ⟨("least_paper", none), "least_paper", "least_paper", defArgs s_least_paper, defBody s_least_paper, defScope s_least_paper, [], []⟩
def dd_is_row : He.DefD := ⟨("is_row", none), "is_row", "is_row", defArgs s_is_row, defBody s_is_row, defScope s_is_row, [], []⟩
def dd_shows_least : He.DefD := ⟨("shows_least", none), "shows_least", "shows_least", defArgs s_shows_least, defBody s_shows_least, defScope s_shows_least, [], []⟩
def dd__law_cell : He.DefD := ⟨("_law_cell", none), "_law_cell", "_law_cell", defArgs s__law_cell, defBody s__law_cell, defScope s__law_cell, [], []⟩
def dd__law_drawn : He.DefD := ⟨("_law_drawn", none), "_law_drawn", "_law_drawn", defArgs s__law_drawn, defBody s__law_drawn, defScope s__law_drawn, [], []⟩
def dd__law_roll : He.DefD := ⟨("_law_roll", none), "_law_roll", "_law_roll", defArgs s__law_roll, defBody s__law_roll, defScope s__law_roll, [], []⟩
def dd__law_rounds : He.DefD := ⟨("_law_rounds", none), "_law_rounds", "_law_rounds", defArgs s__law_rounds, defBody s__law_rounds, defScope s__law_rounds, [], []⟩
def dd__law_bar : He.DefD := ⟨("_law_bar", none), "_law_bar", "_law_bar", defArgs s__law_bar, defBody s__law_bar, defScope s__law_bar, [], []⟩
def dd__law_row : He.DefD := ⟨("_law_row", none), "_law_row", "_law_row", defArgs s__law_row, defBody s__law_row, defScope s__law_row, [], []⟩
def dd__law_stand : He.DefD := ⟨("_law_stand", none), "_law_stand", "_law_stand", defArgs s__law_stand, defBody s__law_stand, defScope s__law_stand, [], []⟩
def dd__law_run : He.DefD := ⟨("_law_run", none), "_law_run", "_law_run", defArgs s__law_run, defBody s__law_run, defScope s__law_run, [], []⟩
def dd__law_rest : He.DefD := ⟨("_law_rest", none), "_law_rest", "_law_rest", defArgs s__law_rest, defBody s__law_rest, defScope s__law_rest, [], []⟩
def dd__law_width : He.DefD := ⟨("_law_width", none), "_law_width", "_law_width", defArgs s__law_width, defBody s__law_width, defScope s__law_width, [], []⟩
def dd__law_steps : He.DefD := ⟨("_law_steps", none), "_law_steps", "_law_steps", defArgs s__law_steps, defBody s__law_steps, defScope s__law_steps, [], []⟩
def dd__law_first : He.DefD := ⟨("_law_first", none), "_law_first", "_law_first", defArgs s__law_first, defBody s__law_first, defScope s__law_first, [], []⟩
def dd__law_is_number : He.DefD := ⟨("_law_is_number", none), "_law_is_number", "_law_is_number", defArgs s__law_is_number, defBody s__law_is_number, defScope s__law_is_number, [], []⟩
def dd__law_is_state : He.DefD := ⟨("_law_is_state", none), "_law_is_state", "_law_is_state", defArgs s__law_is_state, defBody s__law_is_state, defScope s__law_is_state, [], []⟩
def dd__law_shows_least : He.DefD := ⟨("_law_shows_least", none), "_law_shows_least", "_law_shows_least", defArgs s__law_shows_least, defBody s__law_shows_least, defScope s__law_shows_least, [], []⟩
def dd_law : He.DefD := ⟨("law", none), "law", "law", defArgs s_law, defBody s_law, defScope s_law, [], []⟩
def fn_0 : List He.DefD := [dd_is_number, dd_is_bar, dd_beats_of, dd_Part_init, dd_Part_len, dd_Part_eq, dd_Part_str, dd_Part_bars, dd_Part_ahead, dd_Part_behind, dd_Part_rest, dd_Part_wide, dd_need_desk, dd_may_turn, dd_steps, dd_begin_of, dd_reached, dd_best_from, dd_fewest, dd_is_state, dd_paper, dd_least_paper, dd_is_row, dd_shows_least, dd__law_cell]
def fn_1 : List He.DefD := [dd__law_drawn, dd__law_roll, dd__law_rounds, dd__law_bar, dd__law_row, dd__law_stand, dd__law_run, dd__law_rest, dd__law_width, dd__law_steps, dd__law_first, dd__law_is_number, dd__law_is_state, dd__law_shows_least, dd_law]
def fn : List He.DefD := fn_0 ++ fn_1
def fa_0 : List He.Fa := [.glo "is_number", .glo "is_bar", .glo "beats_of", .glo "need_desk", .glo "may_turn", .glo "steps", .glo "begin_of", .glo "reached", .glo "best_from", .glo "fewest", .glo "is_state", .glo "paper", .glo "least_paper", .glo "is_row", .glo "shows_least", .glo "_law_cell", .glo "_law_drawn", .glo "_law_roll", .glo "_law_rounds", .glo "_law_bar", .glo "_law_row", .glo "_law_stand", .glo "_law_run", .glo "_law_rest", .glo "_law_width"]
def fa_1 : List He.Fa := [.glo "_law_steps", .glo "_law_first", .glo "_law_is_number", .glo "_law_is_state", .glo "_law_shows_least", .glo "law", .free "len", .free "isinstance", .free "range", .free "list", .free "all", .free "any", .free "int", .free "bool", .free "str", .free "tuple", .free "max", .free "min", .free "sum", .free "sorted", .free "dict", .free "set", .free "ValueError", .int "MOST" 40, .glo "SIDES"]
def fa_2 : List He.Fa := [.glo "LeafError", .glo "BadBar", .glo "BadPlace", .glo "BadDesk", .glo "Full", .cls "Part", .mkr "Part", .noat "Part" "row", .noat "Part" "past", .meth "Part" "__init__", .meth "Part" "__len__", .meth "Part" "__eq__", .meth "Part" "__str__", .meth "Part" "bars", .meth "Part" "ahead", .meth "Part" "behind", .meth "Part" "rest", .meth "Part" "wide", .glo "Part"]
def fa : List He.Fa := fa_0 ++ fa_1 ++ fa_2
def exs_0 : List (PySem.W.Frag → Bool) := [(fun K => He.eqO (PySem.W.findIn K (.ref (He.ga K "Part")) "__class__") (some (some (.builtin "object.__class__")))), (fun K => He.eqO (PySem.W.specialIn K (.builtin "object.__class__") "__get__") (some (some (.builtin "getset_descriptor.__get__")))), (fun K => decide (PySem.W.takesIn K (.builtin "object.__class__") = some true)), (fun K => decide (PySem.W.mroIn K (He.ga K "Part") (.type "object") = some true)), (fun K => decide (PySem.W.kitOne K (.ref (He.ga K "Part")) (.ref (He.ga K "Part")) = some true)), (fun K => decide (PySem.W.kitOne K (.type "NoneType") (.ref (He.ga K "Part")) = some false)), (fun K => decide (PySem.W.kitOne K (.type "bool") (.ref (He.ga K "Part")) = some false)), (fun K => decide (PySem.W.kitOne K (.type "int") (.ref (He.ga K "Part")) = some false)), (fun K => decide (PySem.W.kitOne K (.type "str") (.ref (He.ga K "Part")) = some false)), (fun K => decide (PySem.W.kitOne K (.type "list") (.ref (He.ga K "Part")) = some false)), (fun K => decide (PySem.W.kitOne K (.type "tuple") (.ref (He.ga K "Part")) = some false)), (fun K => decide (PySem.W.kitOne K (.ref (He.ga K "Part")) (.type "list") = some false)), (fun K => decide (PySem.W.kitOne K (.ref (He.ga K "Part")) (.type "tuple") = some false)), (fun K => decide (PySem.W.kitOne K (.ref (He.ga K "Part")) (.type "int") = some false)), (fun K => decide (PySem.W.kitOne K (.ref (He.ga K "Part")) (.type "bool") = some false)), (fun K => decide (PySem.W.kitOne K (.ref (He.ga K "Part")) (.type "str") = some false)), (fun K => He.eqO (PySem.W.findIn K (.ref (He.ga K "Part")) "__ne__") (some (some (.builtin "object.__ne__")))), (fun K => PySem.W.notFirst K (He.ga K "Part") (.type "NoneType")), (fun K => PySem.W.notFirst K (He.ga K "Part") (.type "bool")), (fun K => PySem.W.notFirst K (He.ga K "Part") (.type "int")), (fun K => PySem.W.notFirst K (He.ga K "Part") (.type "str")), (fun K => PySem.W.notFirst K (He.ga K "Part") (.type "list")), (fun K => PySem.W.notFirst K (He.ga K "Part") (.type "tuple")), (fun K => tupIs K (He.ga K "SIDES") [.str "left", .str "right"])]
def exs : List (PySem.W.Frag → Bool) := exs_0
def loose_0 : List PySem.Str := ["_wall", "LeafError", "BadBar", "BadPlace", "BadDesk", "Full", "MOST", "is_number", "is_bar", "beats_of", "Part", "SIDES", "need_desk", "may_turn", "steps", "begin_of", "reached", "best_from", "fewest", "is_state", "paper", "least_paper", "is_row", "shows_least", "_law_cell"]
def loose_1 : List PySem.Str := ["_law_drawn", "_law_roll", "_law_rounds", "_law_bar", "_law_row", "_law_stand", "_law_run", "_law_rest", "_law_width", "_law_steps", "_law_first", "_law_is_number", "_law_is_state", "_law_shows_least"]
def loose : List PySem.Str := loose_0 ++ loose_1
structure Txt (K : PySem.W.Frag) (mg : Str → Option Value) : Prop where
  is_number : Df K ("is_number", none) "is_number" "is_number" s_is_number []
  is_bar : Df K ("is_bar", none) "is_bar" "is_bar" s_is_bar []
  beats_of : Df K ("beats_of", none) "beats_of" "beats_of" s_beats_of []
  Part_init : Df K ("Part", some "__init__") "__init__" "Part.__init__" s_Part_init [.non]
  Part_len : Df K ("Part", some "__len__") "__len__" "Part.__len__" s_Part_len []
  Part_eq : Df K ("Part", some "__eq__") "__eq__" "Part.__eq__" s_Part_eq []
  Part_str : Df K ("Part", some "__str__") "__str__" "Part.__str__" s_Part_str []
  Part_bars : Df K ("Part", some "bars") "bars" "Part.bars" s_Part_bars []
  Part_ahead : Df K ("Part", some "ahead") "ahead" "Part.ahead" s_Part_ahead []
  Part_behind : Df K ("Part", some "behind") "behind" "Part.behind" s_Part_behind []
  Part_rest : Df K ("Part", some "rest") "rest" "Part.rest" s_Part_rest []
  Part_wide : Df K ("Part", some "wide") "wide" "Part.wide" s_Part_wide []
  need_desk : Df K ("need_desk", none) "need_desk" "need_desk" s_need_desk []
  may_turn : Df K ("may_turn", none) "may_turn" "may_turn" s_may_turn []
  steps : Df K ("steps", none) "steps" "steps" s_steps []
  begin_of : Df K ("begin_of", none) "begin_of" "begin_of" s_begin_of []
  reached : Df K ("reached", none) "reached" "reached" s_reached []
  best_from : Df K ("best_from", none) "best_from" "best_from" s_best_from []
  fewest : Df K ("fewest", none) "fewest" "fewest" s_fewest []
  is_state : Df K ("is_state", none) "is_state" "is_state" s_is_state []
  paper : Df K ("paper", none) "paper" "paper" s_paper []
  least_paper : Df K ("least_paper", none) "least_paper" "least_paper" s_least_paper []
  is_row : Df K ("is_row", none) "is_row" "is_row" s_is_row []
  shows_least : Df K ("shows_least", none) "shows_least" "shows_least" s_shows_least []
  _law_cell : Df K ("_law_cell", none) "_law_cell" "_law_cell" s__law_cell []
  _law_drawn : Df K ("_law_drawn", none) "_law_drawn" "_law_drawn" s__law_drawn []
  _law_roll : Df K ("_law_roll", none) "_law_roll" "_law_roll" s__law_roll []
  _law_rounds : Df K ("_law_rounds", none) "_law_rounds" "_law_rounds" s__law_rounds []
  _law_bar : Df K ("_law_bar", none) "_law_bar" "_law_bar" s__law_bar []
  _law_row : Df K ("_law_row", none) "_law_row" "_law_row" s__law_row []
  _law_stand : Df K ("_law_stand", none) "_law_stand" "_law_stand" s__law_stand []
  _law_run : Df K ("_law_run", none) "_law_run" "_law_run" s__law_run []
  _law_rest : Df K ("_law_rest", none) "_law_rest" "_law_rest" s__law_rest []
  _law_width : Df K ("_law_width", none) "_law_width" "_law_width" s__law_width []
  _law_steps : Df K ("_law_steps", none) "_law_steps" "_law_steps" s__law_steps []
  _law_first : Df K ("_law_first", none) "_law_first" "_law_first" s__law_first []
  _law_is_number : Df K ("_law_is_number", none) "_law_is_number" "_law_is_number" s__law_is_number []
  _law_is_state : Df K ("_law_is_state", none) "_law_is_state" "_law_is_state" s__law_is_state []
  _law_shows_least : Df K ("_law_shows_least", none) "_law_shows_least" "_law_shows_least" s__law_shows_least []
  law : Df K ("law", none) "law" "law" s_law []
  g_is_number : mg "is_number" = some (.ref (He.fAd K ("is_number", none)))
  g_is_bar : mg "is_bar" = some (.ref (He.fAd K ("is_bar", none)))
  g_beats_of : mg "beats_of" = some (.ref (He.fAd K ("beats_of", none)))
  g_need_desk : mg "need_desk" = some (.ref (He.fAd K ("need_desk", none)))
  g_may_turn : mg "may_turn" = some (.ref (He.fAd K ("may_turn", none)))
  g_steps : mg "steps" = some (.ref (He.fAd K ("steps", none)))
  g_begin_of : mg "begin_of" = some (.ref (He.fAd K ("begin_of", none)))
  g_reached : mg "reached" = some (.ref (He.fAd K ("reached", none)))
  g_best_from : mg "best_from" = some (.ref (He.fAd K ("best_from", none)))
  g_fewest : mg "fewest" = some (.ref (He.fAd K ("fewest", none)))
  g_is_state : mg "is_state" = some (.ref (He.fAd K ("is_state", none)))
  g_paper : mg "paper" = some (.ref (He.fAd K ("paper", none)))
  g_least_paper : mg "least_paper" = some (.ref (He.fAd K ("least_paper", none)))
  g_is_row : mg "is_row" = some (.ref (He.fAd K ("is_row", none)))
  g_shows_least : mg "shows_least" = some (.ref (He.fAd K ("shows_least", none)))
  g__law_cell : mg "_law_cell" = some (.ref (He.fAd K ("_law_cell", none)))
  g__law_drawn : mg "_law_drawn" = some (.ref (He.fAd K ("_law_drawn", none)))
  g__law_roll : mg "_law_roll" = some (.ref (He.fAd K ("_law_roll", none)))
  g__law_rounds : mg "_law_rounds" = some (.ref (He.fAd K ("_law_rounds", none)))
  g__law_bar : mg "_law_bar" = some (.ref (He.fAd K ("_law_bar", none)))
  g__law_row : mg "_law_row" = some (.ref (He.fAd K ("_law_row", none)))
  g__law_stand : mg "_law_stand" = some (.ref (He.fAd K ("_law_stand", none)))
  g__law_run : mg "_law_run" = some (.ref (He.fAd K ("_law_run", none)))
  g__law_rest : mg "_law_rest" = some (.ref (He.fAd K ("_law_rest", none)))
  g__law_width : mg "_law_width" = some (.ref (He.fAd K ("_law_width", none)))
  g__law_steps : mg "_law_steps" = some (.ref (He.fAd K ("_law_steps", none)))
  g__law_first : mg "_law_first" = some (.ref (He.fAd K ("_law_first", none)))
  g__law_is_number : mg "_law_is_number" = some (.ref (He.fAd K ("_law_is_number", none)))
  g__law_is_state : mg "_law_is_state" = some (.ref (He.fAd K ("_law_is_state", none)))
  g__law_shows_least : mg "_law_shows_least" = some (.ref (He.fAd K ("_law_shows_least", none)))
  g_law : mg "law" = some (.ref (He.fAd K ("law", none)))
  b_len : mg "len" = none
  b_isinstance : mg "isinstance" = none
  b_range : mg "range" = none
  b_list : mg "list" = none
  b_all : mg "all" = none
  b_any : mg "any" = none
  b_int : mg "int" = none
  b_bool : mg "bool" = none
  b_str : mg "str" = none
  b_tuple : mg "tuple" = none
  b_max : mg "max" = none
  b_min : mg "min" = none
  b_sum : mg "sum" = none
  b_sorted : mg "sorted" = none
  b_dict : mg "dict" = none
  b_set : mg "set" = none
  b_ValueError : mg "ValueError" = none
  c_MOST : ∃ t, mg "MOST" = some (.int 40 t)
  g_SIDES : mg "SIDES" = some (.ref (He.ga K "SIDES"))
  g_LeafError : mg "LeafError" = some (.ref (He.ga K "LeafError"))
  g_BadBar : mg "BadBar" = some (.ref (He.ga K "BadBar"))
  g_BadPlace : mg "BadPlace" = some (.ref (He.ga K "BadPlace"))
  g_BadDesk : mg "BadDesk" = some (.ref (He.ga K "BadDesk"))
  g_Full : mg "Full" = some (.ref (He.ga K "Full"))
  cl_Part : Cls K (He.ga K "Part")
  mk_Part : Mk K (He.ga K "Part") (He.fAd K ("Part", some "__init__"))
  n_row : NoAttr K (He.ga K "Part") "row"
  n_past : NoAttr K (He.ga K "Part") "past"
  m_Part_init : Meth K (He.ga K "Part") "__init__" (He.fAd K ("Part", some "__init__"))
  m_Part_len : Meth K (He.ga K "Part") "__len__" (He.fAd K ("Part", some "__len__"))
  m_Part_eq : Meth K (He.ga K "Part") "__eq__" (He.fAd K ("Part", some "__eq__"))
  m_Part_str : Meth K (He.ga K "Part") "__str__" (He.fAd K ("Part", some "__str__"))
  m_Part_bars : Meth K (He.ga K "Part") "bars" (He.fAd K ("Part", some "bars"))
  m_Part_ahead : Meth K (He.ga K "Part") "ahead" (He.fAd K ("Part", some "ahead"))
  m_Part_behind : Meth K (He.ga K "Part") "behind" (He.fAd K ("Part", some "behind"))
  m_Part_rest : Meth K (He.ga K "Part") "rest" (He.fAd K ("Part", some "rest"))
  m_Part_wide : Meth K (He.ga K "Part") "wide" (He.fAd K ("Part", some "wide"))
  k_class : PySem.W.findIn K (.ref (He.ga K "Part")) "__class__" = some (some (.builtin "object.__class__"))
  k_get : PySem.W.specialIn K (.builtin "object.__class__") "__get__" = some (some (.builtin "getset_descriptor.__get__"))
  k_takes : PySem.W.takesIn K (.builtin "object.__class__") = some true
  k_mro : PySem.W.mroIn K (He.ga K "Part") (.type "object") = some true
  k_self : PySem.W.kitOne K (.ref (He.ga K "Part")) (.ref (He.ga K "Part")) = some true
  k_NoneType : PySem.W.kitOne K (.type "NoneType") (.ref (He.ga K "Part")) = some false
  k_bool : PySem.W.kitOne K (.type "bool") (.ref (He.ga K "Part")) = some false
  k_int : PySem.W.kitOne K (.type "int") (.ref (He.ga K "Part")) = some false
  k_str : PySem.W.kitOne K (.type "str") (.ref (He.ga K "Part")) = some false
  k_list : PySem.W.kitOne K (.type "list") (.ref (He.ga K "Part")) = some false
  k_tuple : PySem.W.kitOne K (.type "tuple") (.ref (He.ga K "Part")) = some false
  k_nolist : PySem.W.kitOne K (.ref (He.ga K "Part")) (.type "list") = some false
  k_notuple : PySem.W.kitOne K (.ref (He.ga K "Part")) (.type "tuple") = some false
  k_noint : PySem.W.kitOne K (.ref (He.ga K "Part")) (.type "int") = some false
  k_nobool : PySem.W.kitOne K (.ref (He.ga K "Part")) (.type "bool") = some false
  k_nostr : PySem.W.kitOne K (.ref (He.ga K "Part")) (.type "str") = some false
  k_ne : PySem.W.findIn K (.ref (He.ga K "Part")) "__ne__" = some (some (.builtin "object.__ne__"))
  k_first_NoneType : PySem.W.notFirst K (He.ga K "Part") (.type "NoneType") = true
  k_first_bool : PySem.W.notFirst K (He.ga K "Part") (.type "bool") = true
  k_first_int : PySem.W.notFirst K (He.ga K "Part") (.type "int") = true
  k_first_str : PySem.W.notFirst K (He.ga K "Part") (.type "str") = true
  k_first_list : PySem.W.notFirst K (He.ga K "Part") (.type "list") = true
  k_first_tuple : PySem.W.notFirst K (He.ga K "Part") (.type "tuple") = true
  g_Part : mg "Part" = some (.ref (He.ga K "Part"))
  t_SIDES : tupIs K (He.ga K "SIDES") [.str "left", .str "right"] = true
def ex (K : PySem.W.Frag) : Bool := exs.all fun f => f K
theorem exAt {K : PySem.W.Frag} (h : ex K = true) (i : Nat) {f : PySem.W.Frag → Bool} (e : exs[i]? = some f) : f K = true := List.all_eq_true.mp h f (List.mem_of_getElem? e)
theorem txt_of {tf : List He.Defn} {w : World} {h h0 : Heap} {K : PySem.W.Frag} {mg : Str → Option Value} (X : K.In h) (G : h.Ns mainGlobals mg) (c : He.SaysX fa fn [] tf ex w h0 K) : Txt K mg := ⟨df_of (c.t.d.defs (d := dd_is_number) (by simp [fn, fn_0])),
  df_of (c.t.d.defs (d := dd_is_bar) (by simp [fn, fn_0])),
  df_of (c.t.d.defs (d := dd_beats_of) (by simp [fn, fn_0])),
  df_of (c.t.d.defs (d := dd_Part_init) (by simp [fn, fn_0])),
  df_of (c.t.d.defs (d := dd_Part_len) (by simp [fn, fn_0])),
  df_of (c.t.d.defs (d := dd_Part_eq) (by simp [fn, fn_0])),
  df_of (c.t.d.defs (d := dd_Part_str) (by simp [fn, fn_0])),
  df_of (c.t.d.defs (d := dd_Part_bars) (by simp [fn, fn_0])),
  df_of (c.t.d.defs (d := dd_Part_ahead) (by simp [fn, fn_0])),
  df_of (c.t.d.defs (d := dd_Part_behind) (by simp [fn, fn_0])),
  df_of (c.t.d.defs (d := dd_Part_rest) (by simp [fn, fn_0])),
  df_of (c.t.d.defs (d := dd_Part_wide) (by simp [fn, fn_0])),
  df_of (c.t.d.defs (d := dd_need_desk) (by simp [fn, fn_0])),
  df_of (c.t.d.defs (d := dd_may_turn) (by simp [fn, fn_0])),
  df_of (c.t.d.defs (d := dd_steps) (by simp [fn, fn_0])),
  df_of (c.t.d.defs (d := dd_begin_of) (by simp [fn, fn_0])),
  df_of (c.t.d.defs (d := dd_reached) (by simp [fn, fn_0])),
  df_of (c.t.d.defs (d := dd_best_from) (by simp [fn, fn_0])),
  df_of (c.t.d.defs (d := dd_fewest) (by simp [fn, fn_0])),
  df_of (c.t.d.defs (d := dd_is_state) (by simp [fn, fn_0])),
  df_of (c.t.d.defs (d := dd_paper) (by simp [fn, fn_0])),
  df_of (c.t.d.defs (d := dd_least_paper) (by simp [fn, fn_0])),
  df_of (c.t.d.defs (d := dd_is_row) (by simp [fn, fn_0])),
  df_of (c.t.d.defs (d := dd_shows_least) (by simp [fn, fn_0])),
  df_of (c.t.d.defs (d := dd__law_cell) (by simp [fn, fn_0])),
  df_of (c.t.d.defs (d := dd__law_drawn) (by simp [fn, fn_1])),
  df_of (c.t.d.defs (d := dd__law_roll) (by simp [fn, fn_1])),
  df_of (c.t.d.defs (d := dd__law_rounds) (by simp [fn, fn_1])),
  df_of (c.t.d.defs (d := dd__law_bar) (by simp [fn, fn_1])),
  df_of (c.t.d.defs (d := dd__law_row) (by simp [fn, fn_1])),
  df_of (c.t.d.defs (d := dd__law_stand) (by simp [fn, fn_1])),
  df_of (c.t.d.defs (d := dd__law_run) (by simp [fn, fn_1])),
  df_of (c.t.d.defs (d := dd__law_rest) (by simp [fn, fn_1])),
  df_of (c.t.d.defs (d := dd__law_width) (by simp [fn, fn_1])),
  df_of (c.t.d.defs (d := dd__law_steps) (by simp [fn, fn_1])),
  df_of (c.t.d.defs (d := dd__law_first) (by simp [fn, fn_1])),
  df_of (c.t.d.defs (d := dd__law_is_number) (by simp [fn, fn_1])),
  df_of (c.t.d.defs (d := dd__law_is_state) (by simp [fn, fn_1])),
  df_of (c.t.d.defs (d := dd__law_shows_least) (by simp [fn, fn_1])),
  df_of (c.t.d.defs (d := dd_law) (by simp [fn, fn_1])),
  He.glo_ok X G (c.t.d.facts (f := .glo "is_number") (by simp [fa, fa_0])),
  He.glo_ok X G (c.t.d.facts (f := .glo "is_bar") (by simp [fa, fa_0])),
  He.glo_ok X G (c.t.d.facts (f := .glo "beats_of") (by simp [fa, fa_0])),
  He.glo_ok X G (c.t.d.facts (f := .glo "need_desk") (by simp [fa, fa_0])),
  He.glo_ok X G (c.t.d.facts (f := .glo "may_turn") (by simp [fa, fa_0])),
  He.glo_ok X G (c.t.d.facts (f := .glo "steps") (by simp [fa, fa_0])),
  He.glo_ok X G (c.t.d.facts (f := .glo "begin_of") (by simp [fa, fa_0])),
  He.glo_ok X G (c.t.d.facts (f := .glo "reached") (by simp [fa, fa_0])),
  He.glo_ok X G (c.t.d.facts (f := .glo "best_from") (by simp [fa, fa_0])),
  He.glo_ok X G (c.t.d.facts (f := .glo "fewest") (by simp [fa, fa_0])),
  He.glo_ok X G (c.t.d.facts (f := .glo "is_state") (by simp [fa, fa_0])),
  He.glo_ok X G (c.t.d.facts (f := .glo "paper") (by simp [fa, fa_0])),
  He.glo_ok X G (c.t.d.facts (f := .glo "least_paper") (by simp [fa, fa_0])),
  He.glo_ok X G (c.t.d.facts (f := .glo "is_row") (by simp [fa, fa_0])),
  He.glo_ok X G (c.t.d.facts (f := .glo "shows_least") (by simp [fa, fa_0])),
  He.glo_ok X G (c.t.d.facts (f := .glo "_law_cell") (by simp [fa, fa_0])),
  He.glo_ok X G (c.t.d.facts (f := .glo "_law_drawn") (by simp [fa, fa_0])),
  He.glo_ok X G (c.t.d.facts (f := .glo "_law_roll") (by simp [fa, fa_0])),
  He.glo_ok X G (c.t.d.facts (f := .glo "_law_rounds") (by simp [fa, fa_0])),
  He.glo_ok X G (c.t.d.facts (f := .glo "_law_bar") (by simp [fa, fa_0])),
  He.glo_ok X G (c.t.d.facts (f := .glo "_law_row") (by simp [fa, fa_0])),
  He.glo_ok X G (c.t.d.facts (f := .glo "_law_stand") (by simp [fa, fa_0])),
  He.glo_ok X G (c.t.d.facts (f := .glo "_law_run") (by simp [fa, fa_0])),
  He.glo_ok X G (c.t.d.facts (f := .glo "_law_rest") (by simp [fa, fa_0])),
  He.glo_ok X G (c.t.d.facts (f := .glo "_law_width") (by simp [fa, fa_0])),
  He.glo_ok X G (c.t.d.facts (f := .glo "_law_steps") (by simp [fa, fa_1])),
  He.glo_ok X G (c.t.d.facts (f := .glo "_law_first") (by simp [fa, fa_1])),
  He.glo_ok X G (c.t.d.facts (f := .glo "_law_is_number") (by simp [fa, fa_1])),
  He.glo_ok X G (c.t.d.facts (f := .glo "_law_is_state") (by simp [fa, fa_1])),
  He.glo_ok X G (c.t.d.facts (f := .glo "_law_shows_least") (by simp [fa, fa_1])),
  He.glo_ok X G (c.t.d.facts (f := .glo "law") (by simp [fa, fa_1])),
  He.free_ok X G (c.t.d.facts (f := .free "len") (by simp [fa, fa_1])),
  He.free_ok X G (c.t.d.facts (f := .free "isinstance") (by simp [fa, fa_1])),
  He.free_ok X G (c.t.d.facts (f := .free "range") (by simp [fa, fa_1])),
  He.free_ok X G (c.t.d.facts (f := .free "list") (by simp [fa, fa_1])),
  He.free_ok X G (c.t.d.facts (f := .free "all") (by simp [fa, fa_1])),
  He.free_ok X G (c.t.d.facts (f := .free "any") (by simp [fa, fa_1])),
  He.free_ok X G (c.t.d.facts (f := .free "int") (by simp [fa, fa_1])),
  He.free_ok X G (c.t.d.facts (f := .free "bool") (by simp [fa, fa_1])),
  He.free_ok X G (c.t.d.facts (f := .free "str") (by simp [fa, fa_1])),
  He.free_ok X G (c.t.d.facts (f := .free "tuple") (by simp [fa, fa_1])),
  He.free_ok X G (c.t.d.facts (f := .free "max") (by simp [fa, fa_1])),
  He.free_ok X G (c.t.d.facts (f := .free "min") (by simp [fa, fa_1])),
  He.free_ok X G (c.t.d.facts (f := .free "sum") (by simp [fa, fa_1])),
  He.free_ok X G (c.t.d.facts (f := .free "sorted") (by simp [fa, fa_1])),
  He.free_ok X G (c.t.d.facts (f := .free "dict") (by simp [fa, fa_1])),
  He.free_ok X G (c.t.d.facts (f := .free "set") (by simp [fa, fa_1])),
  He.free_ok X G (c.t.d.facts (f := .free "ValueError") (by simp [fa, fa_1])),
  He.int_ok X G (c.t.d.facts (f := .int "MOST" 40) (by simp [fa, fa_1])),
  He.glo_ok X G (c.t.d.facts (f := .glo "SIDES") (by simp [fa, fa_1])),
  He.glo_ok X G (c.t.d.facts (f := .glo "LeafError") (by simp [fa, fa_2])),
  He.glo_ok X G (c.t.d.facts (f := .glo "BadBar") (by simp [fa, fa_2])),
  He.glo_ok X G (c.t.d.facts (f := .glo "BadPlace") (by simp [fa, fa_2])),
  He.glo_ok X G (c.t.d.facts (f := .glo "BadDesk") (by simp [fa, fa_2])),
  He.glo_ok X G (c.t.d.facts (f := .glo "Full") (by simp [fa, fa_2])),
  He.cls_ok (c.t.d.facts (f := .cls "Part") (by simp [fa, fa_2])),
  He.mkr_ok (c.t.d.facts (f := .mkr "Part") (by simp [fa, fa_2])),
  He.noat_ok (c.t.d.facts (f := .noat "Part" "row") (by simp [fa, fa_2])),
  He.noat_ok (c.t.d.facts (f := .noat "Part" "past") (by simp [fa, fa_2])),
  He.meth_ok (c.t.d.facts (f := .meth "Part" "__init__") (by simp [fa, fa_2])),
  He.meth_ok (c.t.d.facts (f := .meth "Part" "__len__") (by simp [fa, fa_2])),
  He.meth_ok (c.t.d.facts (f := .meth "Part" "__eq__") (by simp [fa, fa_2])),
  He.meth_ok (c.t.d.facts (f := .meth "Part" "__str__") (by simp [fa, fa_2])),
  He.meth_ok (c.t.d.facts (f := .meth "Part" "bars") (by simp [fa, fa_2])),
  He.meth_ok (c.t.d.facts (f := .meth "Part" "ahead") (by simp [fa, fa_2])),
  He.meth_ok (c.t.d.facts (f := .meth "Part" "behind") (by simp [fa, fa_2])),
  He.meth_ok (c.t.d.facts (f := .meth "Part" "rest") (by simp [fa, fa_2])),
  He.meth_ok (c.t.d.facts (f := .meth "Part" "wide") (by simp [fa, fa_2])),
  He.eqO_ok (exAt c.more 0 rfl),
  He.eqO_ok (exAt c.more 1 rfl),
  of_decide_eq_true (exAt c.more 2 rfl),
  of_decide_eq_true (exAt c.more 3 rfl),
  of_decide_eq_true (exAt c.more 4 rfl),
  of_decide_eq_true (exAt c.more 5 rfl),
  of_decide_eq_true (exAt c.more 6 rfl),
  of_decide_eq_true (exAt c.more 7 rfl),
  of_decide_eq_true (exAt c.more 8 rfl),
  of_decide_eq_true (exAt c.more 9 rfl),
  of_decide_eq_true (exAt c.more 10 rfl),
  of_decide_eq_true (exAt c.more 11 rfl),
  of_decide_eq_true (exAt c.more 12 rfl),
  of_decide_eq_true (exAt c.more 13 rfl),
  of_decide_eq_true (exAt c.more 14 rfl),
  of_decide_eq_true (exAt c.more 15 rfl),
  He.eqO_ok (exAt c.more 16 rfl),
  (exAt c.more 17 rfl),
  (exAt c.more 18 rfl),
  (exAt c.more 19 rfl),
  (exAt c.more 20 rfl),
  (exAt c.more 21 rfl),
  (exAt c.more 22 rfl),
  He.glo_ok X G (c.t.d.facts (f := .glo "Part") (by simp [fa, fa_2])),
  (exAt c.more 23 rfl)⟩
/-! ### bars -/
structure Bar where
  w : Int
  b : Int
  r : Bool
  deriving DecidableEq
def barD (x : Bar) : PyData := .tuple [.int x.w, .int x.b, .bool x.r]
def barV (x : Bar) : List V := [.int x.w, .int x.b, .bl x.r]
def BarOk (x : Bar) : Prop := 1 ≤ x.w ∧ x.w ≤ 40 ∧ 1 ≤ x.b ∧ x.b ≤ 16
abbrev barsD (bs : List Bar) : List PyData := bs.map barD
theorem isT_bar (x : Bar) : isT (barD x) = true := rfl
theorem isTs_bars : ∀ bs : List Bar, isTs (barsD bs) = true
  | [] => rfl
  | x :: r => by
    show (isT (barD x) && isTs (barsD r)) = true
    rw [isTs_bars r]
    rfl
section
variable {K : PySem.W.Frag} {H H' : Hp}
theorem dp_bar {v : V} {x : Bar} (h : Dp K H v (barD x)) : ∃ p, v = .ref p ∧ SqT K H p (barV x) := by
  cases h with
  | tup s a =>
    cases a with
    | cons d0 r =>
      cases r with
      | cons d1 r =>
        cases r with
        | cons d2 r =>
          cases r
          cases d0
          cases d1
          cases d2
          exact ⟨_, rfl, s⟩
theorem dp_bar_of {p : Addr} {x : Bar} (h : SqT K H p (barV x)) : Dp K H (.ref p) (barD x) := .tup h (.cons (.int _) (.cons (.int _) (.cons (.bl _) .nil)))
theorem bar_at {vs : List V} {bs : List Bar} {i : Nat} {v : V} (h : DpAll K H vs (barsD bs)) (e : vs[i]? = some v) : ∃ x p, bs[i]? = some x ∧ v = .ref p ∧ SqT K H p (barV x) := by
  obtain ⟨d, e1, hd⟩ := dpa_at h e
  rw [List.getElem?_map] at e1
  cases q : bs[i]? with
  | none =>
    rw [q] at e1
    cases e1
  | some x =>
    rw [q] at e1
    have e2 : barD x = d := Option.some.inj e1
    subst e2
    obtain ⟨p, rfl, s⟩ := dp_bar hd
    exact ⟨x, p, rfl, rfl, s⟩
/-- a list of bars at an address -/
def RowAt (K : PySem.W.Frag) (H : Hp) (r : Addr) (bs : List Bar) : Prop := ∃ vs, H r = some (.lst vs) ∧ DpAll K H vs (barsD bs)
theorem RowAt.dp {r : Addr} {bs : List Bar} (h : RowAt K H r bs) : Dp K H (.ref r) (.list (barsD bs)) := by
  obtain ⟨vs, e, a⟩ := h
  exact .lst (.of e) a
theorem RowAt.same {r : Addr} {bs : List Bar} (h : RowAt K H r bs) (s : Same H H') : RowAt K H' r bs := by
  obtain ⟨vs, e, a⟩ := h
  exact ⟨vs, s _ _ e, dpa_same s a⟩
theorem RowAt.fr {ds : List Addr} {r : Addr} {bs : List Bar} (h : RowAt K H r bs) (s : Fr ds H H') (n : r ∉ ds) : RowAt K H' r bs := by
  obtain ⟨vs, e, a⟩ := h
  exact ⟨vs, s.keep _ _ n e, s.dpa a (isTs_bars bs)⟩
theorem lst_bars {a : Addr} {bs : List Bar} (h : Dp K H (.ref a) (.list (barsD bs))) : ∃ vs, SqL K H a vs ∧ DpAll K H vs (barsD bs) := by
  cases h with
  | lst s d => exact ⟨_, s, d⟩
theorem bars_len {vs : List V} {bs : List Bar} (h : DpAll K H vs (barsD bs)) : vs.length = bs.length := by
  rw [dpa_len h, List.length_map]
end
/-- the beats of the first bars, as long as they rest -/
def beatsOf : List Bar → Int
  | [] => 0
  | x :: r => if x.r = true then x.b + beatsOf r else 0
def restOf (bs : List Bar) (k : Nat) : Int := beatsOf (bs.take k).reverse + beatsOf (bs.drop k)
theorem drop_at {α : Type} {l : List α} {i : Nat} {x : α} (h : l[i]? = some x) : l.drop i = x :: l.drop (i + 1) := by
  obtain ⟨hi, e⟩ := List.getElem?_eq_some_iff.mp h
  rw [List.drop_eq_getElem_cons hi, e]
theorem take_at {α : Type} {l : List α} {i : Nat} {x : α} (h : l[i]? = some x) : l.take (i + 1) = l.take i ++ [x] := by
  rw [List.take_add_one, h]
  rfl
/-! ### parts -/
abbrev pC (K : PySem.W.Frag) : Addr := He.ga K "Part"
def pf (r q : Addr) : List (Str × V) := [("row", .ref r), ("past", .ref q)]
theorem pf_row {r q : Addr} : (pf r q).lookup ("row" : Str) = some (.ref r) := rfl
theorem pf_past {r q : Addr} : (pf r q).lookup ("past" : Str) = some (.ref q) := by
  show (match (("past" : Str) == ("row" : Str)) with | true => some (V.ref r) | false => ([("past", .ref q)] : List (Str × V)).lookup ("past" : Str)) = some (.ref q)
  rw [show (("past" : Str) == ("row" : Str)) = false by decide +kernel]
  rfl
theorem pf_no {r q : Addr} {x : Str} (h1 : (x == ("row" : Str)) = false) (h2 : (x == ("past" : Str)) = false) : (pf r q).lookup x = none := by
  show (match (x == ("row" : Str)) with | true => some (V.ref r) | false => (match (x == ("past" : Str)) with | true => some (V.ref q) | false => none)) = none
  rw [h1, h2]
theorem pf_len {r q : Addr} : (pf r q).length < 1000 := by
  show (2 : Nat) < 1000
  decide
theorem put_row {r q r' : Addr} : putF ("row" : Str) (.ref r') (pf r q) = pf r' q := rfl
section
variable {K : PySem.W.Frag} {H H' : Hp}
def Rows (K : PySem.W.Frag) (H : Hp) (q : Addr) : List V → List (List Bar) → Prop := Paired fun v bs => ∃ r, v = .ref r ∧ r ≠ q ∧ RowAt K H r bs
/-- the part at p: its bars, what it was (its list at q) -/
def PartX (K : PySem.W.Frag) (H : Hp) (p q : Addr) (bs : List Bar) (past : List (List Bar)) : Prop :=
  ∃ dx r ws, H p = some (.ins (pC K) dx (pf r q)) ∧ r ≠ q ∧ RowAt K H r bs ∧ H q = some (.lst ws) ∧ Rows K H q ws past
theorem Rows.imp {q : Addr} {ws : List V} {past : List (List Bar)} (h : Rows K H q ws past) (f : ∀ r bs, r ≠ q → RowAt K H r bs → RowAt K H' r bs) : Rows K H' q ws past :=
  Paired.mapP h fun v bs ⟨r, e, n, z⟩ => ⟨r, e, n, f r bs n z⟩
theorem Rows.snoc {q : Addr} {r : Addr} {bs : List Bar} : ∀ {ws : List V} {past : List (List Bar)}, Rows K H q ws past → r ≠ q → RowAt K H r bs → Rows K H q (ws ++ [.ref r]) (past ++ [bs])
  | _, _, .nil, n, h => .cons ⟨r, rfl, n, h⟩ .nil
  | _, _, .cons a t, n, h => .cons a (Rows.snoc t n h)
theorem Rows.len {q : Addr} {ws : List V} {past : List (List Bar)} (h : Rows K H q ws past) : ws.length = past.length := Paired.length h
theorem PartX.same {p q : Addr} {bs : List Bar} {past : List (List Bar)} (h : PartX K H p q bs past) (s : Same H H') : PartX K H' p q bs past := by
  obtain ⟨dx, r, ws, h1, n, h2, h3, h4⟩ := h
  exact ⟨dx, r, ws, s _ _ h1, n, h2.same s, s _ _ h3, h4.imp fun _ _ _ z => z.same s⟩
/-- a die -/
def Dice (H : Hp) (d : Addr) : Prop := ∃ a b : Int, H d = some (.lst [.int a, .int b])
theorem RowAt.ne_dice {r d : Addr} {bs : List Bar} (h : RowAt K H r bs) (hd : Dice H d) : r ≠ d := by
  obtain ⟨vs, e, a⟩ := h
  obtain ⟨i, j, e2⟩ := hd
  intro z
  subst z
  rw [e] at e2
  injection e2 with e3
  injection e3 with e4
  subst e4
  cases bs with
  | nil => cases a
  | cons b r =>
    cases a with
    | cons d _ => cases d
theorem PartX.fr {p q d : Addr} {bs : List Bar} {past : List (List Bar)} (h : PartX K H p q bs past) (hd : Dice H d) (s : Fr [d] H H') : PartX K H' p q bs past := by
  obtain ⟨dx, r, ws, h1, n, h2, h3, h4⟩ := h
  obtain ⟨i, j, e2⟩ := id hd
  have np : p ≠ d := ne_of h1 e2 (by intro z; cases z)
  have nq : q ≠ d := by
    intro z
    subst z
    rw [h3] at e2
    injection e2 with e3
    injection e3 with e4
    subst e4
    cases h4 with
    | cons a _ =>
      obtain ⟨r, e, _⟩ := a
      cases e
  exact ⟨dx, r, ws, s.keep _ _ (by simp [np]) h1, n, h2.fr s (by simp [h2.ne_dice hd]), s.keep _ _ (by simp [nq]) h3, h4.imp fun r bs _ z => z.fr s (by simp [z.ne_dice hd])⟩
theorem Fr.step {ds es : List Addr} {H0 H1 H2 : Hp} (a : Fr ds H0 H1) (b : Fr es H1 H2) (h : ∀ e ∈ es, H0 e = none ∨ e ∈ ds) : Fr ds H0 H2 := by
  refine ⟨fun c o n e => b.keep c o (fun z => ?_) (a.keep c o n e), fun c xs e => b.tu c xs (a.tu c xs e), fun c o u e => b.fz c o u (a.fz c o u e)⟩
  rcases h c z with q | q
  · rw [q] at e
    cases e
  · exact n q
end
theorem cut_take {xs : List V} {k : Nat} : cutV xs none (some (k : Int)) = xs.take k := by
  unfold cutV
  rw [HT.sIx_none, HT.sIx_nat]
  show (xs.drop 0).take (min k xs.length - 0) = xs.take k
  rw [List.drop_zero, Nat.sub_zero, List.take_eq_take_min]
  all_goals simp
theorem cut_drop {xs : List V} {k : Nat} : cutV xs (some (k : Int)) none = xs.drop k := by
  unfold cutV
  rw [HT.sIx_none, HT.sIx_nat]
  by_cases h : k ≤ xs.length
  · rw [Nat.min_eq_left h, List.take_of_length_le (by rw [List.length_drop]; omega)]
  · rw [Nat.min_eq_right (by omega), List.drop_length, List.drop_eq_nil_of_le (by omega)]
    exact List.take_nil
theorem sc_is_number : FnScope ["thing", "low", "high"] ["thing", "low", "high"] (defScope s_is_number) := ⟨rfl, rfl, rfl, by decide +kernel, rfl, by decide +kernel, by decide +kernel⟩
section
variable {K : PySem.W.Frag} {mg : Str → Option Value}
theorem b_is_number (T : Txt K mg) : Binds K (fdOf K ("is_number", none)) ["thing", "low", "high"] [] := T.is_number.bindsN fun _ _ _ _ _ _ us hl => match us, hl with | [_, _, _], _ => rfl
end
/-- a whole number between -/
def isNum : PyData → Int → Int → Bool
  | .int i, lo, hi => decide (lo ≤ i) && decide (i ≤ hi)
  | _, _, _ => false
def sp_is_number (K : PySem.W.Frag) : Sp := fun vs H Q _ => ∃ (x : V) (d : PyData) (lo hi : Int), vs = [x, .int lo, .int hi] ∧ Dp K H x d ∧ Q (.bl (isNum d lo hi)) H
theorem ok_is_number {P : Program} {w : World} {K : PySem.W.Frag} {mg : Str → Option Value} {base : Heap} (T : Txt K mg) : OkF P w K mg base CX0 1 ("is_number", none) ["thing", "low", "high"] (sp_is_number K) := by
  refine okN T.is_number sc_is_number (fun vs H Q E h => ?_) (fun cdv A outer s H vs Q E hr h => ?_)
  · obtain ⟨x, d, lo, hi, rfl, _⟩ := h
    rfl
  · obtain ⟨x, d, lo, hi, rfl, hd, q⟩ := h
    refine ⟨_, (pss_one (ps_ret (pe_and (pe_callB call_isi (by rfl) T.b_isinstance (by decide +kernel) (pa_cons (pv 0) (pa_cons (pe_bltn (v := .ty "int") (by rfl) T.b_int (by decide +kernel) rfl) pa_nil))) (pe_and (pe_not (pe_callB call_isi (by rfl) T.b_isinstance (by decide +kernel) (pa_cons (pv 0) (pa_cons (pe_bltn (v := .ty "bool") (by rfl) T.b_bool (by decide +kernel) rfl) pa_nil)))) (pe_one (pe_chain op_le op_le (pv 1) (pv 0) (pv 2))))))), ?_⟩
    refine ⟨_, rfl, _, _, _, _, _, rfl, .ty _, dp_ty hd, kit_int d, _, rfl, ?_⟩
    cases d with
    | int i =>
      cases hd
      refine iteT ⟨_, rfl, _, _, _, _, _, rfl, .ty _, dp_ty (.int i), kit_bool (.int i), _, rfl, _, rfl, iteT ⟨_, rfl, _, rfl, _, _, rfl, rfl, _, rfl, ?_⟩⟩
      replace q : Q (.bl (decide (lo ≤ i) && decide (i ≤ hi))) H := q
      refine ite2 (fun h => ?_) (fun h => ?_)
      · rw [h] at q
        exact ⟨_, rfl, _, _, rfl, rfl, q⟩
      · rw [Bool.eq_false_iff.mpr h] at q
        exact q
    | bool b =>
      cases hd
      exact iteT ⟨_, rfl, _, _, _, _, _, rfl, .ty _, dp_ty (.bl b), kit_bool (.bool b), _, rfl, _, rfl, iteF q⟩
    | _ => exact iteF q
theorem sc_is_bar : FnScope ["thing"] ["thing"] (defScope s_is_bar) := ⟨rfl, rfl, rfl, by decide +kernel, rfl, by decide +kernel, by decide +kernel⟩
section
variable {K : PySem.W.Frag} {mg : Str → Option Value}
theorem b_is_bar (T : Txt K mg) : Binds K (fdOf K ("is_bar", none)) ["thing"] [] := T.is_bar.bindsN fun _ _ _ _ _ _ us hl => match us, hl with | [_], _ => rfl
end
def isBar : PyData → Bool
  | .tuple [a, b, .bool _] => isNum a 1 40 && isNum b 1 16
  | _ => false
theorem isBar_len {ds : List PyData} (h : ds.length ≠ 3) : isBar (.tuple ds) = false := by
  unfold isBar
  split
  · rename_i e
    injection e with e
    subst e
    exact absurd rfl h
  · rfl
theorem isBar_bar {x : Bar} (h : BarOk x) : isBar (barD x) = true := by
  obtain ⟨h1, h2, h3, h4⟩ := h
  show ((decide (1 ≤ x.w) && decide (x.w ≤ 40)) && (decide (1 ≤ x.b) && decide (x.b ≤ 16))) = true
  rw [decide_eq_true h1, decide_eq_true h2, decide_eq_true h3, decide_eq_true h4]
  rfl
def sp_is_bar (K : PySem.W.Frag) : Sp := fun vs H Q _ => ∃ (x : V) (d : PyData), vs = [x] ∧ Dp K H x d ∧ Q (.bl (isBar d)) H
theorem ok_is_bar {P : Program} {w : World} {K : PySem.W.Frag} {mg : Str → Option Value} {base : Heap} (T : Txt K mg) : OkF P w K mg base CX0 2 ("is_bar", none) ["thing"] (sp_is_bar K) := by
  refine okN T.is_bar sc_is_bar (fun vs H Q E h => ?_) (fun cdv A outer s H vs Q E hr h => ?_)
  · obtain ⟨x, d, rfl, _⟩ := h
    rfl
  · obtain ⟨x, d, rfl, hd, q⟩ := h
    refine ⟨_, (pss_cons (ps_if (PW.pt (pw_or (pt_not (pt_val (pe_callB call_isi (by rfl) T.b_isinstance (by decide +kernel) (pa_cons (pv 0) (pa_cons (pe_bltn (v := .ty "tuple") (by rfl) T.b_tuple (by decide +kernel) rfl) pa_nil))))) (pw_or (pt_cmpR op_ne (pe_callB call_len (by rfl) T.b_len PySem.boot_len (pa_cons (pv 0) pa_nil)) pe_int (nomark _)) (pw_or1 (pt_not (pt_val (pe_callB call_isi (by rfl) T.b_isinstance (by decide +kernel) (pa_cons (pe_ix ix_tup (pv 0) pe_int (fun _ _ => rfl)) (pa_cons (pe_bltn (v := .ty "bool") (by rfl) T.b_bool (by decide +kernel) rfl) pa_nil))))))))) (pss_one (ps_ret pe_bl)) pss_nil)
      (pss_one (ps_ret (pe_and (pe_call (ok_is_number T) (hr.mono (by decide)) (by rfl) T.g_is_number T.is_number.kp (b_is_number T) .nil pass0 (pa_cons (pe_ix ix_tup (pv 0) pe_int (fun _ _ => rfl)) (pa_cons pe_int (pa_cons pe_int pa_nil)))) (pe_one (pe_call (ok_is_number T) (hr.mono (by decide)) (by rfl) T.g_is_number T.is_number.kp (b_is_number T) .nil pass0 (pa_cons (pe_ix ix_tup (pv 0) pe_int (fun _ _ => rfl)) (pa_cons pe_int (pa_cons pe_int pa_nil))))))))), ?_⟩
    refine ⟨_, rfl, _, _, _, _, _, rfl, .ty _, dp_ty hd, kit_tup d, _, rfl, ?_⟩
    cases d with
    | tuple ds =>
      cases hd with
      | tup hs ha =>
        refine iteF ⟨_, rfl, _, _, rfl, .inr ⟨_, hs, rfl⟩, rfl, _, rfl, ?_⟩
        by_cases hl : ds.length = 3
        · obtain ⟨d0, d1, d2, rfl⟩ := len3 hl
          obtain ⟨v0, v1, v2, rfl, h0, h1, h2⟩ := dpa3 ha
          refine iteNNQ rfl ⟨_, rfl, _, _, _, _, rfl, rfl, hs, rfl, _, _, _, _, _, rfl, .ty _, dp_ty h2, kit_bool d2, _, rfl, ?_⟩
          cases d2 with
          | bool r =>
            refine iteF ⟨_, rfl, _, _, _, _, rfl, rfl, hs, rfl, _, d0, _, _, rfl, h0, _, rfl, ?_⟩
            replace q : Q (.bl (isNum d0 1 40 && isNum d1 1 16)) H := q
            refine ite2 (fun e => ?_) (fun e => ?_)
            · rw [e] at q
              exact ⟨_, rfl, _, _, _, _, rfl, rfl, hs, rfl, _, d1, _, _, rfl, h1, q⟩
            · rw [Bool.eq_false_iff.mpr e] at q
              exact q
          | _ => exact iteT q
        · rw [isBar_len hl] at q
          exact iteNEQ (by rw [dpa_len ha]; omega) q
    | _ => exact iteT q
theorem sc_Part_init : FnScope ["self", "bars", "one"] ["self", "bars"] (defScope s_Part_init) := ⟨rfl, rfl, rfl, by decide +kernel, rfl, by decide +kernel, by decide +kernel⟩
section
variable {K : PySem.W.Frag} {mg : Str → Option Value}
theorem b1_Part (T : Txt K mg) : Binds K (fdOf K ("Part", some "__init__")) ["self", "bars"] [] := by
  obtain ⟨ds, v, b⟩ := T.Part_init.binds1 (ps := ["self", "bars"]) 2 1 (by simp) rfl fun T kV doc pm an cdv ct us its h1 h2 => match us, its, h1, h2 with | [_, _], [_], _, _ => ⟨_, rfl, rfl⟩
  cases v
  exact b
theorem b0_Part (T : Txt K mg) : ∃ ds, Vals [.non] ds ∧ Binds K (fdOf K ("Part", some "__init__")) ["self", "bars"] ds :=
  T.Part_init.binds1 (ps := ["self", "bars"]) 1 0 (by simp) rfl fun T kV doc pm an cdv ct us its h1 h2 => match us, its, h1, h2 with | [_], [_], _, _ => ⟨_, rfl, rfl⟩
end
def sp_Part_init (K : PySem.W.Frag) : Sp := fun vs H Q _ => ∃ (x dx : Addr) (v : V) (bs : List Bar), vs = [.ref x, v] ∧ H x = some (.ins (pC K) dx []) ∧ (v = .non ∧ bs = [] ∨ ∃ a, v = .ref a ∧ Dp K H (.ref a) (.list (barsD bs))) ∧ (∀ b ∈ bs, BarOk b) ∧ bs.length ≤ 40 ∧
  ∀ H' q, Fr [x] H H' → H q = none → PartX K H' x q bs [] → Q .non H'
theorem isBars : ∀ {bs : List Bar}, (∀ b ∈ bs, BarOk b) → (bs.map fun b => isBar (barD b)).all id = true
  | [], _ => rfl
  | x :: r, h => by
    show (isBar (barD x) && ((r.map fun b => isBar (barD b)).all id)) = true
    rw [isBar_bar (h x List.mem_cons_self), isBars fun b hb => h b (List.mem_cons_of_mem _ hb)]
    rfl
theorem ok_Part_init {P : Program} {w : World} {K : PySem.W.Frag} {mg : Str → Option Value} {base : Heap} (T : Txt K mg) : OkF P w K mg base CX0 3 ("Part", some "__init__") ["self", "bars"] (sp_Part_init K) := by
  refine okN T.Part_init sc_Part_init (fun vs H Q E h => ?_) (fun cdv A outer s H vs Q E hr h => ?_)
  · obtain ⟨x, dx, v, bs, rfl, _⟩ := h
    rfl
  · obtain ⟨x, dx, v, bs, rfl, hx, hv, ok, hl, z⟩ := h
    refine ⟨_, (pss_cons (ps_if (PW.pt (pw_and (pt_cmp (pc_notN (pv 1))) (pw_and1 (PW.pt (pw_or (pt_not (pt_val (pe_callB call_isi (by rfl) T.b_isinstance (by decide +kernel) (pa_cons (pv 1) (pa_cons (pe_bltn (v := .ty "list") (by rfl) T.b_list (by decide +kernel) rfl) pa_nil))))) (pw_or1 (pt_not (pt_val (pe_callB (cr_all rfl) (by rfl) T.b_all (by decide +kernel) (pa_cons (pe_lc (own := [("one", 2)]) (g := (gName 2)) (tt := tYes)  (by rfl) sc_Part_init.nd (pi_list (pv 1)) (blkOk_by (own := [("one", 2)]) (N := ["self", "bars", "one"]) (sc := defScope s_Part_init) (by decide +kernel)) (fun _ _ _ _ _ => (pg_name (i := 2) sc_Part_init.nd rfl (by first | exact Or.inl rfl | exact Or.inr rfl))) (fun _ _ _ _ _ => pts_nil) (fun _ _ _ _ _ => (pe_call (ok_is_bar T) (hr.mono (by decide)) (by rfl) T.g_is_bar T.is_bar.kp (b_is_bar T) .nil pass0 (pa_cons (pv 2) pa_nil)))) pa_nil)))))))))) pss_never pss_nil)
      (pss_cons (ps_fld (pv 0) (pe_ifExp (pt_cmp (pc_notN (pv 1))) (pe_callTy call_list_of (by rfl) T.b_list (by decide +kernel) (pa_cons (pv 1) pa_nil)) (pe_lst pa_nil)) rfl)
      (pss_cons (ps_if (pt_cmpR op_gt (pe_callB call_len (by rfl) T.b_len PySem.boot_len (pa_cons (pe_fld (pv 0) rfl) pa_nil)) (pe_glob (v := .int 40) (by rfl) T.c_MOST.choose_spec ⟨_, rfl⟩) (nomark _)) pss_never pss_nil)
      (pss_one (ps_fld (pv 0) (pe_lst pa_nil) rfl))))), ?_⟩
    -- what follows the row's store
    have tail : ∀ (H1 : Hp) (r : Addr) (vs : List V), Fr [x] H H1 → H1 x = some (.ins (pC K) dx []) → H r = none → H1 r = some (.lst vs) → DpAll K H1 vs (barsD bs) →
        ∀ (H2 : Hp), H2 = upd H1 x (.ins (pC K) dx [("row", .ref r)]) → (H2 x = some (.ins (pC K) dx [("row", .ref r)]) ∧ H2 r = some (.lst vs) ∧ Fr [x] H H2 ∧ DpAll K H2 vs (barsD bs)) := by
      intro H1 r vs f h1 nr h2 h3 H2 e
      subst e
      have f2 : Fr [x] H1 (upd H1 x (.ins (pC K) dx [("row", .ref r)])) := Fr.upd h1 trivial (by simp)
      refine ⟨upd_same, ?_, f.trans f2, f2.dpa h3 (isTs_bars bs)⟩
      rw [upd_ne (ne_of h2 h1 (by intro z; cases z))]
      exact h2
    have fin : ∀ (H2 : Hp) (r q : Addr) (vs : List V), H2 x = some (.ins (pC K) dx [("row", .ref r)]) → H2 r = some (.lst vs) → Fr [x] H H2 → DpAll K H2 vs (barsD bs) → H2 q = none →
        Q .non (upd (upd H2 q (.lst [])) x (.ins (pC K) dx (pf r q))) := by
      intro H2 r q vs h1 h2 f h3 nq
      have s : Same H2 (upd H2 q (.lst [])) := same_upd nq
      have nqx : x ≠ q := ne_of_none h1 nq
      have nqr : r ≠ q := ne_of_none h2 nq
      have h1' : (upd H2 q (.lst [])) x = some (.ins (pC K) dx [("row", .ref r)]) := s _ _ h1
      have f2 : Fr [x] (upd H2 q (.lst [])) (upd (upd H2 q (.lst [])) x (.ins (pC K) dx (pf r q))) := Fr.upd h1' trivial (by simp)
      have f3 := (f.trans (Fr.of s _)).trans f2
      have nq0 : H q = none := by
        cases e : H q with
        | none => rfl
        | some o =>
          have := f.keep q o (by simp [nqx.symm]) e
          rw [nq] at this
          cases this
      refine z _ q f3 nq0 ⟨dx, r, [], upd_same, nqr, ⟨vs, ?_, f2.dpa (dpa_same s h3) (isTs_bars bs)⟩, ?_, .nil⟩
      · rw [upd_ne (ne_of (s _ _ h2) h1' (by intro z; cases z))]
        exact s _ _ h2
      · rw [upd_ne nqx.symm, upd_same]
    rcases hv with ⟨rfl, rfl⟩ | ⟨a, rfl, hd⟩
    · refine ⟨_, rfl, _, rfl, ?_⟩
      refine iteF ⟨_, rfl, _, rfl, iteF ⟨by decide, fun r nr => ?_⟩⟩
      have s : Same H (upd H r (.lst [])) := same_upd nr
      refine ⟨_, rfl, x, _, dx, _, rfl, s _ _ hx, T.cl_Part, T.n_row, by decide, ?_⟩
      obtain ⟨h1, h2, h3, h4⟩ := tail _ r [] (Fr.of s _) (s _ _ hx) nr upd_same .nil _ rfl
      refine ⟨_, rfl, x, _, dx, _, _, rfl, h1, T.cl_Part, T.n_row, rfl, _, _, rfl, .inl ⟨_, .of h2, rfl⟩, _, _, rfl, rfl, _, rfl, iteN (by decide) ?_⟩
      exact ⟨by decide, fun q nq => ⟨_, rfl, x, _, dx, [("row", .ref r)], rfl, by rw [upd_ne (ne_of_none h1 nq)]; exact h1, T.cl_Part, T.n_past, by show (1 : Nat) < 1000; decide, fin _ r q [] h1 h2 h3 h4 nq⟩⟩
    · obtain ⟨vs, hs, ha⟩ := lst_bars hd
      refine ⟨_, rfl, _, rfl, ?_⟩
      refine iteT ⟨_, rfl, _, _, _, _, _, rfl, .ty _, dp_ty hd, kit_lst _, _, rfl, iteF ?_⟩
      refine ⟨_, rfl, a, rfl, ⟨_, hs⟩, fun D hD => lc_list (K := K) (a := a) (xs := vs) (fun i H' => Same H H' ∧ H' D = some (.lst (((bs.take i).map fun b => isBar (barD b)).map V.bl))) ⟨same_upd hD, ?_⟩ ?_ ?_ ?_⟩
      · rw [upd_same]
        rfl
      · rintro i H' _ ⟨s, _⟩
        exact s.seq hs
      · rintro i v H' hv ⟨s, e⟩
        obtain ⟨b, p, hb, rfl, hp⟩ := bar_at ha hv
        refine ⟨rfl, _, rfl, _, _, rfl, dp_bar_of (same_sqt s hp), _, e, ?_, ?_, ?_⟩
        · rw [List.length_map, List.length_map, List.length_take]
          exact small1000 (by omega)
        · exact same_updR s hD
        · rw [upd_same, take_at hb, List.map_append, List.map_append]
          rfl
      · rintro H1 ⟨s1, e1⟩
        rw [bars_len ha, List.take_length] at e1
        refine ⟨D, _, rfl, .of e1, _, rfl, ?_⟩
        rw [isBars ok]
        refine iteF ⟨_, rfl, _, rfl, iteT ⟨_, rfl, a, vs, rfl, .inl (s1.seq hs), fun r nr => ?_⟩⟩
        have s2 := s1.trans (same_upd (o := .lst vs) nr)
        refine ⟨_, rfl, x, _, dx, _, rfl, s2 _ _ hx, T.cl_Part, T.n_row, by decide, ?_⟩
        obtain ⟨h1, h2, h3, h4⟩ := tail _ r vs (Fr.of s2 _) (s2 _ _ hx) (s1.free nr) upd_same (dpa_same s2 ha) _ rfl
        refine ⟨_, rfl, x, _, dx, _, _, rfl, h1, T.cl_Part, T.n_row, rfl, _, _, rfl, .inl ⟨_, .of h2, rfl⟩, _, _, rfl, rfl, _, rfl, iteN (by rw [bars_len ha]; omega) ?_⟩
        exact ⟨by decide, fun q nq => ⟨_, rfl, x, _, dx, [("row", .ref r)], rfl, by rw [upd_ne (ne_of_none h1 nq)]; exact h1, T.cl_Part, T.n_past, by show (1 : Nat) < 1000; decide, fin _ r q vs h1 h2 h3 h4 nq⟩⟩
/-! ### the shape of data -/
def Shp (n : Nat) (d : PyData) : Prop := d.canLay0 = true ∧ d.depth ≤ n
def ShpA (n : Nat) (ds : List PyData) : Prop := PyData.canLayAll0 ds = true ∧ PyData.depthAll ds ≤ n
theorem shpA_nil {n : Nat} : ShpA n [] := ⟨by simp [PyData.canLayAll0], by simp [PyData.depthAll]⟩
theorem shpA_cons {n : Nat} {d : PyData} {ds : List PyData} (h : Shp n d) (t : ShpA n ds) : ShpA n (d :: ds) := by
  refine ⟨?_, ?_⟩
  · simp only [PyData.canLayAll0, h.1, t.1, Bool.and_self]
  · simp only [PyData.depthAll]
    exact Nat.max_le.mpr ⟨h.2, t.2⟩
theorem shpA_all {n : Nat} : ∀ {ds : List PyData}, (∀ d ∈ ds, Shp n d) → ShpA n ds
  | [], _ => shpA_nil
  | d :: ds, h => shpA_cons (h d List.mem_cons_self) (shpA_all fun e he => h e (List.mem_cons_of_mem _ he))
theorem shp_list {n : Nat} {ds : List PyData} (h : ShpA n ds) : Shp (n + 1) (.list ds) := ⟨by simp only [PyData.canLay0]; exact h.1, by simp only [PyData.depth]; exact Nat.succ_le_succ h.2⟩
theorem shp_tup {n : Nat} {ds : List PyData} (h : ShpA n ds) : Shp (n + 1) (.tuple ds) := ⟨by simp only [PyData.canLay0]; exact h.1, by simp only [PyData.depth]; exact Nat.succ_le_succ h.2⟩
theorem shp_int {n : Nat} (i : Int) : Shp n (.int i) := ⟨by simp [PyData.canLay0], by simp [PyData.depth]⟩
theorem shp_bool {n : Nat} (b : Bool) : Shp n (.bool b) := ⟨by simp [PyData.canLay0], by simp [PyData.depth]⟩
theorem shp_none {n : Nat} : Shp n .none := ⟨by simp [PyData.canLay0], by simp [PyData.depth]⟩
theorem shp_str {n : Nat} {x : Str} (h : PyData.strOk x = true) : Shp n (.str x) := ⟨by simp only [PyData.canLay0]; exact h, by simp [PyData.depth]⟩
theorem Shp.ok {n : Nat} {d : PyData} (h : Shp n d) (hn : n ≤ 64) : SeqAt.shaped d = true := by
  unfold SeqAt.shaped
  rw [h.1, decide_eq_true (Nat.le_trans h.2 hn)]
  rfl
theorem Shp.mono {n m : Nat} {d : PyData} (h : Shp n d) (hn : n ≤ m) : Shp m d := ⟨h.1, Nat.le_trans h.2 hn⟩
theorem ShpA.mono {n m : Nat} {ds : List PyData} (h : ShpA n ds) (hn : n ≤ m) : ShpA m ds := ⟨h.1, Nat.le_trans h.2 hn⟩
/-! ### == of lists by their items -/
theorem eqvAll_map {α : Type} {f : α → PyData} (hf : ∀ a b : α, PyData.eqv (f a) (f b) = true ↔ a = b) : ∀ xs ys : List α, PyData.eqvAll (xs.map f) (ys.map f) = true ↔ xs = ys
  | [], [] => by simp [PyData.eqvAll]
  | [], _ :: _ => by simp [PyData.eqvAll]
  | _ :: _, [] => by simp [PyData.eqvAll]
  | x :: xs, y :: ys => by
    simp only [List.map_cons, PyData.eqvAll, Bool.and_eq_true, hf x y, eqvAll_map hf xs ys, List.cons.injEq]
theorem eqv_listM {α : Type} {f : α → PyData} (hf : ∀ a b : α, PyData.eqv (f a) (f b) = true ↔ a = b) (xs ys : List α) : PyData.eqv (.list (xs.map f)) (.list (ys.map f)) = true ↔ xs = ys := by
  simp only [PyData.eqv]
  exact eqvAll_map hf xs ys
theorem eqv_tupM {α : Type} {f : α → PyData} (hf : ∀ a b : α, PyData.eqv (f a) (f b) = true ↔ a = b) (xs ys : List α) : PyData.eqv (.tuple (xs.map f)) (.tuple (ys.map f)) = true ↔ xs = ys := by
  simp only [PyData.eqv]
  exact eqvAll_map hf xs ys
theorem eqv_int (i j : Int) : PyData.eqv (.int i) (.int j) = true ↔ i = j := by simp [PyData.eqv]
theorem eqv_nil {xs : List PyData} : PyData.eqv (.list xs) (.list []) = true ↔ xs = [] := by
  cases xs <;> simp [PyData.eqv, PyData.eqvAll]
theorem dpa_ints {K : PySem.W.Frag} {H : Hp} : ∀ ns : List Int, DpAll K H (ns.map V.int) (ns.map PyData.int)
  | [] => .nil
  | n :: r => .cons (.int n) (dpa_ints r)
theorem shp_ints (ns : List Int) : Shp 1 (.list (ns.map PyData.int)) := shp_list (shpA_all fun d hd => by
  obtain ⟨i, _, rfl⟩ := List.mem_map.mp hd
  exact shp_int i)
theorem shp_nil {n : Nat} : Shp (n + 1) (.list []) := shp_list shpA_nil
theorem sc__law_cell : FnScope ["script", "k"] ["script", "k"] (defScope s__law_cell) := ⟨rfl, rfl, rfl, by decide +kernel, rfl, by decide +kernel, by decide +kernel⟩
section
variable {K : PySem.W.Frag} {mg : Str → Option Value}
theorem b__law_cell (T : Txt K mg) : Binds K (fdOf K ("_law_cell", none)) ["script", "k"] [] := T._law_cell.bindsN fun _ _ _ _ _ _ us hl => match us, hl with | [_, _], _ => rfl
end
def sp__law_cell (K : PySem.W.Frag) : Sp := fun vs H Q _ => ∃ (a : Addr) (ns : List Int) (k : Nat), vs = [.ref a, .int (k : Int)] ∧ SqL K H a (ns.map V.int) ∧ ns.length ≤ 63 ∧ k ≤ 1000 ∧ ∀ H' i, Same H H' → Q (.int i) H'
theorem ok__law_cell {P : Program} {w : World} {K : PySem.W.Frag} {mg : Str → Option Value} {base : Heap} (T : Txt K mg) : OkF P w K mg base CX0 1 ("_law_cell", none) ["script", "k"] (sp__law_cell K) := by
  refine okN T._law_cell sc__law_cell (fun vs H Q E h => ?_) (fun cdv A outer s H vs Q E hr h => ?_)
  · obtain ⟨a, ns, k, rfl, _⟩ := h
    rfl
  · obtain ⟨a, ns, k, rfl, hs, hl, hk, z⟩ := h
    refine ⟨_, (pss_cons (ps_if (pt_cmpR (op_eqD hr.units) (pv 0) (pe_lst pa_nil) (nomark _)) (pss_one (ps_ret (pe_op op_mul (pv 1) pe_int))) pss_nil)
      (pss_one (ps_ret (pe_op op_add (pe_ix ix_list (pv 0) (pe_op op_mod (pv 1) (pe_callB call_len (by rfl) T.b_len PySem.boot_len (pa_cons (pv 0) pa_nil))) (fun _ _ => rfl)) (pe_op op_mul (pe_op op_fdiv (pv 1) (pe_callB call_len (by rfl) T.b_len PySem.boot_len (pa_cons (pv 0) pa_nil))) pe_int))))), ?_⟩
    refine ⟨_, rfl, by decide, fun e ne => ?_⟩
    have s1 : Same H (upd H e (.lst [])) := same_upd ne
    refine ⟨_, _, .lst (s1.seq hs) (dpa_ints ns), .lst (.of upd_same) .nil, (shp_ints ns).ok (by decide), (shp_nil (n := 0)).ok (by decide), _, rfl, ?_⟩
    refine ite2 (fun h => ?_) (fun h => ?_)
    · exact ⟨_, rfl, _, _, rfl, rfl, .inr ⟨by decide, by decide⟩, z _ _ s1⟩
    · have hn : ns ≠ [] := fun e => h (eqv_nil.mpr (by rw [e]; rfl))
      have hpos : 0 < ns.length := List.length_pos_iff.mpr hn
      have hb := Int.emod_nonneg (k : Int) (b := (ns.length : Int)) (by omega)
      have hb2 := Int.emod_lt_of_pos (k : Int) (b := (ns.length : Int)) (by omega)
      have hi : ((k : Int) % (ns.length : Int)).toNat < ns.length := by omega
      refine ⟨_, rfl, _, rfl, _, rfl, _, _, rfl, .inl ⟨_, s1.seq hs, rfl⟩, _, _, rfl, rfl, by rw [List.length_map]; omega, ?_⟩
      rw [List.length_map]
      refine ⟨a, _, _, .int ns[((k : Int) % (ns.length : Int)).toNat], rfl, rfl, s1.seq hs, at_of (j := ((k : Int) % (ns.length : Int)).toNat) (by omega) (by rw [List.getElem?_map, List.getElem?_eq_getElem hi]; rfl), ?_⟩
      refine ⟨_, rfl, _, rfl, _, _, rfl, .inl ⟨_, s1.seq hs, rfl⟩, _, _, rfl, rfl, ⟨by rw [List.length_map]; omega, by rw [List.length_map]; omega⟩, ?_⟩
      exact ⟨_, _, rfl, rfl, .inr ⟨by decide, by decide⟩, _, _, rfl, rfl, z _ _ s1⟩
theorem sc__law_rounds : FnScope ["script", "most", "k"] ["script", "most"] (defScope s__law_rounds) := ⟨rfl, rfl, rfl, by decide +kernel, rfl, by decide +kernel, by decide +kernel⟩
section
variable {K : PySem.W.Frag} {mg : Str → Option Value}
theorem b__law_rounds (T : Txt K mg) : Binds K (fdOf K ("_law_rounds", none)) ["script", "most"] [] := T._law_rounds.bindsN fun _ _ _ _ _ _ us hl => match us, hl with | [_, _], _ => rfl
end
def sp__law_rounds (K : PySem.W.Frag) : Sp := fun vs H Q _ => ∃ (a : Addr) (ns : List Int) (most : Nat), vs = [.ref a, .int (most : Int)] ∧ SqL K H a (ns.map V.int) ∧ ns.length ≤ 63 ∧ most ≤ 1000 ∧
  ∀ H' (R : Addr) (ds : List Addr), Same H H' → H R = none → H' R = some (.lst (ds.map V.ref)) → (∀ d ∈ ds, Dice H' d ∧ d ≠ R) → ds.length ≤ 1000 → Q (.ref R) H'
theorem ok__law_rounds {P : Program} {w : World} {K : PySem.W.Frag} {mg : Str → Option Value} {base : Heap} (T : Txt K mg) : OkF P w K mg base CX0 2 ("_law_rounds", none) ["script", "most"] (sp__law_rounds K) := by
  refine okN T._law_rounds sc__law_rounds (fun vs H Q E h => ?_) (fun cdv A outer s H vs Q E hr h => ?_)
  · obtain ⟨a, ns, most, rfl, _⟩ := h
    rfl
  · obtain ⟨a, ns, most, rfl, hs, hl, hm, z⟩ := h
    refine ⟨_, (pss_one (ps_ret (pe_lc (own := [("k", 2)]) (g := (gName 2)) (tt := tYes)  (by rfl) sc__law_rounds.nd (pi_range1 (by rfl) T.b_range (pa_cons (pe_callB (call_max2 rfl) (by rfl) T.b_max (by decide +kernel) (pa_cons pe_int (pa_cons (pe_callB (call_min2 rfl) (by rfl) T.b_min (by decide +kernel) (pa_cons (pv 1) (pa_cons (pe_callB call_len (by rfl) T.b_len PySem.boot_len (pa_cons (pv 0) pa_nil)) pa_nil))) pa_nil))) pa_nil)) (blkOk_by (own := [("k", 2)]) (N := ["script", "most", "k"]) (sc := defScope s__law_rounds) (by decide +kernel)) (fun _ _ _ _ _ => (pg_name (i := 2) sc__law_rounds.nd rfl (by first | exact Or.inl rfl | exact Or.inr rfl))) (fun _ _ _ _ _ => pts_nil) (fun _ _ _ _ _ => (pe_lst (pa_cons (pe_call (ok__law_cell T) (hr.mono (by decide)) (by rfl) T.g__law_cell T._law_cell.kp (b__law_cell T) .nil pass0 (pa_cons (pv 0) (pa_cons (pv 2) pa_nil))) (pa_cons pe_int pa_nil))))))), ?_⟩
    refine ⟨_, rfl, _, rfl, _, _, rfl, .inl ⟨_, hs, rfl⟩, _, _, rfl, _, _, rfl, _, rfl, ?_⟩
    rw [List.length_map]
    have hb : ∃ n : Nat, (if (if (ns.length : Int) < (most : Int) then (ns.length : Int) else (most : Int)) > 1 then (if (ns.length : Int) < (most : Int) then (ns.length : Int) else (most : Int)) else 1) = (n : Int) ∧ n ≤ 1000 := by
      by_cases h1 : (ns.length : Int) < (most : Int)
      · rw [if_pos h1]
        by_cases h2 : (ns.length : Int) > 1
        · exact ⟨ns.length, if_pos h2, by omega⟩
        · exact ⟨1, if_neg h2, by omega⟩
      · rw [if_neg h1]
        by_cases h2 : (most : Int) > 1
        · exact ⟨most, if_pos h2, by omega⟩
        · exact ⟨1, if_neg h2, by omega⟩
    obtain ⟨n, en, hn⟩ := hb
    rw [en]
    refine ⟨by omega, by omega, fun D hD => lc_range (lo := 0) (n := n) (fun i H' => Same H H' ∧ ∃ ds : List Addr, H' D = some (.lst (ds.map V.ref)) ∧ ds.length = i ∧ ∀ d ∈ ds, Dice H' d ∧ d ≠ D) ⟨same_upd hD, [], upd_same, rfl, fun _ h => nomatch h⟩ ?_ ?_⟩
    · rintro i H1 hi ⟨s1, ds, e1, hlen, hds⟩
      refine ⟨rfl, _, rfl, _, rfl, a, ns, i, ?_, s1.seq hs, hl, by omega, fun H2 c s2 => ⟨by show (2 : Nat) ≤ sizeLine; decide, fun d nd => ?_⟩⟩
      · show [V.ref a, V.int (0 + (i : Int))] = [V.ref a, V.int (i : Int)]
        rw [Int.zero_add]
      have s3 := s2.trans (same_upd (o := .lst [.int c, .int 0]) nd)
      have e3 := s3 _ _ e1
      refine ⟨_, e3, ?_, ?_, ds ++ [d], ?_, ?_, ?_⟩
      · rw [List.length_map]
        exact small1000 (by omega)
      · exact same_updR (s1.trans s3) hD
      · rw [upd_same, List.map_append]
        rfl
      · rw [List.length_append, hlen]
        rfl
      · intro x hx
        have nD : d ≠ D := fun e => by
          rw [e] at nd
          rw [s2 _ _ e1] at nd
          cases nd
        rcases List.mem_append.mp hx with hx | hx
        · obtain ⟨⟨p, q, hp⟩, nx⟩ := hds x hx
          exact ⟨⟨p, q, by rw [upd_ne nx]; exact s3 _ _ hp⟩, nx⟩
        · have ex : x = d := by simpa using hx
          subst ex
          exact ⟨⟨c, 0, by rw [upd_ne nD, upd_same]⟩, nD⟩
    · rintro H1 ⟨s1, ds, e1, hlen, hds⟩
      exact z H1 D ds s1 hD e1 hds (by omega)
theorem sc__law_drawn : FnScope ["cell", "k", "more"] ["cell", "k"] (defScope s__law_drawn) := ⟨rfl, rfl, rfl, by decide +kernel, rfl, by decide +kernel, by decide +kernel⟩
section
variable {K : PySem.W.Frag} {mg : Str → Option Value}
theorem b__law_drawn (T : Txt K mg) : Binds K (fdOf K ("_law_drawn", none)) ["cell", "k"] [] := T._law_drawn.bindsN fun _ _ _ _ _ _ us hl => match us, hl with | [_, _], _ => rfl
end
theorem mod_abs {x M : Int} {a : Nat} (h : 0 < M) (hM : M.natAbs < 2 ^ a) : (x % M).natAbs < 2 ^ a := by
  have h1 := Int.emod_nonneg x (b := M) (by omega)
  have h2 := Int.emod_lt_of_pos x h
  exact Nat.lt_of_le_of_lt (by omega) hM
theorem mod1_abs {x M : Int} {a : Nat} (h : 0 < M) (hM : M.natAbs < 2 ^ a) : (x % M + 1).natAbs < 2 ^ a := by
  have h1 := Int.emod_nonneg x (b := M) (by omega)
  have h2 := Int.emod_lt_of_pos x h
  exact Nat.lt_of_le_of_lt (by omega) hM
theorem div1_abs {x M P : Int} {a : Nat} (h : 0 < M) (hP : 0 < P) (hM : M.natAbs < 2 ^ a) : (x % M / P + 1).natAbs < 2 ^ a := by
  have h1 := Int.emod_nonneg x (b := M) (by omega)
  have h2 := Int.emod_lt_of_pos x h
  have h3 : 0 ≤ x % M / P := Int.ediv_nonneg h1 (by omega)
  have h4 : x % M / P ≤ x % M := Int.ediv_le_self P h1
  exact Nat.lt_of_le_of_lt (by omega) hM
def sp__law_drawn : Sp := fun vs H Q _ => ∃ c k : Int, vs = [.int c, .int k] ∧ ∀ r : Int, Q (.int r) H
theorem ok__law_drawn {P : Program} {w : World} {K : PySem.W.Frag} {mg : Str → Option Value} {base : Heap} (T : Txt K mg) : OkF P w K mg base CX0 1 ("_law_drawn", none) ["cell", "k"] sp__law_drawn := by
  refine okN T._law_drawn sc__law_drawn (fun vs H Q E h => ?_) (fun cdv A outer s H vs Q E hr h => ?_)
  · obtain ⟨c, k, rfl, _⟩ := h
    rfl
  · obtain ⟨c, k, rfl, z⟩ := h
    refine ⟨_, (pss_cons (ps_set (i := 2) sc__law_drawn.nd rfl (by first | exact Or.inl rfl | exact Or.inr rfl) (pe_op op_mod (pe_op op_add (pe_op op_mul (pv 0) pe_int) (pe_op op_mul (pe_op op_add (pv 1) pe_int) pe_int)) pe_int))
      (pss_cons (ps_set (i := 2) sc__law_drawn.nd rfl (by first | exact Or.inl rfl | exact Or.inr rfl) (pe_op op_mod (pe_op op_mulW (pv 2) (pv 2)) pe_int))
      (pss_cons (ps_set (i := 2) sc__law_drawn.nd rfl (by first | exact Or.inl rfl | exact Or.inr rfl) (pe_op op_mulW (pe_op op_mulW (pe_op op_add (pe_op op_mod (pv 2) pe_int) pe_int) (pe_op op_add (pe_op op_fdivW (pv 2) pe_int) pe_int)) (pv 2)))
      (pss_one (ps_ret (pe_op op_mod (pv 2) pe_int)))))), ?_⟩
    refine ⟨_, rfl, _, _, rfl, rfl, .inr ⟨by decide, by decide⟩, _, rfl, _, _, rfl, rfl, _, _, rfl, rfl, .inr ⟨by decide, by decide⟩, _, _, rfl, rfl, _, _, rfl, rfl, (by show (0 : Int) < 340282366920938463463374607431768211507; decide), ?_⟩
    refine ⟨_, rfl, _, rfl, _, _, rfl, rfl, wide_mul (a := 129) (b := 129) (mod_abs (by decide) (by decide)) (mod_abs (by decide) (by decide)) (by decide) (by decide) (by decide), _, _, rfl, rfl, (by show (0 : Int) < 340282366920938463463374607431768211297; decide), ?_⟩
    refine ⟨_, rfl, _, _, rfl, rfl, (by show (0 : Int) < 18446744073709551557; decide), _, _, rfl, rfl, _, rfl, _, _, rfl, rfl, ⟨by decide, by decide +kernel⟩, _, _, rfl, rfl, _, _, rfl, rfl, ?_, ?_⟩
    · exact wide_mul (a := 129) (b := 129) (mod1_abs (by decide) (by decide)) (div1_abs (by decide) (by decide) (by decide)) (by decide) (by decide) (by decide)
    · refine ⟨_, rfl, _, _, rfl, rfl, wide_mul (a := 258) (b := 129) (wide_lt (a := 129) (b := 129) (mod1_abs (by decide) (by decide)) (div1_abs (by decide) (by decide) (by decide))) (mod_abs (by decide) (by decide)) (by decide) (by decide) (by decide), ?_⟩
      exact ⟨_, rfl, _, _, rfl, rfl, (by show (0 : Int) < 340282366920938463463374607431768211507; decide), z _⟩
theorem sc__law_roll : FnScope ["dice", "many", "told"] ["dice", "many"] (defScope s__law_roll) := ⟨rfl, rfl, rfl, by decide +kernel, rfl, by decide +kernel, by decide +kernel⟩
section
variable {K : PySem.W.Frag} {mg : Str → Option Value}
theorem b__law_roll (T : Txt K mg) : Binds K (fdOf K ("_law_roll", none)) ["dice", "many"] [] := T._law_roll.bindsN fun _ _ _ _ _ _ us hl => match us, hl with | [_, _], _ => rfl
end
def sp__law_roll : Sp := fun vs H Q _ => ∃ (d : Addr) (many : Int), vs = [.ref d, .int many] ∧ Dice H d ∧ 0 < many ∧ many < 1073741824 ∧ ∀ H' (r : Int), Fr [d] H H' → Dice H' d → 0 ≤ r → r < many → Q (.int r) H'
theorem ok__law_roll {P : Program} {w : World} {K : PySem.W.Frag} {mg : Str → Option Value} {base : Heap} (T : Txt K mg) : OkF P w K mg base CX0 2 ("_law_roll", none) ["dice", "many"] sp__law_roll := by
  refine okN T._law_roll sc__law_roll (fun vs H Q E h => ?_) (fun cdv A outer s H vs Q E hr h => ?_)
  · obtain ⟨d, many, rfl, _⟩ := h
    rfl
  · obtain ⟨d, many, rfl, ⟨a, b, hd⟩, h1, h2, z⟩ := h
    refine ⟨_, (pss_cons (ps_if (pt_cmpR op_ge (pe_ix ix_list (pv 0) pe_int (fun _ _ => rfl)) (pe_op op_pow pe_int pe_int) (nomark _)) (pss_cons (ps_set (i := 2) sc__law_roll.nd rfl (by first | exact Or.inl rfl | exact Or.inr rfl) (pe_op op_mod (pe_ix ix_list (pv 0) pe_int (fun _ _ => rfl)) (pv 1)))
      (pss_cons (ps_asg (pe_op op_fdiv (pe_ix ix_list (pv 0) pe_int (fun _ _ => rfl)) (pv 1)) (pg_sub (pv 0) pe_int set_list))
      (pss_one (ps_ret (pv 2))))) pss_nil)
      (pss_cons (ps_asg (pe_op op_add (pe_ix ix_list (pv 0) pe_int (fun _ _ => rfl)) pe_int) (pg_sub (pv 0) pe_int set_list))
      (pss_one (ps_ret (pe_op op_mod (pe_op op_fdiv (pe_call (ok__law_drawn T) (hr.mono (by decide)) (by rfl) T.g__law_drawn T._law_drawn.kp (b__law_drawn T) .nil pass0 (pa_cons (pe_ix ix_list (pv 0) pe_int (fun _ _ => rfl)) (pa_cons (pe_ix ix_list (pv 0) pe_int (fun _ _ => rfl)) pa_nil))) pe_int) (pv 1)))))), ?_⟩
    refine ⟨_, rfl, d, _, _, _, rfl, rfl, .of hd, rfl, _, _, rfl, rfl, ⟨by decide, by decide, by decide⟩, _, _, rfl, rfl, _, rfl, ?_⟩
    refine ite2 (fun h => ?_) (fun h => ?_)
    · refine ⟨_, rfl, d, _, _, _, rfl, rfl, .of hd, rfl, _, rfl, _, _, rfl, rfl, h1, ?_⟩
      refine ⟨_, rfl, d, _, _, _, rfl, rfl, .of hd, rfl, _, rfl, _, _, rfl, rfl, ⟨h1, h2⟩, _, rfl, d, _, _, 0, rfl, rfl, hd, rfl, ?_⟩
      exact ⟨_, rfl, z _ _ (Fr.upd hd trivial (by simp)) ⟨_, _, upd_same⟩ (Int.emod_nonneg _ (by omega)) (Int.emod_lt_of_pos _ h1)⟩
    · refine ⟨_, rfl, d, _, _, _, rfl, rfl, .of hd, rfl, _, _, rfl, rfl, _, rfl, d, _, _, 1, rfl, rfl, hd, rfl, ?_⟩
      refine ⟨_, rfl, d, _, _, _, rfl, rfl, .of upd_same, rfl, _, rfl, d, _, _, _, rfl, rfl, .of upd_same, rfl, _, _, rfl, fun r => ?_⟩
      exact ⟨_, _, rfl, rfl, ⟨by decide, by decide⟩, _, rfl, _, _, rfl, rfl, h1, z _ _ (Fr.upd hd trivial (by simp)) ⟨_, _, upd_same⟩ (Int.emod_nonneg _ (by omega)) (Int.emod_lt_of_pos _ h1)⟩
def sp_law (K : PySem.W.Frag) : Sp := fun vs H Q _ => ∃ (a : Addr) (ns : List Int), vs = [.ref a] ∧ SqL K H a (ns.map V.int) ∧ ns.length ≤ 63 ∧ ∀ H', Q (.bl true) H'
/-- the dice of all rounds -/
def Rnd (H : Hp) (R : Addr) (ds : List Addr) : Prop := H R = some (.lst (ds.map V.ref)) ∧ ∀ d ∈ ds, Dice H d ∧ d ≠ R
theorem Rnd.turn {H0 H1 : Hp} {R d : Addr} {ds : List Addr} (h : Rnd H0 R ds) (hd : d ∈ ds) (f : Fr [d] H0 H1) (hd1 : Dice H1 d) : Rnd H1 R ds := by
  obtain ⟨h1, h2⟩ := h
  refine ⟨f.keep _ _ (by simp [(h2 d hd).2.symm]) h1, fun x hx => ⟨?_, (h2 x hx).2⟩⟩
  by_cases e : x = d
  · rw [e]
    exact hd1
  · obtain ⟨⟨a, b, z⟩, _⟩ := h2 x hx
    exact ⟨a, b, f.keep _ _ (by simp [e]) z⟩
theorem Rnd.at {H : Hp} {R : Addr} {ds : List Addr} (h : Rnd H R ds) {i : Nat} {v : V} (e : (ds.map V.ref)[i]? = some v) : ∃ d, v = .ref d ∧ d ∈ ds ∧ Dice H d := by
  rw [List.getElem?_map] at e
  cases q : ds[i]? with
  | none =>
    rw [q] at e
    cases e
  | some d =>
    rw [q] at e
    exact ⟨d, (Option.some.inj e).symm, List.mem_of_getElem? q, (h.2 d (List.mem_of_getElem? q)).1⟩
theorem Dice.fr {H H' : Hp} {d x : Addr} (h : Dice H x) (f : Fr [d] H H') (n : x ≠ d) : Dice H' x := by
  obtain ⟨a, b, z⟩ := h
  exact ⟨a, b, f.keep _ _ (by simp [n]) z⟩
theorem Dice.same {H H' : Hp} {d : Addr} (h : Dice H d) (s : Same H H') : Dice H' d := by
  obtain ⟨a, b, z⟩ := h
  exact ⟨a, b, s _ _ z⟩
theorem Fr.then {ds : List Addr} {H0 H1 H2 : Hp} (a : Fr ds H0 H1) (s : Same H1 H2) : Fr ds H0 H2 := a.trans (Fr.of s ds)
theorem Dice.keep {H H' : Hp} {d : Addr} {es : List Addr} (h : Dice H d) (f : Fr es H H') (n : d ∉ es) : Dice H' d := by
  obtain ⟨a, b, z⟩ := h
  exact ⟨a, b, f.keep _ _ n z⟩
/-- a new part -/
theorem make_part {K : PySem.W.Frag} {H : Hp} {v : V} {bs : List Bar} {Q : Addr → Hp → Prop} (hv : v = .non ∧ bs = [] ∨ ∃ a, v = .ref a ∧ Dp K H (.ref a) (.list (barsD bs))) (ok : ∀ b ∈ bs, BarOk b) (hl : bs.length ≤ 40)
    (k : ∀ H' p q, Same H H' → H p = none → H q = none → p ≠ q → PartX K H' p q bs [] → Q p H') :
    ∀ x dx, H x = none → H dx = none → dx ≠ x → sp_Part_init K [.ref x, v] (upd (upd H dx (.own x)) x (.ins (pC K) dx [])) (fun v H2 => v = .non ∧ Q x H2) E0 := by
  intro x dx nx nd ne
  have s : Same H (upd (upd H dx (.own x)) x (.ins (pC K) dx [])) := fun b o e => by
    rw [upd_ne (ne_of_none e nx), upd_ne (ne_of_none e nd)]
    exact e
  refine ⟨x, dx, v, bs, rfl, upd_same, ?_, ok, hl, fun H' q f nq hp => ?_⟩
  · rcases hv with h | ⟨a, e, h⟩
    · exact .inl h
    · exact .inr ⟨a, e, dp_same s h⟩
  · have nqx : x ≠ q := fun e => by
      rw [← e, upd_same] at nq
      cases nq
    have nq0 : H q = none := s.free nq
    exact ⟨rfl, k H' x q (fun b o e => f.keep b o (by simp [ne_of_none e nx]) (s b o e)) nx nq0 nqx hp⟩
/-- a bar appended -/
theorem row_app {K : PySem.W.Frag} {H : Hp} {B : Addr} {bs : List Bar} {v : V} {b : Bar} {vs : List V} (h1 : H B = some (.lst vs)) (h2 : DpAll K H vs (barsD bs)) (hv : Dp K H v (barD b)) : RowAt K (upd H B (.lst (vs ++ [v]))) B (bs ++ [b]) ∧ Fr [B] H (upd H B (.lst (vs ++ [v]))) := by
  have f : Fr [B] H (upd H B (.lst (vs ++ [v]))) := Fr.upd h1 trivial (by simp)
  refine ⟨⟨_, upd_same, ?_⟩, f⟩
  show DpAll K _ _ ((bs ++ [b]).map barD)
  rw [List.map_append]
  exact dpa_app (f.dpa h2 (isTs_bars bs)) (.cons (f.dp hv (isT_bar b)) .nil)
theorem new_ne {H : Hp} {d L : Addr} (hD : Dice H d) (nL : H L = none) : L ≠ d := fun e => by
  obtain ⟨i, j, q⟩ := hD
  rw [e, q] at nL
  cases nL
/-- what follows a statement, asked once -/
theorem seq_cont {t u : TS} {D : Ends} {σ : L2.St} {H : Hp} (C : L2.St → Hp → Prop) (h1 : (∀ σ' H', C σ' H' → u D σ' H') → t { D with nx := u D } σ H) (h2 : ∀ σ' H', C σ' H' → u D σ' H') : tSeq t u D σ H := h1 h2
theorem Fr.freeD {ds : List Addr} {H H' : Hp} {l : Addr} (f : Fr ds H H') (n : l ∉ ds) (h : H' l = none) : H l = none := by
  cases e : H l with
  | none => rfl
  | some o =>
    rw [f.keep _ _ n e] at h
    cases h
theorem ixN_nat {n i : Nat} (h : i < n) : ixN n (i : Int) = some i := by
  unfold ixN
  rw [if_pos (by omega), if_pos (by omega), Int.toNat_natCast]
theorem sc__law_bar : FnScope ["dice", "width"] ["dice"] (defScope s__law_bar) := ⟨rfl, rfl, rfl, by decide +kernel, rfl, by decide +kernel, by decide +kernel⟩
section
variable {K : PySem.W.Frag} {mg : Str → Option Value}
theorem b__law_bar (T : Txt K mg) : Binds K (fdOf K ("_law_bar", none)) ["dice"] [] := T._law_bar.bindsN fun _ _ _ _ _ _ us hl => match us, hl with | [_], _ => rfl
end
def sp__law_bar (K : PySem.W.Frag) : Sp := fun vs H Q _ => ∃ (d : Addr), vs = [.ref d] ∧ Dice H d ∧ ∀ v H' b, Fr [d] H H' → Dice H' d → Dp K H' v (barD b) → BarOk b → Q v H'
theorem ok__law_bar {P : Program} {w : World} {K : PySem.W.Frag} {mg : Str → Option Value} {base : Heap} (T : Txt K mg) : OkF P w K mg base CX0 3 ("_law_bar", none) ["dice"] (sp__law_bar K) := by
  refine okN T._law_bar sc__law_bar (fun vs H Q E h => ?_) (fun cdv A outer s H vs Q E hr h => ?_)
  · obtain ⟨d, rfl, _⟩ := h
    rfl
  · obtain ⟨d, rfl, hD, z⟩ := h
    refine ⟨_, (pss_cons (ps_set (i := 1) sc__law_bar.nd rfl (by first | exact Or.inl rfl | exact Or.inr rfl) (pe_op op_add pe_int (pe_ix ix_list (pe_lst (pa_cons (pe_call (ok__law_roll T) (hr.mono (by decide)) (by rfl) T.g__law_roll T._law_roll.kp (b__law_roll T) .nil pass0 (pa_cons (pv 0) (pa_cons pe_int pa_nil))) (pa_cons (pe_call (ok__law_roll T) (hr.mono (by decide)) (by rfl) T.g__law_roll T._law_roll.kp (b__law_roll T) .nil pass0 (pa_cons (pv 0) (pa_cons pe_int pa_nil))) pa_nil))) (pe_op op_fdiv (pe_call (ok__law_roll T) (hr.mono (by decide)) (by rfl) T.g__law_roll T._law_roll.kp (b__law_roll T) .nil pass0 (pa_cons (pv 0) (pa_cons pe_int pa_nil))) pe_int) (fun _ _ => rfl))))
      (pss_one (ps_ret (pe_tup (pa_cons (pv 1) (pa_cons (pe_op op_add pe_int (pe_call (ok__law_roll T) (hr.mono (by decide)) (by rfl) T.g__law_roll T._law_roll.kp (b__law_roll T) .nil pass0 (pa_cons (pv 0) (pa_cons pe_int pa_nil)))) (pa_cons (pe_cmpR op_lt (pe_call (ok__law_roll T) (hr.mono (by decide)) (by rfl) T.g__law_roll T._law_roll.kp (b__law_roll T) .nil pass0 (pa_cons (pv 0) (pa_cons pe_int pa_nil))) pe_int (nomark _)) pa_nil))))))), ?_⟩
    refine ⟨_, rfl, d, 8, rfl, hD, by decide, by decide, fun H1 r1 f1 hD1 a1 b1 => ?_⟩
    refine ⟨_, rfl, d, 40, rfl, hD1, by decide, by decide, fun H2 r2 f2 hD2 a2 b2 => ⟨by show (2 : Nat) ≤ sizeLine; decide, fun L nL => ?_⟩⟩
    have sL := same_upd (o := .lst [.int r1, .int r2]) nL
    have ndL : L ≠ d := fun e => by
      obtain ⟨i, j, q⟩ := hD2
      rw [e, q] at nL
      cases nL
    refine ⟨_, rfl, d, 4, rfl, hD2.same sL, by decide, by decide, fun H3 r3 f3 hD3 a3 b3 => ?_⟩
    have hL3 := f3.keep L _ (by simp [ndL]) upd_same
    have key : ∀ width : Int, 1 ≤ width → width ≤ 40 → (tAsg (tC (.int width)) (gName 1)) { nx := (tRet (tTup (tCons (tVar 1) (tCons (tOp (rI0 fun i j => .int (i + j)) (tC (.int 1)) (tCall sp__law_roll [] E0 (tCons (tVar 0) (tCons (tC (.int 16)) tNil)))) (tCons (tOp (rI0 fun i j => .bl (decide (i < j))) (tCall sp__law_roll [] E0 (tCons (tVar 0) (tCons (tC (.int 5)) tNil))) (tC (.int 2))) tNil))))) { nx := fun _ H' => Q .non H', rt := Q }, rt := Q } [some (.ref d), none] H3 := by
      intro width w1 w2
      refine ⟨_, rfl, _, rfl, d, 16, rfl, hD3, by decide, by decide, fun H4 r4 f4 hD4 a4 b4 => ⟨_, _, rfl, rfl, ?_⟩⟩
      refine ⟨_, rfl, d, 5, rfl, hD4, by decide, by decide, fun H5 r5 f5 hD5 a5 b5 => ⟨_, _, rfl, rfl, by show (3 : Nat) ≤ sizeLine; decide, fun t nt => ?_⟩⟩
      have st := same_upd (o := .tup [.int width, .int (1 + r4), .bl (decide (r5 < 2))]) nt
      exact z _ _ ⟨width, 1 + r4, decide (r5 < 2)⟩ ((((((f1.trans f2).then sL).trans f3).trans f4).trans f5).then st) (hD5.same st) (dp_bar_of (.of upd_same)) ⟨w1, w2, by show 1 ≤ 1 + r4; omega, by show 1 + r4 ≤ 16; omega⟩
    refine ⟨_, _, rfl, rfl, ⟨by decide, by decide⟩, ?_⟩
    by_cases h3 : r3 < 3
    · refine ⟨L, _, _, .int r1, rfl, rfl, .of hL3, at_of (j := 0) (by omega) rfl, _, _, rfl, rfl, key _ (by omega) (by omega)⟩
    · refine ⟨L, _, _, .int r2, rfl, rfl, .of hL3, at_of (j := 1) (by omega) rfl, _, _, rfl, rfl, key _ (by omega) (by omega)⟩
theorem sc__law_row : FnScope ["dice", "most", "turn"] ["dice", "most"] (defScope s__law_row) := ⟨rfl, rfl, rfl, by decide +kernel, rfl, by decide +kernel, by decide +kernel⟩
section
variable {K : PySem.W.Frag} {mg : Str → Option Value}
theorem b__law_row (T : Txt K mg) : Binds K (fdOf K ("_law_row", none)) ["dice", "most"] [] := T._law_row.bindsN fun _ _ _ _ _ _ us hl => match us, hl with | [_, _], _ => rfl
end
def sp__law_row (K : PySem.W.Frag) : Sp := fun vs H Q _ => ∃ (d : Addr) (most : Nat), vs = [.ref d, .int (most : Int)] ∧ Dice H d ∧ most ≤ 1000 ∧ ∀ H' a bs, Fr [d] H H' → Dice H' d → H a = none → RowAt K H' a bs → (∀ b ∈ bs, BarOk b) → bs.length ≤ most → Q (.ref a) H'
theorem ok__law_row {P : Program} {w : World} {K : PySem.W.Frag} {mg : Str → Option Value} {base : Heap} (T : Txt K mg) : OkF P w K mg base CX0 4 ("_law_row", none) ["dice", "most"] (sp__law_row K) := by
  refine okN T._law_row sc__law_row (fun vs H Q E h => ?_) (fun cdv A outer s H vs Q E hr h => ?_)
  · obtain ⟨d, most, rfl, _⟩ := h
    rfl
  · obtain ⟨d, most, rfl, hD, hm, z⟩ := h
    refine ⟨_, (pss_one (ps_ret (pe_lc (own := [("turn", 2)]) (g := (gName 2)) (tt := tYes)  (by rfl) sc__law_row.nd (pi_range1 (by rfl) T.b_range (pa_cons (pe_call (ok__law_roll T) (hr.mono (by decide)) (by rfl) T.g__law_roll T._law_roll.kp (b__law_roll T) .nil pass0 (pa_cons (pv 0) (pa_cons (pe_op op_add (pv 1) pe_int) pa_nil))) pa_nil)) (blkOk_by (own := [("turn", 2)]) (N := ["dice", "most", "turn"]) (sc := defScope s__law_row) (by decide +kernel)) (fun _ _ _ _ _ => (pg_name (i := 2) sc__law_row.nd rfl (by first | exact Or.inl rfl | exact Or.inr rfl))) (fun _ _ _ _ _ => pts_nil) (fun _ _ _ _ _ => (pe_call (ok__law_bar T) (hr.mono (by decide)) (by rfl) T.g__law_bar T._law_bar.kp (b__law_bar T) .nil pass0 (pa_cons (pv 0) pa_nil)))))), ?_⟩
    refine ⟨_, rfl, _, rfl, _, _, rfl, rfl, d, _, rfl, hD, by omega, by omega, fun H1 r f1 hD1 r0 r1 => ⟨r, rfl, by omega, by omega, fun D nD => ?_⟩⟩
    have nDd : D ≠ d := fun e => by
      obtain ⟨i, j, q⟩ := hD1
      rw [e, q] at nD
      cases nD
    have nD0 : H D = none := by
      cases e : H D with
      | none => rfl
      | some o =>
        have := f1.keep D o (by simp [nDd]) e
        rw [nD] at this
        cases this
    have sD := same_upd (o := .lst []) nD
    refine lc_range (lo := 0) (n := r.toNat) (fun i H' => Fr [d] H H' ∧ Dice H' d ∧ ∃ bs : List Bar, bs.length = i ∧ (∀ b ∈ bs, BarOk b) ∧ RowAt K H' D bs) ⟨f1.then sD, hD1.same sD, [], rfl, fun _ h => (nomatch h), [], upd_same, .nil⟩ ?_ ?_
    · rintro i H2 hi ⟨f2, hD2, bs, hl, ok, row⟩
      refine ⟨rfl, _, rfl, d, rfl, hD2, fun v H3 b f3 hD3 hv okb => ?_⟩
      obtain ⟨vs, q1, q2⟩ := row.fr f3 (by simp [nDd])
      obtain ⟨row4, f4⟩ := row_app q1 q2 hv
      refine ⟨vs, q1, ?_, (f2.trans f3).step f4 (by simp [nD0]), hD3.keep f4 (by simp [nDd.symm]), bs ++ [b], ?_, ?_, row4⟩
      · rw [bars_len q2]
        exact small1000 (by omega)
      · rw [List.length_append, hl]
        rfl
      · intro x hx
        rcases List.mem_append.mp hx with hx | hx
        · exact ok x hx
        · have e : x = b := by simpa using hx
          rw [e]
          exact okb
    · rintro H2 ⟨f2, hD2, bs, hl, ok, row⟩
      exact z _ _ bs f2 hD2 nD0 row ok (by omega)
theorem units65 {k : Nat} {A : Around} (h : Room k A) : A.units + 65 < cLine := by
  have := h.un
  omega
def rLenK (K : PySem.W.Frag) : List V → Hp → VK → Prop := fun xs H Q => ∃ x n, xs = [x] ∧ LenV K x H n ∧ Q (.int (n : Nat)) H
section
variable {X : Cx}
/-- sum of a tuple of ints -/
def rSumT (K : PySem.W.Frag) : List V → Hp → VK → Prop := fun vs H Q => ∃ (a : Addr) (ns : List Int), vs = [V.ref a] ∧ SqT K H a (ns.map V.int) ∧ Q (.int ns.sum) H
theorem cr_sumT (hc : X.calm = true) : CallR X (.builtin "sum") (rSumT X.K) := by
  intro pins s σ H vs us Q I r h
  obtain ⟨a, ns, rfl, hs, q⟩ := h
  obtain ⟨its, rv, hl, _⟩ := I.tuple hs
  rw [Vals.ref1 r]
  have hi : IntsAre its ns := rv.ints
  obtain ⟨xs, e⟩ := hi.allInts.items
  have hn : numsOf (intItems xs).toList = ns := by rw [← e]; exact hi.numsOf
  rw [nums_intItems] at hn
  have hT : s.heap.IsTuple a (intItems xs) := by rw [← e]; exact hl
  have hlt : a < s.heap.objs.size := hl.lt
  refine call_sum_walkG (wpAny_pyIter_tuple hT ?_)
  refine ⟨_, [s.heap.objs.size, a], [s.heap.objs.size], _, _, _, numAt xs, rfl, Walks.tuple (A := X.A.in1) (I.ok.hd hc) _ a (Nat.ne_of_lt hlt) (intItems xs),
    ⟨⟨_, Heap.get?_push_size _ rfl, rfl, rfl⟩, hT.push _⟩, fun c hcc => ?_, (fun _ _ => intItems_at), fun h' tk t' hk => ?_⟩
  · show c < (s.heap.push _).objs.size
    rw [Heap.size_push]
    rcases List.mem_cons.mp hcc with rfl | hcc
    · exact Nat.lt_succ_self _
    · have e : c = a := by simpa using hcc
      rw [e]
      exact Nat.lt_succ_of_lt hlt
  · have hk2 : ∀ b o, s.heap.get? b = some o → h'.get? b = some o := fun b o e => hk b o (by
      intro hb
      have e2 : b = s.heap.objs.size := by simpa using hb
      have lt := Heap.lt_size e
      rw [e2] at lt
      exact Nat.lt_irrefl _ lt) (Heap.get?_push_of_some _ e)
    refine ⟨.int ns.sum, H, I.kept hk2, ⟨t', ?_⟩, q⟩
    rw [preSum_eq, List.take_of_length_le (by simp [intItems]), hn]
/-- t.count(x) of data -/
def rCntD (K : PySem.W.Frag) : V → List V → Hp → VK → Prop := fun x xs H Q => ∃ (p : Addr) (y : V) (ds : List PyData) (d : PyData), x = .ref p ∧ xs = [y] ∧ Dp K H (.ref p) (.tuple ds) ∧ Dp K H y d ∧ SeqAt.shaped (.tuple ds) = true ∧ SeqAt.shaped d = true ∧ Q (.int ((ds.countP fun z => PyData.eqv z d : Nat) : Int)) H
theorem mt_tcount (hu : X.A.units + 65 < cLine) : MtR X "tuple.count" (rCntD X.K) := by
  intro pins s σ H x xs v us Q I rx rxs h
  obtain ⟨p, y, ds, d, rfl, rfl, hl, hy, sl, sd, q⟩ := h
  cases rx
  obtain ⟨u, rfl, ru⟩ := rxs.one
  obtain ⟨bs, r1⟩ := Dp.reads I d y u hy ru
  cases hl with
  | tup hs ha =>
    obtain ⟨its, rv, hT, _⟩ := I.tuple hs
    obtain ⟨as, h4⟩ := Dp.readsAll I ds _ its ha rv
    exact SeqAt.count_tuple_data (vs := its.toArray) hT (by simpa using h4) r1 (PyData.plain_of_canLay0 (.tuple ds) (SeqAt.canLay_of_shaped sl)) (PyData.plain_of_canLay0 _ (SeqAt.canLay_of_shaped sd)) (room_in_shaped sd hu) ⟨.int _, H, I.tok _, ⟨_, rfl⟩, q⟩
def rInDT (K : PySem.W.Frag) : R2 := fun x y H Q => ∃ d ds, Dp K H x d ∧ Dp K H y (.tuple ds) ∧ SeqAt.shaped d = true ∧ SeqAt.shaped (.tuple ds) = true ∧ Q (.bl (ds.any fun z => PyData.eqv z d)) H
def rNotInDT (K : PySem.W.Frag) : R2 := fun x y H Q => ∃ d ds, Dp K H x d ∧ Dp K H y (.tuple ds) ∧ SeqAt.shaped d = true ∧ SeqAt.shaped (.tuple ds) = true ∧ Q (.bl (!ds.any fun z => PyData.eqv z d)) H
theorem op_inDT (hu : X.A.units + 65 < cLine) : OpR X (compareOp .In) (rInDT X.K) := by
  intro pins s σ H x y v u Q I rx ry h
  obtain ⟨d, ds, hd, he, sd, se, q⟩ := h
  obtain ⟨as, r1⟩ := Dp.reads I d x v hd rx
  obtain ⟨bs, r2⟩ := Dp.reads I (.tuple ds) y u he ry
  exact SeqAt.in_tuple_reads r2 r1 (SeqAt.canLay_of_shaped se) (SeqAt.canLay_of_shaped sd) (room_in_shaped sd hu) ⟨.bl _, H, I, rfl, q⟩
theorem op_notInDT (hu : X.A.units + 65 < cLine) : OpR X (compareOp .NotIn) (rNotInDT X.K) := by
  intro pins s σ H x y v u Q I rx ry h
  obtain ⟨d, ds, hd, he, sd, se, q⟩ := h
  obtain ⟨as, r1⟩ := Dp.reads I d x v hd rx
  obtain ⟨bs, r2⟩ := Dp.reads I (.tuple ds) y u he ry
  exact SeqAt.notIn_tuple_reads r2 r1 (SeqAt.canLay_of_shaped se) (SeqAt.canLay_of_shaped sd) (room_in_shaped sd hu) ⟨.bl _, H, I, rfl, q⟩
end
section
variable {X : Cx}
/-- t[lo:hi] of a tuple, whether or not it is the same object -/
def rSlU (K : PySem.W.Frag) : V → Option Int → Option Int → Hp → VK → Prop := fun x lo hi H Q => ∃ a xs, x = .ref a ∧ SqT K H a xs ∧ ∀ c H', Same H H' → SqT K H' c (cutV xs lo hi) → Q (.ref c) H'
theorem cut_all {xs : List V} {lo hi : Option Int} (h : HT.sIx xs.length 0 lo = 0 ∧ HT.sIx xs.length xs.length hi = xs.length) : cutV xs lo hi = xs := by
  unfold cutV
  rw [h.1, h.2, List.drop_zero, Nat.sub_zero, List.take_length]
theorem sl_tupU : SlR X (rSlU X.K) := by
  intro pins s σ H x v vl vu lo hi sl Q I rx hsl pl pu q
  obtain ⟨a, xs, e, hs, k⟩ := q
  exact sl_tupA pins s σ H x v vl vu lo hi sl Q I rx hsl pl pu ⟨a, xs, e, hs, fun c => k a H (Same.refl H) (by rw [cut_all c]; exact hs), fun _ p np => k p _ (same_upd np) (.of upd_same)⟩
/-- t + u of tuples, whether or not it is one of them -/
def rCatU (K : PySem.W.Frag) : R2 := fun x y H Q => ∃ a b xs ys, x = .ref a ∧ y = .ref b ∧ SqT K H a xs ∧ SqT K H b ys ∧ xs.length + ys.length ≤ sizeLine ∧ ∀ c H', Same H H' → SqT K H' c (xs ++ ys) → Q (.ref c) H'
theorem op_catU : OpR X (binaryOp .Add) (rCatU X.K) := by
  intro pins s σ H x y v u Q I rx ry q
  obtain ⟨a, b, xs, ys, e1, e2, h1, h2, hl, k⟩ := q
  refine op_catA pins s σ H x y v u Q I rx ry ⟨a, b, xs, ys, e1, e2, h1, h2, hl, fun e => k b H (Same.refl H) (by rw [e]; exact h2), fun _ e => k a H (Same.refl H) (by rw [e, List.append_nil]; exact h1), fun _ _ p np => k p _ (same_upd np) (.of upd_same)⟩
end
/-! ### desks, rows of numbers -/
structure Desk where
  room : Int
  turn : Int
  side : Bool
  empty : Int
def sideS (b : Bool) : Str := if b = true then Str.ofString "right" else Str.ofString "left"
def deskD (k : Desk) : PyData := .tuple [.int k.room, .int k.turn, .str (sideS k.side), .int k.empty]
def deskV (k : Desk) : List V := [.int k.room, .int k.turn, .str (sideS k.side), .int k.empty]
structure DeskOk (k : Desk) : Prop where
  r0 : 1 ≤ k.room
  r1 : k.room ≤ 200
  t0 : 0 ≤ k.turn
  t1 : k.turn ≤ 99
  e0 : 0 ≤ k.empty
  e1 : k.empty ≤ 3
theorem isT_desk (k : Desk) : isT (deskD k) = true := rfl
abbrev numsD (ns : List Nat) : List PyData := ns.map fun (n : Nat) => PyData.int (n : Int)
abbrev numsV (ns : List Nat) : List V := ns.map fun (n : Nat) => V.int (n : Int)
section
variable {K : PySem.W.Frag} {H : Hp}
theorem dp_desk {v : V} {k : Desk} (h : Dp K H v (deskD k)) : ∃ p, v = .ref p ∧ SqT K H p (deskV k) := by
  cases h with
  | tup s a =>
    obtain ⟨v0, v1, v2, v3, rfl, h0, h1, h2, h3⟩ := dpa4 a
    cases h0
    cases h1
    cases h2
    cases h3
    exact ⟨_, rfl, s⟩
theorem dp_desk_of {p : Addr} {k : Desk} (h : SqT K H p (deskV k)) : Dp K H (.ref p) (deskD k) := .tup h (.cons (.int _) (.cons (.int _) (.cons (.str _) (.cons (.int _) .nil))))
theorem dpa_nums : ∀ {ns : List Nat} {vs : List V}, DpAll K H vs (numsD ns) → vs = numsV ns
  | [], _, .nil => rfl
  | n :: r, _, .cons d t => by
    cases d
    show V.int _ :: _ = V.int _ :: numsV r
    rw [dpa_nums t]
theorem dpa_nums_of : ∀ ns : List Nat, DpAll K H (numsV ns) (numsD ns)
  | [] => .nil
  | n :: r => .cons (.int _) (dpa_nums_of r)
theorem dp_nums {v : V} {ns : List Nat} (h : Dp K H v (.tuple (numsD ns))) : ∃ p, v = .ref p ∧ SqT K H p (numsV ns) := by
  cases h with
  | tup s a =>
    rw [dpa_nums a] at s
    exact ⟨_, rfl, s⟩
theorem dp_nums_of {p : Addr} {ns : List Nat} (h : SqT K H p (numsV ns)) : Dp K H (.ref p) (.tuple (numsD ns)) := .tup h (dpa_nums_of ns)
end
theorem isTs_nums : ∀ ns : List Nat, isTs (numsD ns) = true
  | [] => rfl
  | n :: r => by
    show (isT (.int (n : Int)) && isTs (numsD r)) = true
    rw [isTs_nums r]
    rfl
theorem shp_nums (ns : List Nat) : Shp 1 (.tuple (numsD ns)) := shp_tup (shpA_all fun d hd => by
  obtain ⟨n, _, rfl⟩ := List.mem_map.mp hd
  exact shp_int _)
theorem isNum_of {i lo hi : Int} (h1 : lo ≤ i) (h2 : i ≤ hi) : isNum (.int i) lo hi = true := by
  show (decide (lo ≤ i) && decide (i ≤ hi)) = true
  rw [decide_eq_true h1, decide_eq_true h2]
  rfl
/-- whether a page is a right one -/
def isRight (k : Desk) (page : Nat) : Bool := decide (page % 2 = 0) == k.side
def wideOf (bs : List Bar) (b e : Nat) : Int := (((bs.drop b).take (e - b)).map Bar.w).sum
theorem cut_both {xs : List V} {b e : Nat} (h : b ≤ e) : cutV xs (some (b : Int)) (some (e : Int)) = (xs.drop b).take (e - b) := by
  unfold cutV
  rw [HT.sIx_nat, HT.sIx_nat]
  by_cases h1 : b ≤ xs.length
  · rw [Nat.min_eq_left h1]
    by_cases h2 : e ≤ xs.length
    · rw [Nat.min_eq_left h2]
    · rw [Nat.min_eq_right (by omega), List.take_of_length_le (by rw [List.length_drop]; omega), List.take_of_length_le (by rw [List.length_drop]; omega)]
  · rw [Nat.min_eq_right (by omega), Nat.min_eq_right (by omega), List.drop_length, List.drop_eq_nil_of_le (by omega), List.take_nil, List.take_nil]
/-- what is wrong -/
inductive Wrong where
  | wide (p : Nat) | empty (p : Nat) | turn (p : Nat) | form
def wrongD : Wrong → PyData
  | .wide p => .tuple [.str (Str.ofString "wide"), .int (p : Int)]
  | .empty p => .tuple [.str (Str.ofString "empty"), .int (p : Int)]
  | .turn p => .tuple [.str (Str.ofString "turn"), .int (p : Int)]
  | .form => .tuple [.str (Str.ofString "form")]
def faultD : Option Wrong → PyData
  | none => .none
  | some x => wrongD x
def pageFault (bs : List Bar) (k : Desk) (ns : List Nat) (page : Nat) : Option Wrong :=
  let e := (ns.take (page + 1)).sum
  let n := ns.getD page 0
  if wideOf bs (e - n) e > k.room then some (.wide page)
  else if n = 0 ∧ (page + 1 = ns.length ∨ (((ns.take (page + 1)).count 0 : Nat) : Int) > k.empty) then some (.empty page)
  else if isRight k page = true ∧ ¬ page + 1 = ns.length ∧ restOf bs e < k.turn then some (.turn page)
  else none
/-- the first fault from a page on -/
def faultFrom (bs : List Bar) (k : Desk) (ns : List Nat) (page : Nat) : Nat → Option Wrong
  | 0 => none
  | m + 1 => match pageFault bs k ns page with
    | some x => some x
    | none => faultFrom bs k ns (page + 1) m
def faultN (bs : List Bar) (k : Desk) (ns : List Nat) : Option Wrong := if ns.sum = bs.length then faultFrom bs k ns 0 ns.length else some .form
theorem numsV_ints (ns : List Nat) : numsV ns = (ns.map fun (n : Nat) => (n : Int)).map V.int := by
  rw [List.map_map]
  rfl
theorem small5000 {n : Nat} (h : n ≤ 5000) : n < sizeLine := by
  have : sizeLine = 16777216 := sizeLine_eq
  omega
theorem shp_numsL (ns : List Nat) : Shp 1 (.list (numsD ns)) := shp_list (shpA_all fun d hd => by
  obtain ⟨n, _, rfl⟩ := List.mem_map.mp hd
  exact shp_int _)
theorem sc__law_stand : FnScope ["dice", "room", "turn"] ["dice"] (defScope s__law_stand) := ⟨rfl, rfl, rfl, by decide +kernel, rfl, by decide +kernel, by decide +kernel⟩
section
variable {K : PySem.W.Frag} {mg : Str → Option Value}
theorem b__law_stand (T : Txt K mg) : Binds K (fdOf K ("_law_stand", none)) ["dice"] [] := T._law_stand.bindsN fun _ _ _ _ _ _ us hl => match us, hl with | [_], _ => rfl
end
def sp__law_stand (K : PySem.W.Frag) : Sp := fun vs H Q _ => ∃ (d : Addr), vs = [.ref d] ∧ Dice H d ∧ ∀ v H' k, Fr [d] H H' → Dice H' d → Dp K H' v (deskD k) → DeskOk k → Q v H'
theorem ok__law_stand {P : Program} {w : World} {K : PySem.W.Frag} {mg : Str → Option Value} {base : Heap} (T : Txt K mg) : OkF P w K mg base CX0 3 ("_law_stand", none) ["dice"] (sp__law_stand K) := by
  refine okN T._law_stand sc__law_stand (fun vs H Q E h => ?_) (fun cdv A outer s H vs Q E hr h => ?_)
  · obtain ⟨d, rfl, _⟩ := h
    rfl
  · obtain ⟨d, rfl, hD, z⟩ := h
    refine ⟨_, (pss_cons (ps_set (i := 1) sc__law_stand.nd rfl (by first | exact Or.inl rfl | exact Or.inr rfl) (pe_ix ix_list (pe_lst (pa_cons (pe_op op_add pe_int (pe_call (ok__law_roll T) (hr.mono (by decide)) (by rfl) T.g__law_roll T._law_roll.kp (b__law_roll T) .nil pass0 (pa_cons (pv 0) (pa_cons pe_int pa_nil)))) (pa_cons (pe_op op_add pe_int (pe_call (ok__law_roll T) (hr.mono (by decide)) (by rfl) T.g__law_roll T._law_roll.kp (b__law_roll T) .nil pass0 (pa_cons (pv 0) (pa_cons pe_int pa_nil)))) (pa_cons (pe_op op_add pe_int (pe_call (ok__law_roll T) (hr.mono (by decide)) (by rfl) T.g__law_roll T._law_roll.kp (b__law_roll T) .nil pass0 (pa_cons (pv 0) (pa_cons pe_int pa_nil)))) pa_nil)))) (pe_call (ok__law_roll T) (hr.mono (by decide)) (by rfl) T.g__law_roll T._law_roll.kp (b__law_roll T) .nil pass0 (pa_cons (pv 0) (pa_cons pe_int pa_nil))) (fun _ _ => rfl)))
      (pss_cons (ps_set (i := 2) sc__law_stand.nd rfl (by first | exact Or.inl rfl | exact Or.inr rfl) (pe_ix ix_list (pe_lst (pa_cons (pe_call (ok__law_roll T) (hr.mono (by decide)) (by rfl) T.g__law_roll T._law_roll.kp (b__law_roll T) .nil pass0 (pa_cons (pv 0) (pa_cons pe_int pa_nil))) (pa_cons (pe_call (ok__law_roll T) (hr.mono (by decide)) (by rfl) T.g__law_roll T._law_roll.kp (b__law_roll T) .nil pass0 (pa_cons (pv 0) (pa_cons pe_int pa_nil))) (pa_cons (pe_op op_add pe_int (pe_call (ok__law_roll T) (hr.mono (by decide)) (by rfl) T.g__law_roll T._law_roll.kp (b__law_roll T) .nil pass0 (pa_cons (pv 0) (pa_cons pe_int pa_nil)))) pa_nil)))) (pe_call (ok__law_roll T) (hr.mono (by decide)) (by rfl) T.g__law_roll T._law_roll.kp (b__law_roll T) .nil pass0 (pa_cons (pv 0) (pa_cons pe_int pa_nil))) (fun _ _ => rfl)))
      (pss_one (ps_ret (pe_tup (pa_cons (pv 1) (pa_cons (pv 2) (pa_cons (pe_ix ix_list (pe_lst (pa_cons pe_str (pa_cons pe_str pa_nil))) (pe_call (ok__law_roll T) (hr.mono (by decide)) (by rfl) T.g__law_roll T._law_roll.kp (b__law_roll T) .nil pass0 (pa_cons (pv 0) (pa_cons pe_int pa_nil))) (fun _ _ => rfl)) (pa_cons (pe_ix ix_list (pe_lst (pa_cons pe_int (pa_cons pe_int (pa_cons pe_int (pa_cons pe_int (pa_cons pe_int (pa_cons pe_int pa_nil))))))) (pe_call (ok__law_roll T) (hr.mono (by decide)) (by rfl) T.g__law_roll T._law_roll.kp (b__law_roll T) .nil pass0 (pa_cons (pv 0) (pa_cons pe_int pa_nil))) (fun _ _ => rfl)) pa_nil))))))))), ?_⟩
    -- room
    refine ⟨_, rfl, d, 20, rfl, hD, by decide, by decide, fun H1 r1 f1 hD1 a1 b1 => ⟨_, _, rfl, rfl, ?_⟩⟩
    refine ⟨_, rfl, d, 200, rfl, hD1, by decide, by decide, fun H2 r2 f2 hD2 a2 b2 => ⟨_, _, rfl, rfl, ?_⟩⟩
    refine ⟨_, rfl, d, 8, rfl, hD2, by decide, by decide, fun H3 r3 f3 hD3 a3 b3 => ⟨_, _, rfl, rfl, by show (3 : Nat) ≤ sizeLine; decide, fun L nL => ?_⟩⟩
    have sL := same_upd (o := .lst [.int (4 + r1), .int (1 + r2), .int (8 + r3)]) nL
    refine ⟨_, rfl, d, 3, rfl, hD3.same sL, by decide, by decide, fun H4 i4 f4 hD4 a4 b4 => ?_⟩
    have hL4 := f4.keep L _ (by simp [new_ne hD3 nL]) upd_same
    have g4 := (((f1.trans f2).trans f3).then sL).trans f4
    obtain ⟨room, hroom, hr0, hr1⟩ : ∃ room : Int, atI [V.int (4 + r1), .int (1 + r2), .int (8 + r3)] i4 = some (.int room) ∧ 1 ≤ room ∧ room ≤ 200 := by
      rcases (by omega : i4 = 0 ∨ i4 = 1 ∨ i4 = 2) with e | e | e
      · exact ⟨4 + r1, at_of (j := 0) e rfl, by omega, by omega⟩
      · exact ⟨1 + r2, at_of (j := 1) e rfl, by omega, by omega⟩
      · exact ⟨8 + r3, at_of (j := 2) e rfl, by omega, by omega⟩
    refine ⟨L, _, _, _, rfl, rfl, .of hL4, hroom, ?_⟩
    -- turn
    refine ⟨_, rfl, d, 20, rfl, hD4, by decide, by decide, fun H5 r5 f5 hD5 a5 b5 => ?_⟩
    refine ⟨_, rfl, d, 100, rfl, hD5, by decide, by decide, fun H6 r6 f6 hD6 a6 b6 => ?_⟩
    refine ⟨_, rfl, d, 9, rfl, hD6, by decide, by decide, fun H7 r7 f7 hD7 a7 b7 => ⟨_, _, rfl, rfl, by show (3 : Nat) ≤ sizeLine; decide, fun M nM => ?_⟩⟩
    have sM := same_upd (o := .lst [.int r5, .int r6, .int (1 + r7)]) nM
    refine ⟨_, rfl, d, 3, rfl, hD7.same sM, by decide, by decide, fun H8 i8 f8 hD8 a8 b8 => ?_⟩
    have hM8 := f8.keep M _ (by simp [new_ne hD7 nM]) upd_same
    have g8 := ((((g4.trans f5).trans f6).trans f7).then sM).trans f8
    obtain ⟨turn, hturn, ht0, ht1⟩ : ∃ turn : Int, atI [V.int r5, .int r6, .int (1 + r7)] i8 = some (.int turn) ∧ 0 ≤ turn ∧ turn ≤ 99 := by
      rcases (by omega : i8 = 0 ∨ i8 = 1 ∨ i8 = 2) with e | e | e
      · exact ⟨r5, at_of (j := 0) e rfl, by omega, by omega⟩
      · exact ⟨r6, at_of (j := 1) e rfl, by omega, by omega⟩
      · exact ⟨1 + r7, at_of (j := 2) e rfl, by omega, by omega⟩
    refine ⟨M, _, _, _, rfl, rfl, .of hM8, hturn, ?_⟩
    -- the tuple
    refine ⟨_, rfl, _, rfl, by show (2 : Nat) ≤ sizeLine; decide, fun N nN => ?_⟩
    have sN := same_upd (o := .lst [.str (Str.ofString "left"), .str (Str.ofString "right")]) nN
    refine ⟨_, rfl, d, 2, rfl, hD8.same sN, by decide, by decide, fun H9 i9 f9 hD9 a9 b9 => ?_⟩
    have hN9 := f9.keep N _ (by simp [new_ne hD8 nN]) upd_same
    have g9 := (g8.then sN).trans f9
    obtain ⟨side, hside⟩ : ∃ side : Bool, atI [V.str (Str.ofString "left"), .str (Str.ofString "right")] i9 = some (.str (sideS side)) := by
      rcases (by omega : i9 = 0 ∨ i9 = 1) with e | e
      · exact ⟨false, at_of (j := 0) e rfl⟩
      · exact ⟨true, at_of (j := 1) e rfl⟩
    refine ⟨N, _, _, _, rfl, rfl, .of hN9, hside, ?_⟩
    refine ⟨by show (6 : Nat) ≤ sizeLine; decide, fun O nO => ?_⟩
    have sO := same_upd (o := .lst [.int 0, .int 0, .int 1, .int 1, .int 2, .int 3]) nO
    refine ⟨_, rfl, d, 6, rfl, hD9.same sO, by decide, by decide, fun H10 i10 f10 hD10 a10 b10 => ?_⟩
    have hO10 := f10.keep O _ (by simp [new_ne hD9 nO]) upd_same
    have g10 := (g9.then sO).trans f10
    obtain ⟨emp, hemp, he0, he1⟩ : ∃ emp : Int, atI [V.int 0, .int 0, .int 1, .int 1, .int 2, .int 3] i10 = some (.int emp) ∧ 0 ≤ emp ∧ emp ≤ 3 := by
      rcases (by omega : i10 = 0 ∨ i10 = 1 ∨ i10 = 2 ∨ i10 = 3 ∨ i10 = 4 ∨ i10 = 5) with e | e | e | e | e | e
      · exact ⟨0, at_of (j := 0) e rfl, by decide, by decide⟩
      · exact ⟨0, at_of (j := 1) e rfl, by decide, by decide⟩
      · exact ⟨1, at_of (j := 2) e rfl, by decide, by decide⟩
      · exact ⟨1, at_of (j := 3) e rfl, by decide, by decide⟩
      · exact ⟨2, at_of (j := 4) e rfl, by decide, by decide⟩
      · exact ⟨3, at_of (j := 5) e rfl, by decide, by decide⟩
    refine ⟨O, _, _, _, rfl, rfl, .of hO10, hemp, by show (4 : Nat) ≤ sizeLine; decide, fun t nt => ?_⟩
    have st := same_upd (o := .tup [.int room, .int turn, .str (sideS side), .int emp]) nt
    exact z _ _ ⟨room, turn, side, emp⟩ (g10.then st) (hD10.same st) (dp_desk_of (.of upd_same)) ⟨hr0, hr1, ht0, ht1, he0, he1⟩
section
variable {X : Cx}
/-- a def run within, around A' -/
theorem run_at {n : Nat} {f : Addr} {fd : FuncData} {ps : List Str} {sp : Sp} {pins : List (Addr × Obj)} {σ : L2.St} {H : Hp} {s : Shared} {A' : Around} {vs : List V} {us : List Value} {Q : VK} {E : XK} {E' : Value → Shared → Prop}
    (F : FnOk X.prog X.w X.K X.mg X.base CX0 n f fd ps sp) (hb : Binds X.K fd ps []) (I : Inv X pins σ H s) (hr : Room n A') (hf : A'.frames = X.A.frames) (rv : Vals vs us) (hsp : sp vs H Q E) :
    wpAny (model X.prog X.w) A' (call (.ref f) us) (EP X pins σ Q) E' s := by
  have e0 : Env0 X.prog X.w X.K X.mg X.base A' X.stack s H := by
    have e := I.env0
    exact ⟨by rw [hf]; exact e.frames, e.mod, e.bs, e.bsz, e.funs, e.frf, e.hok, e.bare⟩
  have hl := F.len _ _ _ _ hsp
  have hl2 := rv.length
  refine wpAny_call (codeAny_mono (F.run A' X.stack s H ⟨us, []⟩ us vs Q E hr e0 (by
    have := hb s us I.kIn (by simp; omega)
    simpa using this) rv hsp) fun r s' hq => ?_)
  cases r with
  | error e => exact hq.elim
  | ok fl =>
    cases fl with
    | ret w => exact I.after hq
    | next => exact False.elim hq
    | brk => exact False.elim hq
    | cont => exact False.elim hq
end
section
open PySem.W
variable {prog : Program} {w : World} {A : Around} {E : Value → Shared → Prop} {s : Shared} {K : Frag} {x C f : Addr} {ox : Obj} {od : Option Obj} {b tb : Value}
/-- a built-in slot of an object of a class of K, by its name, bound -/
theorem slot_bound {M : Model} {self : Value} {name : PySem.Str} {id : String} {args : List Value} {Q : Option Value → Shared → Prop} (sp : Looks M s.heap (specialOf self name) (some (.builtin id))) (hb : bindSpecial (.builtin id) self = pure (.builtin id, [self]))
    (hc : wpAny M A (call (.builtin id) ([self] ++ args)) (fun v => Q (some v)) E s) : wpAny M A (callSpecialIfBound? self name args) Q E s := by
  simp only [callSpecialIfBound?, bindSpecialIfBound?]
  refine wpAny_holding (wpAny_bind (wpAny_bind (sp.here ?_)))
  refine wpAny_bind (wpAny_askSetting (wpAny_ite ?_))
  have fin : wpAny M A (call (.builtin id) ([self] ++ args) >>= fun v => pure (some v)) Q E s := wpAny_bind (wpAny_mono hc (fun v s' h' => wpAny_pure h') fun _ _ h' => h')
  split
  · exact wpAny_bind (wpAny_of_eq hb (wpAny_pure (by exact fin)))
  · exact wpAny_tryCatch (wpAny_bind (wpAny_of_eq hb (wpAny_pure (by exact fin))))
/-- x != b where only == is one's own -/
theorem ne_K {Q : Value → Shared → Prop} (hu : A.units + 1 < cLine) (X : K.In s.heap) (I : InstAt s.heap x ox C od) (hb : Looks (model prog w) s.heap (typeOf b) tb) (hn : notFirst K C tb = true)
    (hs : findIn K (.ref C) "__ne__" = some (some (.builtin "object.__ne__"))) (hm : mroIn K C (.type "object") = some true) (he : findIn K (.ref C) "__eq__" = some (some (.ref f))) (hf : isFn K (.ref f) = true)
    (h : wpAny (model prog w) A.in1 (call (.ref f) [.ref x, b]) (fun v s' => ∃ k, v = .bool k ∧ Q (.bool (!k)) s') E s) : wpAny (model prog w) A (richCompare .NotEq (.ref x) b) Q E s := by
  have body : wpAny (model prog w) A.in1 (Builtin.«object.__ne__» ⟨[.ref x, b], []⟩) (fun fin s' => ∃ v, fin = .done (.ret v) ∧ v ≠ .notImplemented ∧ Q v s') E s := by
    unfold Builtin.«object.__ne__»
    repeat (first
      | with_reducible refine wpAny_cRoomFor hu ?_
      | (refine wpAny_bind (m := callSpecialIfBound? (.ref x) (Str.ofString "__eq__") [b])
          (ifBound_K X I he hf (wpAny_mono h (fun r s' hr => by
            obtain ⟨k, rfl, hq⟩ := hr
            repeat (first | exact ⟨_, rfl, by simp, hq⟩ | exact wpAny_pure ⟨_, rfl, by simp, hq⟩ | exact wpAny_truthy_bool ⟨_, rfl, by simp, hq⟩ | (refine wpAny_bind (m := truthy (.bool _)) (wpAny_truthy_bool ?_)) | wp_step)) fun _ _ e => e)))
      | wp_step)
  have one : wpAny (model prog w) A (tryCompare (.ref x) "__ne__" b) (fun r s' => ∃ v, r = some v ∧ Q v s') E s := by
    unfold tryCompare
    refine wpAny_bind (slot_bound (I.type.andThen (looks_findIn X hs)) (PySem.F.cmp_object.ne.bind _) (wpAny_call (codeAny_call_builtin PySem.F.cmp_object.ne.plain PySem.F.cmpEntry_ne
      (check_slot (i := "object.__ne__") (owner := "object") (n := "__ne__") PySem.F.cmpKind_ne PySem.F.cmpSplit_ne (I.type.andThen (looks_mroIn X hm)) (PySem.F.cmpArgs_ne _ _) (wpAny_mono body (fun fin s' z => ?_) fun _ _ e => e)))))
    obtain ⟨v, rfl, nv, hq⟩ := z
    cases v <;> first | exact absurd rfl nv | exact wpAny_pure ⟨_, rfl, hq⟩
  unfold richCompare
  simp only [oneThing_ref]
  refine wpAny_holding (wpAny_bind (wpAny_cRoomFor (by omega) ?_))
  refine wpAny_bind (I.type.here (wpAny_bind (hb.here ?_)))
  split
  · rename_i q
    have e : subIn K tb (.ref C) = some false := by
      rcases Bool.or_eq_true_iff.mp hn with e | e
      · rw [beq_iff_eq.mp e] at q; simp at q
      · exact beq_iff_eq.mp e
    refine wpAny_bind ((looks_subIn X e).here ?_)
    simp only [Bool.false_eq_true, if_false]
    refine wpAny_bind (wpAny_mono one (fun r s' z => ?_) fun _ _ e => e)
    obtain ⟨v, rfl, hq⟩ := z
    exact wpAny_pure hq
  · refine wpAny_bind (wpAny_pure ?_)
    simp only [Bool.false_eq_true, if_false]
    refine wpAny_bind (wpAny_mono one (fun r s' z => ?_) fun _ _ e => e)
    obtain ⟨v, rfl, hq⟩ := z
    exact wpAny_pure hq
end
theorem sc_Part_len : FnScope ["self"] ["self"] (defScope s_Part_len) := ⟨rfl, rfl, rfl, by decide +kernel, rfl, by decide +kernel, by decide +kernel⟩
section
variable {K : PySem.W.Frag} {mg : Str → Option Value}
theorem b_Part_len (T : Txt K mg) : Binds K (fdOf K ("Part", some "__len__")) ["self"] [] := T.Part_len.bindsN fun _ _ _ _ _ _ us hl => match us, hl with | [_], _ => rfl
end
def sp_Part_len (K : PySem.W.Frag) : Sp := fun vs H Q _ => ∃ (p q : Addr) (bs : List Bar) (past : List (List Bar)), vs = [.ref p] ∧ PartX K H p q bs past ∧ Q (.int (bs.length : Nat)) H
theorem ok_Part_len {P : Program} {w : World} {K : PySem.W.Frag} {mg : Str → Option Value} {base : Heap} (T : Txt K mg) : OkF P w K mg base CX0 1 ("Part", some "__len__") ["self"] (sp_Part_len K) := by
  refine okN T.Part_len sc_Part_len (fun vs H Q E h => ?_) (fun cdv A outer s H vs Q E hr h => ?_)
  · obtain ⟨p, q, bs, past, rfl, _⟩ := h
    rfl
  · obtain ⟨p, q, bs, past, rfl, hp, k⟩ := h
    obtain ⟨dx, r, ws, h1, n, ⟨vs, h2, h3⟩, _⟩ := hp
    refine ⟨_, (pss_one (ps_ret (pe_callB call_len (by rfl) T.b_len PySem.boot_len (pa_cons (pe_fld (pv 0) rfl) pa_nil)))), ?_⟩
    refine ⟨_, rfl, p, _, dx, _, _, rfl, h1, T.cl_Part, T.n_row, pf_row, _, _, rfl, .inl ⟨_, .of h2, rfl⟩, ?_⟩
    rw [bars_len h3]
    exact k
section
variable {X : Cx}
def rLenP (K : PySem.W.Frag) (sp : Sp) : List V → Hp → VK → Prop := fun xs H Q => ∃ p dx fs, xs = [.ref p] ∧ H p = some (.ins (pC K) dx fs) ∧ sp [.ref p] H (fun v H' => ∃ n : Nat, v = .int (n : Int) ∧ n < 1000000 ∧ Q (.int (n : Int)) H') E0
theorem call_lenP {n : Nat} {sp : Sp} (T : Txt X.K X.mg) (F : FnOk X.prog X.w X.K X.mg X.base CX0 n (He.fAd X.K ("Part", some "__len__")) (fdOf X.K ("Part", some "__len__")) ["self"] sp) (hr : Room (n + 1) X.A) : CallR X (.builtin "len") (rLenP X.K sp) := by
  intro pins s σ H xs us Q I r h
  obtain ⟨p, dx, fs, rfl, hp, hs⟩ := h
  obtain ⟨u, rfl, e⟩ := vals1 r
  cases e
  obtain ⟨mA, J, _⟩ := ins_get I.hok hp
  obtain ⟨od, J, _⟩ := J.look
  obtain ⟨m, hF⟩ := I.fr
  refine PySem.W.len_K hF I.ok.mod.kin J T.m_Part_len.at_ T.m_Part_len.fn ?_
  refine wpAny_mono (run_at (vs := [.ref p]) (Q := fun v H' => ∃ n : Nat, v = .int (n : Int) ∧ n < 1000000 ∧ Q (.int (n : Int)) H') (E := E0) F (b_Part_len T) I hr.in1 rfl (.cons rfl .nil) hs) (fun r s' z => ?_) fun _ _ z => z
  obtain ⟨v', H', I', r', b, rfl, hb, q⟩ := z
  obtain ⟨t, rfl⟩ := r'
  exact ⟨⟨by omega, by omega⟩, .int (b : Int), H', I'.tok _, ⟨_, rfl⟩, q⟩
end
theorem sc_need_desk : FnScope ["thing"] ["thing"] (defScope s_need_desk) := ⟨rfl, rfl, rfl, by decide +kernel, rfl, by decide +kernel, by decide +kernel⟩
section
variable {K : PySem.W.Frag} {mg : Str → Option Value}
theorem b_need_desk (T : Txt K mg) : Binds K (fdOf K ("need_desk", none)) ["thing"] [] := T.need_desk.bindsN fun _ _ _ _ _ _ us hl => match us, hl with | [_], _ => rfl
end
def sp_need_desk (K : PySem.W.Frag) : Sp := fun vs H Q _ => ∃ (x : V) (k : Desk), vs = [x] ∧ Dp K H x (deskD k) ∧ DeskOk k ∧ Q .non H
theorem ok_need_desk {P : Program} {w : World} {K : PySem.W.Frag} {mg : Str → Option Value} {base : Heap} (T : Txt K mg) : OkF P w K mg base CX0 2 ("need_desk", none) ["thing"] (sp_need_desk K) := by
  refine okN T.need_desk sc_need_desk (fun vs H Q E h => ?_) (fun cdv A outer s H vs Q E hr h => ?_)
  · obtain ⟨x, k, rfl, _⟩ := h
    rfl
  · obtain ⟨x, k, rfl, hd, ok, q⟩ := h
    obtain ⟨p, rfl, hs⟩ := dp_desk hd
    refine ⟨_, (pss_cons (ps_if (PW.pt (pw_or (pt_not (pt_val (pe_callB call_isi (by rfl) T.b_isinstance (by decide +kernel) (pa_cons (pv 0) (pa_cons (pe_bltn (v := .ty "tuple") (by rfl) T.b_tuple (by decide +kernel) rfl) pa_nil))))) (pw_or (pt_cmpR op_ne (pe_callB call_len (by rfl) T.b_len PySem.boot_len (pa_cons (pv 0) pa_nil)) pe_int (nomark _)) (pw_or1 (pt_not (pt_val (pe_call (ok_is_number T) (hr.mono (by decide)) (by rfl) T.g_is_number T.is_number.kp (b_is_number T) .nil pass0 (pa_cons (pe_ix ix_tup (pv 0) pe_int (fun _ _ => rfl)) (pa_cons pe_int (pa_cons pe_int pa_nil)))))))))) pss_never pss_nil)
      (pss_cons (ps_if (PW.pt (pw_or (pt_not (pt_val (pe_call (ok_is_number T) (hr.mono (by decide)) (by rfl) T.g_is_number T.is_number.kp (b_is_number T) .nil pass0 (pa_cons (pe_ix ix_tup (pv 0) pe_int (fun _ _ => rfl)) (pa_cons pe_int (pa_cons pe_int pa_nil)))))) (pw_or (pt_not (pt_val (pe_callB call_isi (by rfl) T.b_isinstance (by decide +kernel) (pa_cons (pe_ix ix_tup (pv 0) pe_int (fun _ _ => rfl)) (pa_cons (pe_bltn (v := .ty "str") (by rfl) T.b_str (by decide +kernel) rfl) pa_nil))))) (pw_or1 (pt_cmpR op_notIn_seq (pe_ix ix_tup (pv 0) pe_int (fun _ _ => rfl)) (pe_glob (v := .ref (He.ga K "SIDES")) (by rfl) T.g_SIDES rfl) (by rfl)))))) pss_never pss_nil)
      (pss_one (ps_if (pt_not (pt_val (pe_call (ok_is_number T) (hr.mono (by decide)) (by rfl) T.g_is_number T.is_number.kp (b_is_number T) .nil pass0 (pa_cons (pe_ix ix_tup (pv 0) pe_int (fun _ _ => rfl)) (pa_cons pe_int (pa_cons pe_int pa_nil)))))) pss_never pss_nil)))), ?_⟩
    refine ⟨_, rfl, _, _, _, _, _, rfl, .ty _, dp_ty hd, kit_tup _, _, rfl, iteF ⟨_, rfl, _, _, rfl, .inr ⟨_, hs, rfl⟩, rfl, _, rfl, iteNNQ rfl ?_⟩⟩
    refine ⟨_, rfl, p, _, _, _, rfl, rfl, hs, rfl, _, .int k.room, _, _, rfl, .int _, _, rfl, ?_⟩
    rw [isNum_of ok.r0 ok.r1]
    refine iteF ⟨_, rfl, p, _, _, _, rfl, rfl, hs, rfl, _, .int k.turn, _, _, rfl, .int _, _, rfl, ?_⟩
    rw [isNum_of ok.t0 ok.t1]
    refine iteF ⟨_, rfl, p, _, _, _, rfl, rfl, hs, rfl, _, _, _, _, _, rfl, .ty _, dp_ty (.str _), kit_str (.str (sideS k.side)), _, rfl, iteF ?_⟩
    refine ⟨_, rfl, p, _, _, _, rfl, rfl, hs, rfl, _, _, rfl, .inr (tupIs_ok T.t_SIDES _), rfl, rfl, _, rfl, ?_⟩
    have e : (!inV (V.str (sideS k.side)) [.str (Str.ofString "left"), .str (Str.ofString "right")]) = false := by
      cases k.side <;> decide +kernel
    show if (!inV (V.str (sideS k.side)) [.str (Str.ofString "left"), .str (Str.ofString "right")]) = true then _ else _
    rw [e]
    refine iteF ⟨_, rfl, p, _, _, _, rfl, rfl, hs, rfl, _, .int k.empty, _, _, rfl, .int _, _, rfl, ?_⟩
    rw [isNum_of ok.e0 ok.e1]
    exact iteF q
/-! ### states, steps, paths -/
structure Sta where
  bar : Nat
  right : Bool
  used : Nat
  deriving DecidableEq
def stateD (s : Sta) : PyData := .tuple [.int (s.bar : Int), .str (sideS s.right), .int (s.used : Int)]
def stateV (s : Sta) : List V := [.int (s.bar : Int), .str (sideS s.right), .int (s.used : Int)]
def mayTurn (bs : List Bar) (k : Desk) (right : Bool) (bar : Nat) : Bool := !right || (decide (bar = bs.length) || decide (k.turn ≤ restOf bs bar))
def oneStep (s : Sta) (e : Nat) : Nat × Sta := (e - s.bar, ⟨e, !s.right, s.used⟩)
def fits (bs : List Bar) (k : Desk) (s : Sta) (e : Nat) : Bool := decide (wideOf bs s.bar e ≤ k.room)
def someSteps (bs : List Bar) (k : Desk) (s : Sta) (from_ : Nat) : List (Nat × Sta) := (((rngS from_ (bs.length + 1)).takeWhile (fits bs k s)).filter (mayTurn bs k s.right)).map (oneStep s)
where rngS (a b : Nat) : List Nat := List.range' a (b - a)
def zeroStep (bs : List Bar) (k : Desk) (s : Sta) : List (Nat × Sta) := if s.bar < bs.length ∧ (s.used : Int) < k.empty ∧ mayTurn bs k s.right s.bar = true then [(0, ⟨s.bar, !s.right, s.used + 1⟩)] else []
def stepsL (bs : List Bar) (k : Desk) (s : Sta) : List (Nat × Sta) := zeroStep bs k s ++ someSteps bs k s (s.bar + 1)
theorem rngS_cons {a b : Nat} (h : a < b) : someSteps.rngS a b = a :: someSteps.rngS (a + 1) b := by
  unfold someSteps.rngS
  rw [show b - a = (b - (a + 1)) + 1 by omega, List.range'_succ]
theorem rngS_nil {a b : Nat} (h : b ≤ a) : someSteps.rngS a b = [] := by
  unfold someSteps.rngS
  rw [show b - a = 0 by omega]
  rfl
theorem some_end {bs : List Bar} {k : Desk} {s : Sta} {e : Nat} (h : ¬ e ≤ bs.length) : someSteps bs k s e = [] := by
  unfold someSteps
  rw [rngS_nil (by omega)]
  rfl
theorem some_wide {bs : List Bar} {k : Desk} {s : Sta} {e : Nat} (h : e ≤ bs.length) (hw : fits bs k s e = false) : someSteps bs k s e = [] := by
  unfold someSteps
  rw [rngS_cons (by omega), List.takeWhile_cons, hw, if_neg Bool.false_ne_true]
  rfl
theorem some_next {bs : List Bar} {k : Desk} {s : Sta} {e : Nat} (h : e ≤ bs.length) (hw : fits bs k s e = true) : someSteps bs k s e = (if mayTurn bs k s.right e = true then [oneStep s e] else []) ++ someSteps bs k s (e + 1) := by
  unfold someSteps
  rw [rngS_cons (by omega), List.takeWhile_cons, hw, if_pos rfl, List.filter_cons]
  split <;> rfl
theorem mem_takeWhile {α : Type} {p : α → Bool} {x : α} : ∀ {l : List α}, x ∈ l.takeWhile p → x ∈ l ∧ p x = true
  | [], h => by cases h
  | y :: l, h => by
    rw [List.takeWhile_cons] at h
    cases e : p y with
    | false =>
      rw [e, if_neg Bool.false_ne_true] at h
      cases h
    | true =>
      rw [e, if_pos rfl] at h
      rcases List.mem_cons.mp h with h | h
      · rw [h]
        exact ⟨List.mem_cons_self, e⟩
      · have := mem_takeWhile h
        exact ⟨List.mem_cons_of_mem _ this.1, this.2⟩
/-- what a step is -/
theorem step_of {bs : List Bar} {k : Desk} {s t : Sta} {m : Nat} (h : (m, t) ∈ stepsL bs k s) : t.bar = s.bar + m ∧ t.right = !s.right ∧ s.bar < bs.length ∧ t.bar ≤ bs.length ∧ mayTurn bs k s.right t.bar = true ∧
    ((m = 0 ∧ t.used = s.used + 1 ∧ (s.used : Int) < k.empty) ∨ (0 < m ∧ t.used = s.used ∧ wideOf bs s.bar t.bar ≤ k.room)) := by
  rcases List.mem_append.mp h with h | h
  · unfold zeroStep at h
    split at h
    · rename_i hc
      have e : (m, t) = (0, ⟨s.bar, !s.right, s.used + 1⟩) := by simpa using h
      cases e
      exact ⟨rfl, rfl, hc.1, Nat.le_of_lt hc.1, hc.2.2, .inl ⟨rfl, rfl, hc.2.1⟩⟩
    · cases h
  · obtain ⟨e, he, eq⟩ := List.mem_map.mp h
    obtain ⟨h1, h2⟩ := List.mem_filter.mp he
    obtain ⟨h3, h4⟩ := mem_takeWhile h1
    have h5 : e ∈ List.range' (s.bar + 1) (bs.length + 1 - (s.bar + 1)) := h3
    rw [List.mem_range'_1] at h5
    have e1 : m = e - s.bar := (congrArg Prod.fst eq).symm
    have e2 : t = ⟨e, !s.right, s.used⟩ := (congrArg Prod.snd eq).symm
    subst e2
    refine ⟨?_, rfl, by omega, ?_, h2, .inr ⟨by omega, rfl, of_decide_eq_true h4⟩⟩
    · show e = s.bar + m
      omega
    · show e ≤ bs.length
      omega
theorem mem_takeWhile_rng {p : Nat → Bool} {b : Nat} : ∀ {n a : Nat}, (∀ e, a ≤ e → e ≤ b → p e = true) → a ≤ b → b < a + n → b ∈ (List.range' a n).takeWhile p
  | 0, a, _, h1, h2 => by omega
  | n + 1, a, hp, h1, h2 => by
    rw [List.range'_succ, List.takeWhile_cons, hp a (Nat.le_refl _) h1, if_pos rfl]
    by_cases e : a = b
    · rw [e]
      exact List.mem_cons_self
    · exact List.mem_cons_of_mem _ (mem_takeWhile_rng (fun e h3 h4 => hp e (by omega) h4) (by omega) (by omega))
theorem wide_mono {bs : List Bar} {b e e' : Nat} (ok : ∀ x ∈ bs, BarOk x) (h : e ≤ e') : wideOf bs b e ≤ wideOf bs b e' := by
  unfold wideOf
  have h1 : ((bs.drop b).take (e' - b)) = ((bs.drop b).take (e - b)) ++ (((bs.drop b).drop (e - b)).take (e' - b - (e - b))) := by
    rw [show e' - b = (e - b) + (e' - b - (e - b)) by omega, List.take_add, show (e - b) + (e' - b - (e - b)) - (e - b) = e' - b - (e - b) by omega]
  rw [h1, List.map_append, List.sum_append]
  have h2 : ∀ l : List Bar, (∀ x ∈ l, BarOk x) → 0 ≤ (l.map Bar.w).sum := by
    intro l
    induction l with
    | nil => intro _; exact Int.le_refl _
    | cons x r ih =>
      intro hl
      have := ih fun y hy => hl y (List.mem_cons_of_mem _ hy)
      have hx := (hl x List.mem_cons_self).1
      rw [List.map_cons, List.sum_cons]
      omega
  have := h2 (((bs.drop b).drop (e - b)).take (e' - b - (e - b))) fun x hx => ok x (List.mem_of_mem_drop (List.mem_of_mem_drop (List.mem_of_mem_take hx)))
  omega
/-- what makes a step -/
theorem of_step {bs : List Bar} {k : Desk} {s t : Sta} {m : Nat} (ok : ∀ x ∈ bs, BarOk x) (h1 : t.bar = s.bar + m) (h2 : t.right = !s.right) (h3 : s.bar < bs.length) (h4 : t.bar ≤ bs.length) (h5 : mayTurn bs k s.right t.bar = true)
    (h6 : (m = 0 ∧ t.used = s.used + 1 ∧ (s.used : Int) < k.empty) ∨ (0 < m ∧ t.used = s.used ∧ wideOf bs s.bar t.bar ≤ k.room)) : (m, t) ∈ stepsL bs k s := by
  obtain ⟨b, r, u⟩ := t
  dsimp only at h1 h2 h4 h5 h6
  subst h2
  rcases h6 with ⟨e1, e2, e3⟩ | ⟨e1, e2, e3⟩
  · subst e1 e2
    have e4 : b = s.bar := h1
    subst e4
    refine List.mem_append_left _ ?_
    unfold zeroStep
    rw [if_pos ⟨h3, e3, h5⟩]
    exact List.mem_singleton.mpr rfl
  · subst e2
    refine List.mem_append_right _ (List.mem_map.mpr ⟨b, List.mem_filter.mpr ⟨?_, h5⟩, ?_⟩)
    · refine mem_takeWhile_rng (fun e he1 he2 => ?_) (by omega) (by omega)
      exact decide_eq_true (Int.le_trans (wide_mono ok he2) e3)
    · unfold oneStep
      rw [show b - s.bar = m by omega]
inductive Path (bs : List Bar) (k : Desk) : Sta → List Nat → Sta → Prop
  | nil (s : Sta) : Path bs k s [] s
  | cons {s t u : Sta} {m : Nat} {row : List Nat} : (m, t) ∈ stepsL bs k s → Path bs k t row u → Path bs k s (m :: row) u
theorem Path.snoc {bs : List Bar} {k : Desk} {s t u : Sta} {row : List Nat} {m : Nat} (h : Path bs k s row t) (e : (m, u) ∈ stepsL bs k t) : Path bs k s (row ++ [m]) u := by
  induction h with
  | nil s => exact .cons e (.nil _)
  | cons h1 h2 ih => exact .cons h1 (ih e)
theorem Path.app {bs : List Bar} {k : Desk} {s t u : Sta} {row row' : List Nat} (h : Path bs k s row t) (h' : Path bs k t row' u) : Path bs k s (row ++ row') u := by
  induction h with
  | nil s => exact h'
  | cons h1 h2 ih => exact .cons h1 (ih h')
/-- states within bounds -/
structure StaOk (bs : List Bar) (k : Desk) (s : Sta) : Prop where
  bar : s.bar ≤ bs.length
  used : (s.used : Int) ≤ k.empty
theorem StaOk.step {bs : List Bar} {k : Desk} {s t : Sta} {m : Nat} (h : StaOk bs k s) (e : (m, t) ∈ stepsL bs k s) : StaOk bs k t := by
  obtain ⟨_, _, _, h4, _, h6⟩ := step_of e
  refine ⟨h4, ?_⟩
  have := h.used
  rcases h6 with ⟨_, h, h'⟩ | ⟨_, h, _⟩ <;> omega
theorem StaOk.path {bs : List Bar} {k : Desk} {s t : Sta} {row : List Nat} (h : StaOk bs k s) (p : Path bs k s row t) : StaOk bs k t := by
  induction p with
  | nil s => exact h
  | cons e _ ih => exact ih (h.step e)
theorem path_bar {bs : List Bar} {k : Desk} {s t : Sta} {row : List Nat} (p : Path bs k s row t) : t.bar = s.bar + row.sum := by
  induction p with
  | nil s => rfl
  | cons e _ ih =>
    have := (step_of e).1
    rw [List.sum_cons]
    omega
theorem sub_len {α : Type} [DecidableEq α] : ∀ {l r : List α}, l.Nodup → (∀ x ∈ l, x ∈ r) → l.length ≤ r.length
  | [], r, _, _ => Nat.zero_le _
  | x :: l, r, hn, hs => by
    obtain ⟨h1, h2⟩ := List.nodup_cons.mp hn
    have hx := hs x List.mem_cons_self
    have := sub_len (r := r.erase x) h2 fun y hy => by
      refine (List.mem_erase_of_ne ?_).mpr (hs y (List.mem_cons_of_mem _ hy))
      intro e
      subst e
      exact h1 hy
    rw [List.length_erase_of_mem hx] at this
    have := List.length_pos_of_mem hx
    rw [List.length_cons]
    omega
/-- all states there are -/
def allSta (n e : Nat) : List Sta := (List.range (n + 1)).flatMap fun b => (List.range (e + 1)).flatMap fun u => [⟨b, false, u⟩, ⟨b, true, u⟩]
theorem allSta_mem {n e : Nat} {s : Sta} (h1 : s.bar ≤ n) (h2 : s.used ≤ e) : s ∈ allSta n e := by
  obtain ⟨b, r, u⟩ := s
  unfold allSta
  rw [List.mem_flatMap]
  refine ⟨b, List.mem_range.mpr (by dsimp only at h1; omega), ?_⟩
  rw [List.mem_flatMap]
  refine ⟨u, List.mem_range.mpr (by dsimp only at h2; omega), ?_⟩
  cases r <;> simp
theorem allSta_len (n e : Nat) : (allSta n e).length = (n + 1) * ((e + 1) * 2) := by
  unfold allSta
  rw [List.length_flatMap]
  have h1 : ∀ b : Nat, ((List.range (e + 1)).flatMap fun u => ([⟨b, false, u⟩, ⟨b, true, u⟩] : List Sta)).length = (e + 1) * 2 := by
    intro b
    rw [List.length_flatMap]
    show ((List.range (e + 1)).map fun _ => 2).sum = _
    rw [List.map_const', List.sum_replicate_nat, List.length_range]
  rw [show (List.range (n + 1)).map (fun b => ((List.range (e + 1)).flatMap fun u => ([⟨b, false, u⟩, ⟨b, true, u⟩] : List Sta)).length) = (List.range (n + 1)).map fun _ => (e + 1) * 2 from List.map_congr_left fun b _ => h1 b]
  rw [List.map_const', List.sum_replicate_nat, List.length_range]
section
variable {K : PySem.W.Frag} {H : Hp}
theorem dp_state {v : V} {s : Sta} (h : Dp K H v (stateD s)) : ∃ p, v = .ref p ∧ SqT K H p (stateV s) := by
  cases h with
  | tup s a =>
    obtain ⟨v0, v1, v2, rfl, h0, h1, h2⟩ := dpa3 a
    cases h0
    cases h1
    cases h2
    exact ⟨_, rfl, s⟩
theorem dp_state_of {p : Addr} {s : Sta} (h : SqT K H p (stateV s)) : Dp K H (.ref p) (stateD s) := .tup h (.cons (.int _) (.cons (.str _) (.cons (.int _) .nil)))
end
theorem sideS_inj {a b : Bool} (h : sideS a = sideS b) : a = b := by
  cases a <;> cases b
  · rfl
  · exact absurd h (by decide +kernel)
  · exact absurd h (by decide +kernel)
  · rfl
theorem sc_is_state : FnScope ["part", "desk", "thing"] ["part", "desk", "thing"] (defScope s_is_state) := ⟨rfl, rfl, rfl, by decide +kernel, rfl, by decide +kernel, by decide +kernel⟩
section
variable {K : PySem.W.Frag} {mg : Str → Option Value}
theorem b_is_state (T : Txt K mg) : Binds K (fdOf K ("is_state", none)) ["part", "desk", "thing"] [] := T.is_state.bindsN fun _ _ _ _ _ _ us hl => match us, hl with | [_, _, _], _ => rfl
end
def isSideB : PyData → Bool
  | .str s => inV (.str s) [.str (Str.ofString "left"), .str (Str.ofString "right")]
  | _ => false
/-- what is a state -/
def isStaB (n : Nat) (e : Int) : PyData → Bool
  | .tuple [x, y, z] => isNum x 0 n && (isSideB y && isNum z 0 e)
  | _ => false
theorem isStaB_len {n : Nat} {e : Int} {ds : List PyData} (h : ds.length ≠ 3) : isStaB n e (.tuple ds) = false := by
  match ds, h with
  | [], _ => rfl
  | [_], _ => rfl
  | [_, _], _ => rfl
  | [_, _, _], h => exact absurd rfl h
  | _ :: _ :: _ :: _ :: _, _ => rfl
def sp_is_state (K : PySem.W.Frag) : Sp := fun vs H Q _ => ∃ (p q : Addr) (bs : List Bar) (past : List (List Bar)) (x y : V) (k : Desk) (d : PyData), vs = [.ref p, x, y] ∧ PartX K H p q bs past ∧ Dp K H x (deskD k) ∧ Dp K H y d ∧ bs.length ≤ 1000 ∧ Q (.bl (isStaB bs.length k.empty d)) H
theorem ok_is_state {P : Program} {w : World} {K : PySem.W.Frag} {mg : Str → Option Value} {base : Heap} (T : Txt K mg) : OkF P w K mg base CX0 3 ("is_state", none) ["part", "desk", "thing"] (sp_is_state K) := by
  refine okN T.is_state sc_is_state (fun vs H Q E h => ?_) (fun cdv A outer s H vs Q E hr h => ?_)
  · obtain ⟨p, q, bs, past, x, y, k, d, rfl, _⟩ := h
    rfl
  · obtain ⟨p, q, bs, past, x, y, k, d, rfl, hp, hx, hy, hbl, z⟩ := h
    obtain ⟨dx, rr, ws0, h1, _⟩ := id hp
    obtain ⟨dk, rfl, hdk⟩ := dp_desk hx
    refine ⟨_, (pss_cons (ps_if (PW.pt (pw_or (pt_not (pt_val (pe_callB call_isi (by rfl) T.b_isinstance (by decide +kernel) (pa_cons (pv 2) (pa_cons (pe_bltn (v := .ty "tuple") (by rfl) T.b_tuple (by decide +kernel) rfl) pa_nil))))) (pw_or (pt_cmpR op_ne (pe_callB call_len (by rfl) T.b_len PySem.boot_len (pa_cons (pv 2) pa_nil)) pe_int (nomark _)) (pw_or1 (pt_not (pt_val (pe_call (ok_is_number T) (hr.mono (by decide)) (by rfl) T.g_is_number T.is_number.kp (b_is_number T) .nil pass0 (pa_cons (pe_ix ix_tup (pv 2) pe_int (fun _ _ => rfl)) (pa_cons pe_int (pa_cons (pe_callB (call_lenP T (ok_Part_len T) (hr.mono (by decide))) (by rfl) T.b_len PySem.boot_len (pa_cons (pv 0) pa_nil)) pa_nil)))))))))) (pss_one (ps_ret pe_bl)) pss_nil)
      (pss_one (ps_ret (pe_and (pe_callB call_isi (by rfl) T.b_isinstance (by decide +kernel) (pa_cons (pe_ix ix_tup (pv 2) pe_int (fun _ _ => rfl)) (pa_cons (pe_bltn (v := .ty "str") (by rfl) T.b_str (by decide +kernel) rfl) pa_nil))) (pe_and (pe_cmpR op_in_seq (pe_ix ix_tup (pv 2) pe_int (fun _ _ => rfl)) (pe_glob (v := .ref (He.ga K "SIDES")) (by rfl) T.g_SIDES rfl) (by rfl)) (pe_one (pe_call (ok_is_number T) (hr.mono (by decide)) (by rfl) T.g_is_number T.is_number.kp (b_is_number T) .nil pass0 (pa_cons (pe_ix ix_tup (pv 2) pe_int (fun _ _ => rfl)) (pa_cons pe_int (pa_cons (pe_ix ix_tup (pv 1) pe_int (fun _ _ => rfl)) pa_nil)))))))))), ?_⟩
    refine ⟨_, rfl, _, _, _, _, _, rfl, .ty _, dp_ty hy, kit_tup d, _, rfl, ?_⟩
    cases d with
    | tuple ds =>
      cases hy with
      | tup hs ha =>
        rename_i t vs
        have hl := dpa_len ha
        refine iteF ⟨_, rfl, _, _, rfl, .inr ⟨_, hs, rfl⟩, rfl, _, rfl, ite2NQ (fun ne => ?_) (fun eq => ?_)⟩
        · rw [isStaB_len (by omega)] at z
          exact z
        · obtain ⟨d0, d1, d2, rfl⟩ : ∃ d0 d1 d2, ds = [d0, d1, d2] := by
            match ds, (show ds.length = 3 by omega) with
            | [a, b, c], _ => exact ⟨a, b, c, rfl⟩
          obtain ⟨v0, v1, v2, rfl, e0, e1, e2⟩ := dpa3 ha
          refine ⟨_, rfl, t, _, _, _, rfl, rfl, hs, rfl, _, rfl, p, dx, _, rfl, h1, p, q, bs, past, rfl, hp, bs.length, rfl, by omega, _, d0, _, _, rfl, e0, _, rfl, ?_⟩
          have zz : Q (.bl (isNum d0 0 bs.length && (isSideB d1 && isNum d2 0 k.empty))) H := z
          cases hn : isNum d0 0 (bs.length : Int) with
          | false =>
            rw [hn] at zz
            exact iteT zz
          | true =>
            rw [hn] at zz
            refine iteF ?_
            refine ⟨_, rfl, t, _, _, _, rfl, rfl, hs, rfl, _, _, _, _, _, rfl, .ty _, dp_ty e1, kit_str d1, _, rfl, ?_⟩
            cases d1 with
            | str sd =>
              cases e1
              refine iteT ⟨_, rfl, t, _, _, _, rfl, rfl, hs, rfl, _, _, rfl, .inr (tupIs_ok T.t_SIDES _), rfl, rfl, _, rfl, ?_⟩
              replace zz : Q (.bl (inV (.str sd) [.str (Str.ofString "left"), .str (Str.ofString "right")] && isNum d2 0 k.empty)) H := zz
              show if inV (V.str sd) [.str (Str.ofString "left"), .str (Str.ofString "right")] = true then _ else _
              cases hi : inV (V.str sd) [.str (Str.ofString "left"), .str (Str.ofString "right")] with
              | false =>
                rw [hi] at zz
                exact iteF zz
              | true =>
                rw [hi] at zz
                exact iteT ⟨_, rfl, t, _, _, _, rfl, rfl, hs, rfl, _, rfl, dk, _, _, _, rfl, rfl, hdk, rfl, _, d2, _, _, rfl, e2, zz⟩
            | _ => exact iteF zz
    | _ => exact iteT z
theorem sc_begin_of : FnScope ["desk"] ["desk"] (defScope s_begin_of) := ⟨rfl, rfl, rfl, by decide +kernel, rfl, by decide +kernel, by decide +kernel⟩
section
variable {K : PySem.W.Frag} {mg : Str → Option Value}
theorem b_begin_of (T : Txt K mg) : Binds K (fdOf K ("begin_of", none)) ["desk"] [] := T.begin_of.bindsN fun _ _ _ _ _ _ us hl => match us, hl with | [_], _ => rfl
end
def first (k : Desk) : Sta := ⟨0, k.side, 0⟩
theorem first_ok {bs : List Bar} {k : Desk} (h : DeskOk k) : StaOk bs k (first k) := ⟨Nat.zero_le _, h.e0⟩
def sp_begin_of (K : PySem.W.Frag) : Sp := fun vs H Q _ => ∃ (x : V) (k : Desk), vs = [x] ∧ Dp K H x (deskD k) ∧ ∀ c, H c = none → Q (.ref c) (upd H c (.tup (stateV (first k))))
theorem ok_begin_of {P : Program} {w : World} {K : PySem.W.Frag} {mg : Str → Option Value} {base : Heap} (T : Txt K mg) : OkF P w K mg base CX0 1 ("begin_of", none) ["desk"] (sp_begin_of K) := by
  refine okN T.begin_of sc_begin_of (fun vs H Q E h => ?_) (fun cdv A outer s H vs Q E hr h => ?_)
  · obtain ⟨x, k, rfl, _⟩ := h
    rfl
  · obtain ⟨x, k, rfl, hx, z⟩ := h
    obtain ⟨dk, rfl, hdk⟩ := dp_desk hx
    refine ⟨_, (pss_one (ps_ret (pe_tup (pa_cons pe_int (pa_cons (pe_ix ix_tup (pv 0) pe_int (fun _ _ => rfl)) (pa_cons pe_int pa_nil)))))), ?_⟩
    exact ⟨_, rfl, dk, _, _, _, rfl, rfl, hdk, rfl, by show (3 : Nat) ≤ sizeLine; decide, fun c nc => z c nc⟩
/-! ### what shows that there is no layout -/
def unSta : PyData → Sta
  | .tuple [.int i, .str s, .int j] => ⟨i.toNat, decide (s = Str.ofString "right"), j.toNat⟩
  | _ => ⟨0, false, 0⟩
theorem side_of {s : Str} (h : isSideB (.str s) = true) : sideS (decide (s = Str.ofString "right")) = s := by
  have h' : (eqV (.str (Str.ofString "left")) (.str s) || (eqV (.str (Str.ofString "right")) (.str s) || false)) = true := h
  simp only [eqV, Bool.or_false, Bool.or_eq_true, beq_iff_eq] at h'
  rcases h' with h' | h'
  · subst h'
    rw [show decide (Str.ofString "left" = Str.ofString "right") = false by decide +kernel]
    rfl
  · subst h'
    rw [decide_eq_true rfl]
    rfl
theorem isSta_of {n : Nat} {e : Int} {d : PyData} (h : isStaB n e d = true) : d = stateD (unSta d) ∧ (unSta d).bar ≤ n ∧ ((unSta d).used : Int) ≤ e := by
  match d, h with
  | .tuple [x, y, z], h =>
    have h' : (isNum x 0 n && (isSideB y && isNum z 0 e)) = true := h
    simp only [Bool.and_eq_true] at h'
    obtain ⟨h1, h2, h3⟩ := h'
    match x, y, z, h1, h2, h3 with
    | .int i, .str s, .int j, h1, h2, h3 =>
      simp only [isNum, Bool.and_eq_true, decide_eq_true_eq] at h1 h3
      have hs := side_of h2
      refine ⟨?_, ?_, ?_⟩
      · show PyData.tuple [.int i, .str s, .int j] = PyData.tuple [.int ((i.toNat : Nat) : Int), .str (sideS (decide (s = Str.ofString "right"))), .int ((j.toNat : Nat) : Int)]
        rw [hs, Int.toNat_of_nonneg h1.1, Int.toNat_of_nonneg h3.1]
      · show i.toNat ≤ n
        omega
      · show ((j.toNat : Nat) : Int) ≤ e
        omega
theorem unSta_state (s : Sta) : unSta (stateD s) = s := by
  obtain ⟨b, r, u⟩ := s
  show Sta.mk ((b : Int).toNat) (decide (sideS r = Str.ofString "right")) ((u : Int).toNat) = _
  rw [Int.toNat_natCast, Int.toNat_natCast]
  cases r
  · rw [show decide (sideS false = Str.ofString "right") = false by decide +kernel]
  · rw [show decide (sideS true = Str.ofString "right") = true by decide +kernel]
theorem isSta_state {n : Nat} {e : Int} (s : Sta) : isStaB n e (stateD s) = (decide (s.bar ≤ n) && decide ((s.used : Int) ≤ e)) := by
  obtain ⟨b, r, u⟩ := s
  show (isNum (.int (b : Int)) 0 n && (isSideB (.str (sideS r)) && isNum (.int (u : Int)) 0 e)) = _
  have h1 : isSideB (.str (sideS r)) = true := by cases r <;> decide +kernel
  rw [h1, Bool.true_and]
  simp only [isNum]
  rw [decide_eq_true (show (0 : Int) ≤ (b : Int) by omega), decide_eq_true (show (0 : Int) ≤ (u : Int) by omega), Bool.true_and, Bool.true_and]
  congr 1
  by_cases h : b ≤ n
  · rw [decide_eq_true h, decide_eq_true (by omega)]
  · rw [decide_eq_false h, decide_eq_false (by omega)]
def showsS (bs : List Bar) (k : Desk) (ss : List Sta) : Bool := decide (first k ∈ ss) && ss.all fun s => !decide (s.bar = bs.length) && (stepsL bs k s).all fun x => decide (x.2 ∈ ss)
def showsG (bs : List Bar) (k : Desk) : PyData → Bool
  | .tuple ds => ds.all (isStaB bs.length k.empty) && showsS bs k (ds.map unSta)
  | _ => false
theorem states_of {n : Nat} {e : Int} : ∀ {ds : List PyData}, ds.all (isStaB n e) = true → (ds.map unSta).map stateD = ds ∧ ∀ s ∈ ds.map unSta, s.bar ≤ n ∧ (s.used : Int) ≤ e
  | [], _ => ⟨rfl, fun _ h => by cases h⟩
  | d :: ds, h => by
    rw [List.all_cons, Bool.and_eq_true] at h
    obtain ⟨i1, i2⟩ := states_of h.2
    obtain ⟨j1, j2, j3⟩ := isSta_of h.1
    refine ⟨?_, fun s hs => ?_⟩
    · rw [List.map_cons, List.map_cons, i1, ← j1]
    · rcases List.mem_cons.mp hs with e | hs
      · rw [e]
        exact ⟨j2, j3⟩
      · exact i2 s hs
theorem eqv_sta (a b : Sta) : PyData.eqv (stateD a) (stateD b) = true ↔ a = b := by
  constructor
  · intro h
    have h' : (PyData.eqv (.int (a.bar : Int)) (.int (b.bar : Int)) && (PyData.eqv (.str (sideS a.right)) (.str (sideS b.right)) && (PyData.eqv (.int (a.used : Int)) (.int (b.used : Int)) && true))) = true := h
    simp only [PyData.eqv, Bool.and_eq_true, beq_iff_eq, Bool.and_true] at h'
    obtain ⟨h1, h2, h3⟩ := h'
    obtain ⟨x, y, z⟩ := a
    obtain ⟨x', y', z'⟩ := b
    dsimp only at h1 h2 h3
    have e1 : x = x' := by omega
    have e3 : z = z' := by omega
    rw [e1, e3, sideS_inj h2]
  · rintro rfl
    show (PyData.eqv (.int (a.bar : Int)) (.int (a.bar : Int)) && (PyData.eqv (.str (sideS a.right)) (.str (sideS a.right)) && (PyData.eqv (.int (a.used : Int)) (.int (a.used : Int)) && true))) = true
    simp [PyData.eqv]
theorem any_sta (ss : List Sta) (s : Sta) : ((ss.map stateD).any fun z => PyData.eqv z (stateD s)) = decide (s ∈ ss) := by
  rw [Bool.eq_iff_iff, List.any_eq_true, decide_eq_true_iff]
  constructor
  · rintro ⟨z, hz, h⟩
    obtain ⟨t, ht, rfl⟩ := List.mem_map.mp hz
    rw [← (eqv_sta t s).mp h]
    exact ht
  · intro h
    exact ⟨_, List.mem_map.mpr ⟨s, h, rfl⟩, (eqv_sta s s).mpr rfl⟩
theorem showsG_states (bs : List Bar) (k : Desk) (ss : List Sta) : showsG bs k (.tuple (ss.map stateD)) = ((ss.all fun s => decide (s.bar ≤ bs.length) && decide ((s.used : Int) ≤ k.empty)) && showsS bs k ss) := by
  show ((ss.map stateD).all (isStaB bs.length k.empty) && showsS bs k ((ss.map stateD).map unSta)) = _
  rw [List.map_map, show (unSta ∘ stateD) = id from funext unSta_state, List.map_id, List.all_map]
  congr 1
  congr 1
  funext s
  exact isSta_state s
theorem ite2NB' {A B : Prop} {c : Prop} [Decidable c] (h1 : ¬ c → A) (h2 : c → B) : if (!decide c) = true then A else B := by
  by_cases h : c
  · exact iteNN h (h2 h)
  · exact iteNP h (h1 h)
theorem shp_sta (s : Sta) : Shp 1 (stateD s) := shp_tup (shpA_cons (shp_int _) (shpA_cons (shp_str (by cases s.right <;> decide +kernel)) (shpA_cons (shp_int _) shpA_nil)))
theorem shp_stas (ss : List Sta) : Shp 2 (.tuple (ss.map stateD)) := shp_tup (shpA_all fun d hd => by
  obtain ⟨s, _, rfl⟩ := List.mem_map.mp hd
  exact shp_sta s)
theorem sum_take_le : ∀ (ns : List Nat) (i : Nat), (ns.take i).sum ≤ ns.sum
  | [], _ => by simp
  | n :: r, 0 => by simp
  | n :: r, i + 1 => by
    have := sum_take_le r i
    simp only [List.take_succ_cons, List.sum_cons]
    omega
theorem sum_at : ∀ {ns : List Nat} {i : Nat}, i < ns.length → ns.getD i 0 ≤ (ns.take (i + 1)).sum
  | [], _, h => by simp at h
  | n :: r, 0, _ => by simp
  | n :: r, i + 1, h => by
    have := sum_at (ns := r) (i := i) (by simpa using h)
    simp only [List.take_succ_cons, List.sum_cons, List.getD_cons_succ]
    omega
theorem numsV_at {ns : List Nat} {i : Nat} (h : i < ns.length) : (numsV ns)[i]? = some (.int ((ns.getD i 0 : Nat) : Int)) := by
  rw [List.getElem?_map, List.getElem?_eq_getElem h, List.getD_eq_getElem?_getD, List.getElem?_eq_getElem h]
  rfl
theorem numsV_sum : ∀ ns : List Nat, (ns.map fun (n : Nat) => (n : Int)).sum = ((ns.sum : Nat) : Int)
  | [] => rfl
  | n :: r => by
    simp only [List.map_cons, List.sum_cons, numsV_sum r]
    omega
theorem count_nums : ∀ ns : List Nat, (numsD ns).countP (fun z => PyData.eqv z (.int 0)) = ns.count 0
  | [] => rfl
  | n :: r => by
    have e : PyData.eqv (.int (n : Int)) (.int 0) = (n == 0) := by
      simp only [PyData.eqv]
      rw [Bool.eq_iff_iff]
      simp
    simp only [List.map_cons, List.countP_cons, List.count_cons, count_nums r, e]
def isNat0 : PyData → Bool
  | .int i => decide (0 ≤ i)
  | _ => false
def areNums : PyData → Bool
  | .tuple ds => ds.all isNat0
  | _ => false
theorem areNums_nums : ∀ ns : List Nat, areNums (.tuple (numsD ns)) = true
  | [] => rfl
  | n :: r => by
    show (decide (0 ≤ (n : Int)) && (numsD r).all isNat0) = true
    rw [decide_eq_true (Int.natCast_nonneg n), show (numsD r).all isNat0 = true from areNums_nums r]
    rfl
theorem nums_of_are : ∀ {ds : List PyData}, ds.all isNat0 = true → ∃ ns : List Nat, ds = numsD ns
  | [], _ => ⟨[], rfl⟩
  | d :: ds, h => by
    obtain ⟨h1, h2⟩ := Bool.and_eq_true_iff.mp h
    obtain ⟨ns, rfl⟩ := nums_of_are h2
    cases d with
    | int i =>
      have h3 : 0 ≤ i := of_decide_eq_true h1
      exact ⟨i.toNat :: ns, by
        show _ = PyData.int ((i.toNat : Nat) : Int) :: numsD ns
        rw [Int.toNat_of_nonneg h3]⟩
    | _ => cases h1
/-- the first fault of any thing -/
def faultAny (bs : List Bar) (k : Desk) (d : PyData) (ns : List Nat) : Option Wrong := if areNums d = true then faultN bs k ns else some .form
def natsOf : PyData → List Nat
  | .tuple ds => ds.map fun d => match d with
    | .int i => i.toNat
    | _ => 0
  | _ => []
theorem natsOf_nums (ns : List Nat) : natsOf (.tuple (numsD ns)) = ns := by
  show (numsD ns).map _ = ns
  rw [List.map_map]
  exact List.map_id'' (fun n => rfl) ns
def faultG (bs : List Bar) (k : Desk) (d : PyData) : Option Wrong := if areNums d = true then faultN bs k (natsOf d) else some .form
theorem faultFrom_step {bs : List Bar} {k : Desk} {ns : List Nat} {i m : Nat} : faultFrom bs k ns i (m + 1) = match pageFault bs k ns i with
    | some x => some x
    | none => faultFrom bs k ns (i + 1) m := rfl
theorem dp_none {K : PySem.W.Frag} {H : Hp} {v : V} (h : Dp K H v .none) : v = .non := by
  cases h
  rfl
theorem dp_wrong {K : PySem.W.Frag} {H : Hp} {v : V} {x : Wrong} (h : Dp K H v (wrongD x)) : v ≠ .non := by
  intro e
  subst e
  cases x <;> cases h
theorem sc_is_row : FnScope ["part", "desk", "thing"] ["part", "desk", "thing"] (defScope s_is_row) := ⟨rfl, rfl, rfl, by decide +kernel, rfl, by decide +kernel, by decide +kernel⟩
section
variable {K : PySem.W.Frag} {mg : Str → Option Value}
theorem b_is_row (T : Txt K mg) : Binds K (fdOf K ("is_row", none)) ["part", "desk", "thing"] [] := T.is_row.bindsN fun _ _ _ _ _ _ us hl => match us, hl with | [_, _, _], _ => rfl
end
def isRowB (n : Nat) (e : Int) : PyData → Bool
  | .tuple [x, y] => isStaB n e x && isNat0 y
  | _ => false
theorem isRowB_len {n : Nat} {e : Int} {ds : List PyData} (h : ds.length ≠ 2) : isRowB n e (.tuple ds) = false := by
  match ds, h with
  | [], _ => rfl
  | [_], _ => rfl
  | [_, _], h => exact absurd rfl h
  | _ :: _ :: _ :: _, _ => rfl
def sp_is_row (K : PySem.W.Frag) : Sp := fun vs H Q _ => ∃ (p q : Addr) (bs : List Bar) (past : List (List Bar)) (x y : V) (k : Desk) (d : PyData), vs = [.ref p, x, y] ∧ PartX K H p q bs past ∧ Dp K H x (deskD k) ∧ Dp K H y d ∧ bs.length ≤ 1000 ∧ Q (.bl (isRowB bs.length k.empty d)) H
theorem ok_is_row {P : Program} {w : World} {K : PySem.W.Frag} {mg : Str → Option Value} {base : Heap} (T : Txt K mg) : OkF P w K mg base CX0 4 ("is_row", none) ["part", "desk", "thing"] (sp_is_row K) := by
  refine okN T.is_row sc_is_row (fun vs H Q E h => ?_) (fun cdv A outer s H vs Q E hr h => ?_)
  · obtain ⟨p, q, bs, past, x, y, k, d, rfl, _⟩ := h
    rfl
  · obtain ⟨p, q, bs, past, x, y, k, d, rfl, hp, hx, hy, hbl, z⟩ := h
    refine ⟨_, (pss_cons (ps_if (PW.pt (pw_or (pt_not (pt_val (pe_callB call_isi (by rfl) T.b_isinstance (by decide +kernel) (pa_cons (pv 2) (pa_cons (pe_bltn (v := .ty "tuple") (by rfl) T.b_tuple (by decide +kernel) rfl) pa_nil))))) (pw_or (pt_cmpR op_ne (pe_callB call_len (by rfl) T.b_len PySem.boot_len (pa_cons (pv 2) pa_nil)) pe_int (nomark _)) (pw_or1 (pt_not (pt_val (pe_call (ok_is_state T) (hr.mono (by decide)) (by rfl) T.g_is_state T.is_state.kp (b_is_state T) .nil pass0 (pa_cons (pv 0) (pa_cons (pv 1) (pa_cons (pe_ix ix_tup (pv 2) pe_int (fun _ _ => rfl)) pa_nil)))))))))) (pss_one (ps_ret pe_bl)) pss_nil)
      (pss_one (ps_ret (pe_and (pe_callB call_isi (by rfl) T.b_isinstance (by decide +kernel) (pa_cons (pe_ix ix_tup (pv 2) pe_int (fun _ _ => rfl)) (pa_cons (pe_bltn (v := .ty "int") (by rfl) T.b_int (by decide +kernel) rfl) pa_nil))) (pe_and (pe_not (pe_callB call_isi (by rfl) T.b_isinstance (by decide +kernel) (pa_cons (pe_ix ix_tup (pv 2) pe_int (fun _ _ => rfl)) (pa_cons (pe_bltn (v := .ty "bool") (by rfl) T.b_bool (by decide +kernel) rfl) pa_nil)))) (pe_one (pe_cmpR op_ge (pe_ix ix_tup (pv 2) pe_int (fun _ _ => rfl)) pe_int (nomark _)))))))), ?_⟩
    refine ⟨_, rfl, _, _, _, _, _, rfl, .ty _, dp_ty hy, kit_tup d, _, rfl, ?_⟩
    cases d with
    | tuple ds =>
      cases hy with
      | tup hs ha =>
        rename_i t vs
        have hl := dpa_len ha
        refine iteF ⟨_, rfl, _, _, rfl, .inr ⟨_, hs, rfl⟩, rfl, _, rfl, ite2NQ (fun ne => ?_) (fun eq => ?_)⟩
        · rw [isRowB_len (by omega)] at z
          exact z
        · obtain ⟨d0, d1, rfl⟩ : ∃ d0 d1, ds = [d0, d1] := by
            match ds, (show ds.length = 2 by omega) with
            | [a, b], _ => exact ⟨a, b, rfl⟩
          obtain ⟨v0, v1, rfl, e0, e1⟩ := dpa2 ha
          refine ⟨_, rfl, _, rfl, _, rfl, t, _, _, _, rfl, rfl, hs, rfl, p, q, bs, past, x, _, k, d0, rfl, hp, hx, e0, hbl, _, rfl, ?_⟩
          have zz : Q (.bl (isStaB bs.length k.empty d0 && isNat0 d1)) H := z
          cases hn : isStaB bs.length k.empty d0 with
          | false =>
            rw [hn] at zz
            exact iteT zz
          | true =>
            rw [hn] at zz
            refine iteF ?_
            refine ⟨_, rfl, t, _, _, _, rfl, rfl, hs, rfl, _, _, _, _, _, rfl, .ty _, dp_ty e1, kit_int d1, _, rfl, ?_⟩
            cases d1 with
            | int i =>
              cases e1
              refine iteT ⟨_, rfl, t, _, _, _, rfl, rfl, hs, rfl, _, _, _, _, _, rfl, .ty _, dp_ty (.int i), kit_bool (.int i), _, rfl, _, rfl, iteT ⟨_, rfl, t, _, _, _, rfl, rfl, hs, rfl, _, _, rfl, rfl, ?_⟩⟩
              exact zz
            | bool b =>
              cases e1
              exact iteT ⟨_, rfl, t, _, _, _, rfl, rfl, hs, rfl, _, _, _, _, _, rfl, .ty _, dp_ty (.bl b), kit_bool (.bool b), _, rfl, _, rfl, iteF zz⟩
            | _ => exact iteF zz
    | _ => exact iteT z
/-! ### the walk through the states, as the program walks -/
theorem nodup1 {α : Type} (x : α) : [x].Nodup := List.nodup_cons.mpr ⟨by simp, List.nodup_nil⟩
abbrev Ent := Sta × (Nat × List Nat)
abbrev keysE (f : List Ent) : List Sta := f.map (·.1)
def look (f : List Ent) (s : Sta) : Option (Nat × List Nat) := (f.find? fun e => decide (e.1 = s)).map (·.2)
def bfsAdd (p : Nat) (row : List Nat) : List Ent → List Sta → List (Nat × Sta) → List Ent × List Sta
  | f, td, [] => (f, td)
  | f, td, (m, s) :: r => if s ∈ keysE f then bfsAdd p row f td r else bfsAdd p row (f ++ [(s, (p + 1, row ++ [m]))]) (td ++ [s]) r
inductive Bfs (bs : List Bar) (k : Desk) : List Ent → List Sta → List Ent → Prop
  | done (f : List Ent) : Bfs bs k f [] f
  | step {f g : List Ent} {td : List Sta} {s : Sta} {p : Nat} {row : List Nat} : look f s = some (p, row) → Bfs bs k (bfsAdd p row f td (stepsL bs k s)).1 (bfsAdd p row f td (stepsL bs k s)).2 g → Bfs bs k f (s :: td) g
theorem Bfs.det {bs : List Bar} {k : Desk} {f g g' : List Ent} {td : List Sta} (h : Bfs bs k f td g) (h' : Bfs bs k f td g') : g = g' := by
  induction h with
  | done f => cases h'; rfl
  | step e1 _ ih =>
    cases h' with
    | step e2 h2 =>
      rw [e1] at e2
      cases e2
      exact ih h2
theorem look_mem {f : List Ent} {s : Sta} {x : Nat × List Nat} (h : look f s = some x) : (s, x) ∈ f := by
  unfold look at h
  obtain ⟨e, he, e2⟩ := Option.map_eq_some_iff.mp h
  have h1 := List.mem_of_find?_eq_some he
  have h2 := List.find?_some he
  have h3 : e.1 = s := of_decide_eq_true h2
  obtain ⟨a, b⟩ := e
  dsimp only at h3 e2
  rw [← h3, ← e2]
  exact h1
theorem look_of {f : List Ent} {s : Sta} {x : Nat × List Nat} (nd : (keysE f).Nodup) (h : (s, x) ∈ f) : look f s = some x := by
  unfold look
  induction f with
  | nil => cases h
  | cons e r ih =>
    obtain ⟨n1, n2⟩ := List.nodup_cons.mp nd
    rw [List.find?_cons]
    rcases List.mem_cons.mp h with h | h
    · subst h
      rw [decide_eq_true rfl]
      rfl
    · have ne : e.1 ≠ s := fun z => n1 (List.mem_map.mpr ⟨(s, x), h, z.symm⟩)
      rw [decide_eq_false ne]
      exact ih n2 h
theorem look_key {f : List Ent} {s : Sta} (h : s ∈ keysE f) : ∃ x, look f s = some x := by
  obtain ⟨e, he, rfl⟩ := List.mem_map.mp h
  unfold look
  cases q : f.find? fun e' => decide (e'.1 = e.1) with
  | none =>
    have := List.find?_eq_none.mp q e he
    exact absurd (decide_eq_true rfl) this
  | some y => exact ⟨y.2, rfl⟩
/-- what holds on the way -/
structure Walk1 (bs : List Bar) (k : Desk) (b : Sta) (f : List Ent) (dn td : List Sta) : Prop where
  keys : keysE f = dn ++ td
  nd : (keysE f).Nodup
  path : ∀ e ∈ f, Path bs k b e.2.2 e.1 ∧ e.2.2.length = e.2.1
  first : (b, (0, [])) ∈ f
  sorted : f.Pairwise fun x y => x.2.1 ≤ y.2.1
  near : ∀ s p row, s ∈ td.head? → (s, (p, row)) ∈ f → ∀ e ∈ f, e.2.1 ≤ p + 1
  closed : ∀ s ∈ dn, ∀ p row, (s, (p, row)) ∈ f → ∀ m t, (m, t) ∈ stepsL bs k s → ∃ e ∈ f, e.1 = t ∧ e.2.1 ≤ p + 1
theorem bfsAdd_mono {p : Nat} {row : List Nat} : ∀ {l : List (Nat × Sta)} {f : List Ent} {td : List Sta}, ∀ e ∈ f, e ∈ (bfsAdd p row f td l).1
  | [], f, td, e, he => he
  | (m, s) :: r, f, td, e, he => by
    unfold bfsAdd
    split
    · exact bfsAdd_mono e he
    · exact bfsAdd_mono e (List.mem_append_left _ he)
theorem bfsAdd_has {p : Nat} {row : List Nat} : ∀ {l : List (Nat × Sta)} {f : List Ent} {td : List Sta}, ∀ m s, (m, s) ∈ l → s ∈ keysE (bfsAdd p row f td l).1
  | [], f, td, m, s, h => by cases h
  | (m', s') :: r, f, td, m, s, h => by
    unfold bfsAdd
    rcases List.mem_cons.mp h with h | h
    · cases h
      split
      · rename_i hk
        obtain ⟨e, he, e2⟩ := List.mem_map.mp hk
        exact List.mem_map.mpr ⟨e, bfsAdd_mono e he, e2⟩
      · exact List.mem_map.mpr ⟨(s', (p + 1, row ++ [m'])), bfsAdd_mono _ (by simp), rfl⟩
    · split
      · exact bfsAdd_has m s h
      · exact bfsAdd_has m s h
/-- what is added -/
theorem bfsAdd_grow {p : Nat} {row : List Nat} : ∀ {l : List (Nat × Sta)} {f : List Ent} {td : List Sta}, (keysE f).Nodup → ∃ new : List Ent, (bfsAdd p row f td l).1 = f ++ new ∧ (bfsAdd p row f td l).2 = td ++ keysE new ∧ (keysE (f ++ new)).Nodup ∧ ∀ e ∈ new, ∃ m, (m, e.1) ∈ l ∧ e.2 = (p + 1, row ++ [m])
  | [], f, td, nd => ⟨[], by simp [bfsAdd], by simp [bfsAdd], by simpa using nd, fun e he => by cases he⟩
  | (m, s) :: r, f, td, nd => by
    unfold bfsAdd
    split
    · obtain ⟨new, h1, h2, h3, h4⟩ := bfsAdd_grow (p := p) (row := row) (l := r) (td := td) nd
      exact ⟨new, h1, h2, h3, fun e he => let ⟨m', a, b⟩ := h4 e he; ⟨m', List.mem_cons_of_mem _ a, b⟩⟩
    · rename_i hk
      have nd2 : (keysE (f ++ [(s, (p + 1, row ++ [m]))])).Nodup := by
        rw [show keysE (f ++ [(s, (p + 1, row ++ [m]))]) = keysE f ++ [s] from List.map_append]
        rw [List.nodup_append]
        refine ⟨nd, nodup1 _, fun a ha b hb => ?_⟩
        rw [List.mem_singleton.mp hb]
        intro e
        rw [e] at ha
        exact hk ha
      obtain ⟨new, h1, h2, h3, h4⟩ := bfsAdd_grow (p := p) (row := row) (l := r) (td := td ++ [s]) nd2
      refine ⟨(s, (p + 1, row ++ [m])) :: new, ?_, ?_, ?_, fun e he => ?_⟩
      · rw [h1, List.append_assoc]
        rfl
      · rw [h2, List.append_assoc]
        rfl
      · rw [List.append_assoc] at h3
        exact h3
      · rcases List.mem_cons.mp he with he | he
        · subst he
          exact ⟨m, List.mem_cons_self, rfl⟩
        · obtain ⟨m', a, b⟩ := h4 e he
          exact ⟨m', List.mem_cons_of_mem _ a, b⟩
theorem key_uniq {f : List Ent} (nd : (keysE f).Nodup) {s : Sta} {x y : Nat × List Nat} (h1 : (s, x) ∈ f) (h2 : (s, y) ∈ f) : x = y := by
  have e1 := look_of nd h1
  have e2 := look_of nd h2
  rw [e1] at e2
  exact Option.some.inj e2
theorem Walk1.start (bs : List Bar) (k : Desk) (b : Sta) : Walk1 bs k b [(b, (0, []))] [] [b] where
  keys := rfl
  nd := nodup1 _
  path := fun e he => by
    rw [List.mem_singleton.mp he]
    exact ⟨.nil _, rfl⟩
  first := List.mem_singleton.mpr rfl
  sorted := List.pairwise_singleton _ _
  near := fun s p row _ h e he => by
    rw [List.mem_singleton.mp he]
    exact Nat.zero_le _
  closed := fun s hs => by cases hs
theorem Walk1.next {bs : List Bar} {k : Desk} {b s : Sta} {f : List Ent} {dn td : List Sta} {p : Nat} {row : List Nat} (w : Walk1 bs k b f dn (s :: td)) (hl : look f s = some (p, row)) :
    Walk1 bs k b (bfsAdd p row f td (stepsL bs k s)).1 (dn ++ [s]) (bfsAdd p row f td (stepsL bs k s)).2 := by
  obtain ⟨new, h1, h2, h3, h4⟩ := bfsAdd_grow (p := p) (row := row) (l := stepsL bs k s) (td := td) w.nd
  have hs := look_mem hl
  have hpath := w.path _ hs
  have mono : ∀ e ∈ f, e ∈ f ++ new := fun e he => List.mem_append_left _ he
  have up : ∀ e ∈ f ++ new, e.2.1 ≤ p + 1 := by
    intro e he
    rcases List.mem_append.mp he with he | he
    · exact w.near s p row rfl hs e he
    · obtain ⟨m, _, e2⟩ := h4 e he
      rw [e2]
      exact Nat.le_refl _
  have has : ∀ m t, (m, t) ∈ stepsL bs k s → t ∈ keysE (f ++ new) := by
    intro m t hm
    rw [← h1]
    exact bfsAdd_has m t hm
  rw [h1, h2]
  refine ⟨?_, h3, ?_, mono _ w.first, ?_, ?_, ?_⟩
  · rw [show keysE (f ++ new) = keysE f ++ keysE new from List.map_append, w.keys]
    simp
  · intro e he
    rcases List.mem_append.mp he with he | he
    · exact w.path e he
    · obtain ⟨m, hm, e2⟩ := h4 e he
      rw [e2]
      refine ⟨hpath.1.snoc hm, ?_⟩
      show (row ++ [m]).length = p + 1
      rw [List.length_append, hpath.2]
      rfl
  · rw [List.pairwise_append]
    refine ⟨w.sorted, ?_, ?_⟩
    · refine List.Pairwise.imp_of_mem (R := fun _ _ => True) (fun {x y} hx hy _ => ?_) (List.pairwise_of_forall (fun _ _ => trivial))
      obtain ⟨m, _, e2⟩ := h4 x hx
      obtain ⟨m', _, e3⟩ := h4 y hy
      rw [e2, e3]
      exact Nat.le_refl _
    · intro x hx y hy
      obtain ⟨m, _, e2⟩ := h4 y hy
      rw [e2]
      exact w.near s p row rfl hs x hx
  · intro s' p' row' hh hm e he
    -- the next state's pages are no fewer than these
    have hge : p ≤ p' := by
      rcases List.mem_append.mp hm with hm1 | hm1
      · -- s stands ahead of s' in f, or they are one
        have hk : keysE f = dn ++ s :: td := w.keys
        by_cases es : s' = s
        · subst es
          have := key_uniq w.nd hm1 hs
          cases this
          exact Nat.le_refl _
        · have hs' : s' ∈ td := by
            cases td with
            | nil =>
              exfalso
              cases new with
              | nil => cases hh
              | cons n0 r =>
                have e0 : n0.1 = s' := by simpa using hh
                have : s' ∈ keysE f := List.mem_map.mpr ⟨(s', (p', row')), hm1, rfl⟩
                rw [show keysE (f ++ n0 :: r) = keysE f ++ keysE (n0 :: r) from List.map_append, List.nodup_append] at h3
                exact h3.2.2 s' this s' (List.mem_map.mpr ⟨n0, List.mem_cons_self, e0⟩) rfl
            | cons t0 r =>
              have e0 : t0 = s' := by simpa using hh
              rw [e0]
              exact List.mem_cons_self
          -- positions
          obtain ⟨f1, f2, hf, hk1, hk2⟩ : ∃ f1 f2, f = f1 ++ f2 ∧ keysE f1 = dn ∧ keysE f2 = s :: td := List.map_eq_append_iff.mp hk
          have m2 : (s', (p', row')) ∈ f2 := by
            rw [hf] at hm1
            rcases List.mem_append.mp hm1 with hm2 | hm2
            · exfalso
              have nd := w.nd
              rw [w.keys, List.nodup_append] at nd
              have : s' ∈ dn := by
                rw [← hk1]
                exact List.mem_map.mpr ⟨(s', (p', row')), hm2, rfl⟩
              exact nd.2.2 s' this s' (List.mem_cons_of_mem _ hs') rfl
            · exact hm2
          cases f2 with
          | nil => cases m2
          | cons e0 r2 =>
            have ek : e0.1 = s := (List.cons.inj hk2).1
            have e0in : (s, e0.2) ∈ f := by
              rw [hf, ← ek]
              exact List.mem_append_right _ List.mem_cons_self
            have e0p := key_uniq w.nd e0in hs
            rcases List.mem_cons.mp m2 with m2 | m2
            · exfalso
              apply es
              rw [← ek, ← m2]
            · have srt := w.sorted
              rw [hf, List.pairwise_append] at srt
              have := (List.pairwise_cons.mp srt.2.1).1 _ m2
              rw [e0p] at this
              exact this
      · obtain ⟨m, _, e2⟩ := h4 _ hm1
        have e3 : p' = p + 1 := congrArg Prod.fst e2
        omega
    have := up e he
    omega
  · intro s' hs' p' row' hm m t hst
    rcases List.mem_append.mp hs' with hs' | hs'
    · have hk : s' ∈ keysE f := by
        rw [w.keys]
        exact List.mem_append_left _ hs'
      obtain ⟨e0, he0, ek⟩ := List.mem_map.mp hk
      have hin : (s', e0.2) ∈ f := by
        rw [← ek]
        exact he0
      have := key_uniq h3 (mono _ hin) hm
      rw [this] at hin
      obtain ⟨e, he, h5, h6⟩ := w.closed s' hs' p' row' hin m t hst
      exact ⟨e, mono e he, h5, h6⟩
    · have es : s' = s := List.mem_singleton.mp hs'
      subst es
      have := key_uniq h3 (mono _ hs) hm
      cases this
      obtain ⟨e, he, ek⟩ := List.mem_map.mp (has m t hst)
      exact ⟨e, he, ek, up e he⟩
/-- what the walk gives -/
structure Found (bs : List Bar) (k : Desk) (b : Sta) (f : List Ent) : Prop where
  nd : (keysE f).Nodup
  path : ∀ e ∈ f, Path bs k b e.2.2 e.1 ∧ e.2.2.length = e.2.1
  least : ∀ row s, Path bs k b row s → ∃ e ∈ f, e.1 = s ∧ e.2.1 ≤ row.length
theorem Walk1.found {bs : List Bar} {k : Desk} {b : Sta} {f : List Ent} {dn : List Sta} (w : Walk1 bs k b f dn []) : Found bs k b f := by
  refine ⟨w.nd, w.path, fun row s p => ?_⟩
  have go : ∀ (x y : Sta) (row : List Nat), Path bs k x row y → ∀ e ∈ f, e.1 = x → ∃ e' ∈ f, e'.1 = y ∧ e'.2.1 ≤ e.2.1 + row.length := by
    intro x y row p
    induction p with
    | nil s => exact fun e he ek => ⟨e, he, ek, Nat.le_refl _⟩
    | @cons s t u m row hm hp ih =>
      intro e he ek
      have hdn : s ∈ dn := by
        have : s ∈ keysE f := List.mem_map.mpr ⟨e, he, ek⟩
        rw [w.keys, List.append_nil] at this
        exact this
      obtain ⟨e1, he1, k1, k2⟩ := w.closed s hdn e.2.1 e.2.2 (by rw [← ek]; exact he) m t hm
      obtain ⟨e2, he2, k3, k4⟩ := ih e1 he1 k1
      refine ⟨e2, he2, k3, ?_⟩
      rw [List.length_cons]
      omega
  obtain ⟨e, he, k1, k2⟩ := go b s row p _ w.first rfl
  refine ⟨e, he, k1, ?_⟩
  have : ((b, (0, [])) : Ent).2.1 = 0 := rfl
  omega
theorem Walk1.ok {bs : List Bar} {k : Desk} {b : Sta} {f : List Ent} {dn td : List Sta} (w : Walk1 bs k b f dn td) (h : StaOk bs k b) (he : k.empty ≤ 3) : f.length ≤ (bs.length + 1) * 8 := by
  have h1 := sub_len (r := allSta bs.length 3) w.nd fun s hs => by
    obtain ⟨e, hm, rfl⟩ := List.mem_map.mp hs
    have ok := h.path (w.path e hm).1
    refine allSta_mem ok.bar ?_
    have := ok.used
    omega
  rw [allSta_len, List.length_map] at h1
  omega
/-! ### {k: v} with a tuple for a key -/
def tDisp1T (tk tv : TE) : TE := fun σ H Q => ∀ p, H p = none → tPairs [(tk, tv)] σ (upd H p (.dT [])) fun ps H2 => H2 p = some (.dT []) ∧ ∃ k b y, ps = [(.ref b, y)] ∧ H2 b = some (.tup (k.map kV)) ∧ Q (.ref p) (upd H2 p (.dT [(k, y)]))
theorem pe_disp1T {X : Cx} {pos : Pos} {ke ve : Expr} {tk tv : TE} (hu : X.A.units + 1 < cLine) (hk : PE X ke tk) (hv : PE X ve tv) : PE X (.Dict [some ke] [ve] pos) (tDisp1T tk tv) := by
  refine ⟨fun pins s σ H Q I q => ?_⟩
  have hn := I.hok.fresh (Nat.le_refl s.heap.objs.size)
  have I1 := I.laid (a := s.heap.objs.size) (o := .dT []) (h' := s.heap.push { cls := .type "dict", data := .dict #[] }) (t' := s.toks) (fun _ _ q => Heap.get?_push_of_some _ q) (Nat.le_refl _) (dt_empty s.heap I.big)
  refine wpAny_Dict_any rfl rfl (by simp) (by simp) (thn ((pps_cons hk hv pps_nil).run pins _ σ _ _ I1 (q _ hn)) fun ws s2 ⟨ps, H2, I2, rel, e, k, b, y, ep, eb, q2⟩ => ?_)
  subst ep
  cases rel with
  | @cons p0 w0 ps0 ws0 r0 t0 =>
    cases t0
    obtain ⟨u1, u2⟩ := w0
    obtain ⟨r1, r2⟩ := r0
    cases (show u1 = Value.ref b from r1)
    obtain ⟨z, hd, xs, kt, dd⟩ := dt_of I2.hok e
    cases kt
    refine wpAny_storeAllH (knd := tupleKind (mixKind X.prog X.w)) (Nat.lt_of_le_of_lt (Nat.le_succ _) hu) _ [(k, b, u2)] [] s2 _ ⟨rfl, rfl, key_of I2.hok eb, trivial⟩ dd (by rw [sizeLine_eq]; simp) fun h' tk dd' hs => ⟨.ref s.heap.objs.size, _, ?_, rfl, q2⟩
    obtain ⟨o', es, ep, hq, h2, h3, h4, _, h5⟩ := dd'
    refine d_write I2 (by rw [e]; exact True.intro) hs ⟨o', hq⟩ ⟨by rw [sizeLine_eq]; simp, hd, [(k, b, u2)], .cons ⟨rfl, ?_, r2⟩ .nil, o', es, ep, hq, h2, h3, h4, h5⟩
    rw [upd_ne (ne_of eb e (fun z => nomatch z))]
    exact eb
/-! ### states as keys -/
def keyS (s : Sta) : List Key := [.inl (s.bar : Int), .inr (sideS s.right), .inl (s.used : Int)]
theorem keyS_V (s : Sta) : (keyS s).map kV = stateV s := rfl
theorem keyS_inj {s t : Sta} (h : keyS s = keyS t) : s = t := by
  obtain ⟨a, b, c⟩ := s
  obtain ⟨a', b', c'⟩ := t
  injection h with h1 h2
  injection h2 with h2 h3
  injection h3 with h3 _
  have e1 : (a : Int) = (a' : Int) := Sum.inl.inj h1
  have e2 : sideS b = sideS b' := Sum.inr.inj h2
  have e3 : (c : Int) = (c' : Int) := Sum.inl.inj h3
  rw [sideS_inj e2, Int.ofNat.inj e1, Int.ofNat.inj e3]
/-- what a state leads to -/
def entD (x : Nat × List Nat) : PyData := .tuple [.int (x.1 : Int), .tuple (numsD x.2)]
def EntsAt (K : PySem.W.Frag) (H : Hp) : List (List Key × V) → List Ent → Prop
  | [], [] => True
  | kv :: kvs, e :: es => kv.1 = keyS e.1 ∧ Dp K H kv.2 (entD e.2) ∧ EntsAt K H kvs es
  | _, _ => False
theorem isT_ent (x : Nat × List Nat) : isT (entD x) = true := by
  show (isT (.int (x.1 : Int)) && (isTs (numsD x.2) && true)) = true
  rw [isTs_nums]
  rfl
section
variable {K : PySem.W.Frag} {H H' : Hp}
theorem EntsAt.keep (hk : ∀ v d, Dp K H v d → isT d = true → Dp K H' v d) : ∀ {kvs : List (List Key × V)} {f : List Ent}, EntsAt K H kvs f → EntsAt K H' kvs f
  | [], [], _ => trivial
  | _ :: _, _ :: _, h => ⟨h.1, hk _ _ h.2.1 (isT_ent _), EntsAt.keep hk h.2.2⟩
  | [], _ :: _, h => h.elim
  | _ :: _, [], h => h.elim
theorem EntsAt.len : ∀ {kvs : List (List Key × V)} {f : List Ent}, EntsAt K H kvs f → kvs.length = f.length
  | [], [], _ => rfl
  | _ :: _, _ :: _, h => congrArg Nat.succ (EntsAt.len h.2.2)
  | [], _ :: _, h => h.elim
  | _ :: _, [], h => h.elim
theorem EntsAt.snoc : ∀ {kvs : List (List Key × V)} {f : List Ent} {v : V} {e : Ent}, EntsAt K H kvs f → Dp K H v (entD e.2) → EntsAt K H (kvs ++ [(keyS e.1, v)]) (f ++ [e])
  | [], [], _, _, _, h => ⟨rfl, h, trivial⟩
  | _ :: _, _ :: _, _, _, h, h' => ⟨h.1, h.2.1, EntsAt.snoc h.2.2 h'⟩
  | [], _ :: _, _, _, h, _ => h.elim
  | _ :: _, [], _, _, h, _ => h.elim
theorem EntsAt.val : ∀ {kvs : List (List Key × V)} {f : List Ent} (s : Sta), EntsAt K H kvs f → (valV kvs (keyS s) = none ∧ look f s = none) ∨ ∃ v x, valV kvs (keyS s) = some v ∧ look f s = some x ∧ Dp K H v (entD x)
  | [], [], _, _ => .inl ⟨rfl, rfl⟩
  | kv :: kvs, e :: f, s, h => by
    by_cases es : e.1 = s
    · refine .inr ⟨kv.2, e.2, valV_pos (by rw [h.1, es]), ?_, h.2.1⟩
      unfold look
      rw [List.find?_cons, decide_eq_true es]
      rfl
    · have ek : ¬ kv.1 = keyS s := fun z => es (keyS_inj (h.1.symm.trans z))
      have e1 := valV_neg (r := kvs) ek
      have e2 : look (e :: f) s = look f s := by
        unfold look
        rw [List.find?_cons, decide_eq_false es]
      rw [e1, e2]
      exact EntsAt.val s h.2.2
  | [], _ :: _, _, h => h.elim
  | _ :: _, [], _, h => h.elim
theorem look_none {f : List Ent} {s : Sta} : look f s = none ↔ s ∉ keysE f := by
  constructor
  · intro h hk
    obtain ⟨x, hx⟩ := look_key hk
    rw [h] at hx
    cases hx
  · intro h
    cases q : look f s with
    | none => rfl
    | some x => exact absurd (List.mem_map.mpr ⟨_, look_mem q, rfl⟩) h
/-- a dict of states -/
def DictAt (K : PySem.W.Frag) (H : Hp) (d : Addr) (f : List Ent) : Prop := ∃ kvs, H d = some (.dT kvs) ∧ EntsAt K H kvs f
end
/-- a list of states, tracked -/
def StatesAt (H : Hp) : List V → List Sta → Prop
  | [], [] => True
  | v :: vs, s :: ss => (∃ o, v = .ref o ∧ H o = some (.tup (stateV s))) ∧ StatesAt H vs ss
  | _, _ => False
section
variable {H H' : Hp}
theorem StatesAt.keep (ht : ∀ b ys, H b = some (.tup ys) → H' b = some (.tup ys)) : ∀ {vs : List V} {ss : List Sta}, StatesAt H vs ss → StatesAt H' vs ss
  | [], [], _ => trivial
  | _ :: _, _ :: _, h => ⟨let ⟨o, e, z⟩ := h.1; ⟨o, e, ht _ _ z⟩, StatesAt.keep ht h.2⟩
  | [], _ :: _, h => h.elim
  | _ :: _, [], h => h.elim
theorem StatesAt.len : ∀ {vs : List V} {ss : List Sta}, StatesAt H vs ss → vs.length = ss.length
  | [], [], _ => rfl
  | _ :: _, _ :: _, h => congrArg Nat.succ (StatesAt.len h.2)
  | [], _ :: _, h => h.elim
  | _ :: _, [], h => h.elim
theorem StatesAt.snoc : ∀ {vs : List V} {ss : List Sta} {o : Addr} {s : Sta}, StatesAt H vs ss → H o = some (.tup (stateV s)) → StatesAt H (vs ++ [.ref o]) (ss ++ [s])
  | [], [], o, _, _, h => ⟨⟨o, rfl, h⟩, trivial⟩
  | _ :: _, _ :: _, _, _, h, h' => ⟨h.1, StatesAt.snoc h.2 h'⟩
  | [], _ :: _, _, _, h, _ => h.elim
  | _ :: _, [], _, _, h, _ => h.elim
theorem StatesAt.at : ∀ {vs : List V} {ss : List Sta} {i : Nat} {v : V}, StatesAt H vs ss → vs[i]? = some v → ∃ s, ss[i]? = some s ∧ ∃ o, v = .ref o ∧ H o = some (.tup (stateV s))
  | [], [], _, _, _, e => by simp at e
  | _ :: _, x :: _, 0, _, h, e => by
    simp at e
    subst e
    exact ⟨x, rfl, h.1⟩
  | _ :: _, _ :: _, i + 1, v, h, e => by
    obtain ⟨x, e1, e2⟩ := StatesAt.at (i := i) (v := v) h.2 (by simpa using e)
    exact ⟨x, by simpa using e1, e2⟩
  | [], _ :: _, _, _, h, _ => h.elim
  | _ :: _, [], _, _, h, _ => h.elim
theorem small10k {n : Nat} (h : n ≤ 10000) : n < sizeLine := by
  have : sizeLine = 16777216 := sizeLine_eq
  omega
theorem StatesAt.dpa {K : PySem.W.Frag} : ∀ {vs : List V} {ss : List Sta}, StatesAt H vs ss → DpAll K H vs (ss.map stateD)
  | [], [], _ => .nil
  | _ :: _, _ :: _, h => let ⟨_, e, z⟩ := h.1; .cons (by rw [e]; exact dp_state_of (.of z)) (StatesAt.dpa h.2)
  | [], _ :: _, h => h.elim
  | _ :: _, [], h => h.elim
end
theorem sideS_ok (b : Bool) : PyData.strOk (sideS b) = true := by cases b <;> decide +kernel
theorem shp_state (s : Sta) : Shp 1 (stateD s) := shp_tup (shpA_cons (shp_int _) (shpA_cons (shp_str (sideS_ok _)) (shpA_cons (shp_int _) shpA_nil)))
theorem shp_states (ss : List Sta) : Shp 2 (.list (ss.map stateD)) := shp_list (shpA_all fun d hd => by
  obtain ⟨s, _, rfl⟩ := List.mem_map.mp hd
  exact shp_state s)
/-! ### a list of states of one's own -/
def SomeL (H : Hp) (S : Addr) (ss : List Sta) : Prop := ∃ ws, H S = some (.lst ws) ∧ StatesAt H ws ss
theorem SomeL.same {H H' : Hp} {S : Addr} {ss : List Sta} (h : SomeL H S ss) (s : Same H H') : SomeL H' S ss := by
  obtain ⟨ws, h1, h2⟩ := h
  exact ⟨ws, s _ _ h1, h2.keep fun b ys e => s _ _ e⟩
theorem SomeL.fr {ds : List Addr} {H H' : Hp} {S : Addr} {ss : List Sta} (h : SomeL H S ss) (f : Fr ds H H') (n : S ∉ ds) : SomeL H' S ss := by
  obtain ⟨ws, h1, h2⟩ := h
  exact ⟨ws, f.keep _ _ n h1, h2.keep fun b ys e => f.tu _ _ e⟩
theorem StatesAt.app {H : Hp} : ∀ {vs ws : List V} {ss tt : List Sta}, StatesAt H vs ss → StatesAt H ws tt → StatesAt H (vs ++ ws) (ss ++ tt)
  | [], _, [], _, _, h => h
  | _ :: _, _, _ :: _, _, h, h' => ⟨h.1, StatesAt.app h.2 h'⟩
  | [], _, _ :: _, _, h, _ => h.elim
  | _ :: _, _, [], _, h, _ => h.elim
theorem StatesAt.take {H : Hp} : ∀ {vs : List V} {ss : List Sta} (n : Nat), StatesAt H vs ss → StatesAt H (vs.take n) (ss.take n)
  | _, _, 0, _ => trivial
  | [], [], _ + 1, _ => trivial
  | _ :: _, _ :: _, n + 1, h => ⟨h.1, StatesAt.take n h.2⟩
  | [], _ :: _, _ + 1, h => h.elim
  | _ :: _, [], _ + 1, h => h.elim
theorem StatesAt.drop {H : Hp} : ∀ {vs : List V} {ss : List Sta} (n : Nat), StatesAt H vs ss → StatesAt H (vs.drop n) (ss.drop n)
  | _, _, 0, h => h
  | [], [], _ + 1, _ => trivial
  | _ :: _, _ :: _, n + 1, h => StatesAt.drop n h.2
  | [], _ :: _, _ + 1, h => h.elim
  | _ :: _, [], _ + 1, h => h.elim
theorem StatesAt.erase {H : Hp} : ∀ {vs : List V} {ss : List Sta} (n : Nat), StatesAt H vs ss → StatesAt H (vs.eraseIdx n) (ss.eraseIdx n)
  | [], [], _, _ => trivial
  | _ :: _, _ :: _, 0, h => h.2
  | _ :: _, _ :: _, n + 1, h => ⟨h.1, StatesAt.erase n h.2⟩
  | [], _ :: _, _, h => h.elim
  | _ :: _, [], _, h => h.elim
/-! ### tuple(list), known to be plain; dict(tuple of pairs) with tuple keys -/
def tupO (o : Obj) : Prop := o.dict = none ∧ o.cls = .type "tuple"
theorem call_tuple_F {X : Cx} : CallR X (.type "tuple") (fun xs H Q => ∃ p ys, xs = [.ref p] ∧ SqL X.K H p ys ∧ ∀ l o, H l = none → tupO o → Q (.ref l) (upd H l (.frz o (.tup ys)))) := by
  intro pins s σ H xs us Q I r h
  obtain ⟨p, ys, rfl, hq, q⟩ := h
  obtain ⟨u, rfl, rx⟩ := vals1 r
  cases rx
  obtain ⟨its, r', pl, hz⟩ := I.list hq
  have hlen := r'.length
  refine call_tuple_list pl.isList (fun h' kp => ?_) (by simp only [List.size_toArray] <;> omega)
  have I1 : Inv X pins σ H { s with heap := h' } := I.kept (t' := s.toks) kp
  have I2 : Inv X pins σ (upd H h'.objs.size (.frz { cls := .type "tuple", data := .seq its.toArray } (.tup ys))) { s with heap := h'.push { cls := .type "tuple", data := .seq its.toArray } } :=
    I1.laid (t' := s.toks) (fun b o e => Heap.get?_push_of_some _ e) (Nat.le_refl _) (show ObjOk X.prog X.w _ _ _ (.frz _ (.tup ys)) from ⟨Heap.get?_push_size _ rfl, hz, its, r', IsTup.new _ _⟩)
  exact ⟨.ref h'.objs.size, _, I2, rfl, q _ _ (I1.hok.fresh (Nat.le_refl _)) ⟨rfl, rfl⟩⟩
def PairT (H : Hp) (v : V) (kv : List Key × V) : Prop := ∃ t b, v = .ref t ∧ H t = some (.tup [.ref b, kv.2]) ∧ H b = some (.tup (kv.1.map kV))
abbrev putAll (kvs : List (List Key × V)) (acc : List (List Key × V)) : List (List Key × V) := kvs.foldl (fun acc kv => putK acc kv.1 kv.2) acc
def rDictT : List V → Hp → VK → Prop := fun xs H Q => ∃ (a : Addr) (o : Obj) (ws : List V) (kvs : List (List Key × V)), xs = [.ref a] ∧ H a = some (.frz o (.tup ws)) ∧ tupO o ∧ Paired (PairT H) ws kvs ∧
  ∀ d, H d = none → Q (.ref d) (upd H d (.dT (putAll kvs [])))
theorem KT.putAll {H : Hp} {kvs : List (List Key × V)} {ps : List (List Key × Addr × Value)} (h : Paired (fun (p : List Key × V) (q : List Key × Addr × Value) => p.1 = q.1 ∧ H q.2.1 = some (.tup (p.1.map kV)) ∧ RelV p.2 q.2.2) kvs ps) : ∀ {acc : List (List Key × V)} {xs : List (List Key × Addr × Value)}, KT H acc xs → KT H (TL.putAll kvs acc) (storedAllH xs ps) := by
  induction h with
  | nil => exact fun r => r
  | cons h t ih =>
    intro acc xs r
    obtain ⟨h1, h2, h3⟩ := h
    refine ih ?_
    show KT H (putK acc _ _) (storedH xs _ _ _)
    rw [← h1]
    exact r.put _ h2 h3
theorem pairs_at {X : Cx} {pins : List (Addr × Obj)} {σ : L2.St} {H : Hp} {s : Shared} (I : Inv X pins σ H s) {ws : List V} {kvs : List (List Key × V)} (hp : Paired (PairT H) ws kvs) :
    ∃ ps : List (List Key × Addr × Value), Paired (fun (p : List Key × V) (q : List Key × Addr × Value) => p.1 = q.1 ∧ H q.2.1 = some (.tup (p.1.map kV)) ∧ RelV p.2 q.2.2) kvs ps ∧ Paired (fun w (q : List Key × Addr × Value) => ∃ t, w = V.ref t ∧ s.heap.IsTuple t #[.ref q.2.1, q.2.2]) ws ps := by
  induction hp with
  | nil => exact ⟨[], .nil, .nil⟩
  | @cons w kv ws kvs h t ih =>
    obtain ⟨ps, i1, i2⟩ := ih
    obtain ⟨t, b, rfl, h1, h2⟩ := h
    obtain ⟨_, its, rv, ht⟩ := (show ObjOk X.prog X.w H s.heap t (.tup [.ref b, kv.2]) from I.hok t _ h1)
    cases rv with
    | cons r1 rv =>
      cases rv with
      | cons r2 rv =>
        cases rv
        cases r1
        exact ⟨(kv.1, b, _) :: ps, .cons ⟨rfl, h2, r2⟩ i1, .cons ⟨t, rfl, ht⟩ i2⟩
theorem paired_at {α β : Type} {R : α → β → Prop} : ∀ {xs : List α} {ys : List β} {i : Nat} {y : β}, Paired R xs ys → ys[i]? = some y → ∃ x, xs[i]? = some x ∧ R x y
  | _, _, i, y, .nil, e => by simp at e
  | _, _, 0, y, .cons h t, e => by
    simp at e
    subst e
    exact ⟨_, rfl, h⟩
  | _, _, i + 1, y, .cons h t, e => by
    obtain ⟨x, e1, e2⟩ := paired_at (i := i) (y := y) t (by simpa using e)
    exact ⟨x, by simpa using e1, e2⟩
def refAt (ws : List V) (j : Nat) : Addr := match ws[j]? with
  | some (.ref t) => t
  | _ => 0
theorem vals_ref {ws : List V} {its : List Value} (rv : Vals ws its) : ∀ {i : Nat} {t : Addr}, ws[i]? = some (.ref t) → its[i]? = some (.ref t) := by
  induction rv with
  | nil =>
    intro i t e
    simp at e
  | cons h _ ih =>
    intro i t e
    cases i with
    | zero =>
      simp at e
      subst e
      cases h
      rfl
    | succ i => exact ih (by simpa using e)
theorem putK_len (acc : List (List Key × V)) (k : List Key) (v : V) : (putK acc k v).length ≤ acc.length + 1 := by
  unfold putK
  split
  · rw [List.length_map]
    omega
  · rw [List.length_append]
    exact Nat.le_refl _
theorem putAll_len : ∀ (kvs acc : List (List Key × V)), (putAll kvs acc).length ≤ acc.length + kvs.length
  | [], acc => Nat.le_refl _
  | kv :: kvs, acc => by
    have h1 := putAll_len kvs (putK acc kv.1 kv.2)
    have h2 := putK_len acc kv.1 kv.2
    show (putAll kvs (putK acc kv.1 kv.2)).length ≤ _
    rw [List.length_cons]
    omega
theorem cr_dictT {X : Cx} (hcalm : X.calm = true) (hu : X.A.units + 65 < cLine) : CallR X (.type "dict") rDictT := by
  intro pins s σ H xs us Q I r h
  obtain ⟨a, o, ws, kvs, rfl, ha, ho, hp, q⟩ := h
  obtain ⟨u, rfl, rx⟩ := vals1 r
  cases rx
  obtain ⟨hg, hz, its, rv, ht⟩ := (show ObjOk X.prog X.w H s.heap a (.frz o (.tup ws)) from I.hok a _ ha)
  obtain ⟨ps, hps1, hps2⟩ := pairs_at I hp
  have l1 : ws.length = ps.length := Paired.length hps2
  have l2 : kvs.length = ps.length := Paired.length hps1
  have l3 := rv.length
  obtain ⟨o2, g2, c2, n2, d2⟩ := ht
  rw [hg] at g2
  obtain rfl := Option.some.inj g2
  have hpl : PlainSeq "tuple" s.heap a its.toArray := ⟨o, n2, hg, c2, ho.1, d2⟩
  have hpi : PairItems s.heap its.toArray (refAt ws) (ps.map fun p => (Value.ref p.2.1, p.2.2)) := by
    refine ⟨by simp only [List.size_toArray, List.length_map]; omega, fun j k v hj => ?_⟩
    rw [List.getElem?_map] at hj
    cases hpj : ps[j]? with
    | none =>
      rw [hpj] at hj
      cases hj
    | some p1 =>
      rw [hpj] at hj
      have e1 : (Value.ref p1.2.1, p1.2.2) = (k, v) := Option.some.inj hj
      cases e1
      obtain ⟨w, hw, t, rfl, htu⟩ := paired_at hps2 hpj
      have er : refAt ws j = t := by
        unfold refAt
        rw [hw]
      rw [er]
      refine ⟨?_, .inl htu⟩
      have := vals_ref rv hw
      simpa using this
  refine call_dict_pairsH (knd := tupleKind (mixKind X.prog X.w)) (ps := ps) (PairArg.tuple a its.toArray (refAt ws) (ps.map fun p => (Value.ref p.2.1, p.2.2))) (I.ok.hd hcalm) (show X.A.units + 1 + 1 < cLine by omega) ⟨hpl, hpi⟩ ⟨by rw [List.length_map], fun i key v hr => ?_⟩ (fun h' hk x hx => ?_) (by rw [List.length_map]; omega) fun h' tk dd hk => ?_
  · have hr' : (ps.map fun p => (Value.ref p.2.1, p.2.2))[i]? = some (key, v) := hr
    rw [List.getElem?_map] at hr'
    cases hpj : ps[i]? with
    | none =>
      rw [hpj] at hr'
      cases hr'
    | some p1 =>
      rw [hpj] at hr'
      have e1 : (Value.ref p1.2.1, p1.2.2) = (key, v) := Option.some.inj hr'
      cases e1
      exact ⟨p1.1, p1.2.1, rfl, rfl⟩
  · have I' : Inv X pins σ H { s with heap := h', toks := s.toks } := I.kept fun b ob e => hk b ob (Nat.ne_of_lt (Heap.lt_size e)) (by simp) e
    obtain ⟨i, hi⟩ := List.getElem?_of_mem hx
    obtain ⟨kv, _, e1, e2, _⟩ := paired_at hps1 hi
    rw [e1] at e2
    exact key_of I'.hok e2
  · have hm : (s.heap.objs.size == sysModules) = false := beq_eq_false_iff_ne.mpr (Nat.ne_of_gt I.big)
    have hn := I.hok.fresh (Nat.le_refl s.heap.objs.size)
    obtain ⟨o', es, ep, hq, h2, h3, h4, _, h5⟩ := dd
    have hlen := putAll_len kvs []
    have kt : KT H (putAll kvs []) (storedAllH [] ps) := KT.putAll hps1 (acc := []) (xs := []) .nil
    refine ⟨.ref s.heap.objs.size, upd H s.heap.objs.size (.dT (putAll kvs [])), I.laid (t' := tk) (fun b ob e => hk b ob (by simp) e) (Nat.le_refl _) (show ObjOk X.prog X.w _ _ _ (.dT (putAll kvs [])) from ⟨by rw [List.length_nil] at hlen; omega, hm, storedAllH [] ps, kt.keeps (fun b ys e => ?_), o', es, ep, hq, h2, h3, h4, h5⟩), rfl, q _ hn⟩
    rw [upd_ne (ne_of_none e hn)]
    exact e
/-! ### the walk by levels, as the laws walk -/
abbrev LEnt := Sta × Nat
abbrev keysL (f : List LEnt) : List Sta := f.map (·.1)
abbrev dictL (f : List LEnt) : List (List Key × V) := f.map fun e => (keyS e.1, V.int (e.2 : Int))
structure LevIn (bs : List Bar) (k : Desk) (b : Sta) (f : List LEnt) (opn : Sta → Prop) (q : Nat) : Prop where
  nd : (keysL f).Nodup
  first : (b, 0) ∈ f
  path : ∀ e ∈ f, ∃ row, Path bs k b row e.1 ∧ row.length = e.2
  le : ∀ e ∈ f, e.2 ≤ q
  closed : ∀ e ∈ f, ¬ opn e.1 → ∀ m t, (m, t) ∈ stepsL bs k e.1 → ∃ e' ∈ f, e'.1 = t ∧ e'.2 ≤ e.2 + 1
section
variable {bs : List Bar} {k : Desk} {b : Sta} {f : List LEnt} {opn opn' : Sta → Prop} {p q : Nat}
theorem LevIn.wider (h : LevIn bs k b f opn q) (ho : ∀ s, s ∈ keysL f → opn s → opn' s) : LevIn bs k b f opn' q :=
  ⟨h.nd, h.first, h.path, h.le, fun e he hn => h.closed e he fun z => hn (ho _ (List.mem_map.mpr ⟨e, he, rfl⟩) z)⟩
theorem LevIn.up (h : LevIn bs k b f opn q) (hq : q ≤ p) : LevIn bs k b f opn p := ⟨h.nd, h.first, h.path, fun e he => Nat.le_trans (h.le e he) hq, h.closed⟩
theorem lev_uniq (nd : (keysL f).Nodup) {s : Sta} {x y : Nat} (h1 : (s, x) ∈ f) (h2 : (s, y) ∈ f) : x = y := by
  induction f with
  | nil => cases h1
  | cons e r ih =>
    obtain ⟨n1, n2⟩ := List.nodup_cons.mp nd
    rcases List.mem_cons.mp h1 with e1 | h1
    · rcases List.mem_cons.mp h2 with e2 | h2
      · rw [← e1] at e2
        exact (congrArg Prod.snd e2).symm
      · exact absurd (List.mem_map.mpr ⟨(s, y), h2, by rw [← e1]⟩) n1
    · rcases List.mem_cons.mp h2 with e2 | h2
      · exact absurd (List.mem_map.mpr ⟨(s, x), h1, by rw [← e2]⟩) n1
      · exact ih n2 h1 h2
theorem LevIn.add {s t : Sta} {m : Nat} (h : LevIn bs k b f opn (p + 1)) (hs : (s, p) ∈ f) (hm : (m, t) ∈ stepsL bs k s) (hn : t ∉ keysL f) : LevIn bs k b (f ++ [(t, p + 1)]) (fun x => opn x ∨ x = t) (p + 1) := by
  have mono : ∀ e ∈ f, e ∈ f ++ [(t, p + 1)] := fun e he => List.mem_append_left _ he
  refine ⟨?_, mono _ h.first, fun e he => ?_, fun e he => ?_, fun e he hno m' t' hst => ?_⟩
  · rw [show keysL (f ++ [(t, p + 1)]) = keysL f ++ [t] from List.map_append, List.nodup_append]
    refine ⟨h.nd, nodup1 _, fun a ha b hb => ?_⟩
    rw [List.mem_singleton.mp hb]
    intro e
    rw [e] at ha
    exact hn ha
  · rcases List.mem_append.mp he with he | he
    · exact h.path e he
    · rw [List.mem_singleton.mp he]
      obtain ⟨row, p1, p2⟩ := h.path _ hs
      refine ⟨row ++ [m], p1.snoc hm, ?_⟩
      rw [List.length_append, p2]
      rfl
  · rcases List.mem_append.mp he with he | he
    · exact h.le e he
    · rw [List.mem_singleton.mp he]
      exact Nat.le_refl _
  · rcases List.mem_append.mp he with he | he
    · obtain ⟨e', h1, h2⟩ := h.closed e he (fun z => hno (.inl z)) m' t' hst
      exact ⟨e', mono _ h1, h2⟩
    · rw [List.mem_singleton.mp he] at hno
      exact absurd (.inr rfl) hno
/-- a state is done with -/
theorem LevIn.close {s : Sta} (h : LevIn bs k b f opn (p + 1)) (hs : (s, p) ∈ f) (hall : ∀ m t, (m, t) ∈ stepsL bs k s → t ∈ keysL f) : LevIn bs k b f (fun x => opn x ∧ x ≠ s) (p + 1) := by
  refine ⟨h.nd, h.first, h.path, h.le, fun e he hno m t hst => ?_⟩
  by_cases es : e.1 = s
  · obtain ⟨s', q'⟩ := e
    dsimp only at es hst
    subst es
    have := lev_uniq h.nd he hs
    subst this
    obtain ⟨e', he', e2⟩ := List.mem_map.mp (hall m t hst)
    exact ⟨e', he', e2, h.le e' he'⟩
  · exact h.closed e he (fun z => hno ⟨z, es⟩) m t hst
/-- what the levels give: to each state that can be reached, its least number of pages -/
structure Levels (bs : List Bar) (k : Desk) (b : Sta) (f : List LEnt) : Prop where
  nd : (keysL f).Nodup
  path : ∀ e ∈ f, ∃ row, Path bs k b row e.1 ∧ row.length = e.2
  least : ∀ row s, Path bs k b row s → ∃ e ∈ f, e.1 = s ∧ e.2 ≤ row.length
theorem LevIn.levels (h : LevIn bs k b f (fun _ => False) q) : Levels bs k b f := by
  refine ⟨h.nd, h.path, fun row s p => ?_⟩
  have go : ∀ (x y : Sta) (row : List Nat), Path bs k x row y → ∀ e ∈ f, e.1 = x → ∃ e' ∈ f, e'.1 = y ∧ e'.2 ≤ e.2 + row.length := by
    intro x y row p
    induction p with
    | nil s => exact fun e he ek => ⟨e, he, ek, Nat.le_refl _⟩
    | @cons s t u m row hm hp ih =>
      intro e he ek
      obtain ⟨e1, he1, k1, k2⟩ := h.closed e he (fun z => z) m t (by rw [ek]; exact hm)
      obtain ⟨e2, he2, k3, k4⟩ := ih e1 he1 k1
      refine ⟨e2, he2, k3, ?_⟩
      rw [List.length_cons]
      omega
  obtain ⟨e, he, k1, k2⟩ := go b s row p _ h.first rfl
  exact ⟨e, he, k1, by have : ((b, 0) : LEnt).2 = 0 := rfl; omega⟩
theorem LevIn.len (h : LevIn bs k b f opn q) (ok : StaOk bs k b) (he : k.empty ≤ 3) : f.length ≤ (bs.length + 1) * 8 := by
  have h1 := sub_len (r := allSta bs.length 3) h.nd fun s hs => by
    obtain ⟨e, hm, rfl⟩ := List.mem_map.mp hs
    obtain ⟨row, p1, _⟩ := h.path e hm
    have ok := ok.path p1
    refine allSta_mem ok.bar ?_
    have := ok.used
    omega
  rw [allSta_len, List.length_map] at h1
  omega
end
theorem valL : ∀ (f : List LEnt) (s : Sta), (s ∉ keysL f ∧ valV (dictL f) (keyS s) = none) ∨ ∃ q, (s, q) ∈ f ∧ valV (dictL f) (keyS s) = some (.int (q : Int))
  | [], s => .inl ⟨by simp, rfl⟩
  | e :: r, s => by
    by_cases es : e.1 = s
    · refine .inr ⟨e.2, ?_, valV_pos (p := (keyS e.1, V.int (e.2 : Int))) (by rw [es])⟩
      rw [← es]
      exact List.mem_cons_self
    · have ek : ¬ ((keyS e.1, V.int (e.2 : Int)) : List Key × V).1 = keyS s := fun z => es (keyS_inj z)
      have e1 : valV (dictL (e :: r)) (keyS s) = valV (dictL r) (keyS s) := valV_neg ek
      rcases valL r s with ⟨h1, h2⟩ | ⟨q, h1, h2⟩
      · refine .inl ⟨fun z => ?_, by rw [e1]; exact h2⟩
        rcases List.mem_cons.mp z with z | z
        · exact es z.symm
        · exact h1 z
      · exact .inr ⟨q, List.mem_cons_of_mem _ h1, by rw [e1]; exact h2⟩
/-! ### what shows that no layout has fewer pages -/
def rowD (x : LEnt) : PyData := .tuple [stateD x.1, .int (x.2 : Int)]
def RowsAt (H : Hp) : List V → List LEnt → Prop
  | [], [] => True
  | v :: vs, x :: xs => (∃ c b, v = .ref c ∧ H c = some (.tup [.ref b, .int (x.2 : Int)]) ∧ H b = some (.tup (stateV x.1))) ∧ RowsAt H vs xs
  | _, _ => False
section
variable {H H' : Hp}
theorem RowsAt.keep (ht : ∀ b ys, H b = some (.tup ys) → H' b = some (.tup ys)) : ∀ {vs : List V} {xs : List LEnt}, RowsAt H vs xs → RowsAt H' vs xs
  | [], [], _ => trivial
  | _ :: _, _ :: _, h => ⟨let ⟨c, b, e, h1, h2⟩ := h.1; ⟨c, b, e, ht _ _ h1, ht _ _ h2⟩, RowsAt.keep ht h.2⟩
  | [], _ :: _, h => h.elim
  | _ :: _, [], h => h.elim
theorem RowsAt.len : ∀ {vs : List V} {xs : List LEnt}, RowsAt H vs xs → vs.length = xs.length
  | [], [], _ => rfl
  | _ :: _, _ :: _, h => congrArg Nat.succ (RowsAt.len h.2)
  | [], _ :: _, h => h.elim
  | _ :: _, [], h => h.elim
theorem RowsAt.at : ∀ {vs : List V} {xs : List LEnt} {i : Nat} {v : V}, RowsAt H vs xs → vs[i]? = some v → ∃ x c b, xs[i]? = some x ∧ v = .ref c ∧ H c = some (.tup [.ref b, .int (x.2 : Int)]) ∧ H b = some (.tup (stateV x.1))
  | [], [], _, _, _, e => by simp at e
  | _ :: _, x :: _, 0, _, h, e => by
    simp at e
    subst e
    obtain ⟨c, b, h1, h2, h3⟩ := h.1
    exact ⟨x, c, b, rfl, h1, h2, h3⟩
  | _ :: _, _ :: _, i + 1, v, h, e => by
    obtain ⟨x, c, b, e1, e2⟩ := RowsAt.at (i := i) (v := v) h.2 (by simpa using e)
    exact ⟨x, c, b, by simpa using e1, e2⟩
  | [], _ :: _, _, _, h, _ => h.elim
  | _ :: _, [], _, _, h, _ => h.elim
theorem RowsAt.dpa {K : PySem.W.Frag} : ∀ {vs : List V} {xs : List LEnt}, RowsAt H vs xs → DpAll K H vs (xs.map rowD)
  | [], [], _ => .nil
  | _ :: _, _ :: _, h => let ⟨c, b, e, h1, h2⟩ := h.1; .cons (by rw [e]; exact .tup (.of h1) (.cons (dp_state_of (.of h2)) (.cons (.int _) .nil))) (RowsAt.dpa h.2)
  | [], _ :: _, h => h.elim
  | _ :: _, [], h => h.elim
theorem RowsAt.pairs : ∀ {vs : List V} {xs : List LEnt}, RowsAt H vs xs → Paired (PairT H) vs (dictL xs)
  | [], [], _ => .nil
  | _ :: _, _ :: _, h => let ⟨c, b, e, h1, h2⟩ := h.1; .cons ⟨c, b, e, h1, h2⟩ (RowsAt.pairs h.2)
  | [], _ :: _, h => h.elim
  | _ :: _, [], h => h.elim
theorem RowsAt.snoc : ∀ {vs : List V} {xs : List LEnt} {c b : Addr} {x : LEnt}, RowsAt H vs xs → H c = some (.tup [.ref b, .int (x.2 : Int)]) → H b = some (.tup (stateV x.1)) → RowsAt H (vs ++ [.ref c]) (xs ++ [x])
  | [], [], c, b, _, _, h1, h2 => ⟨⟨c, b, rfl, h1, h2⟩, trivial⟩
  | _ :: _, _ :: _, _, _, _, h, h1, h2 => ⟨h.1, RowsAt.snoc h.2 h1 h2⟩
  | [], _ :: _, _, _, _, h, _, _ => h.elim
  | _ :: _, [], _, _, _, h, _, _ => h.elim
end
/-- a plain tuple of rows -/
def RowsF (H : Hp) (y : V) (rows : List LEnt) : Prop := ∃ t o ws, y = .ref t ∧ H t = some (.frz o (.tup ws)) ∧ tupO o ∧ RowsAt H ws rows
theorem RowsF.same {H H' : Hp} {y : V} {rows : List LEnt} (h : RowsF H y rows) (s : Same H H') : RowsF H' y rows := by
  obtain ⟨t, o, ws, e, h1, h2, h3⟩ := h
  exact ⟨t, o, ws, e, s _ _ h1, h2, h3.keep fun b ys e => s _ _ e⟩
theorem RowsF.fr {ds : List Addr} {H H' : Hp} {y : V} {rows : List LEnt} (h : RowsF H y rows) (f : Fr ds H H') : RowsF H' y rows := by
  obtain ⟨t, o, ws, e, h1, h2, h3⟩ := h
  exact ⟨t, o, ws, e, f.fz _ _ _ h1, h2, h3.keep fun b ys e => f.tu _ _ e⟩
theorem RowsF.dp {K : PySem.W.Frag} {H : Hp} {y : V} {rows : List LEnt} (h : RowsF H y rows) : Dp K H y (.tuple (rows.map rowD)) := by
  obtain ⟨t, o, ws, rfl, h1, h2, h3⟩ := h
  exact .tup (.inl (.inr ⟨o, h1⟩)) h3.dpa
def stepOkR (rows : List LEnt) (x : LEnt) (y : Nat × Sta) : Bool := rows.any fun z => decide (z.1 = y.2) && decide (z.2 ≤ x.2 + 1)
def rowOkR (bs : List Bar) (k : Desk) (many : Nat) (rows : List LEnt) (x : LEnt) : Bool := !(decide (x.1.bar = bs.length) && decide (x.2 < many)) && (stepsL bs k x.1).all (stepOkR rows x)
def inB (bs : List Bar) (k : Desk) (x : LEnt) : Bool := decide (x.1.bar ≤ bs.length) && decide ((x.1.used : Int) ≤ k.empty)
def leastS (bs : List Bar) (k : Desk) (many : Nat) (rows : List LEnt) : Bool := rows.all (inB bs k) && (decide (keysL rows).Nodup && (decide ((first k, 0) ∈ rows) && rows.all (rowOkR bs k many rows)))
theorem isRow_row (bs : List Bar) (k : Desk) (x : LEnt) : isRowB bs.length k.empty (rowD x) = inB bs k x := by
  show (isStaB bs.length k.empty (stateD x.1) && decide ((0 : Int) ≤ (x.2 : Int))) = _
  rw [isSta_state, decide_eq_true (show (0 : Int) ≤ (x.2 : Int) by omega), Bool.and_true]
  rfl
theorem key_any {acc : List (List Key × V)} {k : List Key} : (acc.any fun kv => decide (kv.1 = k)) = true ↔ k ∈ acc.map (·.1) := by
  rw [List.any_eq_true]
  constructor
  · rintro ⟨x, hx, h⟩
    exact List.mem_map.mpr ⟨x, hx, of_decide_eq_true h⟩
  · intro h
    obtain ⟨x, hx, e⟩ := List.mem_map.mp h
    exact ⟨x, hx, decide_eq_true e⟩
theorem putAll_nodup : ∀ {kvs acc : List (List Key × V)}, ((acc ++ kvs).map (·.1)).Nodup → putAll kvs acc = acc ++ kvs
  | [], acc, _ => (List.append_nil acc).symm
  | kv :: kvs, acc, h => by
    have hn : kv.1 ∉ acc.map (·.1) := fun hm => by
      rw [List.map_append, List.nodup_append] at h
      exact h.2.2 _ hm _ (List.mem_map.mpr ⟨kv, List.mem_cons_self, rfl⟩) rfl
    have e : putK acc kv.1 kv.2 = acc ++ [kv] := by
      unfold putK
      rw [if_neg (fun z => hn (key_any.mp z))]
    show putAll kvs (putK acc kv.1 kv.2) = _
    rw [e, putAll_nodup (by rw [List.append_assoc]; exact h), List.append_assoc]
    rfl
theorem putAll_full : ∀ {kvs acc : List (List Key × V)}, (acc.map (·.1)).Nodup → (putAll kvs acc).length = acc.length + kvs.length → ((acc ++ kvs).map (·.1)).Nodup
  | [], acc, h, _ => by rw [List.append_nil]; exact h
  | kv :: kvs, acc, h, hl => by
    have hl' : (putAll kvs (putK acc kv.1 kv.2)).length = acc.length + (kvs.length + 1) := hl
    have h1 := putAll_len kvs (putK acc kv.1 kv.2)
    have hn : kv.1 ∉ acc.map (·.1) := fun hm => by
      have : (putK acc kv.1 kv.2).length = acc.length := by
        unfold putK
        rw [if_pos (key_any.mpr hm), List.length_map]
      omega
    have e : putK acc kv.1 kv.2 = acc ++ [kv] := by
      unfold putK
      rw [if_neg (fun z => hn (key_any.mp z))]
    rw [e] at hl'
    have h2 : ((acc ++ [kv]).map (·.1)).Nodup := by
      rw [List.map_append, List.nodup_append]
      refine ⟨h, by simp, fun a ha b hb => ?_⟩
      have : b = kv.1 := by simpa using hb
      rw [this]
      intro z
      rw [z] at ha
      exact hn ha
    have := putAll_full h2 (by rw [hl', List.length_append]; show _ = acc.length + 1 + _; omega)
    rw [List.append_assoc] at this
    exact this
theorem nodup_keyS (rows : List LEnt) : ((dictL rows).map (·.1)).Nodup ↔ (keysL rows).Nodup := by
  have e : (dictL rows).map (·.1) = (keysL rows).map keyS := by
    rw [List.map_map, List.map_map]
    rfl
  rw [e]
  unfold List.Nodup
  rw [List.pairwise_map]
  exact ⟨fun h => h.imp fun z e => z (congrArg keyS e), fun h => h.imp fun z e => z (keyS_inj e)⟩
theorem stepOk_in {rows : List LEnt} (nd : (keysL rows).Nodup) {x : LEnt} {y : Nat × Sta} {n : Nat} (h : (y.2, n) ∈ rows) : stepOkR rows x y = decide (n ≤ x.2 + 1) := by
  unfold stepOkR
  by_cases hn : n ≤ x.2 + 1
  · rw [decide_eq_true hn, List.any_eq_true]
    exact ⟨_, h, by rw [decide_eq_true rfl, decide_eq_true hn]; rfl⟩
  · rw [decide_eq_false hn, List.any_eq_false]
    intro z hz hc
    rw [Bool.and_eq_true, decide_eq_true_iff, decide_eq_true_iff] at hc
    obtain ⟨s, m⟩ := z
    obtain ⟨h1, h2⟩ := hc
    dsimp only at h1 h2
    subst h1
    have := lev_uniq nd hz h
    omega
theorem stepOk_out {rows : List LEnt} {x : LEnt} {y : Nat × Sta} (h : y.2 ∉ keysL rows) : stepOkR rows x y = false := by
  unfold stepOkR
  rw [List.any_eq_false]
  intro z hz hc
  rw [Bool.and_eq_true, decide_eq_true_iff] at hc
  exact h (List.mem_map.mpr ⟨z, hz, hc.1⟩)
theorem sc__law_is_number : FnScope ["thing", "low", "high"] ["thing", "low", "high"] (defScope s__law_is_number) := ⟨rfl, rfl, rfl, by decide +kernel, rfl, by decide +kernel, by decide +kernel⟩
section
variable {K : PySem.W.Frag} {mg : Str → Option Value}
theorem b__law_is_number (T : Txt K mg) : Binds K (fdOf K ("_law_is_number", none)) ["thing", "low", "high"] [] := T._law_is_number.bindsN fun _ _ _ _ _ _ us hl => match us, hl with | [_, _, _], _ => rfl
end
def sp__law_is_number (K : PySem.W.Frag) : Sp := fun vs H Q _ => ∃ (x : V) (d : PyData) (lo hi : Int), vs = [x, .int lo, .int hi] ∧ Dp K H x d ∧ Q (.bl (isNum d lo hi)) H
theorem ok__law_is_number {P : Program} {w : World} {K : PySem.W.Frag} {mg : Str → Option Value} {base : Heap} (T : Txt K mg) : OkF P w K mg base CX0 1 ("_law_is_number", none) ["thing", "low", "high"] (sp__law_is_number K) := by
  refine okN T._law_is_number sc__law_is_number (fun vs H Q E h => ?_) (fun cdv A outer s H vs Q E hr h => ?_)
  · obtain ⟨x, d, lo, hi, rfl, _⟩ := h
    rfl
  · obtain ⟨x, d, lo, hi, rfl, hd, q⟩ := h
    refine ⟨_, (pss_one (ps_ret (pe_and (pe_callB call_isi (by rfl) T.b_isinstance (by decide +kernel) (pa_cons (pv 0) (pa_cons (pe_bltn (v := .ty "int") (by rfl) T.b_int (by decide +kernel) rfl) pa_nil))) (pe_and (pe_not (pe_callB call_isi (by rfl) T.b_isinstance (by decide +kernel) (pa_cons (pv 0) (pa_cons (pe_bltn (v := .ty "bool") (by rfl) T.b_bool (by decide +kernel) rfl) pa_nil)))) (pe_one (pe_chain op_le op_le (pv 1) (pv 0) (pv 2))))))), ?_⟩
    refine ⟨_, rfl, _, _, _, _, _, rfl, .ty _, dp_ty hd, kit_int d, _, rfl, ?_⟩
    cases d with
    | int i =>
      cases hd
      refine iteT ⟨_, rfl, _, _, _, _, _, rfl, .ty _, dp_ty (.int i), kit_bool (.int i), _, rfl, _, rfl, iteT ⟨_, rfl, _, rfl, _, _, rfl, rfl, _, rfl, ?_⟩⟩
      replace q : Q (.bl (decide (lo ≤ i) && decide (i ≤ hi))) H := q
      refine ite2 (fun h => ?_) (fun h => ?_)
      · rw [h] at q
        exact ⟨_, rfl, _, _, rfl, rfl, q⟩
      · rw [Bool.eq_false_iff.mpr h] at q
        exact q
    | bool b =>
      cases hd
      exact iteT ⟨_, rfl, _, _, _, _, _, rfl, .ty _, dp_ty (.bl b), kit_bool (.bool b), _, rfl, _, rfl, iteF q⟩
    | _ => exact iteF q
theorem sc__law_is_state : FnScope ["bars", "desk", "thing"] ["bars", "desk", "thing"] (defScope s__law_is_state) := ⟨rfl, rfl, rfl, by decide +kernel, rfl, by decide +kernel, by decide +kernel⟩
section
variable {K : PySem.W.Frag} {mg : Str → Option Value}
theorem b__law_is_state (T : Txt K mg) : Binds K (fdOf K ("_law_is_state", none)) ["bars", "desk", "thing"] [] := T._law_is_state.bindsN fun _ _ _ _ _ _ us hl => match us, hl with | [_, _, _], _ => rfl
end
def sideSD : PyData := .tuple [.str (Str.ofString "left"), .str (Str.ofString "right")]
theorem any_side : ∀ d : PyData, ([PyData.str (Str.ofString "left"), .str (Str.ofString "right")].any fun z => PyData.eqv z d) = isSideB d
  | .str s => by
    show (PyData.eqv (.str (Str.ofString "left")) (.str s) || (PyData.eqv (.str (Str.ofString "right")) (.str s) || false)) = (eqV (.str (Str.ofString "left")) (.str s) || (eqV (.str (Str.ofString "right")) (.str s) || false))
    simp only [PyData.eqv, eqV]
  | .none => rfl
  | .bool _ => rfl
  | .int _ => rfl
  | .list _ => rfl
  | .tuple _ => rfl
  | .dict _ => rfl
theorem shpA_inv {n : Nat} : ∀ {ds : List PyData}, ShpA n ds → ∀ d ∈ ds, Shp n d
  | [], _, _, h => by cases h
  | d :: ds, h, e, he => by
    obtain ⟨h1, h2⟩ := h
    simp only [PyData.canLayAll0, Bool.and_eq_true] at h1
    simp only [PyData.depthAll] at h2
    have h3 := Nat.max_le.mp h2
    rcases List.mem_cons.mp he with e1 | he
    · rw [e1]
      exact ⟨h1.1, h3.1⟩
    · exact shpA_inv ⟨h1.2, h3.2⟩ e he
theorem shp_tup_inv {n : Nat} {ds : List PyData} (h : Shp (n + 1) (.tuple ds)) : ShpA n ds := by
  obtain ⟨h1, h2⟩ := h
  simp only [PyData.canLay0] at h1
  simp only [PyData.depth] at h2
  exact ⟨h1, by omega⟩
def sp__law_is_state (K : PySem.W.Frag) : Sp := fun vs H Q _ => ∃ (a : Addr) (bs : List Bar) (x y : V) (k : Desk) (d : PyData), vs = [.ref a, x, y] ∧ Dp K H (.ref a) (.list (barsD bs)) ∧ Dp K H x (deskD k) ∧ Dp K H y d ∧ Shp 60 d ∧ (∀ H', Same H H' → Q (.bl (isStaB bs.length k.empty d)) H')
theorem ok__law_is_state {P : Program} {w : World} {K : PySem.W.Frag} {mg : Str → Option Value} {base : Heap} (T : Txt K mg) : OkF P w K mg base CX0 3 ("_law_is_state", none) ["bars", "desk", "thing"] (sp__law_is_state K) := by
  refine okN T._law_is_state sc__law_is_state (fun vs H Q E h => ?_) (fun cdv A outer s H vs Q E hr h => ?_)
  · obtain ⟨a, bs, x, y, k, d, rfl, _⟩ := h
    rfl
  · obtain ⟨a, bs, x, y, k, d, rfl, hb, hx, hy, hsh, z⟩ := h
    obtain ⟨dk, rfl, hdk⟩ := dp_desk hx
    obtain ⟨bv, hbv, hbd⟩ := lst_bars hb
    have hbl2 := bars_len hbd
    refine ⟨_, (pss_cons (ps_if (PW.pt (pw_or (pt_not (pt_val (pe_callB call_isi (by rfl) T.b_isinstance (by decide +kernel) (pa_cons (pv 2) (pa_cons (pe_bltn (v := .ty "tuple") (by rfl) T.b_tuple (by decide +kernel) rfl) pa_nil))))) (pw_or (pt_cmpR op_ne (pe_callB call_len (by rfl) T.b_len PySem.boot_len (pa_cons (pv 2) pa_nil)) pe_int (nomark _)) (pw_or1 (pt_not (pt_val (pe_call (ok__law_is_number T) (hr.mono (by decide)) (by rfl) T.g__law_is_number T._law_is_number.kp (b__law_is_number T) .nil pass0 (pa_cons (pe_ix ix_tup (pv 2) pe_int (fun _ _ => rfl)) (pa_cons pe_int (pa_cons (pe_callB call_len (by rfl) T.b_len PySem.boot_len (pa_cons (pv 0) pa_nil)) pa_nil)))))))))) (pss_one (ps_ret pe_bl)) pss_nil)
      (pss_one (ps_ret (pe_and (pe_cmpR (op_inDT (units65 hr)) (pe_ix ix_tup (pv 2) pe_int (fun _ _ => rfl)) (pe_tup (pa_cons pe_str (pa_cons pe_str pa_nil))) (by rfl)) (pe_one (pe_call (ok__law_is_number T) (hr.mono (by decide)) (by rfl) T.g__law_is_number T._law_is_number.kp (b__law_is_number T) .nil pass0 (pa_cons (pe_ix ix_tup (pv 2) pe_int (fun _ _ => rfl)) (pa_cons pe_int (pa_cons (pe_ix ix_tup (pv 1) pe_int (fun _ _ => rfl)) pa_nil))))))))), ?_⟩
    refine ⟨_, rfl, _, _, _, _, _, rfl, .ty _, dp_ty hy, kit_tup d, _, rfl, ?_⟩
    cases d with
    | tuple ds =>
      cases hy with
      | tup hs ha =>
        rename_i t vs
        have hl := dpa_len ha
        refine iteF ⟨_, rfl, _, _, rfl, .inr ⟨_, hs, rfl⟩, rfl, _, rfl, ite2NQ (fun ne => ?_) (fun eq => ?_)⟩
        · have zz := z H (Same.refl H)
          rw [isStaB_len (by omega)] at zz
          exact zz
        · obtain ⟨d0, d1, d2, rfl⟩ : ∃ d0 d1 d2, ds = [d0, d1, d2] := by
            match ds, (show ds.length = 3 by omega) with
            | [a, b, c], _ => exact ⟨a, b, c, rfl⟩
          obtain ⟨v0, v1, v2, rfl, e0, e1, e2⟩ := dpa3 ha
          refine ⟨_, rfl, t, _, _, _, rfl, rfl, hs, rfl, _, rfl, _, _, rfl, .inl ⟨_, hbv, rfl⟩, _, d0, _, _, rfl, e0, _, rfl, ?_⟩
          rw [hbl2]
          have zz : ∀ H', Same H H' → Q (.bl (isNum d0 0 bs.length && (isSideB d1 && isNum d2 0 k.empty))) H' := z
          cases hn : isNum d0 0 (bs.length : Int) with
          | false =>
            rw [hn] at zz
            exact iteT (zz _ (Same.refl _))
          | true =>
            rw [hn] at zz
            refine iteF ?_
            refine ⟨_, rfl, t, _, _, _, rfl, rfl, hs, rfl, ?_⟩
            have hsd := shpA_inv (shp_tup_inv (n := 59) hsh) d1 (by simp)
            refine ⟨by show (2 : Nat) ≤ sizeLine; decide, fun c nc => ?_⟩
            have sc := same_upd (o := .tup [.str (Str.ofString "left"), .str (Str.ofString "right")]) nc
            refine ⟨d1, [.str (Str.ofString "left"), .str (Str.ofString "right")], dp_same sc e1, .tup (.of upd_same) (.cons (.str _) (.cons (.str _) .nil)), hsd.ok (by decide), (shp_tup (n := 0) (shpA_cons (shp_str (by decide +kernel)) (shpA_cons (shp_str (by decide +kernel)) shpA_nil))).ok (by decide), _, rfl, ?_⟩
            rw [any_side]
            cases hi : isSideB d1 with
            | false =>
              rw [hi] at zz
              exact iteF (zz _ sc)
            | true =>
              rw [hi] at zz
              exact iteT ⟨_, rfl, t, _, _, _, rfl, rfl, same_sqt sc hs, rfl, _, rfl, dk, _, _, _, rfl, rfl, same_sqt sc hdk, rfl, _, d2, _, _, rfl, dp_same sc e2, zz _ sc⟩
    | _ => exact iteT (z _ (Same.refl _))
/-! ### steps that are tracked -/
def StepAt (H : Hp) (v : V) (x : Nat × Sta) : Prop := ∃ t o, v = .ref t ∧ H t = some (.tup [.int (x.1 : Int), .ref o]) ∧ H o = some (.tup (stateV x.2))
def StepsAt (H : Hp) : List V → List (Nat × Sta) → Prop
  | [], [] => True
  | v :: vs, x :: xs => StepAt H v x ∧ StepsAt H vs xs
  | _, _ => False
theorem StepAt.keep {H H' : Hp} {v : V} {x : Nat × Sta} (h : StepAt H v x) (ht : ∀ b ys, H b = some (.tup ys) → H' b = some (.tup ys)) : StepAt H' v x := by
  obtain ⟨t, o, e, h1, h2⟩ := h
  exact ⟨t, o, e, ht _ _ h1, ht _ _ h2⟩
theorem StepsAt.keep {H H' : Hp} (ht : ∀ b ys, H b = some (.tup ys) → H' b = some (.tup ys)) : ∀ {vs : List V} {xs : List (Nat × Sta)}, StepsAt H vs xs → StepsAt H' vs xs
  | [], [], _ => trivial
  | _ :: _, _ :: _, h => ⟨h.1.keep ht, StepsAt.keep ht h.2⟩
  | [], _ :: _, h => h.elim
  | _ :: _, [], h => h.elim
theorem StepsAt.len {H : Hp} : ∀ {vs : List V} {xs : List (Nat × Sta)}, StepsAt H vs xs → vs.length = xs.length
  | [], [], _ => rfl
  | _ :: _, _ :: _, h => congrArg Nat.succ (StepsAt.len h.2)
  | [], _ :: _, h => h.elim
  | _ :: _, [], h => h.elim
theorem StepsAt.at {H : Hp} : ∀ {vs : List V} {xs : List (Nat × Sta)} {i : Nat} {v : V}, StepsAt H vs xs → vs[i]? = some v → ∃ x, xs[i]? = some x ∧ StepAt H v x
  | [], [], _, _, _, e => by simp at e
  | _ :: _, x :: _, 0, _, h, e => by
    simp at e
    subst e
    exact ⟨x, rfl, h.1⟩
  | _ :: _, _ :: _, i + 1, v, h, e => by
    obtain ⟨x, e1, e2⟩ := StepsAt.at (i := i) (v := v) h.2 (by simpa using e)
    exact ⟨x, by simpa using e1, e2⟩
  | [], _ :: _, _, _, h, _ => h.elim
  | _ :: _, [], _, _, h, _ => h.elim
theorem StepsAt.snoc {H : Hp} : ∀ {vs : List V} {xs : List (Nat × Sta)} {v : V} {x : Nat × Sta}, StepsAt H vs xs → StepAt H v x → StepsAt H (vs ++ [v]) (xs ++ [x])
  | [], [], _, _, _, h => ⟨h, trivial⟩
  | _ :: _, _ :: _, _, _, h, h' => ⟨h.1, StepsAt.snoc h.2 h'⟩
  | [], _ :: _, _, _, h, _ => h.elim
  | _ :: _, [], _, _, h, _ => h.elim
def stepD (x : Nat × Sta) : PyData := .tuple [.int (x.1 : Int), stateD x.2]
theorem StepAt.dp {K : PySem.W.Frag} {H : Hp} {v : V} {x : Nat × Sta} (h : StepAt H v x) : Dp K H v (stepD x) := by
  obtain ⟨t, o, rfl, h1, h2⟩ := h
  exact .tup (.of h1) (.cons (.int _) (.cons (dp_state_of (.of h2)) .nil))
theorem StepsAt.dpa {K : PySem.W.Frag} {H : Hp} : ∀ {vs : List V} {xs : List (Nat × Sta)}, StepsAt H vs xs → DpAll K H vs (xs.map stepD)
  | [], [], _ => .nil
  | _ :: _, _ :: _, h => .cons h.1.dp (StepsAt.dpa h.2)
  | [], _ :: _, h => h.elim
  | _ :: _, [], h => h.elim
/-- a list of steps, all of it tracked -/
def StepsL (H : Hp) (a : Addr) (xs : List (Nat × Sta)) : Prop := ∃ vs, H a = some (.lst vs) ∧ StepsAt H vs xs
theorem StepsL.app {H H' : Hp} {a t o : Addr} {xs : List (Nat × Sta)} {x : Nat × Sta} {vs : List V} (h1 : H a = some (.lst vs)) (h2 : StepsAt H vs xs) (ht : H t = some (.tup [.int (x.1 : Int), .ref o])) (ho : H o = some (.tup (stateV x.2))) : StepsL (upd H a (.lst (vs ++ [.ref t]))) a (xs ++ [x]) := by
  have keep : ∀ b ys, H b = some (.tup ys) → upd H a (.lst (vs ++ [.ref t])) b = some (.tup ys) := fun b ys e => by
    rw [upd_ne (ne_of e h1 (fun z => nomatch z))]
    exact e
  exact ⟨_, upd_same, (h2.keep keep).snoc ⟨t, o, rfl, keep _ _ ht, keep _ _ ho⟩⟩
/-! ### the steps, as the laws make them -/
def lawOne (s : Sta) (m : Nat) : Nat × Sta := (m, ⟨s.bar + m, !s.right, s.used⟩)
def lawZero (k : Desk) (s : Sta) : List (Nat × Sta) := if (s.used : Int) < k.empty then [(0, ⟨s.bar, !s.right, s.used + 1⟩)] else []
def lawSome (bs : List Bar) (k : Desk) (s : Sta) (n : Nat) : List (Nat × Sta) := ((List.range' 1 n).filter fun m => fits bs k s (s.bar + m)).map (lawOne s)
theorem while_filter {p : Nat → Bool} (hp : ∀ e e', e ≤ e' → p e' = true → p e = true) : ∀ n a : Nat, (List.range' a n).takeWhile p = (List.range' a n).filter p
  | 0, a => rfl
  | n + 1, a => by
    rw [List.range'_succ, List.takeWhile_cons, List.filter_cons, while_filter hp n (a + 1)]
    cases e : p a with
    | true => rfl
    | false =>
      rw [if_neg Bool.false_ne_true, if_neg Bool.false_ne_true]
      symm
      rw [List.filter_eq_nil_iff]
      intro x hx h
      rw [List.mem_range'_1] at hx
      have := hp a x (by omega) h
      rw [e] at this
      cases this
theorem law_steps_eq {bs : List Bar} {k : Desk} {s : Sta} (ok : ∀ x ∈ bs, BarOk x) (h : s.bar < bs.length) : (lawZero k s ++ lawSome bs k s (bs.length - s.bar)).filter (fun x => mayTurn bs k s.right x.2.bar) = stepsL bs k s := by
  unfold stepsL
  rw [List.filter_append]
  congr 1
  · unfold lawZero zeroStep
    by_cases h1 : (s.used : Int) < k.empty
    · rw [if_pos h1, List.filter_cons]
      show (if mayTurn bs k s.right s.bar = true then _ else _) = _
      by_cases h2 : mayTurn bs k s.right s.bar = true
      · rw [if_pos h2, if_pos ⟨h, h1, h2⟩]
        rfl
      · rw [if_neg h2, if_neg (fun z => h2 z.2.2)]
        rfl
    · rw [if_neg h1, if_neg (fun z => h1 z.2.1)]
      rfl
  · unfold someSteps lawSome
    show _ = (((List.range' (s.bar + 1) (bs.length + 1 - (s.bar + 1))).takeWhile (fits bs k s)).filter (mayTurn bs k s.right)).map (oneStep s)
    rw [while_filter (p := fits bs k s) (fun e e' he hf => decide_eq_true (Int.le_trans (wide_mono ok he) (of_decide_eq_true hf)))]
    have e1 : List.range' (s.bar + 1) (bs.length + 1 - (s.bar + 1)) = (List.range' 1 (bs.length - s.bar)).map (s.bar + ·) := by
      rw [List.map_add_range', show bs.length + 1 - (s.bar + 1) = bs.length - s.bar by omega]
    rw [e1, List.filter_map, List.filter_map, List.filter_map, List.map_map, List.filter_filter, List.filter_filter]
    have e2 : ∀ m : Nat, (oneStep s ∘ (s.bar + ·)) m = lawOne s m := by
      intro m
      show ((s.bar + m) - s.bar, _) = _
      rw [Nat.add_sub_cancel_left]
      rfl
    rw [show (oneStep s ∘ (s.bar + ·)) = lawOne s from funext e2]
    rfl
theorem mem_lawZero {k : Desk} {s t : Sta} {m : Nat} (h : (m, t) ∈ lawZero k s) : t.bar = s.bar := by
  unfold lawZero at h
  by_cases c : (s.used : Int) < k.empty
  · rw [if_pos c] at h
    have e : (m, t) = (0, ⟨s.bar, !s.right, s.used + 1⟩) := by simpa using h
    cases e
    rfl
  · rw [if_neg c] at h
    cases h
theorem mem_lawSome {bs : List Bar} {k : Desk} {s t : Sta} {m n : Nat} (h : (m, t) ∈ lawSome bs k s n) : t.bar ≤ s.bar + n := by
  obtain ⟨m', hm', e5⟩ := List.mem_map.mp h
  have h1 := (List.mem_filter.mp hm').1
  rw [List.mem_range'_1] at h1
  have e6 : t = ⟨s.bar + m', !s.right, s.used⟩ := (congrArg Prod.snd e5).symm
  rw [e6]
  show s.bar + m' ≤ _
  omega
theorem sc__law_width : FnScope ["bars", "bar"] ["bars"] (defScope s__law_width) := ⟨rfl, rfl, rfl, by decide +kernel, rfl, by decide +kernel, by decide +kernel⟩
section
variable {K : PySem.W.Frag} {mg : Str → Option Value}
theorem b__law_width (T : Txt K mg) : Binds K (fdOf K ("_law_width", none)) ["bars"] [] := T._law_width.bindsN fun _ _ _ _ _ _ us hl => match us, hl with | [_], _ => rfl
end
def sp__law_width (K : PySem.W.Frag) : Sp := fun vs H Q _ => ∃ (a : Addr) (bs : List Bar), vs = [.ref a] ∧ Dp K H (.ref a) (.list (barsD bs)) ∧ bs.length ≤ 1000 ∧ ∀ H', Same H H' → Q (.int (bs.map Bar.w).sum) H'
theorem ok__law_width {P : Program} {w : World} {K : PySem.W.Frag} {mg : Str → Option Value} {base : Heap} (T : Txt K mg) : OkF P w K mg base CX0 1 ("_law_width", none) ["bars"] (sp__law_width K) := by
  refine okN T._law_width sc__law_width (fun vs H Q E h => ?_) (fun cdv A outer s H vs Q E hr h => ?_)
  · obtain ⟨a, bs, rfl, _⟩ := h
    rfl
  · obtain ⟨a, bs, rfl, hd, hl, z⟩ := h
    obtain ⟨vs, h2, h3⟩ := lst_bars hd
    refine ⟨_, (pss_one (ps_ret (pe_callB (cr_sum rfl) (by rfl) T.b_sum (by decide +kernel) (pa_cons (pe_lc (own := [("bar", 1)]) (g := (gName 1)) (tt := tYes)  (by rfl) sc__law_width.nd (pi_list (pv 0)) (blkOk_by (own := [("bar", 1)]) (N := ["bars", "bar"]) (sc := defScope s__law_width) (by decide +kernel)) (fun _ _ _ _ _ => (pg_name (i := 1) sc__law_width.nd rfl (by first | exact Or.inl rfl | exact Or.inr rfl))) (fun _ _ _ _ _ => pts_nil) (fun _ _ _ _ _ => (pe_ix (r := rIxT K) ix_tup (pv 1) pe_int (fun _ _ => rfl)))) pa_nil)))), ?_⟩
    refine ⟨_, rfl, a, rfl, ⟨_, h2⟩, fun D hD => lc_list (K := K) (a := a) (xs := vs) (fun i H' => Same H H' ∧ H' D = some (.lst (((bs.take i).map Bar.w).map V.int))) ⟨same_upd hD, ?_⟩ ?_ ?_ ?_⟩
    · rw [upd_same]
      rfl
    · rintro i H' _ ⟨s, _⟩
      exact s.seq h2
    · rintro i v H' hv ⟨s, e1⟩
      obtain ⟨x, t, hx, rfl, ht⟩ := bar_at h3 hv
      refine ⟨rfl, _, rfl, t, _, _, _, rfl, rfl, same_sqt s ht, rfl, _, e1, ?_, same_updR s hD, ?_⟩
      · rw [List.length_map, List.length_map, List.length_take]
        exact small1000 (by omega)
      · rw [upd_same, take_at hx, List.map_append, List.map_append]
        rfl
    · rintro H1 ⟨s2, e1⟩
      rw [bars_len h3, List.take_length] at e1
      exact ⟨D, _, rfl, .of e1, z _ s2⟩
theorem sc__law_run : FnScope ["row", "found", "bar"] ["row"] (defScope s__law_run) := ⟨rfl, rfl, rfl, by decide +kernel, rfl, by decide +kernel, by decide +kernel⟩
section
variable {K : PySem.W.Frag} {mg : Str → Option Value}
theorem b__law_run (T : Txt K mg) : Binds K (fdOf K ("_law_run", none)) ["row"] [] := T._law_run.bindsN fun _ _ _ _ _ _ us hl => match us, hl with | [_], _ => rfl
end
def sp__law_run (K : PySem.W.Frag) : Sp := fun vs H Q _ => ∃ (a : Addr) (bs : List Bar), vs = [.ref a] ∧ Dp K H (.ref a) (.list (barsD bs)) ∧ Q (.int (beatsOf bs)) H
theorem ok__law_run {P : Program} {w : World} {K : PySem.W.Frag} {mg : Str → Option Value} {base : Heap} (T : Txt K mg) : OkF P w K mg base CX0 1 ("_law_run", none) ["row"] (sp__law_run K) := by
  refine okN T._law_run sc__law_run (fun vs H Q E h => ?_) (fun cdv A outer s H vs Q E hr h => ?_)
  · obtain ⟨a, bs, rfl, _⟩ := h
    rfl
  · obtain ⟨a, bs, rfl, hd, q⟩ := h
    obtain ⟨xs, hs, ha⟩ := lst_bars hd
    refine ⟨_, (pss_cons (ps_set (i := 1) sc__law_run.nd rfl (by first | exact Or.inl rfl | exact Or.inr rfl) pe_int)
      (pss_cons (ps_for PassesOwn.never rfl (pi_list (pv 0)) (pg_name (i := 2) sc__law_run.nd rfl (by first | exact Or.inl rfl | exact Or.inr rfl))
      (pss_cons (ps_if (pt_not (pt_val (pe_ix ix_tup (pv 2) pe_int (fun _ _ => rfl)))) (pss_one (ps_ret (pv 1))) pss_nil)
      (pss_one (ps_set (i := 1) sc__law_run.nd rfl (by first | exact Or.inl rfl | exact Or.inr rfl) (pe_op op_add (pv 1) (pe_ix ix_tup (pv 2) pe_int (fun _ _ => rfl)))))))
      (pss_one (ps_ret (pv 1))))), ?_⟩
    refine ⟨_, rfl, a, rfl, ⟨_, hs⟩, for_list (xs := xs) (fun i σ H' => H' = H ∧ ∃ f y2, σ = [some (.ref a), some (.int f), y2] ∧ f + beatsOf (bs.drop i) = beatsOf bs) ⟨rfl, 0, none, rfl, ?_⟩ ?_ ?_ ?_⟩
    · show 0 + beatsOf bs = beatsOf bs
      omega
    · rintro i σ H' _ ⟨rfl, _⟩
      exact hs
    · rintro i x σ H' hx ⟨rfl, f, y2, rfl, e⟩
      obtain ⟨b, p, hb, rfl, hp⟩ := bar_at ha hx
      rw [drop_at hb] at e
      refine ⟨_, rfl, p, _, _, _, rfl, rfl, hp, rfl, _, rfl, ?_⟩
      replace e : f + (if b.r = true then b.b + beatsOf (bs.drop (i + 1)) else 0) = beatsOf bs := e
      cases hr : b.r with
      | true =>
        rw [hr, if_pos rfl] at e
        refine iteF ⟨_, rfl, _, rfl, p, _, _, _, rfl, rfl, hp, rfl, _, _, rfl, rfl, rfl, _, _, rfl, ?_⟩
        omega
      | false =>
        rw [hr, if_neg Bool.false_ne_true] at e
        refine iteT ⟨_, rfl, ?_⟩
        rw [show f = beatsOf bs by omega]
        exact q
    · rintro σ H' ⟨rfl, f, y2, rfl, e⟩
      rw [bars_len ha, List.drop_length] at e
      refine ⟨_, rfl, ?_⟩
      rw [show f = beatsOf bs by
        have e2 : f + 0 = beatsOf bs := e
        omega]
      exact q
theorem sc__law_rest : FnScope ["bars", "at"] ["bars", "at"] (defScope s__law_rest) := ⟨rfl, rfl, rfl, by decide +kernel, rfl, by decide +kernel, by decide +kernel⟩
section
variable {K : PySem.W.Frag} {mg : Str → Option Value}
theorem b__law_rest (T : Txt K mg) : Binds K (fdOf K ("_law_rest", none)) ["bars", "at"] [] := T._law_rest.bindsN fun _ _ _ _ _ _ us hl => match us, hl with | [_, _], _ => rfl
end
def sp__law_rest (K : PySem.W.Frag) : Sp := fun vs H Q _ => ∃ (a : Addr) (bs : List Bar) (k : Nat), vs = [.ref a, .int (k : Int)] ∧ Dp K H (.ref a) (.list (barsD bs)) ∧ ∀ H', Same H H' → Q (.int (restOf bs k)) H'
theorem ok__law_rest {P : Program} {w : World} {K : PySem.W.Frag} {mg : Str → Option Value} {base : Heap} (T : Txt K mg) : OkF P w K mg base CX0 2 ("_law_rest", none) ["bars", "at"] (sp__law_rest K) := by
  refine okN T._law_rest sc__law_rest (fun vs H Q E h => ?_) (fun cdv A outer s H vs Q E hr h => ?_)
  · obtain ⟨a, bs, k, rfl, _⟩ := h
    rfl
  · obtain ⟨a, bs, k, rfl, hd, z⟩ := h
    obtain ⟨vs, h2, h3⟩ := lst_bars hd
    refine ⟨_, (pss_one (ps_ret (pe_op op_add (pe_call (ok__law_run T) (hr.mono (by decide)) (by rfl) T.g__law_run T._law_run.kp (b__law_run T) .nil pass0 (pa_cons (pe_revL (pe_slice sl_list (pv 0) po_none (po_some (pv 1)))) pa_nil)) (pe_call (ok__law_run T) (hr.mono (by decide)) (by rfl) T.g__law_run T._law_run.kp (b__law_run T) .nil pass0 (pa_cons (pe_slice sl_list (pv 0) (po_some (pv 1)) po_none) pa_nil))))), ?_⟩
    refine ⟨_, rfl, _, rfl, _, rfl, a, vs, rfl, h2, fun c nc => ?_⟩
    rw [cut_take]
    have s1 : Same H (upd H c (.lst (vs.take k))) := same_upd nc
    refine ⟨c, _, rfl, .of upd_same, fun e ne => ?_⟩
    have s2 := s1.trans (same_upd (o := .lst (vs.take k).reverse) ne)
    refine ⟨e, (bs.take k).reverse, rfl, .lst (.of upd_same) ?_, ?_⟩
    · show DpAll K _ _ (((bs.take k).reverse).map barD)
      rw [List.map_reverse, List.map_take]
      exact dpa_rev (dpa_take k (dpa_same s2 h3))
    refine ⟨_, rfl, _, rfl, _, rfl, a, vs, rfl, s2.seq h2, fun g ng => ?_⟩
    rw [cut_drop]
    have s3 := s2.trans (same_upd (o := .lst (vs.drop k)) ng)
    refine ⟨g, bs.drop k, rfl, .lst (.of upd_same) ?_, _, _, rfl, rfl, z _ s3⟩
    show DpAll K _ _ ((bs.drop k).map barD)
    rw [List.map_drop]
    exact dpa_drop k (dpa_same s3 h3)
theorem StepsL.same {H H' : Hp} {a : Addr} {xs : List (Nat × Sta)} (h : StepsL H a xs) (s : Same H H') : StepsL H' a xs := by
  obtain ⟨vs, e, t⟩ := h
  exact ⟨vs, s _ _ e, t.keep fun b ys z => s _ _ z⟩
theorem steps_len (bs : List Bar) (k : Desk) (s : Sta) : (stepsL bs k s).length ≤ bs.length + 1 := by
  unfold stepsL
  rw [List.length_append]
  have h1 : (zeroStep bs k s).length ≤ 1 := by
    unfold zeroStep
    split <;> simp
  have h2 : (someSteps bs k s (s.bar + 1)).length ≤ bs.length := by
    unfold someSteps
    rw [List.length_map]
    refine Nat.le_trans (List.length_filter_le _ _) (Nat.le_trans (List.Sublist.length_le (List.takeWhile_sublist _)) ?_)
    show (List.range' _ _).length ≤ _
    rw [List.length_range']
    omega
  omega
theorem ite_side {r : Bool} {A B : Prop} (h : if r = true then A else B) : if decide (V.str (sideS r) = V.str (Str.ofString "right")) = true then A else B := by
  rw [show decide (V.str (sideS r) = V.str (Str.ofString "right")) = r by cases r <;> decide +kernel]
  exact h
theorem ite2B {c : Bool} {A B : Prop} (h1 : c = true → A) (h2 : c = false → B) : if c = true then A else B := by
  cases c with
  | true => exact iteT (h1 rfl)
  | false => exact iteF (h2 rfl)
theorem sc__law_steps : FnScope ["bars", "desk", "state", "at", "side", "used", "other", "found", "many", "good", "then"] ["bars", "desk", "state"] (defScope s__law_steps) := ⟨rfl, rfl, rfl, by decide +kernel, rfl, by decide +kernel, by decide +kernel⟩
section
variable {K : PySem.W.Frag} {mg : Str → Option Value}
theorem b__law_steps (T : Txt K mg) : Binds K (fdOf K ("_law_steps", none)) ["bars", "desk", "state"] [] := T._law_steps.bindsN fun _ _ _ _ _ _ us hl => match us, hl with | [_, _, _], _ => rfl
end
def sp__law_steps (K : PySem.W.Frag) : Sp := fun vs H Q _ => ∃ (a : Addr) (bs : List Bar) (x y : V) (k : Desk) (s : Sta), vs = [.ref a, x, y] ∧ Dp K H (.ref a) (.list (barsD bs)) ∧ Dp K H x (deskD k) ∧ Dp K H y (stateD s) ∧ s.bar ≤ bs.length ∧ bs.length ≤ 1000 ∧ (∀ b ∈ bs, BarOk b) ∧
  ∀ v H', Same H H' → H v = none → StepsL H' v (stepsL bs k s) → Q (.ref v) H'
theorem ite_sideL {r : Bool} {A B : Prop} (h : if r = true then B else A) : if decide (V.str (sideS r) = V.str (Str.ofString "left")) = true then A else B := by
  cases r with
  | true =>
    rw [show decide (V.str (sideS true) = V.str (Str.ofString "left")) = false by decide +kernel]
    exact iteF h
  | false =>
    rw [show decide (V.str (sideS false) = V.str (Str.ofString "left")) = true by decide +kernel]
    exact iteT h
theorem ok__law_steps {P : Program} {w : World} {K : PySem.W.Frag} {mg : Str → Option Value} {base : Heap} (T : Txt K mg) : OkF P w K mg base CX0 4 ("_law_steps", none) ["bars", "desk", "state"] (sp__law_steps K) := by
  refine okN T._law_steps sc__law_steps (fun vs H Q E h => ?_) (fun cdv A outer s H vs Q E hr h => ?_)
  · obtain ⟨a, bs, x, y, k, s, rfl, _⟩ := h
    rfl
  · obtain ⟨a, bs, x, y, k, st, rfl, hb, hx, hy, hsb, hbl, hbo, z⟩ := h
    obtain ⟨dk, rfl, hdk⟩ := dp_desk hx
    obtain ⟨sa, rfl, hsa0⟩ := dp_state hy
    obtain ⟨bv, hbv, hbd⟩ := lst_bars hb
    obtain ⟨sb, sr, su⟩ := st
    dsimp only at hsb
    have hsa : SqT K H sa [.int (sb : Int), .str (sideS sr), .int (su : Int)] := hsa0
    have hbl2 := bars_len hbd
    refine ⟨_, (pss_cons (ps_asg (pv 2) (pg_tup rfl (pgs_cons (pg_name (i := 3) sc__law_steps.nd rfl (by first | exact Or.inl rfl | exact Or.inr rfl)) (pgs_cons (pg_name (i := 4) sc__law_steps.nd rfl (by first | exact Or.inl rfl | exact Or.inr rfl)) (pgs_cons (pg_name (i := 5) sc__law_steps.nd rfl (by first | exact Or.inl rfl | exact Or.inr rfl)) pgs_nil)))))
      (pss_cons (ps_if (pt_cmpR op_eq (pv 3) (pe_callB call_len (by rfl) T.b_len PySem.boot_len (pa_cons (pv 0) pa_nil)) (nomark _)) (pss_one (ps_ret (pe_lst pa_nil))) pss_nil)
      (pss_cons (ps_set (i := 6) sc__law_steps.nd rfl (by first | exact Or.inl rfl | exact Or.inr rfl) (pe_ifExp (pt_cmpR op_eq (pv 4) pe_str (nomark _)) pe_str pe_str))
      (pss_cons (ps_set (i := 7) sc__law_steps.nd rfl (by first | exact Or.inl rfl | exact Or.inr rfl) (pe_ifExp (pt_cmpR op_lt (pv 5) (pe_ix ix_tup (pv 1) pe_int (fun _ _ => rfl)) (nomark _)) (pe_lst (pa_cons (pe_tup (pa_cons pe_int (pa_cons (pe_tup (pa_cons (pv 3) (pa_cons (pv 6) (pa_cons (pe_op op_add (pv 5) pe_int) pa_nil)))) pa_nil))) pa_nil)) (pe_lst pa_nil)))
      (pss_cons (ps_for PassesOwn.never rfl (pi_range2 (by rfl) T.b_range (pa_cons pe_int (pa_cons (pe_op op_add (pe_op op_sub (pe_callB call_len (by rfl) T.b_len PySem.boot_len (pa_cons (pv 0) pa_nil)) (pv 3)) pe_int) pa_nil))) (pg_name (i := 8) sc__law_steps.nd rfl (by first | exact Or.inl rfl | exact Or.inr rfl))
      (pss_one (ps_if (pt_cmpR op_le (pe_call (ok__law_width T) (hr.mono (by decide)) (by rfl) T.g__law_width T._law_width.kp (b__law_width T) .nil pass0 (pa_cons (pe_slice sl_list (pv 0) (po_some (pv 3)) (po_some (pe_op op_add (pv 3) (pv 8)))) pa_nil)) (pe_ix ix_tup (pv 1) pe_int (fun _ _ => rfl)) (nomark _)) (pss_one (ps_expr (pe_bm PySem.F.plainAttrs_list PySem.F.slot_list_append PySem.F.type_list_append mt_append (pv 7) (pa_cons (pe_tup (pa_cons (pv 8) (pa_cons (pe_tup (pa_cons (pe_op op_add (pv 3) (pv 8)) (pa_cons (pv 6) (pa_cons (pv 5) pa_nil)))) pa_nil))) pa_nil)))) pss_nil)))
      (pss_cons (ps_set (i := 9) sc__law_steps.nd rfl (by first | exact Or.inl rfl | exact Or.inr rfl) (pe_lst pa_nil))
      (pss_cons (ps_for PassesOwn.never rfl (pi_list (pv 7)) (pg_tup rfl (pgs_cons (pg_name (i := 8) sc__law_steps.nd rfl (by first | exact Or.inl rfl | exact Or.inr rfl)) (pgs_cons (pg_name (i := 10) sc__law_steps.nd rfl (by first | exact Or.inl rfl | exact Or.inr rfl)) pgs_nil)))
      (pss_one (ps_if (PW.pt (pw_or (pt_cmpR op_eq (pv 4) pe_str (nomark _)) (pw_or (pt_cmpR op_eq (pe_ix ix_tup (pv 10) pe_int (fun _ _ => rfl)) (pe_callB call_len (by rfl) T.b_len PySem.boot_len (pa_cons (pv 0) pa_nil)) (nomark _)) (pw_or1 (pt_cmpR op_ge (pe_call (ok__law_rest T) (hr.mono (by decide)) (by rfl) T.g__law_rest T._law_rest.kp (b__law_rest T) .nil pass0 (pa_cons (pv 0) (pa_cons (pe_ix ix_tup (pv 10) pe_int (fun _ _ => rfl)) pa_nil))) (pe_ix ix_tup (pv 1) pe_int (fun _ _ => rfl)) (nomark _)))))) (pss_one (ps_expr (pe_bm PySem.F.plainAttrs_list PySem.F.slot_list_append PySem.F.type_list_append mt_append (pv 9) (pa_cons (pe_tup (pa_cons (pv 8) (pa_cons (pv 10) pa_nil))) pa_nil)))) pss_nil)))
      (pss_one (ps_ret (pv 9)))))))))), ?_⟩
    refine ⟨_, rfl, sa, _, rfl, hsa, rfl, _, _, rfl, _, _, rfl, _, _, rfl, rfl, ?_⟩
    refine ⟨_, rfl, _, rfl, _, _, rfl, .inl ⟨_, hbv, rfl⟩, rfl, _, rfl, ?_⟩
    rw [hbl2]
    refine ite2Q (fun e => ?_) (fun ne => ?_)
    · -- nothing
      refine ⟨by show (0 : Nat) ≤ sizeLine; decide, fun c nc => z c _ (same_upd nc) nc ?_⟩
      have e2 : stepsL bs k ⟨sb, sr, su⟩ = [] := by
        unfold stepsL zeroStep
        rw [if_neg (fun h => by have h' : sb < bs.length := h.1; omega), some_end (by show ¬ sb + 1 ≤ _; omega)]
        rfl
      rw [e2]
      exact ⟨[], upd_same, trivial⟩
    have hlt : sb < bs.length := by omega
    have heq := law_steps_eq (k := k) (s := ⟨sb, sr, su⟩) hbo hlt
    dsimp only at heq
    cases sr
    case false =>
      refine ⟨_, rfl, rfl, _, rfl, ite_sideL ?_⟩
      first | refine iteT ?_ | refine iteF ?_
      -- found
      refine ⟨_, rfl, _, rfl, dk, _, _, _, rfl, rfl, hdk, rfl, _, _, rfl, rfl, _, rfl, ite2P (fun c1 => ?_) (fun c1 => ?_)⟩
      rotate_left
      refine ⟨by show (0 : Nat) ≤ sizeLine; decide, fun F nF => ?_⟩
      have sG : Same H (upd H F (.lst [])) := same_upd nF
      have hG : StepsL (upd H F (.lst [])) F (lawZero k ⟨sb, false, su⟩) := by
        unfold lawZero
        rw [if_neg c1]
        exact ⟨[], upd_same, trivial⟩
      generalize (upd H F (.lst [])) = G at sG hG ⊢
      rotate_right
      refine ⟨_, rfl, _, rfl, _, rfl, _, _, rfl, rfl, by show (3 : Nat) ≤ sizeLine; decide, fun o no => ⟨by show (2 : Nat) ≤ sizeLine; decide, fun t nt => ⟨by show (1 : Nat) ≤ sizeLine; decide, fun F nF0 => ?_⟩⟩⟩
      have i1 := same_upd (o := .tup (stateV ⟨sb, !false, su + 1⟩)) no
      have i2 := same_upd (o := .tup [.int 0, .ref o]) nt
      have i3 := same_upd (o := .lst [.ref t]) nF0
      have nF : H F = none := (i1.trans i2).free nF0
      have sG : Same H (upd (upd (upd H o (.tup (stateV ⟨sb, !false, su + 1⟩))) t (.tup [.int 0, .ref o])) F (.lst [.ref t])) := (i1.trans i2).trans i3
      have hG : StepsL (upd (upd (upd H o (.tup (stateV ⟨sb, !false, su + 1⟩))) t (.tup [.int 0, .ref o])) F (.lst [.ref t])) F (lawZero k ⟨sb, false, su⟩) := by
        unfold lawZero
        rw [if_pos c1]
        exact ⟨_, upd_same, ⟨t, o, rfl, i3 _ _ upd_same, i3 _ _ (i2 _ _ upd_same)⟩, trivial⟩
      all_goals
        have hbG := sG.seq hbv
        have hz1 : (lawZero k ⟨sb, false, su⟩).length ≤ 1 := by
          unfold lawZero
          split <;> simp
        refine ⟨_, rfl, _, _, rfl, .inl ⟨_, hbG, rfl⟩, _, rfl, _, _, rfl, rfl, _, _, rfl, rfl, 1, _, rfl, ⟨by omega, by omega, by omega, by omega⟩, ?_⟩
        refine for_range (lo := 1) (n := ((bv.length : Int) - (sb : Int) + 1 - 1).toNat) (fun j σ H' => Same H H' ∧ StepsL H' F (lawZero k ⟨sb, false, su⟩ ++ lawSome bs k ⟨sb, false, su⟩ j) ∧ ∃ y8, σ = [some (.ref a), some (.ref dk), some (.ref sa), some (.int (sb : Int)), some (.str (sideS false)), some (.int (su : Int)), some (.str (sideS (!false))), some (.ref F), y8, none, none]) ⟨sG, by rw [show lawSome bs k ⟨sb, false, su⟩ 0 = [] from rfl, List.append_nil]; exact hG, none, rfl⟩ ?_ ?_
        · rintro j σ H1 hj ⟨s1, hF1, y8, rfl⟩
          have hj2 : sb + (1 + j) ≤ bs.length := by omega
          have hsome : lawSome bs k ⟨sb, false, su⟩ (j + 1) = lawSome bs k ⟨sb, false, su⟩ j ++ (if fits bs k ⟨sb, false, su⟩ (sb + (1 + j)) = true then [lawOne ⟨sb, false, su⟩ (1 + j)] else []) := by
            unfold lawSome
            rw [List.range'_1_concat, List.filter_append, List.map_append]
            congr 1
            show List.map _ (List.filter _ [1 + j]) = _
            rw [List.filter_cons]
            show List.map _ (if fits bs k ⟨sb, false, su⟩ (sb + (1 + j)) = true then _ else _) = _
            split <;> rfl
          -- _law_width(bars[at:at + many]) <= desk[0]
          refine ⟨_, rfl, _, rfl, _, rfl, _, rfl, _, rfl, _, _, rfl, rfl, _, rfl, a, bv, rfl, s1.seq hbv, fun c nc => ?_⟩
          rw [show (sb : Int) + (1 + (j : Int)) = ((sb + (1 + j) : Nat) : Int) by omega, cut_both (by omega)]
          have sc := same_upd (o := .lst ((bv.drop sb).take (sb + (1 + j) - sb))) nc
          have hc : DpAll K (upd H1 c (.lst ((bv.drop sb).take (sb + (1 + j) - sb)))) ((bv.drop sb).take (sb + (1 + j) - sb)) (barsD ((bs.drop sb).take (sb + (1 + j) - sb))) := by
            show DpAll K _ _ (((bs.drop sb).take (sb + (1 + j) - sb)).map barD)
            rw [List.map_take, List.map_drop]
            exact dpa_take _ (dpa_drop sb (dpa_same (s1.trans sc) hbd))
          refine ⟨c, (bs.drop sb).take (sb + (1 + j) - sb), rfl, .lst (.of upd_same) hc, ?_, fun H4 s4 => ?_⟩
          · rw [List.length_take, List.length_drop]
            omega
          have s14 := sc.trans s4
          have s04 := s1.trans s14
          refine ⟨_, rfl, dk, _, _, _, rfl, rfl, same_sqt s04 hdk, rfl, _, _, rfl, rfl, _, rfl, ite2P (fun hw => ?_) (fun hw => ?_)⟩
          · obtain ⟨fv, hf1, hf2⟩ := hF1.same s14
            have hfit : fits bs k ⟨sb, false, su⟩ (sb + (1 + j)) = true := decide_eq_true hw
            rw [hfit, if_pos rfl] at hsome
            refine ⟨_, rfl, .inl ⟨rfl, _, .of hf1⟩, _, rfl, _, rfl, _, rfl, _, _, rfl, rfl, _, rfl, _, rfl, by show (3 : Nat) ≤ sizeLine; decide, fun o no => ?_⟩
            have so := same_upd (o := .tup [.int ((sb : Int) + (1 + (j : Int))), .str (sideS (!false)), .int (su : Int)]) no
            refine ⟨by show (2 : Nat) ≤ sizeLine; decide, fun t nt => ?_⟩
            have st2 := same_upd (o := .tup [.int (1 + (j : Int)), .ref o]) nt
            have s6 := so.trans st2
            refine ⟨F, fv, _, rfl, rfl, s6 _ _ hf1, ?_, same_updR (s04.trans s6) nF, ?_, _, rfl⟩
            · rw [hf2.len, List.length_append]
              have : (lawSome bs k ⟨sb, false, su⟩ j).length ≤ j := by
                unfold lawSome
                rw [List.length_map]
                refine Nat.le_trans (List.length_filter_le _ _) ?_
                rw [List.length_range']
                exact Nat.le_refl _
              exact small5000 (by omega)
            · rw [hsome]
              have eI : (1 + (j : Int)) = ((1 + j : Nat) : Int) := by omega
              have eJ : (sb : Int) + (1 + (j : Int)) = ((sb + (1 + j) : Nat) : Int) := by omega
              rw [← List.append_assoc]
              refine StepsL.app (x := lawOne ⟨sb, false, su⟩ (1 + j)) (o := o) (H' := H) (s6 _ _ hf1) (hf2.keep fun b ys z => s6 _ _ z) ?_ ?_
              · rw [upd_same, eI]
                rfl
              · rw [st2 _ _ upd_same]
                show some (HO.tup [V.int ((sb : Int) + (1 + (j : Int))), V.str (sideS (!false)), V.int (su : Int)]) = _
                rw [eJ]
                rfl
          · have hfit : fits bs k ⟨sb, false, su⟩ (sb + (1 + j)) = false := decide_eq_false hw
            rw [hfit, if_neg Bool.false_ne_true, List.append_nil] at hsome
            refine ⟨s04, ?_, _, rfl⟩
            rw [hsome]
            exact hF1.same s14
        · rintro σ H1 ⟨s1, hF1, y8, rfl⟩
          have en : ((bv.length : Int) - (sb : Int) + 1 - 1).toNat = bs.length - sb := by omega
          rw [en] at hF1
          obtain ⟨fv, hf1, hf2⟩ := hF1
          generalize hl : lawZero k ⟨sb, false, su⟩ ++ lawSome bs k ⟨sb, false, su⟩ (bs.length - sb) = l at hf2
          have heq2 : l.filter (fun x => mayTurn bs k false x.2.bar) = stepsL bs k ⟨sb, false, su⟩ := by
            rw [← hl]
            exact heq
          have hll : l.length ≤ 1001 := by
            rw [← hl, List.length_append]
            have : (lawSome bs k ⟨sb, false, su⟩ (bs.length - sb)).length ≤ bs.length - sb := by
              unfold lawSome
              rw [List.length_map]
              refine Nat.le_trans (List.length_filter_le _ _) ?_
              rw [List.length_range']
              exact Nat.le_refl _
            omega
          -- good = []
          refine ⟨by show (0 : Nat) ≤ sizeLine; decide, fun G2 nG2 => ?_⟩
          have sg := same_upd (o := .lst []) nG2
          have nGF : G2 ≠ F := fun e => by
            rw [e, hf1] at nG2
            cases nG2
          have nGH : H G2 = none := s1.free nG2
          refine ⟨_, rfl, F, rfl, ⟨_, .of (sg _ _ hf1)⟩, for_list (xs := fv) (fun i σ H' => Fr [G2] (upd H1 G2 (.lst [])) H' ∧ Same H H' ∧ StepsL H' G2 ((l.take i).filter fun x => mayTurn bs k false x.2.bar) ∧ ∃ y8 y10, σ = [some (.ref a), some (.ref dk), some (.ref sa), some (.int (sb : Int)), some (.str (sideS false)), some (.int (su : Int)), some (.str (sideS (!false))), some (.ref F), y8, some (.ref G2), y10]) ⟨Fr.refl _ _, s1.trans sg, ⟨[], upd_same, trivial⟩, y8, none, rfl⟩ ?_ ?_ ?_⟩
          · rintro i σ H' _ ⟨fr, _⟩
            exact .of (fr.keep _ _ (by simp [nGF.symm]) (sg _ _ hf1))
          · rintro i v σ H2 hv ⟨fr, s2, hG2, y8, y10, rfl⟩
            obtain ⟨xx, hxx, t, o, rfl, ht, ho⟩ := hf2.at hv
            obtain ⟨m, tt⟩ := xx
            have ht2 := fr.tu _ _ (sg _ _ ht)
            have ho2 := fr.tu _ _ (sg _ _ ho)
            have tf : (l.take (i + 1)).filter (fun x => mayTurn bs k false x.2.bar) = (l.take i).filter (fun x => mayTurn bs k false x.2.bar) ++ (if mayTurn bs k false tt.bar = true then [(m, tt)] else []) := by
              rw [take_at hxx, List.filter_append]
              rw [List.filter_cons]
              rfl
            have hil : i < l.length := (List.getElem?_eq_some_iff.mp hxx).1
            refine ⟨t, _, rfl, .of ht2, rfl, _, _, rfl, _, _, rfl, rfl, ?_⟩
            refine ⟨_, rfl, rfl, _, rfl, ite_sideL (r := false) (iteF (iteT ?_))⟩
            have hmt : mayTurn bs k false tt.bar = true := rfl
            have sq := Same.refl H2
            obtain ⟨gv, hg1, hg2⟩ := hG2.same sq
            rw [hmt, if_pos rfl] at tf
            refine ⟨_, rfl, .inl ⟨rfl, _, .of hg1⟩, _, rfl, _, rfl, by show (2 : Nat) ≤ sizeLine; decide, fun t2 nt2 => ?_⟩
            have st3 := same_upd (o := .tup [.int (m : Int), .ref o]) nt2
            have fq := Fr.of (sq.trans st3) [G2]
            have f3 := Fr.upd (u := .lst (gv ++ [.ref t2])) (ds := [G2]) (st3 _ _ hg1) trivial (by simp)
            refine ⟨G2, gv, _, rfl, rfl, st3 _ _ hg1, ?_, (fr.trans fq).trans f3, same_updR ((s2.trans sq).trans st3) nGH, ?_, _, _, rfl⟩
            · rw [hg2.len]
              have h1 := List.length_filter_le (fun x : Nat × Sta => mayTurn bs k false x.2.bar) (l.take i)
              rw [List.length_take] at h1
              exact small5000 (by omega)
            · rw [tf]
              exact StepsL.app (x := (m, tt)) (o := o) (H' := H) (st3 _ _ hg1) (hg2.keep fun b ys z => st3 _ _ z) upd_same (st3 _ _ (sq _ _ ho2))
          · rintro σ H2 ⟨fr, s2, hG2, y8, y10, rfl⟩
            rw [hf2.len, List.take_length, heq2] at hG2
            exact ⟨_, rfl, z _ _ s2 nGH hG2⟩
    case true =>
      refine ⟨_, rfl, rfl, _, rfl, ite_sideL ?_⟩
      first | refine iteT ?_ | refine iteF ?_
      -- found
      refine ⟨_, rfl, _, rfl, dk, _, _, _, rfl, rfl, hdk, rfl, _, _, rfl, rfl, _, rfl, ite2P (fun c1 => ?_) (fun c1 => ?_)⟩
      rotate_left
      refine ⟨by show (0 : Nat) ≤ sizeLine; decide, fun F nF => ?_⟩
      have sG : Same H (upd H F (.lst [])) := same_upd nF
      have hG : StepsL (upd H F (.lst [])) F (lawZero k ⟨sb, true, su⟩) := by
        unfold lawZero
        rw [if_neg c1]
        exact ⟨[], upd_same, trivial⟩
      generalize (upd H F (.lst [])) = G at sG hG ⊢
      rotate_right
      refine ⟨_, rfl, _, rfl, _, rfl, _, _, rfl, rfl, by show (3 : Nat) ≤ sizeLine; decide, fun o no => ⟨by show (2 : Nat) ≤ sizeLine; decide, fun t nt => ⟨by show (1 : Nat) ≤ sizeLine; decide, fun F nF0 => ?_⟩⟩⟩
      have i1 := same_upd (o := .tup (stateV ⟨sb, !true, su + 1⟩)) no
      have i2 := same_upd (o := .tup [.int 0, .ref o]) nt
      have i3 := same_upd (o := .lst [.ref t]) nF0
      have nF : H F = none := (i1.trans i2).free nF0
      have sG : Same H (upd (upd (upd H o (.tup (stateV ⟨sb, !true, su + 1⟩))) t (.tup [.int 0, .ref o])) F (.lst [.ref t])) := (i1.trans i2).trans i3
      have hG : StepsL (upd (upd (upd H o (.tup (stateV ⟨sb, !true, su + 1⟩))) t (.tup [.int 0, .ref o])) F (.lst [.ref t])) F (lawZero k ⟨sb, true, su⟩) := by
        unfold lawZero
        rw [if_pos c1]
        exact ⟨_, upd_same, ⟨t, o, rfl, i3 _ _ upd_same, i3 _ _ (i2 _ _ upd_same)⟩, trivial⟩
      all_goals
        have hbG := sG.seq hbv
        have hz1 : (lawZero k ⟨sb, true, su⟩).length ≤ 1 := by
          unfold lawZero
          split <;> simp
        refine ⟨_, rfl, _, _, rfl, .inl ⟨_, hbG, rfl⟩, _, rfl, _, _, rfl, rfl, _, _, rfl, rfl, 1, _, rfl, ⟨by omega, by omega, by omega, by omega⟩, ?_⟩
        refine for_range (lo := 1) (n := ((bv.length : Int) - (sb : Int) + 1 - 1).toNat) (fun j σ H' => Same H H' ∧ StepsL H' F (lawZero k ⟨sb, true, su⟩ ++ lawSome bs k ⟨sb, true, su⟩ j) ∧ ∃ y8, σ = [some (.ref a), some (.ref dk), some (.ref sa), some (.int (sb : Int)), some (.str (sideS true)), some (.int (su : Int)), some (.str (sideS (!true))), some (.ref F), y8, none, none]) ⟨sG, by rw [show lawSome bs k ⟨sb, true, su⟩ 0 = [] from rfl, List.append_nil]; exact hG, none, rfl⟩ ?_ ?_
        · rintro j σ H1 hj ⟨s1, hF1, y8, rfl⟩
          have hj2 : sb + (1 + j) ≤ bs.length := by omega
          have hsome : lawSome bs k ⟨sb, true, su⟩ (j + 1) = lawSome bs k ⟨sb, true, su⟩ j ++ (if fits bs k ⟨sb, true, su⟩ (sb + (1 + j)) = true then [lawOne ⟨sb, true, su⟩ (1 + j)] else []) := by
            unfold lawSome
            rw [List.range'_1_concat, List.filter_append, List.map_append]
            congr 1
            show List.map _ (List.filter _ [1 + j]) = _
            rw [List.filter_cons]
            show List.map _ (if fits bs k ⟨sb, true, su⟩ (sb + (1 + j)) = true then _ else _) = _
            split <;> rfl
          -- _law_width(bars[at:at + many]) <= desk[0]
          refine ⟨_, rfl, _, rfl, _, rfl, _, rfl, _, rfl, _, _, rfl, rfl, _, rfl, a, bv, rfl, s1.seq hbv, fun c nc => ?_⟩
          rw [show (sb : Int) + (1 + (j : Int)) = ((sb + (1 + j) : Nat) : Int) by omega, cut_both (by omega)]
          have sc := same_upd (o := .lst ((bv.drop sb).take (sb + (1 + j) - sb))) nc
          have hc : DpAll K (upd H1 c (.lst ((bv.drop sb).take (sb + (1 + j) - sb)))) ((bv.drop sb).take (sb + (1 + j) - sb)) (barsD ((bs.drop sb).take (sb + (1 + j) - sb))) := by
            show DpAll K _ _ (((bs.drop sb).take (sb + (1 + j) - sb)).map barD)
            rw [List.map_take, List.map_drop]
            exact dpa_take _ (dpa_drop sb (dpa_same (s1.trans sc) hbd))
          refine ⟨c, (bs.drop sb).take (sb + (1 + j) - sb), rfl, .lst (.of upd_same) hc, ?_, fun H4 s4 => ?_⟩
          · rw [List.length_take, List.length_drop]
            omega
          have s14 := sc.trans s4
          have s04 := s1.trans s14
          refine ⟨_, rfl, dk, _, _, _, rfl, rfl, same_sqt s04 hdk, rfl, _, _, rfl, rfl, _, rfl, ite2P (fun hw => ?_) (fun hw => ?_)⟩
          · obtain ⟨fv, hf1, hf2⟩ := hF1.same s14
            have hfit : fits bs k ⟨sb, true, su⟩ (sb + (1 + j)) = true := decide_eq_true hw
            rw [hfit, if_pos rfl] at hsome
            refine ⟨_, rfl, .inl ⟨rfl, _, .of hf1⟩, _, rfl, _, rfl, _, rfl, _, _, rfl, rfl, _, rfl, _, rfl, by show (3 : Nat) ≤ sizeLine; decide, fun o no => ?_⟩
            have so := same_upd (o := .tup [.int ((sb : Int) + (1 + (j : Int))), .str (sideS (!true)), .int (su : Int)]) no
            refine ⟨by show (2 : Nat) ≤ sizeLine; decide, fun t nt => ?_⟩
            have st2 := same_upd (o := .tup [.int (1 + (j : Int)), .ref o]) nt
            have s6 := so.trans st2
            refine ⟨F, fv, _, rfl, rfl, s6 _ _ hf1, ?_, same_updR (s04.trans s6) nF, ?_, _, rfl⟩
            · rw [hf2.len, List.length_append]
              have : (lawSome bs k ⟨sb, true, su⟩ j).length ≤ j := by
                unfold lawSome
                rw [List.length_map]
                refine Nat.le_trans (List.length_filter_le _ _) ?_
                rw [List.length_range']
                exact Nat.le_refl _
              exact small5000 (by omega)
            · rw [hsome]
              have eI : (1 + (j : Int)) = ((1 + j : Nat) : Int) := by omega
              have eJ : (sb : Int) + (1 + (j : Int)) = ((sb + (1 + j) : Nat) : Int) := by omega
              rw [← List.append_assoc]
              refine StepsL.app (x := lawOne ⟨sb, true, su⟩ (1 + j)) (o := o) (H' := H) (s6 _ _ hf1) (hf2.keep fun b ys z => s6 _ _ z) ?_ ?_
              · rw [upd_same, eI]
                rfl
              · rw [st2 _ _ upd_same]
                show some (HO.tup [V.int ((sb : Int) + (1 + (j : Int))), V.str (sideS (!true)), V.int (su : Int)]) = _
                rw [eJ]
                rfl
          · have hfit : fits bs k ⟨sb, true, su⟩ (sb + (1 + j)) = false := decide_eq_false hw
            rw [hfit, if_neg Bool.false_ne_true, List.append_nil] at hsome
            refine ⟨s04, ?_, _, rfl⟩
            rw [hsome]
            exact hF1.same s14
        · rintro σ H1 ⟨s1, hF1, y8, rfl⟩
          have en : ((bv.length : Int) - (sb : Int) + 1 - 1).toNat = bs.length - sb := by omega
          rw [en] at hF1
          obtain ⟨fv, hf1, hf2⟩ := hF1
          generalize hl : lawZero k ⟨sb, true, su⟩ ++ lawSome bs k ⟨sb, true, su⟩ (bs.length - sb) = l at hf2
          have heq2 : l.filter (fun x => mayTurn bs k true x.2.bar) = stepsL bs k ⟨sb, true, su⟩ := by
            rw [← hl]
            exact heq
          have hll : l.length ≤ 1001 := by
            rw [← hl, List.length_append]
            have : (lawSome bs k ⟨sb, true, su⟩ (bs.length - sb)).length ≤ bs.length - sb := by
              unfold lawSome
              rw [List.length_map]
              refine Nat.le_trans (List.length_filter_le _ _) ?_
              rw [List.length_range']
              exact Nat.le_refl _
            omega
          -- good = []
          refine ⟨by show (0 : Nat) ≤ sizeLine; decide, fun G2 nG2 => ?_⟩
          have sg := same_upd (o := .lst []) nG2
          have nGF : G2 ≠ F := fun e => by
            rw [e, hf1] at nG2
            cases nG2
          have nGH : H G2 = none := s1.free nG2
          refine ⟨_, rfl, F, rfl, ⟨_, .of (sg _ _ hf1)⟩, for_list (xs := fv) (fun i σ H' => Fr [G2] (upd H1 G2 (.lst [])) H' ∧ Same H H' ∧ StepsL H' G2 ((l.take i).filter fun x => mayTurn bs k true x.2.bar) ∧ ∃ y8 y10, σ = [some (.ref a), some (.ref dk), some (.ref sa), some (.int (sb : Int)), some (.str (sideS true)), some (.int (su : Int)), some (.str (sideS (!true))), some (.ref F), y8, some (.ref G2), y10]) ⟨Fr.refl _ _, s1.trans sg, ⟨[], upd_same, trivial⟩, y8, none, rfl⟩ ?_ ?_ ?_⟩
          · rintro i σ H' _ ⟨fr, _⟩
            exact .of (fr.keep _ _ (by simp [nGF.symm]) (sg _ _ hf1))
          · rintro i v σ H2 hv ⟨fr, s2, hG2, y8, y10, rfl⟩
            obtain ⟨xx, hxx, t, o, rfl, ht, ho⟩ := hf2.at hv
            obtain ⟨m, tt⟩ := xx
            have ht2 := fr.tu _ _ (sg _ _ ht)
            have ho2 := fr.tu _ _ (sg _ _ ho)
            have tf : (l.take (i + 1)).filter (fun x => mayTurn bs k true x.2.bar) = (l.take i).filter (fun x => mayTurn bs k true x.2.bar) ++ (if mayTurn bs k true tt.bar = true then [(m, tt)] else []) := by
              rw [take_at hxx, List.filter_append]
              rw [List.filter_cons]
              rfl
            have hil : i < l.length := (List.getElem?_eq_some_iff.mp hxx).1
            refine ⟨t, _, rfl, .of ht2, rfl, _, _, rfl, _, _, rfl, rfl, ?_⟩
            refine ⟨_, rfl, rfl, _, rfl, ite_sideL (r := true) (iteT ?_)⟩
            refine ⟨_, rfl, o, _, _, _, rfl, rfl, .of ho2, rfl, _, rfl, _, _, rfl, .inl ⟨_, s2.seq hbv, rfl⟩, rfl, _, rfl, ?_⟩
            rw [hbl2]
            refine ite2Q (fun e1 => iteT ?_) (fun e1 => ?_)
            rotate_left
            have hob : tt.bar ≤ bs.length := by
              have hm : (m, tt) ∈ l := List.mem_of_getElem? hxx
              rw [← hl] at hm
              rcases List.mem_append.mp hm with hm | hm
              · have := mem_lawZero hm
                rw [this]
                exact hsb
              · have h5 : tt.bar ≤ sb + (bs.length - sb) := mem_lawSome hm
                omega
            refine ⟨_, rfl, _, rfl, o, _, _, _, rfl, rfl, .of ho2, rfl, a, bs, tt.bar, rfl, dp_same s2 hb, fun H7 s7 => ?_⟩
            refine ⟨_, rfl, dk, _, _, _, rfl, rfl, same_sqt (s2.trans s7) hdk, rfl, _, _, rfl, rfl, _, rfl, ite2P (fun hw => ?_) (fun hw => ?_)⟩
            rotate_left
            have hmt : mayTurn bs k true tt.bar = false := by
              unfold mayTurn
              rw [decide_eq_false (fun h => e1 (show (tt.bar : Int) = _ by omega)), decide_eq_false hw]
              rfl
            rw [hmt, if_neg Bool.false_ne_true, List.append_nil] at tf
            refine ⟨fr.trans (Fr.of s7 _), s2.trans s7, ?_, _, _, rfl⟩
            rw [tf]
            exact hG2.same s7
            have hmt : mayTurn bs k true tt.bar = true := by
              unfold mayTurn
              rw [decide_eq_true (show tt.bar = bs.length from Int.ofNat.inj e1)]
              simp
            have sq := Same.refl H2
            obtain ⟨gv, hg1, hg2⟩ := hG2.same sq
            rw [hmt, if_pos rfl] at tf
            refine ⟨_, rfl, .inl ⟨rfl, _, .of hg1⟩, _, rfl, _, rfl, by show (2 : Nat) ≤ sizeLine; decide, fun t2 nt2 => ?_⟩
            have st3 := same_upd (o := .tup [.int (m : Int), .ref o]) nt2
            have fq := Fr.of (sq.trans st3) [G2]
            have f3 := Fr.upd (u := .lst (gv ++ [.ref t2])) (ds := [G2]) (st3 _ _ hg1) trivial (by simp)
            refine ⟨G2, gv, _, rfl, rfl, st3 _ _ hg1, ?_, (fr.trans fq).trans f3, same_updR ((s2.trans sq).trans st3) nGH, ?_, _, _, rfl⟩
            · rw [hg2.len]
              have h1 := List.length_filter_le (fun x : Nat × Sta => mayTurn bs k true x.2.bar) (l.take i)
              rw [List.length_take] at h1
              exact small5000 (by omega)
            · rw [tf]
              exact StepsL.app (x := (m, tt)) (o := o) (H' := H) (st3 _ _ hg1) (hg2.keep fun b ys z => st3 _ _ z) upd_same (st3 _ _ (sq _ _ ho2))
            have hmt : mayTurn bs k true tt.bar = true := by
              unfold mayTurn
              rw [decide_eq_true hw]
              simp
            have sq := s7
            obtain ⟨gv, hg1, hg2⟩ := hG2.same sq
            rw [hmt, if_pos rfl] at tf
            refine ⟨_, rfl, .inl ⟨rfl, _, .of hg1⟩, _, rfl, _, rfl, by show (2 : Nat) ≤ sizeLine; decide, fun t2 nt2 => ?_⟩
            have st3 := same_upd (o := .tup [.int (m : Int), .ref o]) nt2
            have fq := Fr.of (sq.trans st3) [G2]
            have f3 := Fr.upd (u := .lst (gv ++ [.ref t2])) (ds := [G2]) (st3 _ _ hg1) trivial (by simp)
            refine ⟨G2, gv, _, rfl, rfl, st3 _ _ hg1, ?_, (fr.trans fq).trans f3, same_updR ((s2.trans sq).trans st3) nGH, ?_, _, _, rfl⟩
            · rw [hg2.len]
              have h1 := List.length_filter_le (fun x : Nat × Sta => mayTurn bs k true x.2.bar) (l.take i)
              rw [List.length_take] at h1
              exact small5000 (by omega)
            · rw [tf]
              exact StepsL.app (x := (m, tt)) (o := o) (H' := H) (st3 _ _ hg1) (hg2.keep fun b ys z => st3 _ _ z) upd_same (st3 _ _ (sq _ _ ho2))
          · rintro σ H2 ⟨fr, s2, hG2, y8, y10, rfl⟩
            rw [hf2.len, List.take_length, heq2] at hG2
            exact ⟨_, rfl, z _ _ s2 nGH hG2⟩
theorem sc__law_first : FnScope ["desk"] ["desk"] (defScope s__law_first) := ⟨rfl, rfl, rfl, by decide +kernel, rfl, by decide +kernel, by decide +kernel⟩
section
variable {K : PySem.W.Frag} {mg : Str → Option Value}
theorem b__law_first (T : Txt K mg) : Binds K (fdOf K ("_law_first", none)) ["desk"] [] := T._law_first.bindsN fun _ _ _ _ _ _ us hl => match us, hl with | [_], _ => rfl
end
def sp__law_first (K : PySem.W.Frag) : Sp := fun vs H Q _ => ∃ (x : V) (k : Desk), vs = [x] ∧ Dp K H x (deskD k) ∧ ∀ c, H c = none → Q (.ref c) (upd H c (.tup (stateV ⟨0, k.side, 0⟩)))
theorem ok__law_first {P : Program} {w : World} {K : PySem.W.Frag} {mg : Str → Option Value} {base : Heap} (T : Txt K mg) : OkF P w K mg base CX0 1 ("_law_first", none) ["desk"] (sp__law_first K) := by
  refine okN T._law_first sc__law_first (fun vs H Q E h => ?_) (fun cdv A outer s H vs Q E hr h => ?_)
  · obtain ⟨x, k, rfl, _⟩ := h
    rfl
  · obtain ⟨x, k, rfl, hx, z⟩ := h
    obtain ⟨dk, rfl, hdk⟩ := dp_desk hx
    refine ⟨_, (pss_one (ps_ret (pe_tup (pa_cons pe_int (pa_cons (pe_ix ix_tup (pv 0) pe_int (fun _ _ => rfl)) (pa_cons pe_int pa_nil)))))), ?_⟩
    exact ⟨_, rfl, dk, _, _, _, rfl, rfl, hdk, rfl, by show (3 : Nat) ≤ sizeLine; decide, fun c nc => z c nc⟩
theorem sc__law_shows_least : FnScope ["bars", "desk", "many", "thing", "found", "one", "state", "step", "then"] ["bars", "desk", "many", "thing"] (defScope s__law_shows_least) := ⟨rfl, rfl, rfl, by decide +kernel, rfl, by decide +kernel, by decide +kernel⟩
section
variable {K : PySem.W.Frag} {mg : Str → Option Value}
theorem b__law_shows_least (T : Txt K mg) : Binds K (fdOf K ("_law_shows_least", none)) ["bars", "desk", "many", "thing"] [] := T._law_shows_least.bindsN fun _ _ _ _ _ _ us hl => match us, hl with | [_, _, _, _], _ => rfl
end
theorem pow30 {n : Nat} (h : n ≤ 1000000) : (n : Int) ≤ 10 ^ (30 : Int).toNat := by
  have e : (10 : Int) ^ (30 : Int).toNat = 1000000000000000000000000000000 := by decide
  rw [e]
  omega
def sp__law_shows_least (K : PySem.W.Frag) : Sp := fun vs H Q _ => ∃ (a : Addr) (bs : List Bar) (x y : V) (k : Desk) (many : Nat) (rows : List LEnt), vs = [.ref a, x, .int (many : Int), y] ∧ Dp K H (.ref a) (.list (barsD bs)) ∧ Dp K H x (deskD k) ∧ RowsF H y rows ∧ rows.length ≤ 9000 ∧ (∀ r ∈ rows, r.2 ≤ 1000000) ∧ bs.length ≤ 1000 ∧ (∀ b ∈ bs, BarOk b) ∧
  ∀ H', Same H H' → Q (.bl (leastS bs k many rows)) H'
theorem ok__law_shows_least {P : Program} {w : World} {K : PySem.W.Frag} {mg : Str → Option Value} {base : Heap} (T : Txt K mg) : OkF P w K mg base CX0 7 ("_law_shows_least", none) ["bars", "desk", "many", "thing"] (sp__law_shows_least K) := by
  refine okN T._law_shows_least sc__law_shows_least (fun vs H Q E h => ?_) (fun cdv A outer s H vs Q E hr h => ?_)
  · obtain ⟨a, bs, x, y, k, many, rows, rfl, _⟩ := h
    rfl
  · obtain ⟨a, bs, x, y, k, many, rows, rfl, hb, hx, hrows, hrl, hrn, hbl, hbo, z⟩ := h
    have hsz : sizeLine = 16777216 := sizeLine_eq
    obtain ⟨t, o, ws, rfl, ht, hto, hws⟩ := id hrows
    have hy := hrows.dp (K := K)
    have hl := hws.len
    have hs : SqT K H t ws := .inl (.inr ⟨o, ht⟩)
    refine ⟨_, (pss_cons (ps_if (pt_not (pt_val (pe_callB call_isi (by rfl) T.b_isinstance (by decide +kernel) (pa_cons (pv 3) (pa_cons (pe_bltn (v := .ty "tuple") (by rfl) T.b_tuple (by decide +kernel) rfl) pa_nil))))) (pss_one (ps_ret pe_bl)) pss_nil)
      (pss_cons (ps_set (i := 4) sc__law_shows_least.nd rfl (by first | exact Or.inl rfl | exact Or.inr rfl) pe_dnewT)
      (pss_cons (ps_for PassesOwn.never rfl (pi_tup (pv 3)) (pg_name (i := 5) sc__law_shows_least.nd rfl (by first | exact Or.inl rfl | exact Or.inr rfl))
      (pss_cons (ps_if (PW.pt (pw_or (pt_not (pt_val (pe_callB call_isi (by rfl) T.b_isinstance (by decide +kernel) (pa_cons (pv 5) (pa_cons (pe_bltn (v := .ty "tuple") (by rfl) T.b_tuple (by decide +kernel) rfl) pa_nil))))) (pw_or (pt_cmpR op_ne (pe_callB call_len (by rfl) T.b_len PySem.boot_len (pa_cons (pv 5) pa_nil)) pe_int (nomark _)) (pw_or1 (pt_not (pt_val (pe_call (ok__law_is_state T) (hr.mono (by decide)) (by rfl) T.g__law_is_state T._law_is_state.kp (b__law_is_state T) .nil pass0 (pa_cons (pv 0) (pa_cons (pv 1) (pa_cons (pe_ix ix_tup (pv 5) pe_int (fun _ _ => rfl)) pa_nil)))))))))) (pss_one (ps_ret pe_bl)) pss_nil)
      (pss_cons (ps_if (PW.pt (pw_or (pt_not (pt_val (pe_call (ok__law_is_number T) (hr.mono (by decide)) (by rfl) T.g__law_is_number T._law_is_number.kp (b__law_is_number T) .nil pass0 (pa_cons (pe_ix ix_tup (pv 5) pe_int (fun _ _ => rfl)) (pa_cons pe_int (pa_cons (pe_op op_pow pe_int pe_int) pa_nil)))))) (pw_or1 (pt_cmp (pc_din (hu_of hr) (pe_ix ix_tup (pv 5) pe_int (fun _ _ => rfl)) (pv 4)))))) (pss_one (ps_ret pe_bl)) pss_nil)
      (pss_one (ps_asg (pe_ix ix_tup (pv 5) pe_int (fun _ _ => rfl)) (pg_sub (pv 4) (pe_ix ix_tup (pv 5) pe_int (fun _ _ => rfl)) (set_dict (hu_of hr))))))))
      (pss_cons (ps_if (PW.pt (pw_or (pt_cmp (pc_dnotin (hu_of hr) (pe_call (ok__law_first T) (hr.mono (by decide)) (by rfl) T.g__law_first T._law_first.kp (b__law_first T) .nil pass0 (pa_cons (pv 1) pa_nil)) (pv 4))) (pw_or1 (pt_cmpR op_ne (pe_dget (hu_of hr) (pv 4) (pe_call (ok__law_first T) (hr.mono (by decide)) (by rfl) T.g__law_first T._law_first.kp (b__law_first T) .nil pass0 (pa_cons (pv 1) pa_nil)) (fun _ _ => rfl)) pe_int (nomark _))))) (pss_one (ps_ret pe_bl)) pss_nil)
      (pss_cons (ps_lock (ps_for PassesOwn.never rfl (pi_keys (pv 4)) (pg_name (i := 6) sc__law_shows_least.nd rfl (by first | exact Or.inl rfl | exact Or.inr rfl))
      (pss_cons (ps_if (PW.pt (pw_and (pt_cmpR op_eq (pe_ix ix_tup (pv 6) pe_int (fun _ _ => rfl)) (pe_callB call_len (by rfl) T.b_len PySem.boot_len (pa_cons (pv 0) pa_nil)) (nomark _)) (pw_and1 (pt_cmpR op_lt (pe_dget (hu_of hr) (pv 4) (pv 6) (fun _ _ => rfl)) (pv 2) (nomark _))))) (pss_one (ps_ret pe_bl)) pss_nil)
      (pss_one (ps_for PassesOwn.never rfl (pi_list (pe_call (ok__law_steps T) (hr.mono (by decide)) (by rfl) T.g__law_steps T._law_steps.kp (b__law_steps T) .nil pass0 (pa_cons (pv 0) (pa_cons (pv 1) (pa_cons (pv 6) pa_nil))))) (pg_tup rfl (pgs_cons (pg_name (i := 7) sc__law_shows_least.nd rfl (by first | exact Or.inl rfl | exact Or.inr rfl)) (pgs_cons (pg_name (i := 8) sc__law_shows_least.nd rfl (by first | exact Or.inl rfl | exact Or.inr rfl)) pgs_nil)))
      (pss_one (ps_if (PW.pt (pw_or (pt_cmp (pc_dnotin (hu_of hr) (pv 8) (pv 4))) (pw_or1 (pt_cmpR op_gt (pe_dget (hu_of hr) (pv 4) (pv 8) (fun _ _ => rfl)) (pe_op op_add (pe_dget (hu_of hr) (pv 4) (pv 6) (fun _ _ => rfl)) pe_int) (nomark _))))) (pss_one (ps_ret pe_bl)) pss_nil)))))))
      (pss_one (ps_ret pe_bl))))))), ?_⟩
    refine ⟨_, rfl, _, _, _, _, _, rfl, .ty _, dp_ty hy, kit_tup _, _, rfl, iteF ?_⟩
    refine fun d nd => ?_
    have sd := same_upd (o := .dT []) nd
    refine ⟨_, rfl, t, rfl, ⟨_, same_sqt sd hs⟩, for_tup (xs := ws) (fun i σ H' => Same H H' ∧ H' d = some (.dT (dictL (rows.take i))) ∧ (rows.take i).all (inB bs k) = true ∧ (keysL (rows.take i)).Nodup ∧ ∃ y5 y6 y7 y8, σ = [some (.ref a), some x, some (.int (many : Int)), some (.ref t), some (.ref d), y5, y6, y7, y8]) ⟨sd, upd_same, rfl, List.nodup_nil, _, _, _, _, rfl⟩ ?_ ?_ ?_⟩
    · rintro i σ H' _ ⟨s', _⟩
      exact same_sqt s' hs
    · rintro i v σ H2 hv ⟨s2, hd2, hin, hnd, y5, y6, y7, y8, rfl⟩
      obtain ⟨r0, c0, b0, hr0, rfl, hc0, hb0⟩ := hws.at hv
      have rin := List.mem_of_getElem? hr0
      have hc2 := s2 _ _ hc0
      have hb2 := s2 _ _ hb0
      have hdr : Dp K H2 (.ref c0) (rowD r0) := .tup (.of hc2) (.cons (dp_state_of (.of hb2)) (.cons (.int _) .nil))
      have fail1 : inB bs k r0 = false → ∀ H', Same H H' → Q (.bl false) H' := fun hf H' s' => by
        have e : leastS bs k many rows = false := by
          unfold leastS
          rw [Bool.and_eq_false_iff]
          exact .inl (List.all_eq_false.mpr ⟨r0, rin, by rw [hf]; decide⟩)
        rw [e] at z
        exact z H' s'
      have fail2 : r0.1 ∈ keysL (rows.take i) → ∀ H', Same H H' → Q (.bl false) H' := fun hf H' s' => by
        have e : leastS bs k many rows = false := by
          unfold leastS
          rw [Bool.and_eq_false_iff]
          right
          rw [Bool.and_eq_false_iff]
          left
          refine decide_eq_false fun hn => ?_
          have e5 : keysL rows = keysL (rows.take i) ++ keysL (rows.drop i) := by
            rw [← List.map_append, List.take_append_drop]
          rw [e5, List.nodup_append] at hn
          refine hn.2.2 _ hf _ ?_ rfl
          rw [drop_at hr0]
          exact List.mem_cons_self
        rw [e] at z
        exact z H' s'
      refine ⟨_, rfl, _, _, _, _, _, rfl, .ty _, dp_ty hdr, kit_tup _, _, rfl, iteF ⟨_, rfl, _, _, rfl, .inr ⟨_, .of hc2, rfl⟩, rfl, _, rfl, iteNNQ rfl ?_⟩⟩
      refine ⟨_, rfl, _, rfl, _, rfl, c0, _, _, _, rfl, rfl, .of hc2, rfl, a, bs, x, _, k, stateD r0.1, rfl, dp_same s2 hb, dp_same s2 hx, dp_state_of (.of hb2), (shp_sta _).mono (by decide), fun H3 s3 => ?_⟩
      rw [isSta_state]
      have s03 := s2.trans s3
      cases hib : inB bs k r0 with
      | false =>
        refine ⟨_, rfl, ?_⟩
        rw [show (decide (r0.1.bar ≤ bs.length) && decide ((r0.1.used : Int) ≤ k.empty)) = false from hib]
        exact iteT (fail1 hib H3 s03)
      | true =>
        refine ⟨_, rfl, ?_⟩
        rw [show (decide (r0.1.bar ≤ bs.length) && decide ((r0.1.used : Int) ≤ k.empty)) = true from hib]
        refine iteF ?_
        have hc3 := s3 _ _ hc2
        have hb3 := s3 _ _ hb2
        have hd3 := s3 _ _ hd2
        refine ⟨_, rfl, c0, _, _, _, rfl, rfl, .of hc3, rfl, _, _, rfl, rfl, ⟨by decide, by decide, by decide⟩, _, .int (r0.2 : Int), _, _, rfl, .int _, _, rfl, ?_⟩
        have hn6 := hrn r0 rin
        rw [isNum_of (show (0 : Int) ≤ (r0.2 : Int) by omega) (pow30 hn6)]
        refine iteF ?_
        rcases valL (rows.take i) r0.1 with ⟨hn, hv1⟩ | ⟨q1, hq1, hv1⟩
        · refine ⟨_, rfl, c0, _, _, _, rfl, rfl, .of hc3, rfl, _, rfl, d, none, rfl, (by rw [← hv1]; exact .t hd3 hb3), _, rfl, iteF ?_⟩
          refine ⟨_, rfl, c0, _, _, _, rfl, rfl, .of hc3, rfl, _, rfl, _, rfl, c0, _, _, _, rfl, rfl, .of hc3, rfl, d, _, rfl, .t (k := keyS r0.1) hd3 hb3 (by rw [List.length_map, List.length_take]; exact small10k (by omega)), ?_⟩
          rw [putK_new _ hv1]
          refine ⟨same_updR s03 nd, ?_, ?_, ?_, _, _, _, _, rfl⟩
          · rw [upd_same, take_at hr0]
            show _ = some (HO.dT (List.map _ (_ ++ _)))
            rw [List.map_append]
            rfl
          · rw [take_at hr0, List.all_append, hin, Bool.true_and, List.all_cons, hib]
            rfl
          · rw [take_at hr0, show keysL (rows.take i ++ [r0]) = keysL (rows.take i) ++ [r0.1] from List.map_append, List.nodup_append]
            refine ⟨hnd, by simp, fun a ha b hb => ?_⟩
            have : b = r0.1 := by simpa using hb
            rw [this]
            intro e
            rw [e] at ha
            exact hn ha
        · exact ⟨_, rfl, c0, _, _, _, rfl, rfl, .of hc3, rfl, _, rfl, d, some _, rfl, (by rw [← hv1]; exact .t hd3 hb3), _, rfl, iteT (fail2 (List.mem_map.mpr ⟨_, hq1, rfl⟩) H3 s03)⟩
    · rintro σ H2 ⟨s2, hd2, hin, hnd, y5, y6, y7, y8, rfl⟩
      rw [hl, List.take_length] at hd2 hin hnd
      have hall := hin
      have ndH := nd
      unfold leastS at z
      rw [hin, Bool.true_and, decide_eq_true hnd, Bool.true_and] at z
      refine ⟨_, rfl, x, k, rfl, dp_same s2 hx, fun c nc => ?_⟩
      have sc := same_upd (o := .tup (stateV ⟨0, k.side, 0⟩)) nc
      have s3 := s2.trans sc
      have hd3 := sc _ _ hd2
      have hc3 : (upd H2 c (.tup (stateV ⟨0, k.side, 0⟩))) c = some (.tup ((keyS (first k)).map kV)) := upd_same
      generalize (upd H2 c (.tup (stateV ⟨0, k.side, 0⟩))) = H3 at s3 hd3 hc3 ⊢
      rcases valL rows (first k) with ⟨hn, hv⟩ | ⟨qn, hq, hv⟩
      · have e0 : (first k, 0) ∉ rows := fun h => hn (List.mem_map.mpr ⟨_, h, rfl⟩)
        rw [decide_eq_false e0] at z
        exact ⟨_, rfl, d, none, rfl, (by rw [← hv]; exact .t hd3 hc3), _, rfl, iteT (z _ s3)⟩
      refine ⟨_, rfl, d, some _, rfl, (by rw [← hv]; exact .t hd3 hc3), _, rfl, iteF ?_⟩
      refine ⟨_, rfl, _, rfl, x, k, rfl, dp_same s3 hx, fun c2 nc2 => ?_⟩
      have sc2 := same_upd (o := .tup (stateV ⟨0, k.side, 0⟩)) nc2
      have s4' := s3.trans sc2
      have hd4 := sc2 _ _ hd3
      have hc4 : (upd H3 c2 (.tup (stateV ⟨0, k.side, 0⟩))) c2 = some (.tup ((keyS (first k)).map kV)) := upd_same
      generalize (upd H3 c2 (.tup (stateV ⟨0, k.side, 0⟩))) = H4 at s4' hd4 hc4 ⊢
      refine ⟨d, _, rfl, (by rw [← hv]; exact .t hd4 hc4), rfl, _, rfl, ?_⟩
      refine ite2NQ (fun ne => ?_) (fun eq => ?_)
      · have e0 : (first k, 0) ∉ rows := fun h => ne (by have := lev_uniq hnd h hq; omega)
        rw [decide_eq_false e0] at z
        exact z _ s4'
      have eq0 : qn = 0 := by omega
      subst eq0
      rw [decide_eq_true hq, Bool.true_and] at z
      -- for state in found
      refine ⟨d, .dT (dictL rows), hd4, trivial, fun od => ?_⟩
      have sf : Same H (upd H4 d (.frz od (.dT (dictL rows)))) := same_updR s4' ndH
      have hdf : (upd H4 d (.frz od (.dT (dictL rows)))) d = some (.frz od (.dT (dictL rows))) := upd_same
      generalize (upd H4 d (.frz od (.dT (dictL rows)))) = Hf at sf hdf ⊢
      have out : ∀ H' b, Same Hf H' → rows.all (rowOkR bs k many rows) = b → H' d = some (.frz od (.dT (dictL rows))) ∧ Q (.bl b) (upd H' d (.dT (dictL rows))) := fun H' b s' e => ⟨s' _ _ hdf, by rw [e] at z; exact z _ (same_updR (sf.trans s') ndH)⟩
      refine ⟨_, rfl, d, od, rfl, .inr ⟨dictL rows, hdf, for_it walk_keysT (fun i σ H' => Same Hf H' ∧ (rows.take i).all (rowOkR bs k many rows) = true ∧ ∃ y6 y7 y8, σ = [some (.ref a), some x, some (.int (many : Int)), some (.ref t), some (.ref d), y5, y6, y7, y8]) ⟨Same.refl _, rfl, _, _, _, rfl⟩ ?_ ?_ ?_⟩⟩
      · rintro i σ H' _ ⟨s', _⟩
        exact s' _ _ hdf
      · rintro i v σ H5 H5' hi ⟨s4, hok, y6, y7, y8, rfl⟩ ⟨rfl, kk, vv, qa, hkv, rfl, hqa⟩
        rw [List.getElem?_map] at hkv
        cases hri : rows[i]? with
        | none =>
          rw [hri] at hkv
          cases hkv
        | some r1 =>
          rw [hri] at hkv
          have ekv : (keyS r1.1, V.int (r1.2 : Int)) = (kk, vv) := Option.some.inj hkv
          cases ekv
          have rin := List.mem_of_getElem? hri
          have hval : valV (dictL rows) (keyS r1.1) = some (.int (r1.2 : Int)) := by
            rcases valL rows r1.1 with ⟨hn, _⟩ | ⟨q1, hq1, hv1⟩
            · exact absurd (List.mem_map.mpr ⟨r1, rin, rfl⟩) hn
            · rw [hv1, lev_uniq hnd hq1 (show (r1.1, r1.2) ∈ rows from rin)]
          have s04 := sf.trans s4
          have hdf4 := s4 _ _ hdf
          have hinb := List.all_eq_true.mp hall r1 rin
          have hrb : r1.1.bar ≤ bs.length := by
            unfold inB at hinb
            rw [Bool.and_eq_true, decide_eq_true_iff] at hinb
            exact hinb.1
          have fail : rowOkR bs k many rows r1 = false → ∀ H', Same Hf H' → H' d = some (.frz od (.dT (dictL rows))) ∧ Q (.bl false) (upd H' d (.dT (dictL rows))) := fun hf H' s' => out H' false s' (List.all_eq_false.mpr ⟨r1, rin, by rw [hf]; decide⟩)
          obtain ⟨bv, hbv, hbd⟩ := lst_bars (dp_same s04 hb)
          have hbl2 := bars_len hbd
          refine ⟨_, rfl, qa, _, _, _, rfl, rfl, .of hqa, rfl, _, rfl, _, _, rfl, .inl ⟨_, hbv, rfl⟩, rfl, _, rfl, ?_⟩
          rw [hbl2]
          by_cases hend : r1.1.bar = bs.length ∧ r1.2 < many
          · refine iteEQ (by omega) ⟨_, rfl, _, rfl, d, _, rfl, .inr ⟨_, keyS r1.1, qa, .inr ⟨od, hdf4⟩, rfl, hqa, hval.symm⟩, _, rfl, _, _, rfl, rfl, _, rfl, iteP (by omega) ?_⟩
            refine fail ?_ _ s4
            unfold rowOkR
            rw [decide_eq_true hend.1, decide_eq_true hend.2]
            rfl
          · have hend' : (decide (r1.1.bar = bs.length) && decide (r1.2 < many)) = false := by
              rw [Bool.and_eq_false_iff, decide_eq_false_iff_not, decide_eq_false_iff_not]
              by_cases h : r1.1.bar = bs.length
              · exact .inr fun h2 => hend ⟨h, h2⟩
              · exact .inl h
            refine ite2Q (fun eq => ⟨_, rfl, _, rfl, d, _, rfl, .inr ⟨_, keyS r1.1, qa, .inr ⟨od, hdf4⟩, rfl, hqa, hval.symm⟩, _, rfl, _, _, rfl, rfl, _, rfl, iteN (fun h => hend ⟨by omega, by omega⟩) ?_⟩) (fun ne => iteF ?_)
            all_goals
              refine ⟨_, rfl, _, rfl, _, rfl, a, bs, x, _, k, r1.1, rfl, dp_same s04 hb, dp_same s04 hx, dp_state_of (.of hqa), hrb, hbl, hbo, fun SL H6 s5 nSL hSL => ?_⟩
              obtain ⟨sv, hsl, hstp⟩ := hSL
              have s45 := s4.trans s5
              refine ⟨SL, rfl, ⟨_, .of hsl⟩, for_list (xs := sv) (fun j σ H' => Same H6 H' ∧ ((stepsL bs k r1.1).take j).all (stepOkR rows r1) = true ∧ ∃ y7 y8, σ = [some (.ref a), some x, some (.int (many : Int)), some (.ref t), some (.ref d), y5, some (.ref qa), y7, y8]) ⟨Same.refl _, rfl, _, _, rfl⟩ ?_ ?_ ?_⟩
              · rintro j σ H' _ ⟨s', _⟩
                exact .of (s' _ _ hsl)
              · rintro j v σ H7 hvj ⟨s6, hok6, y7, y8, rfl⟩
                obtain ⟨xx, hxx, t1, o1, rfl, ht1, ho1⟩ := hstp.at hvj
                obtain ⟨mm, oth⟩ := xx
                have s46 := s45.trans s6
                have hdf6 := s46 _ _ hdf
                have ho6 := s6 _ _ ho1
                have hqa6 := (s5.trans s6) _ _ hqa
                have sin := List.mem_of_getElem? hxx
                have fail2 : stepOkR rows r1 (mm, oth) = false → rowOkR bs k many rows r1 = false := fun hf => by
                  unfold rowOkR
                  rw [Bool.and_eq_false_iff]
                  exact .inr (List.all_eq_false.mpr ⟨_, sin, by rw [hf]; decide⟩)
                have go : stepOkR rows r1 (mm, oth) = true → ((stepsL bs k r1.1).take (j + 1)).all (stepOkR rows r1) = true := fun hg => by
                  rw [take_at hxx, List.all_append, hok6, Bool.true_and, List.all_cons, hg]
                  rfl
                refine ⟨t1, _, rfl, .of (s6 _ _ ht1), rfl, _, _, rfl, _, _, rfl, rfl, ?_⟩
                rcases valL rows oth with ⟨hn, hv1⟩ | ⟨q1, hq1, hv1⟩
                · exact ⟨_, rfl, _, rfl, d, none, rfl, .inr ⟨_, keyS oth, o1, .inr ⟨od, hdf6⟩, rfl, ho6, hv1.symm⟩, _, rfl, iteT (fail (fail2 (stepOk_out hn)) H7 s46)⟩
                · refine ⟨_, rfl, _, rfl, d, some _, rfl, .inr ⟨_, keyS oth, o1, .inr ⟨od, hdf6⟩, rfl, ho6, hv1.symm⟩, _, rfl, iteF ?_⟩
                  refine ⟨_, rfl, _, rfl, d, _, rfl, .inr ⟨_, keyS oth, o1, .inr ⟨od, hdf6⟩, rfl, ho6, hv1.symm⟩, _, rfl, _, rfl, d, _, rfl, .inr ⟨_, keyS r1.1, qa, .inr ⟨od, hdf6⟩, rfl, hqa6, hval.symm⟩, _, _, rfl, rfl, _, _, rfl, rfl, _, rfl, ite2P (fun hgt => ?_) (fun hle => ?_)⟩
                  · refine fail (fail2 ?_) H7 s46
                    rw [stepOk_in hnd hq1]
                    exact decide_eq_false (by omega)
                  · refine ⟨s6, go ?_, _, _, rfl⟩
                    rw [stepOk_in hnd hq1]
                    exact decide_eq_true (by omega)
              · rintro σ H7 ⟨s6, hok6, y7, y8, rfl⟩
                rw [hstp.len, List.take_length] at hok6
                refine ⟨s45.trans s6, ?_, _, _, _, rfl⟩
                rw [take_at hri, List.all_append, hok, Bool.true_and, List.all_cons]
                unfold rowOkR
                rw [hend', hok6]
                rfl
      · rintro σ H5 ⟨s4, hok, y6, y7, y8, rfl⟩
        rw [List.length_map, List.take_length] at hok
        obtain ⟨o1, o2⟩ := out H5 true s4 hok
        exact ⟨o1, o2⟩
theorem sc_beats_of : FnScope ["row", "found", "width", "beats", "rests"] ["row"] (defScope s_beats_of) := ⟨rfl, rfl, rfl, by decide +kernel, rfl, by decide +kernel, by decide +kernel⟩
section
variable {K : PySem.W.Frag} {mg : Str → Option Value}
theorem b_beats_of (T : Txt K mg) : Binds K (fdOf K ("beats_of", none)) ["row"] [] := T.beats_of.bindsN fun _ _ _ _ _ _ us hl => match us, hl with | [_], _ => rfl
end
def sp_beats_of (K : PySem.W.Frag) : Sp := fun vs H Q _ => ∃ (a : Addr) (bs : List Bar), vs = [.ref a] ∧ Dp K H (.ref a) (.list (barsD bs)) ∧ Q (.int (beatsOf bs)) H
theorem ok_beats_of {P : Program} {w : World} {K : PySem.W.Frag} {mg : Str → Option Value} {base : Heap} (T : Txt K mg) : OkF P w K mg base CX0 1 ("beats_of", none) ["row"] (sp_beats_of K) := by
  refine okN T.beats_of sc_beats_of (fun vs H Q E h => ?_) (fun cdv A outer s H vs Q E hr h => ?_)
  · obtain ⟨a, bs, rfl, _⟩ := h
    rfl
  · obtain ⟨a, bs, rfl, hd, q⟩ := h
    obtain ⟨xs, hs, ha⟩ := lst_bars hd
    refine ⟨_, (pss_cons (ps_set (i := 1) sc_beats_of.nd rfl (by first | exact Or.inl rfl | exact Or.inr rfl) pe_int)
      (pss_cons (ps_for PassesOwn.never rfl (pi_list (pv 0)) (pg_tup rfl (pgs_cons (pg_name (i := 2) sc_beats_of.nd rfl (by first | exact Or.inl rfl | exact Or.inr rfl)) (pgs_cons (pg_name (i := 3) sc_beats_of.nd rfl (by first | exact Or.inl rfl | exact Or.inr rfl)) (pgs_cons (pg_name (i := 4) sc_beats_of.nd rfl (by first | exact Or.inl rfl | exact Or.inr rfl)) pgs_nil))))
      (pss_cons (ps_if (pt_not (pt_val (pv 4))) (pss_one (ps_ret (pv 1))) pss_nil)
      (pss_one (ps_set (i := 1) sc_beats_of.nd rfl (by first | exact Or.inl rfl | exact Or.inr rfl) (pe_op op_add (pv 1) (pv 3))))))
      (pss_one (ps_ret (pv 1))))), ?_⟩
    refine ⟨_, rfl, a, rfl, ⟨_, hs⟩, for_list (xs := xs) (fun i σ H' => H' = H ∧ ∃ f y2 y3 y4, σ = [some (.ref a), some (.int f), y2, y3, y4] ∧ f + beatsOf (bs.drop i) = beatsOf bs) ⟨rfl, 0, none, none, none, rfl, ?_⟩ ?_ ?_ ?_⟩
    · show 0 + beatsOf bs = beatsOf bs
      omega
    · rintro i σ H' _ ⟨rfl, _⟩
      exact hs
    · rintro i x σ H' hx ⟨rfl, f, y2, y3, y4, rfl, e⟩
      obtain ⟨b, p, hb, rfl, hp⟩ := bar_at ha hx
      refine ⟨p, _, rfl, hp, rfl, _, _, rfl, _, _, rfl, _, _, rfl, rfl, ?_⟩
      rw [drop_at hb] at e
      refine ⟨_, rfl, _, rfl, ?_⟩
      replace e : f + (if b.r = true then b.b + beatsOf (bs.drop (i + 1)) else 0) = beatsOf bs := e
      cases hr : b.r with
      | true =>
        rw [hr, if_pos rfl] at e
        refine iteF ⟨_, rfl, _, rfl, _, _, rfl, rfl, rfl, _, _, _, _, rfl, ?_⟩
        omega
      | false =>
        rw [hr, if_neg Bool.false_ne_true] at e
        refine iteT ⟨_, rfl, ?_⟩
        rw [show f = beatsOf bs by omega]
        exact q
    · rintro σ H' ⟨rfl, f, y2, y3, y4, rfl, e⟩
      rw [bars_len ha, List.drop_length] at e
      refine ⟨_, rfl, ?_⟩
      rw [show f = beatsOf bs by
        have e2 : f + 0 = beatsOf bs := e
        omega]
      exact q
theorem sc_Part_ahead : FnScope ["self", "at"] ["self", "at"] (defScope s_Part_ahead) := ⟨rfl, rfl, rfl, by decide +kernel, rfl, by decide +kernel, by decide +kernel⟩
section
variable {K : PySem.W.Frag} {mg : Str → Option Value}
theorem b_Part_ahead (T : Txt K mg) : Binds K (fdOf K ("Part", some "ahead")) ["self", "at"] [] := T.Part_ahead.bindsN fun _ _ _ _ _ _ us hl => match us, hl with | [_, _], _ => rfl
end
def sp_Part_ahead (K : PySem.W.Frag) : Sp := fun vs H Q _ => ∃ (p q : Addr) (k : Nat) (bs : List Bar) (past : List (List Bar)), vs = [.ref p, .int (k : Int)] ∧ PartX K H p q bs past ∧ ∀ H', Same H H' → Q (.int (beatsOf (bs.take k).reverse)) H'
theorem ok_Part_ahead {P : Program} {w : World} {K : PySem.W.Frag} {mg : Str → Option Value} {base : Heap} (T : Txt K mg) : OkF P w K mg base CX0 2 ("Part", some "ahead") ["self", "at"] (sp_Part_ahead K) := by
  refine okN T.Part_ahead sc_Part_ahead (fun vs H Q E h => ?_) (fun cdv A outer s H vs Q E hr h => ?_)
  · obtain ⟨p, q, k, bs, past, rfl, _⟩ := h
    rfl
  · obtain ⟨p, q, k, bs, past, rfl, hp, z⟩ := h
    obtain ⟨dx, r, ws, h1, n, ⟨vs, h2, h3⟩, _⟩ := hp
    refine ⟨_, (pss_one (ps_ret (pe_call (ok_beats_of T) (hr.mono (by decide)) (by rfl) T.g_beats_of T.beats_of.kp (b_beats_of T) .nil pass0 (pa_cons (pe_revL (pe_slice sl_list (pe_fld (pv 0) rfl) po_none (po_some (pv 1)))) pa_nil)))), ?_⟩
    refine ⟨_, rfl, p, _, dx, _, _, rfl, h1, T.cl_Part, T.n_row, pf_row, _, rfl, _, rfl, r, vs, rfl, .of h2, fun c nc => ?_⟩
    rw [cut_take]
    have s1 : Same H (upd H c (.lst (vs.take k))) := same_upd nc
    refine ⟨c, _, rfl, .of upd_same, fun e ne => ?_⟩
    have s2 := s1.trans (same_upd (o := .lst (vs.take k).reverse) ne)
    refine ⟨e, (bs.take k).reverse, rfl, .lst (.of upd_same) ?_, z _ s2⟩
    show DpAll K _ _ (((bs.take k).reverse).map barD)
    rw [List.map_reverse, List.map_take]
    exact dpa_rev (dpa_take k (dpa_same s2 h3))
theorem sc_Part_behind : FnScope ["self", "at"] ["self", "at"] (defScope s_Part_behind) := ⟨rfl, rfl, rfl, by decide +kernel, rfl, by decide +kernel, by decide +kernel⟩
section
variable {K : PySem.W.Frag} {mg : Str → Option Value}
theorem b_Part_behind (T : Txt K mg) : Binds K (fdOf K ("Part", some "behind")) ["self", "at"] [] := T.Part_behind.bindsN fun _ _ _ _ _ _ us hl => match us, hl with | [_, _], _ => rfl
end
def sp_Part_behind (K : PySem.W.Frag) : Sp := fun vs H Q _ => ∃ (p q : Addr) (k : Nat) (bs : List Bar) (past : List (List Bar)), vs = [.ref p, .int (k : Int)] ∧ PartX K H p q bs past ∧ ∀ H', Same H H' → Q (.int (beatsOf (bs.drop k))) H'
theorem ok_Part_behind {P : Program} {w : World} {K : PySem.W.Frag} {mg : Str → Option Value} {base : Heap} (T : Txt K mg) : OkF P w K mg base CX0 2 ("Part", some "behind") ["self", "at"] (sp_Part_behind K) := by
  refine okN T.Part_behind sc_Part_behind (fun vs H Q E h => ?_) (fun cdv A outer s H vs Q E hr h => ?_)
  · obtain ⟨p, q, k, bs, past, rfl, _⟩ := h
    rfl
  · obtain ⟨p, q, k, bs, past, rfl, hp, z⟩ := h
    obtain ⟨dx, r, ws, h1, n, ⟨vs, h2, h3⟩, _⟩ := hp
    refine ⟨_, (pss_one (ps_ret (pe_call (ok_beats_of T) (hr.mono (by decide)) (by rfl) T.g_beats_of T.beats_of.kp (b_beats_of T) .nil pass0 (pa_cons (pe_slice sl_list (pe_fld (pv 0) rfl) (po_some (pv 1)) po_none) pa_nil)))), ?_⟩
    refine ⟨_, rfl, p, _, dx, _, _, rfl, h1, T.cl_Part, T.n_row, pf_row, _, rfl, _, rfl, r, vs, rfl, .of h2, fun c nc => ?_⟩
    rw [cut_drop]
    have s1 : Same H (upd H c (.lst (vs.drop k))) := same_upd nc
    refine ⟨c, bs.drop k, rfl, .lst (.of upd_same) ?_, z _ s1⟩
    show DpAll K _ _ ((bs.drop k).map barD)
    rw [List.map_drop]
    exact dpa_drop k (dpa_same s1 h3)
theorem sc_Part_rest : FnScope ["self", "at"] ["self", "at"] (defScope s_Part_rest) := ⟨rfl, rfl, rfl, by decide +kernel, rfl, by decide +kernel, by decide +kernel⟩
section
variable {K : PySem.W.Frag} {mg : Str → Option Value}
theorem b_Part_rest (T : Txt K mg) : Binds K (fdOf K ("Part", some "rest")) ["self", "at"] [] := T.Part_rest.bindsN fun _ _ _ _ _ _ us hl => match us, hl with | [_, _], _ => rfl
end
def sp_Part_rest (K : PySem.W.Frag) : Sp := fun vs H Q _ => ∃ (p q : Addr) (k : Nat) (bs : List Bar) (past : List (List Bar)), vs = [.ref p, .int (k : Int)] ∧ PartX K H p q bs past ∧ k ≤ bs.length ∧ ∀ H', Same H H' → Q (.int (restOf bs k)) H'
theorem isNum_nat {k n : Nat} (h : k ≤ n) : isNum (.int (k : Int)) 0 (n : Int) = true := by
  show (decide ((0 : Int) ≤ (k : Int)) && decide ((k : Int) ≤ (n : Int))) = true
  rw [decide_eq_true (by omega), decide_eq_true (by omega)]
  rfl
theorem ok_Part_rest {P : Program} {w : World} {K : PySem.W.Frag} {mg : Str → Option Value} {base : Heap} (T : Txt K mg) : OkF P w K mg base CX0 3 ("Part", some "rest") ["self", "at"] (sp_Part_rest K) := by
  refine okN T.Part_rest sc_Part_rest (fun vs H Q E h => ?_) (fun cdv A outer s H vs Q E hr h => ?_)
  · obtain ⟨p, q, k, bs, past, rfl, _⟩ := h
    rfl
  · obtain ⟨p, q, k, bs, past, rfl, hp, hk, z⟩ := h
    obtain ⟨dx, r, ws, h1, n, ⟨vs, h2, h3⟩, _⟩ := id hp
    refine ⟨_, (pss_cons (ps_if (pt_not (pt_val (pe_call (ok_is_number T) (hr.mono (by decide)) (by rfl) T.g_is_number T.is_number.kp (b_is_number T) .nil pass0 (pa_cons (pv 1) (pa_cons pe_int (pa_cons (pe_callB call_len (by rfl) T.b_len PySem.boot_len (pa_cons (pe_fld (pv 0) rfl) pa_nil)) pa_nil)))))) pss_never pss_nil)
      (pss_one (ps_ret (pe_op op_add (pe_meth (pv 0) T.cl_Part T.m_Part_ahead (ok_Part_ahead T) (hr.mono (by decide)) (b_Part_ahead T) .nil pass0 (pa_cons (pv 1) pa_nil)) (pe_meth (pv 0) T.cl_Part T.m_Part_behind (ok_Part_behind T) (hr.mono (by decide)) (b_Part_behind T) .nil pass0 (pa_cons (pv 1) pa_nil)))))), ?_⟩
    refine ⟨_, rfl, _, rfl, p, _, dx, _, _, rfl, h1, T.cl_Part, T.n_row, pf_row, _, _, rfl, .inl ⟨_, .of h2, rfl⟩, _, .int (k : Int), _, _, rfl, .int _, _, rfl, ?_⟩
    rw [bars_len h3, isNum_nat hk]
    refine iteF ⟨_, rfl, p, dx, _, rfl, h1, pf_no (by decide +kernel) (by decide +kernel), _, rfl, p, q, k, bs, past, rfl, hp, fun H1 s1 => ?_⟩
    refine ⟨_, rfl, p, dx, _, rfl, s1 _ _ h1, pf_no (by decide +kernel) (by decide +kernel), _, rfl, p, q, k, bs, past, rfl, hp.same s1, fun H2 s2 => ?_⟩
    exact ⟨_, _, rfl, rfl, z _ (s1.trans s2)⟩
theorem sc_may_turn : FnScope ["part", "desk", "side", "bar"] ["part", "desk", "side", "bar"] (defScope s_may_turn) := ⟨rfl, rfl, rfl, by decide +kernel, rfl, by decide +kernel, by decide +kernel⟩
section
variable {K : PySem.W.Frag} {mg : Str → Option Value}
theorem b_may_turn (T : Txt K mg) : Binds K (fdOf K ("may_turn", none)) ["part", "desk", "side", "bar"] [] := T.may_turn.bindsN fun _ _ _ _ _ _ us hl => match us, hl with | [_, _, _, _], _ => rfl
end
def sp_may_turn (K : PySem.W.Frag) : Sp := fun vs H Q _ => ∃ (p q : Addr) (bs : List Bar) (past : List (List Bar)) (x : V) (k : Desk) (r : Bool) (b : Nat), vs = [.ref p, x, .str (sideS r), .int (b : Int)] ∧ PartX K H p q bs past ∧ Dp K H x (deskD k) ∧ b ≤ bs.length ∧ bs.length ≤ 1000 ∧
  ∀ H', Same H H' → Q (.bl (mayTurn bs k r b)) H'
theorem ok_may_turn {P : Program} {w : World} {K : PySem.W.Frag} {mg : Str → Option Value} {base : Heap} (T : Txt K mg) : OkF P w K mg base CX0 4 ("may_turn", none) ["part", "desk", "side", "bar"] (sp_may_turn K) := by
  refine okN T.may_turn sc_may_turn (fun vs H Q E h => ?_) (fun cdv A outer s H vs Q E hr h => ?_)
  · obtain ⟨p, q, bs, past, x, k, r, b, rfl, _⟩ := h
    rfl
  · obtain ⟨p, q, bs, past, x, k, r, b, rfl, hp, hx, hb, hbl, z⟩ := h
    obtain ⟨dk, rfl, hdk⟩ := dp_desk hx
    obtain ⟨dx, rr, ws, h1, _⟩ := id hp
    refine ⟨_, (pss_one (ps_ret (pe_or (pe_cmpR op_eq (pv 2) pe_str (nomark _)) (pe_or (pe_cmpR op_eq (pv 3) (pe_callB (call_lenP T (ok_Part_len T) (hr.mono (by decide))) (by rfl) T.b_len PySem.boot_len (pa_cons (pv 0) pa_nil)) (nomark _)) (pe_one (pe_cmpR op_ge (pe_meth (pv 0) T.cl_Part T.m_Part_rest (ok_Part_rest T) (hr.mono (by decide)) (b_Part_rest T) .nil pass0 (pa_cons (pv 3) pa_nil)) (pe_ix ix_tup (pv 1) pe_int (fun _ _ => rfl)) (nomark _))))))), ?_⟩
    refine ⟨_, rfl, rfl, _, rfl, ?_⟩
    cases r with
    | false =>
      rw [show decide (V.str (sideS false) = V.str (Str.ofString "left")) = true by decide +kernel]
      exact iteT (z _ (Same.refl _))
    | true =>
      rw [show decide (V.str (sideS true) = V.str (Str.ofString "left")) = false by decide +kernel]
      refine iteF ⟨_, rfl, _, rfl, p, dx, _, rfl, h1, p, q, bs, past, rfl, hp, bs.length, rfl, by omega, rfl, _, rfl, ?_⟩
      refine ite2Q (fun e => ?_) (fun ne => ?_)
      · have z1 := z H (Same.refl _)
        have eb : b = bs.length := by omega
        rw [show mayTurn bs k true b = true by unfold mayTurn; rw [decide_eq_true eb]; rfl] at z1
        exact z1
      · refine ⟨_, rfl, p, dx, _, rfl, h1, pf_no (by decide +kernel) (by decide +kernel), _, rfl, p, q, b, bs, past, rfl, hp, hb, fun H2 s2 => ?_⟩
        refine ⟨_, rfl, dk, _, _, _, rfl, rfl, same_sqt s2 hdk, rfl, _, _, rfl, rfl, ?_⟩
        have z1 := z H2 s2
        have eb : ¬ b = bs.length := by omega
        rw [show mayTurn bs k true b = decide (k.turn ≤ restOf bs b) by unfold mayTurn; rw [decide_eq_false eb]; rfl] at z1
        exact z1
theorem sc_Part_wide : FnScope ["self", "begin", "end", "width", "beats", "rests"] ["self", "begin", "end"] (defScope s_Part_wide) := ⟨rfl, rfl, rfl, by decide +kernel, rfl, by decide +kernel, by decide +kernel⟩
section
variable {K : PySem.W.Frag} {mg : Str → Option Value}
theorem b_Part_wide (T : Txt K mg) : Binds K (fdOf K ("Part", some "wide")) ["self", "begin", "end"] [] := T.Part_wide.bindsN fun _ _ _ _ _ _ us hl => match us, hl with | [_, _, _], _ => rfl
end
def sp_Part_wide (K : PySem.W.Frag) : Sp := fun vs H Q _ => ∃ (p q : Addr) (b e : Nat) (bs : List Bar) (past : List (List Bar)), vs = [.ref p, .int (b : Int), .int (e : Int)] ∧ PartX K H p q bs past ∧ b ≤ e ∧ bs.length ≤ 1000 ∧ ∀ H', Same H H' → Q (.int (wideOf bs b e)) H'
theorem ok_Part_wide {P : Program} {w : World} {K : PySem.W.Frag} {mg : Str → Option Value} {base : Heap} (T : Txt K mg) : OkF P w K mg base CX0 1 ("Part", some "wide") ["self", "begin", "end"] (sp_Part_wide K) := by
  refine okN T.Part_wide sc_Part_wide (fun vs H Q E h => ?_) (fun cdv A outer s H vs Q E hr h => ?_)
  · obtain ⟨p, q, b, e, bs, past, rfl, _⟩ := h
    rfl
  · obtain ⟨p, q, b, e, bs, past, rfl, hp, hbe, hl, z⟩ := h
    obtain ⟨dx, r, ws, h1, n, ⟨vs, h2, h3⟩, _⟩ := hp
    refine ⟨_, (pss_one (ps_ret (pe_callB (cr_sum rfl) (by rfl) T.b_sum (by decide +kernel) (pa_cons (pe_lc (own := [("width", 3), ("beats", 4), ("rests", 5)]) (g := (gTup K 3 (gCons (gName 3) (gCons (gName 4) (gCons (gName 5) gNil))))) (tt := tYes)  (by rfl) sc_Part_wide.nd (pi_list (pe_slice sl_list (pe_fld (pv 0) rfl) (po_some (pv 1)) (po_some (pv 2)))) (blkOk_by (own := [("width", 3), ("beats", 4), ("rests", 5)]) (N := ["self", "begin", "end", "width", "beats", "rests"]) (sc := defScope s_Part_wide) (by decide +kernel)) (fun _ _ _ _ _ => (pg_tup rfl (pgs_cons (pg_name (i := 3) sc_Part_wide.nd rfl (by first | exact Or.inl rfl | exact Or.inr rfl)) (pgs_cons (pg_name (i := 4) sc_Part_wide.nd rfl (by first | exact Or.inl rfl | exact Or.inr rfl)) (pgs_cons (pg_name (i := 5) sc_Part_wide.nd rfl (by first | exact Or.inl rfl | exact Or.inr rfl)) pgs_nil))))) (fun _ _ _ _ _ => pts_nil) (fun _ _ _ _ _ => (pv 3))) pa_nil)))), ?_⟩
    refine ⟨_, rfl, p, _, dx, _, _, rfl, h1, T.cl_Part, T.n_row, pf_row, _, rfl, _, rfl, _, rfl, _, rfl, r, vs, rfl, .of h2, fun c nc => ?_⟩
    rw [cut_both hbe]
    have s1 : Same H (upd H c (.lst ((vs.drop b).take (e - b)))) := same_upd nc
    have h4 : DpAll K (upd H c (.lst ((vs.drop b).take (e - b)))) ((vs.drop b).take (e - b)) (barsD ((bs.drop b).take (e - b))) := by
      show DpAll K _ _ (((bs.drop b).take (e - b)).map barD)
      rw [List.map_take, List.map_drop]
      exact dpa_take _ (dpa_drop b (dpa_same s1 h3))
    have hlen := bars_len h4
    have hle : ((bs.drop b).take (e - b)).length ≤ 1000 := by
      rw [List.length_take, List.length_drop]
      omega
    refine ⟨c, rfl, ⟨_, .of upd_same⟩, fun D hD => lc_list (K := K) (a := c) (xs := (vs.drop b).take (e - b)) (fun i H' => Same (upd H c (.lst ((vs.drop b).take (e - b)))) H' ∧ H' D = some (.lst (((((bs.drop b).take (e - b)).take i).map Bar.w).map V.int))) ⟨same_upd hD, ?_⟩ ?_ ?_ ?_⟩
    · rw [upd_same]
      rfl
    · rintro i H' _ ⟨s, _⟩
      exact .of (s _ _ upd_same)
    · rintro i v H' hv ⟨s, e1⟩
      obtain ⟨x, t, hx, rfl, ht⟩ := bar_at h4 hv
      refine ⟨t, _, rfl, same_sqt s ht, rfl, _, _, rfl, _, _, rfl, _, _, rfl, rfl, rfl, _, rfl, _, e1, ?_, same_updR s hD, ?_⟩
      · rw [List.length_map, List.length_map, List.length_take]
        exact small1000 (by omega)
      · rw [upd_same, take_at hx, List.map_append, List.map_append]
        rfl
    · rintro H1 ⟨s2, e1⟩
      rw [hlen, List.take_length] at e1
      exact ⟨D, _, rfl, .of e1, z _ (s1.trans s2)⟩
theorem sc_steps : FnScope ["part", "desk", "state", "bar", "side", "used", "other", "found", "end"] ["part", "desk", "state"] (defScope s_steps) := ⟨rfl, rfl, rfl, by decide +kernel, rfl, by decide +kernel, by decide +kernel⟩
section
variable {K : PySem.W.Frag} {mg : Str → Option Value}
theorem b_steps (T : Txt K mg) : Binds K (fdOf K ("steps", none)) ["part", "desk", "state"] [] := T.steps.bindsN fun _ _ _ _ _ _ us hl => match us, hl with | [_, _, _], _ => rfl
end
def sp_steps (K : PySem.W.Frag) : Sp := fun vs H Q _ => ∃ (p q : Addr) (bs : List Bar) (past : List (List Bar)) (x y : V) (k : Desk) (s : Sta), vs = [.ref p, x, y] ∧ PartX K H p q bs past ∧ Dp K H x (deskD k) ∧ Dp K H y (stateD s) ∧ s.bar ≤ bs.length ∧ bs.length ≤ 1000 ∧
  ∀ v H', Same H H' → H v = none → StepsL H' v (stepsL bs k s) → Q (.ref v) H'
theorem ok_steps {P : Program} {w : World} {K : PySem.W.Frag} {mg : Str → Option Value} {base : Heap} (T : Txt K mg) : OkF P w K mg base CX0 5 ("steps", none) ["part", "desk", "state"] (sp_steps K) := by
  refine okN T.steps sc_steps (fun vs H Q E h => ?_) (fun cdv A outer s H vs Q E hr h => ?_)
  · obtain ⟨p, q, bs, past, x, y, k, s, rfl, _⟩ := h
    rfl
  · obtain ⟨p, q, bs, past, x, y, k, st, rfl, hp, hx, hy, hsb, hbl, z⟩ := h
    obtain ⟨dk, rfl, hdk⟩ := dp_desk hx
    obtain ⟨sa, rfl, hsa⟩ := dp_state hy
    obtain ⟨dx, rr, ws, h1, _⟩ := id hp
    have hln := steps_len bs k st
    refine ⟨_, (pss_cons (ps_asg (pv 2) (pg_tup rfl (pgs_cons (pg_name (i := 3) sc_steps.nd rfl (by first | exact Or.inl rfl | exact Or.inr rfl)) (pgs_cons (pg_name (i := 4) sc_steps.nd rfl (by first | exact Or.inl rfl | exact Or.inr rfl)) (pgs_cons (pg_name (i := 5) sc_steps.nd rfl (by first | exact Or.inl rfl | exact Or.inr rfl)) pgs_nil)))))
      (pss_cons (ps_set (i := 6) sc_steps.nd rfl (by first | exact Or.inl rfl | exact Or.inr rfl) (pe_ifExp (pt_cmpR op_eq (pv 4) pe_str (nomark _)) pe_str pe_str))
      (pss_cons (ps_set (i := 7) sc_steps.nd rfl (by first | exact Or.inl rfl | exact Or.inr rfl) (pe_lst pa_nil))
      (pss_cons (ps_if (PW.pt (pw_and (pt_cmpR op_lt (pv 3) (pe_callB (call_lenP T (ok_Part_len T) (hr.mono (by decide))) (by rfl) T.b_len PySem.boot_len (pa_cons (pv 0) pa_nil)) (nomark _)) (pw_and (pt_cmpR op_lt (pv 5) (pe_ix ix_tup (pv 1) pe_int (fun _ _ => rfl)) (nomark _)) (pw_and1 (pt_val (pe_call (ok_may_turn T) (hr.mono (by decide)) (by rfl) T.g_may_turn T.may_turn.kp (b_may_turn T) .nil pass0 (pa_cons (pv 0) (pa_cons (pv 1) (pa_cons (pv 4) (pa_cons (pv 3) pa_nil)))))))))) (pss_one (ps_expr (pe_bm PySem.F.plainAttrs_list PySem.F.slot_list_append PySem.F.type_list_append mt_append (pv 7) (pa_cons (pe_tup (pa_cons pe_int (pa_cons (pe_tup (pa_cons (pv 3) (pa_cons (pv 6) (pa_cons (pe_op op_add (pv 5) pe_int) pa_nil)))) pa_nil))) pa_nil)))) pss_nil)
      (pss_cons (ps_set (i := 8) sc_steps.nd rfl (by first | exact Or.inl rfl | exact Or.inr rfl) (pe_op op_add (pv 3) pe_int))
      (pss_cons (ps_while PassesOwn.never (PW.pt (pw_and (pt_cmpR op_le (pv 8) (pe_callB (call_lenP T (ok_Part_len T) (hr.mono (by decide))) (by rfl) T.b_len PySem.boot_len (pa_cons (pv 0) pa_nil)) (nomark _)) (pw_and1 (pt_cmpR op_le (pe_meth (pv 0) T.cl_Part T.m_Part_wide (ok_Part_wide T) (hr.mono (by decide)) (b_Part_wide T) .nil pass0 (pa_cons (pv 3) (pa_cons (pv 8) pa_nil))) (pe_ix ix_tup (pv 1) pe_int (fun _ _ => rfl)) (nomark _)))))
      (pss_cons (ps_if (pt_val (pe_call (ok_may_turn T) (hr.mono (by decide)) (by rfl) T.g_may_turn T.may_turn.kp (b_may_turn T) .nil pass0 (pa_cons (pv 0) (pa_cons (pv 1) (pa_cons (pv 4) (pa_cons (pv 8) pa_nil)))))) (pss_one (ps_expr (pe_bm PySem.F.plainAttrs_list PySem.F.slot_list_append PySem.F.type_list_append mt_append (pv 7) (pa_cons (pe_tup (pa_cons (pe_op op_sub (pv 8) (pv 3)) (pa_cons (pe_tup (pa_cons (pv 8) (pa_cons (pv 6) (pa_cons (pv 5) pa_nil)))) pa_nil))) pa_nil)))) pss_nil)
      (pss_one (ps_set (i := 8) sc_steps.nd rfl (by first | exact Or.inl rfl | exact Or.inr rfl) (pe_op op_add (pv 8) pe_int)))))
      (pss_one (ps_ret (pv 7))))))))), ?_⟩
    refine ⟨_, rfl, sa, _, rfl, hsa, rfl, _, _, rfl, _, _, rfl, _, _, rfl, rfl, ?_⟩
    obtain ⟨sb, sr, su⟩ := st
    dsimp only at hsb
    cases sr
    case false =>
      refine ⟨_, rfl, rfl, _, rfl, ite_side ?_⟩
      first | refine iteT ?_ | refine iteF ?_
      -- found = []
      refine ⟨by decide, fun F nF => ?_⟩
      have sF := same_upd (o := .lst []) nF
      have hF0 : StepsL (upd H F (.lst [])) F [] := ⟨[], upd_same, trivial⟩
      generalize (upd H F (.lst [])) = HF at sF hF0 ⊢
      refine ⟨_, rfl, _, rfl, p, dx, _, rfl, sF _ _ h1, p, q, bs, past, rfl, hp.same sF, bs.length, rfl, by omega, _, _, rfl, rfl, _, rfl, ite2P (fun c1 => ?_) (fun c1 => iteF ?_)⟩
      rotate_left
      have sG := sF
      have hG : StepsL HF F [] := hF0
      have hpre : stepsL bs k ⟨sb, false, su⟩ = [] ++ someSteps bs k ⟨sb, false, su⟩ (sb + 1) := by
        unfold stepsL zeroStep
        rw [if_neg (fun h => c1 (by have h' : sb < bs.length := h.1; omega))]
      generalize HF = G at sG hG ⊢
      generalize ([] : List (Nat × Sta)) = pre at hG hpre
      rotate_right
      refine ⟨_, rfl, _, rfl, dk, _, _, _, rfl, rfl, same_sqt sF hdk, rfl, _, _, rfl, rfl, _, rfl, ite2P (fun c2 => ?_) (fun c2 => iteF ?_)⟩
      rotate_left
      have sG := sF
      have hG : StepsL HF F [] := hF0
      have hpre : stepsL bs k ⟨sb, false, su⟩ = [] ++ someSteps bs k ⟨sb, false, su⟩ (sb + 1) := by
        unfold stepsL zeroStep
        rw [if_neg (fun h => c2 h.2.1)]
      generalize HF = G at sG hG ⊢
      generalize ([] : List (Nat × Sta)) = pre at hG hpre
      rotate_right
      refine ⟨_, rfl, _, rfl, _, rfl, _, rfl, p, q, bs, past, _, k, false, sb, rfl, hp.same sF, dp_same sF hx, by omega, hbl, fun H2 s2 => ⟨_, rfl, ite2B (fun c3 => ?_) (fun c3 => ?_)⟩⟩
      rotate_left
      have sG := sF.trans s2
      have hG : StepsL H2 F [] := hF0.same s2
      have hpre : stepsL bs k ⟨sb, false, su⟩ = [] ++ someSteps bs k ⟨sb, false, su⟩ (sb + 1) := by
        unfold stepsL zeroStep
        rw [if_neg (fun h => by rw [c3] at h; exact Bool.false_ne_true h.2.2)]
      generalize H2 = G at sG hG ⊢
      generalize ([] : List (Nat × Sta)) = pre at hG hpre
      rotate_right
      obtain ⟨fv, hf1, hf2⟩ := hF0.same s2
      refine ⟨_, rfl, .inl ⟨rfl, _, .of hf1⟩, _, rfl, _, rfl, _, rfl, _, _, rfl, rfl, by show (3 : Nat) ≤ sizeLine; decide, fun o no => ?_⟩
      have so := same_upd (o := .tup (stateV ⟨sb, !false, su + 1⟩)) no
      refine ⟨by show (2 : Nat) ≤ sizeLine; decide, fun t nt => ?_⟩
      have st2 := same_upd (o := .tup [.int 0, .ref o]) nt
      have s3 := so.trans st2
      refine ⟨F, fv, _, rfl, rfl, s3 _ _ hf1, ?_, ?_⟩
      · rw [hf2.len]
        exact small1000 (Nat.zero_le _)
      have sG : Same H (upd (upd (upd H2 o (.tup (stateV ⟨sb, !false, su + 1⟩))) t (.tup [.int 0, .ref o])) F (.lst (fv ++ [.ref t]))) := same_updR ((sF.trans s2).trans s3) nF
      have hG : StepsL (upd (upd (upd H2 o (.tup (stateV ⟨sb, !false, su + 1⟩))) t (.tup [.int 0, .ref o])) F (.lst (fv ++ [.ref t]))) F ([] ++ [(0, ⟨sb, !false, su + 1⟩)]) := StepsL.app (x := (0, ⟨sb, !false, su + 1⟩)) (o := o) (H' := H) (s3 _ _ hf1) (hf2.keep fun b ys z => s3 _ _ z) upd_same (st2 _ _ upd_same)
      have hpre : stepsL bs k ⟨sb, false, su⟩ = ([] ++ [(0, ⟨sb, !false, su + 1⟩)]) ++ someSteps bs k ⟨sb, false, su⟩ (sb + 1) := by
        unfold stepsL zeroStep
        rw [if_pos ⟨by have h : (sb : Int) < (bs.length : Int) := c1; show sb < bs.length; omega, c2, c3⟩]
        rfl
      generalize ([] : List (Nat × Sta)) ++ [(0, ⟨sb, !false, su + 1⟩)] = pre at hG hpre
      all_goals
        refine ⟨_, rfl, _, _, rfl, rfl, ?_⟩
        refine ⟨(fun m σ' H' => ∃ (e : Nat) (pre : List (Nat × Sta)), σ' = [some (.ref p), some (.ref dk), some (.ref sa), some (.int (sb : Int)), some (.str (sideS false)), some (.int (su : Int)), some (.str (sideS (!false))), some (.ref F), some (.int (e : Int))] ∧ Same H H' ∧ StepsL H' F pre ∧ stepsL bs k ⟨sb, false, su⟩ = pre ++ someSteps bs k ⟨sb, false, su⟩ e ∧ e ≤ bs.length + 1 ∧ sb + 1 ≤ e ∧ m = bs.length + 1 - e), ⟨_, sb + 1, pre, rfl, sG, hG, hpre, by omega, Nat.le_refl _, rfl⟩, ?_⟩
        rintro m σ H3 ⟨e, pre3, rfl, s3, hF3, hp3, he1, he2, hm⟩
        refine ⟨_, rfl, _, rfl, p, dx, _, rfl, s3 _ _ h1, p, q, bs, past, rfl, hp.same s3, bs.length, rfl, by omega, _, _, rfl, rfl, _, rfl, ite2P (fun c4 => ?_) (fun c4 => iteF ?_)⟩
        rotate_left
        rw [some_end (by omega), List.append_nil] at hp3
        refine ⟨_, rfl, z _ _ s3 nF ?_⟩
        rw [hp3]
        exact hF3
        refine ⟨_, rfl, p, dx, _, rfl, s3 _ _ h1, pf_no (by decide +kernel) (by decide +kernel), _, rfl, _, rfl, p, q, sb, e, bs, past, rfl, hp.same s3, by omega, hbl, fun H4 s4 => ?_⟩
        have s34 := s3.trans s4
        refine ⟨_, rfl, dk, _, _, _, rfl, rfl, same_sqt s34 hdk, rfl, _, _, rfl, rfl, _, rfl, ite2P (fun c5 => ?_) (fun c5 => ?_)⟩
        rotate_left
        rw [some_wide (by omega) (decide_eq_false c5), List.append_nil] at hp3
        refine ⟨_, rfl, z _ _ s34 nF ?_⟩
        rw [hp3]
        exact hF3.same s4
        rw [some_next (by omega) (decide_eq_true c5)] at hp3
        refine ⟨(fun σ' H' => ∃ m', m' < m ∧ ∃ (e : Nat) (pre : List (Nat × Sta)), σ' = [some (.ref p), some (.ref dk), some (.ref sa), some (.int (sb : Int)), some (.str (sideS false)), some (.int (su : Int)), some (.str (sideS (!false))), some (.ref F), some (.int (e : Int))] ∧ Same H H' ∧ StepsL H' F pre ∧ stepsL bs k ⟨sb, false, su⟩ = pre ++ someSteps bs k ⟨sb, false, su⟩ e ∧ e ≤ bs.length + 1 ∧ sb + 1 ≤ e ∧ m' = bs.length + 1 - e), fun _ _ h => h, ?_⟩
        refine ⟨_, rfl, _, rfl, _, rfl, _, rfl, p, q, bs, past, _, k, false, e, rfl, hp.same s34, dp_same s34 hx, by omega, hbl, fun H5 s5 => ⟨_, rfl, ite2B (fun c6 => ?_) (fun c6 => ?_)⟩⟩
        rotate_left
        rw [show mayTurn bs k (Sta.mk sb false su).right e = false from c6, if_neg Bool.false_ne_true, List.nil_append] at hp3
        refine ⟨_, rfl, _, _, rfl, rfl, m - 1, by omega, e + 1, pre3, rfl, s34.trans s5, (hF3.same s4).same s5, hp3, by omega, by omega, by omega⟩
        rw [show mayTurn bs k (Sta.mk sb false su).right e = true from c6, if_pos rfl, ← List.append_assoc] at hp3
        obtain ⟨fv3, hf31, hf32⟩ := (hF3.same s4).same s5
        refine ⟨_, rfl, .inl ⟨rfl, _, .of hf31⟩, _, rfl, _, rfl, _, _, rfl, rfl, ?_⟩
        have eI : (e : Int) - (sb : Int) = ((e - sb : Nat) : Int) := by omega
        refine ⟨_, rfl, _, rfl, _, rfl, by show (3 : Nat) ≤ sizeLine; decide, fun o3 no3 => ?_⟩
        have so3 := same_upd (o := .tup (stateV ⟨e, !false, su⟩)) no3
        refine ⟨by show (2 : Nat) ≤ sizeLine; decide, fun t3 nt3 => ?_⟩
        have st3 := same_upd (o := .tup [.int ((e : Int) - (sb : Int)), .ref o3]) nt3
        have s6 := so3.trans st3
        refine ⟨F, fv3, _, rfl, rfl, s6 _ _ hf31, ?_, ?_⟩
        · rw [hf32.len]
          have := congrArg List.length hp3
          rw [List.length_append, List.length_append] at this
          exact small5000 (by omega)
        refine ⟨_, rfl, _, _, rfl, rfl, m - 1, by omega, e + 1, _, rfl, same_updR ((s34.trans s5).trans s6) nF, StepsL.app (x := oneStep ⟨sb, false, su⟩ e) (o := o3) (H' := H) (s6 _ _ hf31) (hf32.keep fun b ys z => s6 _ _ z) (by rw [upd_same]; show some (HO.tup [V.int ((e : Int) - (sb : Int)), V.ref o3]) = _; rw [eI]; rfl) (st3 _ _ upd_same), hp3, by omega, by omega, by omega⟩
    case true =>
      refine ⟨_, rfl, rfl, _, rfl, ite_side ?_⟩
      first | refine iteT ?_ | refine iteF ?_
      -- found = []
      refine ⟨by decide, fun F nF => ?_⟩
      have sF := same_upd (o := .lst []) nF
      have hF0 : StepsL (upd H F (.lst [])) F [] := ⟨[], upd_same, trivial⟩
      generalize (upd H F (.lst [])) = HF at sF hF0 ⊢
      refine ⟨_, rfl, _, rfl, p, dx, _, rfl, sF _ _ h1, p, q, bs, past, rfl, hp.same sF, bs.length, rfl, by omega, _, _, rfl, rfl, _, rfl, ite2P (fun c1 => ?_) (fun c1 => iteF ?_)⟩
      rotate_left
      have sG := sF
      have hG : StepsL HF F [] := hF0
      have hpre : stepsL bs k ⟨sb, true, su⟩ = [] ++ someSteps bs k ⟨sb, true, su⟩ (sb + 1) := by
        unfold stepsL zeroStep
        rw [if_neg (fun h => c1 (by have h' : sb < bs.length := h.1; omega))]
      generalize HF = G at sG hG ⊢
      generalize ([] : List (Nat × Sta)) = pre at hG hpre
      rotate_right
      refine ⟨_, rfl, _, rfl, dk, _, _, _, rfl, rfl, same_sqt sF hdk, rfl, _, _, rfl, rfl, _, rfl, ite2P (fun c2 => ?_) (fun c2 => iteF ?_)⟩
      rotate_left
      have sG := sF
      have hG : StepsL HF F [] := hF0
      have hpre : stepsL bs k ⟨sb, true, su⟩ = [] ++ someSteps bs k ⟨sb, true, su⟩ (sb + 1) := by
        unfold stepsL zeroStep
        rw [if_neg (fun h => c2 h.2.1)]
      generalize HF = G at sG hG ⊢
      generalize ([] : List (Nat × Sta)) = pre at hG hpre
      rotate_right
      refine ⟨_, rfl, _, rfl, _, rfl, _, rfl, p, q, bs, past, _, k, true, sb, rfl, hp.same sF, dp_same sF hx, by omega, hbl, fun H2 s2 => ⟨_, rfl, ite2B (fun c3 => ?_) (fun c3 => ?_)⟩⟩
      rotate_left
      have sG := sF.trans s2
      have hG : StepsL H2 F [] := hF0.same s2
      have hpre : stepsL bs k ⟨sb, true, su⟩ = [] ++ someSteps bs k ⟨sb, true, su⟩ (sb + 1) := by
        unfold stepsL zeroStep
        rw [if_neg (fun h => by rw [c3] at h; exact Bool.false_ne_true h.2.2)]
      generalize H2 = G at sG hG ⊢
      generalize ([] : List (Nat × Sta)) = pre at hG hpre
      rotate_right
      obtain ⟨fv, hf1, hf2⟩ := hF0.same s2
      refine ⟨_, rfl, .inl ⟨rfl, _, .of hf1⟩, _, rfl, _, rfl, _, rfl, _, _, rfl, rfl, by show (3 : Nat) ≤ sizeLine; decide, fun o no => ?_⟩
      have so := same_upd (o := .tup (stateV ⟨sb, !true, su + 1⟩)) no
      refine ⟨by show (2 : Nat) ≤ sizeLine; decide, fun t nt => ?_⟩
      have st2 := same_upd (o := .tup [.int 0, .ref o]) nt
      have s3 := so.trans st2
      refine ⟨F, fv, _, rfl, rfl, s3 _ _ hf1, ?_, ?_⟩
      · rw [hf2.len]
        exact small1000 (Nat.zero_le _)
      have sG : Same H (upd (upd (upd H2 o (.tup (stateV ⟨sb, !true, su + 1⟩))) t (.tup [.int 0, .ref o])) F (.lst (fv ++ [.ref t]))) := same_updR ((sF.trans s2).trans s3) nF
      have hG : StepsL (upd (upd (upd H2 o (.tup (stateV ⟨sb, !true, su + 1⟩))) t (.tup [.int 0, .ref o])) F (.lst (fv ++ [.ref t]))) F ([] ++ [(0, ⟨sb, !true, su + 1⟩)]) := StepsL.app (x := (0, ⟨sb, !true, su + 1⟩)) (o := o) (H' := H) (s3 _ _ hf1) (hf2.keep fun b ys z => s3 _ _ z) upd_same (st2 _ _ upd_same)
      have hpre : stepsL bs k ⟨sb, true, su⟩ = ([] ++ [(0, ⟨sb, !true, su + 1⟩)]) ++ someSteps bs k ⟨sb, true, su⟩ (sb + 1) := by
        unfold stepsL zeroStep
        rw [if_pos ⟨by have h : (sb : Int) < (bs.length : Int) := c1; show sb < bs.length; omega, c2, c3⟩]
        rfl
      generalize ([] : List (Nat × Sta)) ++ [(0, ⟨sb, !true, su + 1⟩)] = pre at hG hpre
      all_goals
        refine ⟨_, rfl, _, _, rfl, rfl, ?_⟩
        refine ⟨(fun m σ' H' => ∃ (e : Nat) (pre : List (Nat × Sta)), σ' = [some (.ref p), some (.ref dk), some (.ref sa), some (.int (sb : Int)), some (.str (sideS true)), some (.int (su : Int)), some (.str (sideS (!true))), some (.ref F), some (.int (e : Int))] ∧ Same H H' ∧ StepsL H' F pre ∧ stepsL bs k ⟨sb, true, su⟩ = pre ++ someSteps bs k ⟨sb, true, su⟩ e ∧ e ≤ bs.length + 1 ∧ sb + 1 ≤ e ∧ m = bs.length + 1 - e), ⟨_, sb + 1, pre, rfl, sG, hG, hpre, by omega, Nat.le_refl _, rfl⟩, ?_⟩
        rintro m σ H3 ⟨e, pre3, rfl, s3, hF3, hp3, he1, he2, hm⟩
        refine ⟨_, rfl, _, rfl, p, dx, _, rfl, s3 _ _ h1, p, q, bs, past, rfl, hp.same s3, bs.length, rfl, by omega, _, _, rfl, rfl, _, rfl, ite2P (fun c4 => ?_) (fun c4 => iteF ?_)⟩
        rotate_left
        rw [some_end (by omega), List.append_nil] at hp3
        refine ⟨_, rfl, z _ _ s3 nF ?_⟩
        rw [hp3]
        exact hF3
        refine ⟨_, rfl, p, dx, _, rfl, s3 _ _ h1, pf_no (by decide +kernel) (by decide +kernel), _, rfl, _, rfl, p, q, sb, e, bs, past, rfl, hp.same s3, by omega, hbl, fun H4 s4 => ?_⟩
        have s34 := s3.trans s4
        refine ⟨_, rfl, dk, _, _, _, rfl, rfl, same_sqt s34 hdk, rfl, _, _, rfl, rfl, _, rfl, ite2P (fun c5 => ?_) (fun c5 => ?_)⟩
        rotate_left
        rw [some_wide (by omega) (decide_eq_false c5), List.append_nil] at hp3
        refine ⟨_, rfl, z _ _ s34 nF ?_⟩
        rw [hp3]
        exact hF3.same s4
        rw [some_next (by omega) (decide_eq_true c5)] at hp3
        refine ⟨(fun σ' H' => ∃ m', m' < m ∧ ∃ (e : Nat) (pre : List (Nat × Sta)), σ' = [some (.ref p), some (.ref dk), some (.ref sa), some (.int (sb : Int)), some (.str (sideS true)), some (.int (su : Int)), some (.str (sideS (!true))), some (.ref F), some (.int (e : Int))] ∧ Same H H' ∧ StepsL H' F pre ∧ stepsL bs k ⟨sb, true, su⟩ = pre ++ someSteps bs k ⟨sb, true, su⟩ e ∧ e ≤ bs.length + 1 ∧ sb + 1 ≤ e ∧ m' = bs.length + 1 - e), fun _ _ h => h, ?_⟩
        refine ⟨_, rfl, _, rfl, _, rfl, _, rfl, p, q, bs, past, _, k, true, e, rfl, hp.same s34, dp_same s34 hx, by omega, hbl, fun H5 s5 => ⟨_, rfl, ite2B (fun c6 => ?_) (fun c6 => ?_)⟩⟩
        rotate_left
        rw [show mayTurn bs k (Sta.mk sb true su).right e = false from c6, if_neg Bool.false_ne_true, List.nil_append] at hp3
        refine ⟨_, rfl, _, _, rfl, rfl, m - 1, by omega, e + 1, pre3, rfl, s34.trans s5, (hF3.same s4).same s5, hp3, by omega, by omega, by omega⟩
        rw [show mayTurn bs k (Sta.mk sb true su).right e = true from c6, if_pos rfl, ← List.append_assoc] at hp3
        obtain ⟨fv3, hf31, hf32⟩ := (hF3.same s4).same s5
        refine ⟨_, rfl, .inl ⟨rfl, _, .of hf31⟩, _, rfl, _, rfl, _, _, rfl, rfl, ?_⟩
        have eI : (e : Int) - (sb : Int) = ((e - sb : Nat) : Int) := by omega
        refine ⟨_, rfl, _, rfl, _, rfl, by show (3 : Nat) ≤ sizeLine; decide, fun o3 no3 => ?_⟩
        have so3 := same_upd (o := .tup (stateV ⟨e, !true, su⟩)) no3
        refine ⟨by show (2 : Nat) ≤ sizeLine; decide, fun t3 nt3 => ?_⟩
        have st3 := same_upd (o := .tup [.int ((e : Int) - (sb : Int)), .ref o3]) nt3
        have s6 := so3.trans st3
        refine ⟨F, fv3, _, rfl, rfl, s6 _ _ hf31, ?_, ?_⟩
        · rw [hf32.len]
          have := congrArg List.length hp3
          rw [List.length_append, List.length_append] at this
          exact small5000 (by omega)
        refine ⟨_, rfl, _, _, rfl, rfl, m - 1, by omega, e + 1, _, rfl, same_updR ((s34.trans s5).trans s6) nF, StepsL.app (x := oneStep ⟨sb, true, su⟩ e) (o := o3) (H' := H) (s6 _ _ hf31) (hf32.keep fun b ys z => s6 _ _ z) (by rw [upd_same]; show some (HO.tup [V.int ((e : Int) - (sb : Int)), V.ref o3]) = _; rw [eI]; rfl) (st3 _ _ upd_same), hp3, by omega, by omega, by omega⟩
theorem sc_reached : FnScope ["part", "desk", "begin", "found", "todo", "state", "pages", "row", "many", "other"] ["part", "desk", "begin"] (defScope s_reached) := ⟨rfl, rfl, rfl, by decide +kernel, rfl, by decide +kernel, by decide +kernel⟩
section
variable {K : PySem.W.Frag} {mg : Str → Option Value}
theorem b_reached (T : Txt K mg) : Binds K (fdOf K ("reached", none)) ["part", "desk", "begin"] [] := T.reached.bindsN fun _ _ _ _ _ _ us hl => match us, hl with | [_, _, _], _ => rfl
end
def sp_reached (K : PySem.W.Frag) : Sp := fun vs H Q _ => ∃ (p q : Addr) (bs : List Bar) (past : List (List Bar)) (x : V) (k : Desk) (b : Sta) (ba : Addr), vs = [.ref p, x, .ref ba] ∧ PartX K H p q bs past ∧ Dp K H x (deskD k) ∧ H ba = some (.tup (stateV b)) ∧ StaOk bs k b ∧ k.empty ≤ 3 ∧ bs.length ≤ 100 ∧
  ∀ d H' g, Same H H' → H d = none → DictAt K H' d g → Found bs k b g → Bfs bs k [(b, (0, []))] [b] g → Q (.ref d) H'
theorem path_len {bs : List Bar} {k : Desk} {s t : Sta} {row : List Nat} (p : Path bs k s row t) : row.length + s.bar + s.used ≤ t.bar + t.used := by
  induction p with
  | nil s =>
    show 0 + _ + _ ≤ _
    omega
  | cons e _ ih =>
    obtain ⟨h1, _, _, _, _, h6⟩ := step_of e
    rw [List.length_cons]
    rcases h6 with ⟨a, b, _⟩ | ⟨a, b, _⟩ <;> omega
theorem seq0 (n : Nat) : seqIndex? 0 (n + 1) = some 0 := by
  simp [seqIndex?]
theorem bfsAdd_in {p : Nat} {row : List Nat} {f : List Ent} {td : List Sta} {m : Nat} {s : Sta} {r : List (Nat × Sta)} (h : s ∈ keysE f) : bfsAdd p row f td ((m, s) :: r) = bfsAdd p row f td r := by
  show (if s ∈ keysE f then _ else _) = _
  rw [if_pos h]
theorem bfsAdd_out {p : Nat} {row : List Nat} {f : List Ent} {td : List Sta} {m : Nat} {s : Sta} {r : List (Nat × Sta)} (h : s ∉ keysE f) : bfsAdd p row f td ((m, s) :: r) = bfsAdd p row (f ++ [(s, (p + 1, row ++ [m]))]) (td ++ [s]) r := by
  show (if s ∈ keysE f then _ else _) = _
  rw [if_neg h]
theorem ok_reached {P : Program} {w : World} {K : PySem.W.Frag} {mg : Str → Option Value} {base : Heap} (T : Txt K mg) : OkF P w K mg base CX0 6 ("reached", none) ["part", "desk", "begin"] (sp_reached K) := by
  refine okN T.reached sc_reached (fun vs H Q E h => ?_) (fun cdv A outer s H vs Q E hr h => ?_)
  · obtain ⟨p, q, bs, past, x, k, b, ba, rfl, _⟩ := h
    rfl
  · obtain ⟨p, q, bs, past, x, k, b, ba, rfl, hp, hx, hb, okb, hke, hbl, z⟩ := h
    refine ⟨_, (pss_cons (ps_set (i := 3) sc_reached.nd rfl (by first | exact Or.inl rfl | exact Or.inr rfl) (pe_disp1T (hu_of hr) (pv 2) (pe_tup (pa_cons pe_int (pa_cons (pe_tup pa_nil) pa_nil)))))
      (pss_cons (ps_set (i := 4) sc_reached.nd rfl (by first | exact Or.inl rfl | exact Or.inr rfl) (pe_lst (pa_cons (pv 2) pa_nil)))
      (pss_cons (ps_while PassesOwn.never (pt_cmpR (op_neD hr.units) (pv 4) (pe_lst pa_nil) (nomark _))
      (pss_cons (ps_set (i := 5) sc_reached.nd rfl (by first | exact Or.inl rfl | exact Or.inr rfl) (pe_bm PySem.F.plainAttrs_list PySem.F.slot_list_pop PySem.F.type_list_pop mt_popAt (pv 4) (pa_cons pe_int pa_nil)))
      (pss_cons (ps_asg (pe_dget (hu_of hr) (pv 3) (pv 5) (fun _ _ => rfl)) (pg_tup rfl (pgs_cons (pg_name (i := 6) sc_reached.nd rfl (by first | exact Or.inl rfl | exact Or.inr rfl)) (pgs_cons (pg_name (i := 7) sc_reached.nd rfl (by first | exact Or.inl rfl | exact Or.inr rfl)) pgs_nil))))
      (pss_one (ps_for PassesOwn.never rfl (pi_list (pe_call (ok_steps T) (hr.mono (by decide)) (by rfl) T.g_steps T.steps.kp (b_steps T) .nil pass0 (pa_cons (pv 0) (pa_cons (pv 1) (pa_cons (pv 5) pa_nil))))) (pg_tup rfl (pgs_cons (pg_name (i := 8) sc_reached.nd rfl (by first | exact Or.inl rfl | exact Or.inr rfl)) (pgs_cons (pg_name (i := 9) sc_reached.nd rfl (by first | exact Or.inl rfl | exact Or.inr rfl)) pgs_nil)))
      (pss_one (ps_if (pt_cmp (pc_dnotin (hu_of hr) (pv 9) (pv 3))) (pss_cons (ps_asg (pe_tup (pa_cons (pe_op op_add (pv 6) pe_int) (pa_cons (pe_op op_catU (pv 7) (pe_tup (pa_cons (pv 8) pa_nil))) pa_nil))) (pg_sub (pv 3) (pv 9) (set_dict (hu_of hr))))
      (pss_one (ps_expr (pe_bm PySem.F.plainAttrs_list PySem.F.slot_list_append PySem.F.type_list_append mt_append (pv 4) (pa_cons (pv 9) pa_nil))))) pss_nil)))))))
      (pss_one (ps_ret (pv 3)))))), ?_⟩
    -- found = {begin: (0, ())}
    refine fun d nd => ⟨_, rfl, by show (0 : Nat) ≤ sizeLine; decide, fun e0 ne0 => ⟨by show (2 : Nat) ≤ sizeLine; decide, fun t0 nt0 => ?_⟩⟩
    have i1 := same_upd (o := .dT []) nd
    have i2 := same_upd (o := .tup []) ne0
    have i3 := same_upd (o := .tup [.int 0, .ref e0]) nt0
    have i13 := (i1.trans i2).trans i3
    refine ⟨i3 _ _ (i2 _ _ upd_same), keyS b, ba, _, rfl, i13 _ _ hb, ?_⟩
    have f4 : Fr [d] _ (upd (upd (upd (upd H d (.dT [])) e0 (.tup [])) t0 (.tup [.int 0, .ref e0])) d (.dT [(keyS b, .ref t0)])) := Fr.upd (i3 _ _ (i2 _ _ upd_same)) trivial (by simp)
    have s4 : Same H (upd (upd (upd (upd H d (.dT [])) e0 (.tup [])) t0 (.tup [.int 0, .ref e0])) d (.dT [(keyS b, .ref t0)])) := same_updR i13 nd
    have hd4 : (upd (upd (upd (upd H d (.dT [])) e0 (.tup [])) t0 (.tup [.int 0, .ref e0])) d (.dT [(keyS b, .ref t0)])) d = some (.dT [(keyS b, .ref t0)]) := upd_same
    have he4 : EntsAt K (upd (upd (upd (upd H d (.dT [])) e0 (.tup [])) t0 (.tup [.int 0, .ref e0])) d (.dT [(keyS b, .ref t0)])) [(keyS b, .ref t0)] [(b, (0, []))] :=
      ⟨rfl, f4.dp (.tup (.of upd_same) (.cons (.int _) (.cons (dp_same i3 (.tup (.of upd_same) .nil)) .nil))) rfl, trivial⟩
    generalize (upd (upd (upd (upd H d (.dT [])) e0 (.tup [])) t0 (.tup [.int 0, .ref e0])) d (.dT [(keyS b, .ref t0)])) = H4 at f4 s4 hd4 he4 ⊢
    -- todo = [begin]
    refine ⟨_, rfl, by show (1 : Nat) ≤ sizeLine; decide, fun Tl nT => ?_⟩
    have i5 := same_upd (o := .lst [.ref ba]) nT
    have nTd : Tl ≠ d := fun e => by
      rw [e, hd4] at nT
      cases nT
    have nTH : H Tl = none := s4.free nT
    refine ⟨fun m σ H' => Same H H' ∧ ∃ (f : List Ent) (dn td : List Sta) (kvs : List (List Key × V)) (tv : List V) (y5 y6 y7 y8 y9 : Option V), σ = [some (.ref p), some x, some (.ref ba), some (.ref d), some (.ref Tl), y5, y6, y7, y8, y9] ∧ H' d = some (.dT kvs) ∧ EntsAt K H' kvs f ∧ H' Tl = some (.lst tv) ∧ StatesAt H' tv td ∧ Walk1 bs k b f dn td ∧ (∀ g, Bfs bs k f td g → Bfs bs k [(b, (0, []))] [b] g) ∧ m + dn.length = (bs.length + 1) * 8,
      ⟨(bs.length + 1) * 8, s4.trans i5, [(b, (0, []))], [], [b], _, _, none, none, none, none, none, rfl, i5 _ _ hd4, he4.keep (fun v d h _ => dp_same i5 h), upd_same, ⟨⟨ba, rfl, i5 _ _ (s4 _ _ hb)⟩, trivial⟩, Walk1.start bs k b, fun _ h => h, rfl⟩, ?_⟩
    rintro m σ H1 ⟨s1, f, dn, td, kvs, tv, y5, y6, y7, y8, y9, rfl, hd, hes, hT, hts, wk, hbf, hm⟩
    have hfl := wk.ok okb hke
    have hkl := congrArg List.length wk.keys
    rw [List.length_map, List.length_append] at hkl
    refine ⟨_, rfl, by show (0 : Nat) ≤ sizeLine; decide, fun c nc => ?_⟩
    have sc := same_upd (o := .lst []) nc
    refine ⟨_, .list [], .lst (.of (sc _ _ hT)) (dpa_same sc hts.dpa), .lst (.of upd_same) .nil, (shp_states td).ok (by decide), (shp_nil (n := 0)).ok (by decide), _, rfl, ?_⟩
    cases td with
    | nil =>
      refine iteF ⟨_, rfl, z d _ f (s1.trans sc) nd ⟨kvs, sc _ _ hd, hes.keep (fun v d h _ => dp_same sc h)⟩ wk.found (hbf _ (.done f))⟩
    | cons s td =>
      obtain ⟨v0, tv', rfl⟩ : ∃ v0 tv', tv = v0 :: tv' := by
        cases tv with
        | nil => exact hts.elim
        | cons a r => exact ⟨a, r, rfl⟩
      obtain ⟨⟨sa, rfl, hsa⟩, hts'⟩ := hts
      refine iteT ⟨fun σ' H' => ∃ m', m' < m ∧ Same H H' ∧ ∃ (f : List Ent) (dn td : List Sta) (kvs : List (List Key × V)) (tv : List V) (y5 y6 y7 y8 y9 : Option V), σ' = [some (.ref p), some x, some (.ref ba), some (.ref d), some (.ref Tl), y5, y6, y7, y8, y9] ∧ H' d = some (.dT kvs) ∧ EntsAt K H' kvs f ∧ H' Tl = some (.lst tv) ∧ StatesAt H' tv td ∧ Walk1 bs k b f dn td ∧ (∀ g, Bfs bs k f td g → Bfs bs k [(b, (0, []))] [b] g) ∧ m' + dn.length = (bs.length + 1) * 8, fun _ _ h => h, ?_⟩
      have s1c := s1.trans sc
      have hTc := sc _ _ hT
      have f2 : Fr [Tl] _ (upd (upd H1 c (.lst [])) Tl (.lst tv')) := Fr.upd hTc trivial (by simp)
      have s2 : Same H (upd (upd H1 c (.lst [])) Tl (.lst tv')) := same_updR s1c nTH
      -- state = todo.pop(0)
      refine ⟨_, rfl, .inl ⟨rfl, _, .of hTc⟩, Tl, _, 0, 0, _, rfl, rfl, hTc, by decide, by decide, seq0 _, rfl, ?_⟩
      show tSeq _ _ _ _ (upd (upd H1 c (.lst [])) Tl (.lst tv'))
      have hd2 := f2.keep _ _ (by simp [nTd.symm]) (sc _ _ hd)
      have hes2 : EntsAt K (upd (upd H1 c (.lst [])) Tl (.lst tv')) kvs f := hes.keep (fun v d h t => f2.dp (dp_same sc h) t)
      have hsa2 := f2.tu _ _ (sc _ _ hsa)
      have hts2 : StatesAt (upd (upd H1 c (.lst [])) Tl (.lst tv')) tv' td := hts'.keep fun b ys e => f2.tu _ _ (sc _ _ e)
      have hT2 : (upd (upd H1 c (.lst [])) Tl (.lst tv')) Tl = some (.lst tv') := upd_same
      generalize (upd (upd H1 c (.lst [])) Tl (.lst tv')) = H2 at f2 s2 hd2 hes2 hsa2 hts2 hT2 ⊢
      -- pages, row = found[state]
      have sk : s ∈ keysE f := by
        rw [wk.keys]
        simp
      obtain ⟨x0, hx0⟩ := look_key sk
      obtain ⟨pg, row⟩ := x0
      obtain ⟨v, hv, hvd⟩ : ∃ v, valV kvs (keyS s) = some v ∧ Dp K H2 v (entD (pg, row)) := by
        rcases hes2.val s with ⟨_, h⟩ | ⟨v, x, h1, h2, h3⟩
        · rw [hx0] at h
          cases h
        · rw [hx0] at h2
          cases h2
          exact ⟨v, h1, h3⟩
      obtain ⟨vt, ra, rfl, hvt, hra⟩ : ∃ vt ra, v = .ref vt ∧ SqT K H2 vt [.int (pg : Int), .ref ra] ∧ SqT K H2 ra (numsV row) := by
        cases hvd with
        | tup s1 a1 =>
          obtain ⟨v0, v1, rfl, h0, h1⟩ := dpa2 a1
          cases h0
          obtain ⟨ra, rfl, hra⟩ := dp_nums h1
          exact ⟨_, ra, rfl, s1, hra⟩
      refine ⟨_, rfl, _, rfl, d, .ref vt, rfl, (by rw [← hv]; exact .t hd2 hsa2), vt, _, rfl, hvt, rfl, _, _, rfl, _, _, rfl, rfl, ?_⟩
      -- for many, other in steps(part, desk, state)
      have hso := (wk.path _ (look_mem hx0))
      have oks := okb.path hso.1
      refine ⟨_, rfl, _, rfl, _, rfl, p, q, bs, past, _, _, k, s, rfl, hp.same s2, dp_same s2 hx, dp_state_of (.of hsa2), oks.bar, by omega, fun SL H3 s3 nSL hSL => ?_⟩
      obtain ⟨sv, hsl, hst⟩ := hSL
      have nSd : SL ≠ d := fun e => by
        rw [e, hd2] at nSL
        cases nSL
      have nST : SL ≠ Tl := fun e => by
        rw [e, hT2] at nSL
        cases nSL
      have hstl := hst.len
      have hsln := steps_len bs k s
      have s03 := s2.trans s3
      have tdl : td.length ≤ f.length := by
        have h := hkl
        rw [List.length_cons] at h
        omega
      refine ⟨SL, rfl, ⟨_, .of hsl⟩, for_list (xs := sv) (fun i σ H' => Fr [d, Tl] H3 H' ∧ Same H H' ∧ ∃ (f' : List Ent) (td' : List Sta) (kvs' : List (List Key × V)) (tv' : List V) (y8 y9 : Option V), H' d = some (.dT kvs') ∧ EntsAt K H' kvs' f' ∧ H' Tl = some (.lst tv') ∧ StatesAt H' tv' td' ∧ bfsAdd pg row f td (stepsL bs k s) = bfsAdd pg row f' td' ((stepsL bs k s).drop i) ∧ f'.length ≤ f.length + i ∧ td'.length ≤ td.length + i ∧
        σ = [some (.ref p), some x, some (.ref ba), some (.ref d), some (.ref Tl), some (.ref sa), some (.int (pg : Int)), some (.ref ra), y8, y9]) ⟨Fr.refl _ _, s03, f, td, kvs, tv', y8, y9, s3 _ _ hd2, hes2.keep (fun v d h _ => dp_same s3 h), s3 _ _ hT2, hts2.keep fun b ys e => s3 _ _ e, rfl, Nat.le_refl _, Nat.le_refl _, rfl⟩ ?_ ?_ ?_⟩
      · rintro i σ H' _ ⟨f', _⟩
        exact .of (f'.keep _ _ (by simp [nSd, nST]) hsl)
      · rintro i v σ H' hvi ⟨fr, s', f', td', kvs', tv'', y8, y9, hd', hes', hT', hts', hadd, hfl', htl', rfl⟩
        obtain ⟨xx, hxx, t1, o1, rfl, ht1, ho1⟩ := hst.at hvi
        obtain ⟨many, oth⟩ := xx
        have hil : i < (stepsL bs k s).length := (List.getElem?_eq_some_iff.mp hxx).1
        rw [drop_at hxx] at hadd
        have ht1' := fr.tu _ _ ht1
        have ho1' := fr.tu _ _ ho1
        have hra' := fr.sqt (same_sqt s3 hra)
        refine ⟨t1, _, rfl, .of ht1', rfl, _, _, rfl, _, _, rfl, rfl, ?_⟩
        rcases hes'.val oth with ⟨hv1, hv2⟩ | ⟨v1, x1, hv1, hv2, _⟩
        · -- new
          rw [bfsAdd_out (look_none.mp hv2)] at hadd
          refine ⟨_, rfl, _, rfl, d, none, rfl, (by rw [← hv1]; exact .t hd' ho1'), _, rfl, iteT ?_⟩
          refine ⟨_, rfl, _, _, rfl, rfl, _, rfl, _, rfl, by show (1 : Nat) ≤ sizeLine; decide, fun c1 n1 => ?_⟩
          have j1 := same_upd (o := .tup [.int (many : Int)]) n1
          refine ⟨ra, c1, _, _, rfl, rfl, same_sqt j1 hra', .of upd_same, ?_, fun c2 H5 j2 h5 => ?_⟩
          · rw [List.length_map]
            have hob : s.bar ≤ bs.length := oks.bar
            have hou : (s.used : Int) ≤ k.empty := oks.used
            have h3 : row.length + b.bar + b.used ≤ s.bar + s.used := path_len hso.1
            exact Nat.le_of_lt (small1000 (by simp; omega))
          have j12 := j1.trans j2
          refine ⟨by show (2 : Nat) ≤ sizeLine; decide, fun c3 n3 => ?_⟩
          have j3 := same_upd (o := .tup [.int ((pg : Int) + 1), .ref c2]) n3
          have j13 := j12.trans j3
          have hesl := hes'.len
          refine ⟨_, rfl, _, rfl, d, _, rfl, .t (k := keyS oth) (j13 _ _ hd') (j13 _ _ ho1') (by rw [hesl]; exact small10k (by omega)), ?_⟩
          rw [putK_new _ hv1]
          have j4 : Fr [d] _ (upd (upd H5 c3 (.tup [.int ((pg : Int) + 1), .ref c2])) d (.dT (kvs' ++ [(keyS oth, .ref c3)]))) := Fr.upd (j13 _ _ hd') trivial (by simp)
          have hent : Dp K (upd (upd H5 c3 (.tup [.int ((pg : Int) + 1), .ref c2])) d (.dT (kvs' ++ [(keyS oth, .ref c3)]))) (.ref c3) (entD (pg + 1, row ++ [many])) := by
            refine j4.dp (.tup (.of upd_same) (.cons (.int _) (.cons (dp_nums_of ?_) .nil))) (isT_ent _)
            show SqT K _ c2 (List.map _ (row ++ [many]))
            rw [List.map_append]
            exact same_sqt j3 h5
          have hes4 : EntsAt K (upd (upd H5 c3 (.tup [.int ((pg : Int) + 1), .ref c2])) d (.dT (kvs' ++ [(keyS oth, .ref c3)]))) (kvs' ++ [(keyS oth, .ref c3)]) (f' ++ [(oth, (pg + 1, row ++ [many]))]) :=
            EntsAt.snoc (e := (oth, (pg + 1, row ++ [many]))) (hes'.keep fun v d h t => j4.dp (dp_same j13 h) t) hent
          have hT4 := j4.keep _ _ (by simp [nTd]) (j13 _ _ hT')
          have ho4 := j4.tu _ _ (j13 _ _ ho1')
          have hts4 : StatesAt (upd (upd H5 c3 (.tup [.int ((pg : Int) + 1), .ref c2])) d (.dT (kvs' ++ [(keyS oth, .ref c3)]))) tv'' td' := hts'.keep fun b ys e => j4.tu _ _ (j13 _ _ e)
          have s4' : Same H (upd (upd H5 c3 (.tup [.int ((pg : Int) + 1), .ref c2])) d (.dT (kvs' ++ [(keyS oth, .ref c3)]))) := same_updR (s'.trans j13) nd
          have hd4' : (upd (upd H5 c3 (.tup [.int ((pg : Int) + 1), .ref c2])) d (.dT (kvs' ++ [(keyS oth, .ref c3)]))) d = some (.dT (kvs' ++ [(keyS oth, .ref c3)])) := upd_same
          have fr4 : Fr [d, Tl] H3 (upd (upd H5 c3 (.tup [.int ((pg : Int) + 1), .ref c2])) d (.dT (kvs' ++ [(keyS oth, .ref c3)]))) := (fr.trans (Fr.of j13 _)).trans (j4.mono (by simp))
          generalize (upd (upd H5 c3 (.tup [.int ((pg : Int) + 1), .ref c2])) d (.dT (kvs' ++ [(keyS oth, .ref c3)]))) = H6 at hes4 hT4 ho4 hts4 s4' hd4' fr4 ⊢
          -- todo.append(other)
          refine ⟨_, rfl, .inl ⟨rfl, _, .of hT4⟩, _, rfl, Tl, _, _, rfl, rfl, hT4, ?_, ?_⟩
          · rw [hts4.len]
            exact small10k (by omega)
          have j5 : Fr [Tl] H6 (upd H6 Tl (.lst (tv'' ++ [.ref o1]))) := Fr.upd hT4 trivial (by simp)
          refine ⟨fr4.trans (j5.mono (by simp)), same_updR s4' nTH, f' ++ [(oth, (pg + 1, row ++ [many]))], td' ++ [oth], _, _, _, _, j5.keep _ _ (by simp [nTd.symm]) hd4', hes4.keep (fun v d h t => j5.dp h t), upd_same, (hts4.keep fun b ys e => j5.tu _ _ e).snoc (j5.tu _ _ ho4), hadd, ?_, ?_, rfl⟩
          · rw [List.length_append]
            show f'.length + 1 ≤ _
            omega
          · rw [List.length_append]
            show td'.length + 1 ≤ _
            omega
        · have hk : oth ∈ keysE f' := List.mem_map.mpr ⟨_, look_mem hv2, rfl⟩
          rw [bfsAdd_in hk] at hadd
          refine ⟨_, rfl, _, rfl, d, some v1, rfl, (by rw [← hv1]; exact .t hd' ho1'), _, rfl, iteF ?_⟩
          exact ⟨fr, s', f', td', kvs', tv'', _, _, hd', hes', hT', hts', hadd, by omega, by omega, rfl⟩
      · rintro σ H' ⟨fr, s', f', td', kvs', tv'', y8, y9, hd', hes', hT', hts', hadd, hfl', htl', rfl⟩
        rw [hstl, List.drop_length] at hadd
        have e1 : (bfsAdd pg row f td (stepsL bs k s)).1 = f' := by rw [hadd]; rfl
        have e2 : (bfsAdd pg row f td (stepsL bs k s)).2 = td' := by rw [hadd]; rfl
        have wk2 := wk.next hx0
        rw [e1, e2] at wk2
        refine ⟨m - 1, ?_, s', f', dn ++ [s], td', kvs', tv'', _, _, _, _, _, rfl, hd', hes', hT', hts', wk2, fun g hg => hbf g (.step hx0 (by rw [e1, e2]; exact hg)), ?_⟩
        · rw [List.length_cons] at hkl
          omega
        · rw [List.length_cons] at hkl
          rw [List.length_append]
          simp only [List.length_cons, List.length_nil]
          omega
open PySem.W in
/-- min of a list of alike data -/
def rMinD (K : PySem.W.Frag) : List V → Hp → VK → Prop := fun vs H Q => ∃ (a : Addr) (ws : List V) (d : PyData) (ds : List PyData), vs = [V.ref a] ∧ SqL K H a ws ∧ DpAll K H ws (d :: ds) ∧ AlikeAll (d :: ds) ∧ PyData.depthAll (d :: ds) ≤ 60 ∧ ∀ v, Dp K H v (minD d ds) → Q v H
theorem vals_at : ∀ {xs : List V} {us : List Value} {i : Nat} {u : Value}, Vals xs us → us[i]? = some u → ∃ x, xs[i]? = some x ∧ RelV x u
  | _, _, _, _, .nil, e => by simp at e
  | _, _, 0, _, .cons r _, e => by
    simp at e
    subst e
    exact ⟨_, rfl, r⟩
  | _, _, i + 1, u, .cons _ t, e => by
    obtain ⟨x, e1, e2⟩ := vals_at (i := i) (u := u) t (by simpa using e)
    exact ⟨x, by simpa using e1, e2⟩
open PySem.W in
theorem cr_minD {X : Cx} (hc : X.calm = true) (hu : X.A.units + 65 < cLine) : CallR X (.builtin "min") (rMinD X.K) := by
  intro pins s σ H vs us Q I r h
  obtain ⟨a, ws, d, ds, rfl, hs, hd, ha, hdep, q⟩ := h
  obtain ⟨its, rv, hl, _⟩ := I.list hs
  rw [Vals.ref1 r]
  obtain ⟨as, hr⟩ := Dp.readsAll I (d :: ds) ws its hd rv
  have hr' : ReadsAll s.heap its.toArray.toList (d :: ds) as := by simpa using hr
  have hn : its.toArray.size = ds.length + 1 := readsAll_len hr'
  refine call_min_walkH (iter_listW (A := X.A.in1) (I.ok.hd hc) hl.isList fun s₂ e W st hfp hw hk => ?_)
  refine ⟨_, _, _, _, _, _, _, s.heap, _, rfl, W, st, hfp, by omega, hw, hk, cmpIn_lt (A := X.A.in1) hr' ha (by show X.A.units + 1 + _ < _; omega), fun v s' hP m => ?_⟩
  obtain ⟨h', tk, rfl, hk'⟩ := moved_old e rfl m
  have e1 : its.toArray.size - 1 = ds.length := by omega
  have e2 := (argBest_fold dataLt PyData.none d ds ds.length (Nat.le_refl _)).2
  rw [List.take_length] at e2
  rw [e1] at hP
  have hP2 := hP
  rw [List.getElem?_toArray] at hP2
  obtain ⟨x, hx, rx⟩ := vals_at rv hP2
  obtain ⟨dd, hdd, hxd⟩ := dpa_at hd hx
  refine ⟨x, H, I.kept hk', rx, q x ?_⟩
  rw [show minD d ds = dd by
    unfold minD
    rw [← e2, List.getD_eq_getElem?_getD, hdd]
    rfl]
  exact hxd
/-- the least of rows of pages -/
def ltE (x y : Nat × List Nat) : Bool := PySem.W.dataLt (entD x) (entD y)
def minE (x : Nat × List Nat) (xs : List (Nat × List Nat)) : Nat × List Nat := xs.foldl (fun a y => if ltE y a then y else a) x
theorem minE_D (x : Nat × List Nat) : ∀ xs : List (Nat × List Nat), PySem.W.minD (entD x) (xs.map entD) = entD (minE x xs) := by
  intro xs
  unfold PySem.W.minD minE
  induction xs generalizing x with
  | nil => rfl
  | cons y r ih =>
    rw [List.map_cons, List.foldl_cons, List.foldl_cons, ← ih]
    congr 1
    show (if ltE y x = true then entD y else entD x) = entD (if ltE y x = true then y else x)
    split <;> rfl
theorem alike_nums : ∀ xs ys : List Nat, PySem.W.alikeAll (numsD xs) (numsD ys) = true
  | [], _ => by simp [PySem.W.alikeAll]
  | _ :: _, [] => by simp [PySem.W.alikeAll]
  | x :: xs, y :: ys => by
    show PySem.W.alikeAll (PyData.int x :: numsD xs) (PyData.int y :: numsD ys) = true
    rw [PySem.W.alikeAll, alike_nums xs ys]
    rfl
theorem alike_ent (x y : Nat × List Nat) : PySem.W.alike (entD x) (entD y) = true := by
  show PySem.W.alike (.tuple [.int x.1, .tuple (numsD x.2)]) (.tuple [.int y.1, .tuple (numsD y.2)]) = true
  simp only [PySem.W.alike, PySem.W.alikeAll, alike_nums, Bool.and_self]
theorem ltE_fst {x y : Nat × List Nat} : (ltE x y = true → x.1 ≤ y.1) ∧ (ltE x y = false → y.1 ≤ x.1) := by
  unfold ltE entD
  rw [PySem.W.dataLt_pair (by simp [PySem.W.alike]) (by simp only [PySem.W.alike]; exact alike_nums _ _), PySem.W.dataLt_int]
  by_cases h : x.1 = y.1
  · rw [if_pos (by rw [h]; simp [PyData.eqv])]
    exact ⟨fun _ => by omega, fun _ => by omega⟩
  · rw [if_neg (by simp [PyData.eqv]; omega)]
    exact ⟨fun e => by have := of_decide_eq_true e; omega, fun e => by have := of_decide_eq_false e; omega⟩
theorem minE_mem (x : Nat × List Nat) : ∀ xs : List (Nat × List Nat), minE x xs ∈ x :: xs := by
  intro xs
  unfold minE
  induction xs generalizing x with
  | nil => exact List.mem_cons_self
  | cons y r ih =>
    rw [List.foldl_cons]
    have := ih (if ltE y x = true then y else x)
    rcases List.mem_cons.mp this with h | h
    · rw [h]
      split
      · exact List.mem_cons_of_mem _ List.mem_cons_self
      · exact List.mem_cons_self
    · exact List.mem_cons_of_mem _ (List.mem_cons_of_mem _ h)
theorem minE_le (x : Nat × List Nat) : ∀ xs : List (Nat × List Nat), ∀ y ∈ x :: xs, (minE x xs).1 ≤ y.1 := by
  intro xs
  unfold minE
  induction xs generalizing x with
  | nil =>
    intro y hy
    rw [List.mem_singleton.mp hy]
    exact Nat.le_refl _
  | cons z r ih =>
    intro y hy
    rw [List.foldl_cons]
    have ih2 := ih (if ltE z x = true then z else x)
    have hz : (if ltE z x = true then z else x).1 ≤ z.1 ∧ (if ltE z x = true then z else x).1 ≤ x.1 := by
      cases e : ltE z x with
      | true => exact ⟨Nat.le_refl _, ltE_fst.1 e⟩
      | false => exact ⟨ltE_fst.2 e, Nat.le_refl _⟩
    have h0 := ih2 _ List.mem_cons_self
    rcases List.mem_cons.mp hy with h | hy
    · rw [h]
      omega
    · rcases List.mem_cons.mp hy with h | hy
      · rw [h]
        omega
      · exact ih2 y (List.mem_cons_of_mem _ hy)
/-- the program's best row -/
def endsOf (n : Nat) (g : List Ent) : List (Nat × List Nat) := (g.filter fun e => decide (e.1.bar = n)).map (·.2)
def bestOf (n : Nat) (g : List Ent) : Option (List Nat) := match endsOf n g with
  | [] => none
  | x :: xs => some (minE x xs).2
def optD : Option (List Nat) → PyData
  | none => .none
  | some row => .tuple (numsD row)
theorem best_none {bs : List Bar} {k : Desk} {b : Sta} {g : List Ent} {n : Nat} (h : Found bs k b g) (e : bestOf n g = none) : ∀ row s, Path bs k b row s → s.bar ≠ n := by
  intro row s p hs
  obtain ⟨e1, he, k1, _⟩ := h.least row s p
  have hm : e1.2 ∈ endsOf n g := List.mem_map.mpr ⟨e1, List.mem_filter.mpr ⟨he, decide_eq_true (by rw [k1]; exact hs)⟩, rfl⟩
  unfold bestOf at e
  cases q : endsOf n g with
  | nil =>
    rw [q] at hm
    cases hm
  | cons x xs =>
    rw [q] at e
    cases e
theorem best_some {bs : List Bar} {k : Desk} {b : Sta} {g : List Ent} {n : Nat} {row : List Nat} (h : Found bs k b g) (e : bestOf n g = some row) : (∃ s, Path bs k b row s ∧ s.bar = n) ∧ ∀ row' s', Path bs k b row' s' → s'.bar = n → row.length ≤ row'.length := by
  unfold bestOf at e
  cases q : endsOf n g with
  | nil =>
    rw [q] at e
    cases e
  | cons x xs =>
    rw [q] at e
    have e1 : (minE x xs).2 = row := Option.some.inj e
    have hm := minE_mem x xs
    rw [← q] at hm
    obtain ⟨en, hen, e2⟩ := List.mem_map.mp hm
    obtain ⟨h1, h2⟩ := List.mem_filter.mp hen
    obtain ⟨p1, p2⟩ := h.path en h1
    rw [e2] at p1 p2
    rw [e1] at p1 p2
    refine ⟨⟨en.1, p1, of_decide_eq_true h2⟩, fun row' s' p' hs => ?_⟩
    obtain ⟨en', he', k1, k2⟩ := h.least row' s' p'
    have hm' : en'.2 ∈ endsOf n g := List.mem_map.mpr ⟨en', List.mem_filter.mpr ⟨he', decide_eq_true (by rw [k1]; exact hs)⟩, rfl⟩
    rw [q] at hm'
    have := minE_le x xs _ hm'
    omega
theorem sqt_lock {K : PySem.W.Frag} {H : Hp} {d a : Addr} {kvs : List (List Key × V)} {o : HO} {xs : List V} (hd : H d = some (.dT kvs)) (h : SqT K H a xs) : SqT K (upd H d o) a xs := by
  rcases h with (h | ⟨ob, h⟩) | h
  · exact .inl (.inl (by rw [upd_ne (ne_of h hd (fun z => nomatch z))]; exact h))
  · exact .inl (.inr ⟨ob, by rw [upd_ne (ne_of h hd (fun z => nomatch z))]; exact h⟩)
  · exact .inr h
theorem sqt_unlock {K : PySem.W.Frag} {H : Hp} {d a : Addr} {od : Obj} {kvs : List (List Key × V)} {o : HO} {xs : List V} (hd : H d = some (.frz od (.dT kvs))) (h : SqT K H a xs) : SqT K (upd H d o) a xs := by
  rcases h with (h | ⟨ob, h⟩) | h
  · exact .inl (.inl (by rw [upd_ne (ne_of h hd (fun z => nomatch z))]; exact h))
  · refine .inl (.inr ⟨ob, ?_⟩)
    rw [upd_ne (ne_of h hd (fun z => by injection z with z1 z2; cases z2))]
    exact h
  · exact .inr h
theorem EntsAt.at {K : PySem.W.Frag} {H : Hp} : ∀ {kvs : List (List Key × V)} {f : List Ent} {i : Nat} {kv : List Key × V}, EntsAt K H kvs f → kvs[i]? = some kv → ∃ e, f[i]? = some e ∧ kv.1 = keyS e.1 ∧ Dp K H kv.2 (entD e.2)
  | [], [], _, _, _, e => by simp at e
  | _ :: _, x :: _, 0, _, h, e => by
    simp at e
    subst e
    exact ⟨x, rfl, h.1, h.2.1⟩
  | _ :: _, _ :: _, i + 1, kv, h, e => by
    obtain ⟨x, e1, e2⟩ := EntsAt.at (i := i) (kv := kv) h.2.2 (by simpa using e)
    exact ⟨x, by simpa using e1, e2⟩
  | [], _ :: _, _, _, h, _ => h.elim
  | _ :: _, [], _, _, h, _ => h.elim
theorem EntsAt.valAt {K : PySem.W.Frag} {H : Hp} : ∀ {kvs : List (List Key × V)} {f : List Ent} {i : Nat} {s : Sta} {v : V}, EntsAt K H kvs f → (keysE f).Nodup → kvs[i]? = some (keyS s, v) → valV kvs (keyS s) = some v
  | [], [], _, _, _, _, _, e => by simp at e
  | kv :: _, x :: _, 0, s, v, h, _, e => by
    have e2 : kv = (keyS s, v) := by simpa using e
    subst e2
    exact valV_pos rfl
  | kv :: kvs, x :: f, i + 1, s, v, h, nd, e => by
    have e2 : kvs[i]? = some (keyS s, v) := by simpa using e
    obtain ⟨n1, n2⟩ := List.nodup_cons.mp nd
    obtain ⟨y, hy, hk, _⟩ := h.2.2.at e2
    have ys : y.1 = s := keyS_inj hk.symm
    have ne : ¬ kv.1 = keyS s := fun z => n1 (List.mem_map.mpr ⟨y, List.mem_of_getElem? hy, by rw [ys]; exact keyS_inj (z.symm.trans h.1)⟩)
    rw [valV_neg ne]
    exact EntsAt.valAt h.2.2 n2 e2
  | [], _ :: _, _, _, _, h, _, _ => h.elim
  | _ :: _, [], _, _, _, h, _, _ => h.elim
theorem shp_ent (x : Nat × List Nat) : Shp 2 (entD x) := shp_tup (shpA_cons (shp_int _) (shpA_cons (shp_nums x.2) shpA_nil))
theorem shp_ents (xs : List (Nat × List Nat)) : Shp 3 (.list (xs.map entD)) := shp_list (shpA_all fun d hd => by
  obtain ⟨s, _, rfl⟩ := List.mem_map.mp hd
  exact shp_ent s)
theorem isTs_ents : ∀ xs : List (Nat × List Nat), isTs (xs.map entD) = true
  | [] => rfl
  | x :: r => by
    show (isT (entD x) && isTs (r.map entD)) = true
    rw [isTs_ents r, isT_ent]
    rfl
theorem sc_best_from : FnScope ["part", "desk", "begin", "found", "ends", "state"] ["part", "desk", "begin"] (defScope s_best_from) := ⟨rfl, rfl, rfl, by decide +kernel, rfl, by decide +kernel, by decide +kernel⟩
section
variable {K : PySem.W.Frag} {mg : Str → Option Value}
theorem b_best_from (T : Txt K mg) : Binds K (fdOf K ("best_from", none)) ["part", "desk", "begin"] [] := T.best_from.bindsN fun _ _ _ _ _ _ us hl => match us, hl with | [_, _, _], _ => rfl
end
def sp_best_from (K : PySem.W.Frag) : Sp := fun vs H Q _ => ∃ (p q : Addr) (bs : List Bar) (past : List (List Bar)) (x : V) (k : Desk) (b : Sta) (ba : Addr), vs = [.ref p, x, .ref ba] ∧ PartX K H p q bs past ∧ Dp K H x (deskD k) ∧ H ba = some (.tup (stateV b)) ∧ StaOk bs k b ∧ k.empty ≤ 3 ∧ bs.length ≤ 100 ∧
  ∀ v H' g, Same H H' → Found bs k b g → Bfs bs k [(b, (0, []))] [b] g → Dp K H' v (optD (bestOf bs.length g)) → Q v H'
theorem ok_best_from {P : Program} {w : World} {K : PySem.W.Frag} {mg : Str → Option Value} {base : Heap} (T : Txt K mg) : OkF P w K mg base CX0 7 ("best_from", none) ["part", "desk", "begin"] (sp_best_from K) := by
  refine okN T.best_from sc_best_from (fun vs H Q E h => ?_) (fun cdv A outer s H vs Q E hr h => ?_)
  · obtain ⟨p, q, bs, past, x, k, b, ba, rfl, _⟩ := h
    rfl
  · obtain ⟨p, q, bs, past, x, k, b, ba, rfl, hp, hx, hb, okb, hke, hbl, z⟩ := h
    obtain ⟨dx, rr, ws0, h1, _⟩ := id hp
    refine ⟨_, (pss_cons (ps_set (i := 3) sc_best_from.nd rfl (by first | exact Or.inl rfl | exact Or.inr rfl) (pe_call (ok_reached T) (hr.mono (by decide)) (by rfl) T.g_reached T.reached.kp (b_reached T) .nil pass0 (pa_cons (pv 0) (pa_cons (pv 1) (pa_cons (pv 2) pa_nil)))))
      (pss_cons (ps_lock (ps_setLc (i := 4) (own := [("state", 5)]) (g := (gName 5))  (by rfl) sc_best_from.nd rfl rfl (sw_true rfl rfl rfl (by decide +kernel)) (pi_keys (pv 3)) (blkOk_by (own := [("state", 5)]) (N := ["part", "desk", "begin", "found", "ends", "state"]) (sc := defScope s_best_from) (by decide +kernel)) (fun _ _ _ _ _ => (pg_name (i := 5) sc_best_from.nd rfl (by first | exact Or.inl rfl | exact Or.inr rfl))) (fun _ _ _ _ _ => (pts_one (pt_cmpR op_eq (pe_ix (r := rIxT K) ix_tup (pv 5) pe_int (fun _ _ => rfl)) (pe_callB (r := rLenP K (sp_Part_len K)) (call_lenP T (ok_Part_len T) (hr.mono (by decide))) (by rfl) T.b_len PySem.boot_len (pa_cons (pv 0) pa_nil)) (nomark _)))) (fun _ _ _ _ _ => (pe_dget (hu_of hr) (pv 3) (pv 5) (fun _ _ => rfl)))))
      (pss_one (ps_ret (pe_ifExp (pt_cmpR (op_neD hr.units) (pv 4) (pe_lst pa_nil) (nomark _)) (pe_ix ix_tup (pe_callB (cr_minD rfl (units65 hr)) (by rfl) T.b_min (by decide +kernel) (pa_cons (pv 4) pa_nil)) pe_int (fun _ _ => rfl)) pe_non))))), ?_⟩
    refine ⟨_, rfl, _, rfl, _, rfl, p, q, bs, past, x, k, b, ba, rfl, hp, hx, hb, okb, hke, hbl, fun d H1 g s1 nd hdict hfound hbfs => ?_⟩
    obtain ⟨kvs, hd, hes⟩ := hdict
    have hlen := hes.len
    have gl : g.length ≤ 808 := by
      have h1 := sub_len (r := allSta bs.length 3) hfound.nd fun s hs => by
        obtain ⟨e, hm, rfl⟩ := List.mem_map.mp hs
        have ok := okb.path (hfound.path e hm).1
        refine allSta_mem ok.bar ?_
        have := ok.used
        omega
      rw [allSta_len, List.length_map] at h1
      omega
    refine ⟨d, .dT kvs, hd, trivial, fun od => ?_⟩
    have sf : Same H (upd H1 d (.frz od (.dT kvs))) := same_updR s1 nd
    have hesf : EntsAt K (upd H1 d (.frz od (.dT kvs))) kvs g := hes.keep fun v e h t => dp_tu (fun a xs z => sqt_lock hd z) h t
    have hdf : (upd H1 d (.frz od (.dT kvs))) d = some (.frz od (.dT kvs)) := upd_same
    generalize (upd H1 d (.frz od (.dT kvs))) = Hf at sf hesf hdf ⊢
    refine ⟨_, rfl, d, od, rfl, .inr ⟨kvs, hdf, fun D hD => lc_it walk_keysT (fun i H' => Same Hf H' ∧ ∃ ws, H' D = some (.lst ws) ∧ DpAll K H' ws ((endsOf bs.length (g.take i)).map entD)) ⟨same_upd hD, [], upd_same, .nil⟩ ?_ ?_ ?_⟩⟩
    · rintro i H' _ ⟨s', _⟩
      exact s' _ _ hdf
    · rintro i v H' H'' hi ⟨s', ws, hw, hws⟩ ⟨rfl, kk, vv, qa, hkv, rfl, hqa⟩
      obtain ⟨e, he, hk, hvd⟩ := hesf.at hkv
      dsimp only at hk hvd
      subst hk
      have hval : valV kvs (keyS e.1) = some vv := hesf.valAt hfound.nd hkv
      have s0 := sf.trans s'
      have tf : endsOf bs.length (g.take (i + 1)) = endsOf bs.length (g.take i) ++ (if e.1.bar = bs.length then [e.2] else []) := by
        unfold endsOf
        rw [take_at he, List.filter_append, List.map_append]
        congr 1
        by_cases hb : e.1.bar = bs.length
        · rw [if_pos hb, List.filter_cons, decide_eq_true hb]
          rfl
        · rw [if_neg hb, List.filter_cons, decide_eq_false hb]
          rfl
      refine ⟨rfl, _, rfl, qa, _, _, _, rfl, rfl, .of hqa, rfl, _, rfl, p, dx, _, rfl, s0 _ _ h1, p, q, bs, past, rfl, hp.same s0, bs.length, rfl, by omega, rfl, _, rfl, ite2Q (fun eq => ?_) (fun ne => ⟨s', ws, hw, ?_⟩)⟩
      · have eq2 : e.1.bar = bs.length := by omega
        have f5 : Fr [D] H'' (upd H'' D (.lst (ws ++ [vv]))) := Fr.upd hw trivial (by simp)
        refine ⟨_, rfl, _, rfl, d, vv, rfl, .inr ⟨kvs, keyS e.1, qa, .inr ⟨od, s' _ _ hdf⟩, rfl, hqa, hval.symm⟩, ws, hw, ?_, same_updR s' hD, ws ++ [vv], upd_same, ?_⟩
        · rw [dpa_len hws, List.length_map]
          have h2 : (endsOf bs.length (g.take i)).length ≤ g.length := by
            unfold endsOf
            rw [List.length_map]
            refine Nat.le_trans (List.length_filter_le _ _) ?_
            rw [List.length_take]
            omega
          exact small1000 (by omega)
        · rw [tf, if_pos eq2, List.map_append]
          exact dpa_snoc (f5.dpa hws (isTs_ents _)) (f5.dp (dp_same s' hvd) (isT_ent _))
      · have ne2 : ¬ e.1.bar = bs.length := by omega
        rw [tf, if_neg ne2, List.append_nil]
        exact hws
    · rintro H2 ⟨s2, ws, hw, hws⟩
      rw [hlen, List.take_length] at hws
      have hd2 := s2 _ _ hdf
      refine ⟨hd2, ?_⟩
      have hDd : D ≠ d := fun e => by
        rw [e, hdf] at hD
        cases hD
      have s3 : Same H (upd H2 d (.dT kvs)) := same_updR (sf.trans s2) nd
      have hw3 : (upd H2 d (.dT kvs)) D = some (.lst ws) := by
        rw [upd_ne hDd]
        exact hw
      have hws3 : DpAll K (upd H2 d (.dT kvs)) ws ((endsOf bs.length g).map entD) := dpa_tu (fun a xs z => sqt_unlock hd2 z) hws (isTs_ents _)
      generalize (upd H2 d (.dT kvs)) = H3 at s3 hw3 hws3 ⊢
      have zz := fun v H' s' => z v H' g s' hfound hbfs
      refine ⟨_, rfl, by show (0 : Nat) ≤ sizeLine; decide, fun c nc => ?_⟩
      have sc := same_upd (o := .lst []) nc
      refine ⟨_, .list [], .lst (.of (sc _ _ hw3)) (dpa_same sc hws3), .lst (.of upd_same) .nil, (shp_ents _).ok (by decide), (shp_nil (n := 0)).ok (by decide), _, rfl, ?_⟩
      cases he : endsOf bs.length g with
      | nil =>
        have eb : bestOf bs.length g = none := by
          unfold bestOf
          rw [he]
        rw [eb] at zz
        exact iteF (zz _ _ (s3.trans sc) .non)
      | cons y ys =>
        have eb : bestOf bs.length g = some (minE y ys).2 := by
          unfold bestOf
          rw [he]
        rw [eb] at zz
        rw [he] at hws3
        refine iteT ⟨_, rfl, D, ws, entD y, ys.map entD, rfl, .of (sc _ _ hw3), dpa_same sc hws3, ⟨?_, ?_⟩, ?_, fun v hv => ?_⟩
        · intro a ha b hb
          obtain ⟨a', _, rfl⟩ := List.mem_map.mp (show a ∈ (y :: ys).map entD from ha)
          obtain ⟨b', _, rfl⟩ := List.mem_map.mp (show b ∈ (y :: ys).map entD from hb)
          exact alike_ent _ _
        · intro a ha e
          obtain ⟨a', _, rfl⟩ := List.mem_map.mp (show a ∈ (y :: ys).map entD from ha)
          cases e
        · exact Nat.le_trans (shpA_all (n := 2) fun d hd => by
            obtain ⟨a', _, rfl⟩ := List.mem_map.mp (show d ∈ (y :: ys).map entD from hd)
            exact shp_ent a').2 (by decide)
        · rw [minE_D] at hv
          cases hv with
          | tup st at_ =>
            obtain ⟨v0, v1, rfl, _, h1⟩ := dpa2 at_
            exact ⟨_, _, _, _, rfl, rfl, st, rfl, zz _ _ (s3.trans sc) h1⟩
theorem sc_fewest : FnScope ["part", "desk", "found"] ["part", "desk"] (defScope s_fewest) := ⟨rfl, rfl, rfl, by decide +kernel, rfl, by decide +kernel, by decide +kernel⟩
section
variable {K : PySem.W.Frag} {mg : Str → Option Value}
theorem b_fewest (T : Txt K mg) : Binds K (fdOf K ("fewest", none)) ["part", "desk"] [] := T.fewest.bindsN fun _ _ _ _ _ _ us hl => match us, hl with | [_, _], _ => rfl
end
def lenOV : Option (List Nat) → V
  | none => .non
  | some row => .int (row.length : Int)
def sp_fewest (K : PySem.W.Frag) : Sp := fun vs H Q _ => ∃ (p q : Addr) (bs : List Bar) (past : List (List Bar)) (x : V) (k : Desk), vs = [.ref p, x] ∧ PartX K H p q bs past ∧ Dp K H x (deskD k) ∧ DeskOk k ∧ bs.length ≤ 100 ∧
  ∀ H' g, Same H H' → Found bs k (first k) g → Bfs bs k [(first k, (0, []))] [first k] g → Q (lenOV (bestOf bs.length g)) H'
theorem ok_fewest {P : Program} {w : World} {K : PySem.W.Frag} {mg : Str → Option Value} {base : Heap} (T : Txt K mg) : OkF P w K mg base CX0 8 ("fewest", none) ["part", "desk"] (sp_fewest K) := by
  refine okN T.fewest sc_fewest (fun vs H Q E h => ?_) (fun cdv A outer s H vs Q E hr h => ?_)
  · obtain ⟨p, q, bs, past, x, k, rfl, _⟩ := h
    rfl
  · obtain ⟨p, q, bs, past, x, k, rfl, hp, hx, ok, hbl, z⟩ := h
    refine ⟨_, (pss_cons (ps_expr (pe_call (ok_need_desk T) (hr.mono (by decide)) (by rfl) T.g_need_desk T.need_desk.kp (b_need_desk T) .nil pass0 (pa_cons (pv 1) pa_nil)))
      (pss_cons (ps_set (i := 2) sc_fewest.nd rfl (by first | exact Or.inl rfl | exact Or.inr rfl) (pe_call (ok_best_from T) (hr.mono (by decide)) (by rfl) T.g_best_from T.best_from.kp (b_best_from T) .nil pass0 (pa_cons (pv 0) (pa_cons (pv 1) (pa_cons (pe_call (ok_begin_of T) (hr.mono (by decide)) (by rfl) T.g_begin_of T.begin_of.kp (b_begin_of T) .nil pass0 (pa_cons (pv 1) pa_nil)) pa_nil)))))
      (pss_one (ps_ret (pe_ifExp (pt_cmp (pc_isN (pv 2))) pe_non (pe_callB call_len (by rfl) T.b_len PySem.boot_len (pa_cons (pv 2) pa_nil))))))), ?_⟩
    refine ⟨_, rfl, x, k, rfl, hx, ok, ?_⟩
    refine ⟨_, rfl, _, rfl, _, rfl, x, k, rfl, hx, fun c nc => ?_⟩
    have sc := same_upd (o := .tup (stateV (first k))) nc
    refine ⟨p, q, bs, past, x, k, first k, c, rfl, hp.same sc, dp_same sc hx, upd_same, first_ok ok, ok.e1, hbl, fun v H' g s' hf hb hv => ?_⟩
    have zz := z H' g (sc.trans s') hf hb
    cases hbo : bestOf bs.length g with
    | none =>
      rw [hbo] at hv zz
      have ev : v = .non := by
        cases hv
        rfl
      subst ev
      exact ⟨_, rfl, _, rfl, iteT zz⟩
    | some row =>
      rw [hbo] at hv zz
      obtain ⟨t, rfl, ht⟩ := dp_nums hv
      refine ⟨_, rfl, _, rfl, iteF ⟨_, rfl, _, _, rfl, .inr ⟨_, ht, rfl⟩, ?_⟩⟩
      rw [List.length_map]
      exact zz
/-! ### sorted(d), d a dict of states -/
def sortS (ss : List Sta) : List Sta := ss.mergeSort (PySem.W.dataLe false stateD)
def rSortS : List V → Hp → VK → Prop := fun xs H Q => ∃ (d : Addr) (kvs : List (List Key × V)) (ss : List Sta), xs = [.ref d] ∧ H d = some (.dT kvs) ∧ kvs.map (·.1) = ss.map keyS ∧
  ∀ p ws, H p = none → StatesAt H ws (sortS ss) → Q (.ref p) (upd H p (.lst ws))
theorem alike_states (s t : Sta) : PySem.W.alike (stateD s) (stateD t) = true := rfl
theorem depth_state (s : Sta) : (stateD s).depth ≤ 1 := Nat.le_refl _
theorem readsAll3 {h : Heap} {vs : List Value} {a c : Int} {b : Str} {as : List Addr} (ra : ReadsAll h vs [.int a, .str b, .int c] as) : as = [] := by
  cases ra with
  | cons r1 ra =>
    cases r1
    cases ra with
    | cons r1 ra =>
      cases r1
      cases ra with
      | cons r1 ra =>
        cases r1
        cases ra
        rfl
theorem reads_state {h : Heap} {v : Value} {s : Sta} {as : List Addr} (r : Reads h v (stateD s) as) : as = [] := by
  cases r with
  | tuple _ _ _ ra => exact readsAll3 ra
theorem each_states {H : Hp} {vs : List Value} {ss : List Sta} (h : PySem.W.EachIs (fun v s => ∃ o, v = Value.ref o ∧ H o = some (.tup (stateV s))) vs ss) : ∃ ws, Vals ws vs ∧ StatesAt H ws ss := by
  induction h with
  | nil => exact ⟨[], .nil, trivial⟩
  | cons a t ih =>
    obtain ⟨ws, h1, h2⟩ := ih
    obtain ⟨o, e, ho⟩ := a
    subst e
    exact ⟨.ref o :: ws, .cons rfl h1, ⟨o, rfl, ho⟩, h2⟩
theorem each_keys {H : Hp} {kvs : List (List Key × V)} {ks : List (List Key × Addr × Value)} (r : KT H kvs ks) : ∀ {ss : List Sta}, kvs.map (·.1) = ss.map keyS → PySem.W.EachIs (fun v s => ∃ o, v = Value.ref o ∧ H o = some (.tup (stateV s))) (ks.map fun x => Value.ref x.2.1) ss := by
  induction r with
  | nil =>
    intro ss h
    cases ss with
    | nil => exact .nil
    | cons a r => cases h
  | cons h t ih =>
    intro ss e
    cases ss with
    | nil => cases e
    | cons a r =>
      injection e with e1 e2
      dsimp only at e1
      refine .cons ⟨_, rfl, ?_⟩ (ih e2)
      have := h.2.1
      rw [e1] at this
      exact this
theorem cr_sortedS {X : Cx} (hcalm : X.calm = true) (hu : X.A.units + 65 < cLine) : CallR X (.builtin "sorted") rSortS := by
  intro pins s σ H xs us Q I r h
  obtain ⟨d, kvs, ss, rfl, hd, hks, q⟩ := h
  obtain ⟨u, rfl, rx⟩ := vals1 r
  cases rx
  obtain ⟨z, hs, ks, pr, o, es, ep, ho, hx, hdt, he, hn⟩ := (show ObjOk X.prog X.w H s.heap d (.dT kvs) from I.hok d _ hd)
  have l1 : es.size = ks.length := size_of_entries he
  have l2 : kvs.length = ks.length := Paired.length pr
  have l3 : ss.length = kvs.length := by
    have := congrArg List.length hks
    rw [List.length_map, List.length_map] at this
    exact this.symm
  refine Calls.call_function_entry PyProof.Rows.kind_sorted PyProof.Rows.plain_sorted PyProof.Rows.entry_sorted (PyProof.Rows.args_sorted1 _) ?_
  unfold Builtin.«sorted»
  refine wpAny_bind (m := checkCount "sorted" 1 1 _) (wpAny_pure ?_)
  refine wpAny_bind (PySem.W.kdu_collect (A := X.A.in1) (kdl_raw hs hx hdt) (I.ok.hd hcalm) ho (by omega) fun h' tk acc hk hacc => ?_)
  have ea : acc.toList = ks.map fun x => Value.ref x.2.1 := by
    have hl : acc.toList.length = ks.length := by rw [Array.length_toList, hacc.1]; exact l1
    apply List.ext_getElem?
    intro j
    rw [List.getElem?_map]
    cases hj : acc.toList[j]? with
    | none =>
      have h1 := List.getElem?_eq_none_iff.mp hj
      rw [List.getElem?_eq_none (by omega)]
      all_goals rfl
    | some v =>
      obtain ⟨en, hen, hv⟩ := hacc.2 j v (by rw [← Array.getElem?_toList]; exact hj)
      have qe := entry_at he j
      rw [hen] at qe
      cases hb : ks[j]? with
      | none =>
        rw [hb] at qe
        exact nomatch (show some en = none from qe)
      | some b =>
        rw [hb] at qe
        have e2 : en = entryOfKey (tupleKind (mixKind X.prog X.w)) b := Option.some.inj qe
        rw [hv, e2]
        all_goals rfl
  have hE : PySem.W.EachIs (fun v s => ∃ o, v = Value.ref o ∧ H o = some (.tup (stateV s))) acc.toList ss := by
    rw [ea]
    exact each_keys pr hks
  have I1 : Inv X pins σ H { s with heap := h', toks := tk } := I.kept hk
  have hal : acc.toList.length = ks.length := by rw [ea, List.length_map]
  refine wpAny_bind (wpAny_newList ?_ (by rw [hal]; omega))
  have hoL : (h'.push (seqObj "list" acc.toList.toArray 0)).get? h'.objs.size = some (seqObj "list" acc.toList.toArray 0) := Heap.get?_push_size _ rfl
  show wpAny _ _ _ _ _ { s with heap := h'.push (seqObj "list" acc.toList.toArray 0), toks := tk }
  have her : PySem.W.EachIs (fun v b => ∃ as, Reads (h'.push (seqObj "list" acc.toList.toArray 0)) v (stateD b) as ∧ h'.objs.size ∉ as) acc.toList ss := hE.mono fun v b hv => by
    obtain ⟨o, rfl, ho⟩ := hv
    obtain ⟨as, hr⟩ := Dp.reads I1 (stateD b) (.ref o) (.ref o) (dp_state_of (.of ho)) rfl
    have e := reads_state hr
    subst e
    exact ⟨[], PyProof.Rows.Reads.keeps (fun _ _ z => Heap.get?_push_of_some _ z) hr, by simp⟩
  refine wpAny_bind (wpAny_holding (PySem.W.list_sort_data (s := { s with heap := h'.push (seqObj "list" acc.toList.toArray 0), toks := tk }) hoL hE her (PySem.W.AllAlike.of alike_states) (.inl fun d hd => ?_) (by omega) (fun b _ => ?_) fun out hol hout => ?_))
  · obtain ⟨b, _, rfl⟩ := List.mem_map.mp hd
    exact ⟨_, _, rfl⟩
  · have := depth_state b
    show X.A.units + 1 + 1 + _ < _
    omega
  obtain ⟨ws, hws, hst⟩ := each_states hout
  obtain ⟨e', he'⟩ := PyProof.Rows.sortedHeap_at (vs := acc.toList) (out := out.toArray) hoL
  have hlen : ws.length ≤ sizeLine := by
    rw [hws.length, hol]
    omega
  refine wpAny_pure ⟨_, rfl, .ref h'.objs.size, upd H h'.objs.size (.lst ws), I1.laid (t' := tk) (fun b u e => ?_) (Nat.le_refl _)
    (show ObjOk X.prog X.w _ _ _ (.lst ws) from ⟨hlen, out, e', hws, he'⟩), rfl, q _ ws (I1.hok.fresh (Nat.le_refl _)) hst⟩
  have hb : b < h'.objs.size := Heap.lt_size e
  rw [PyProof.Rows.sortedHeap_old (Nat.ne_of_lt hb) (by rw [size_push']; exact Nat.lt_succ_of_lt hb)]
  exact Heap.get?_push_of_some _ e
theorem toks_inj {a b : Sta} (h : PySem.W.keyToks (stateD a) = PySem.W.keyToks (stateD b)) : a = b := by
  obtain ⟨b1, r1, u1⟩ := a
  obtain ⟨b2, r2, u2⟩ := b
  have h' : [Sum.inl (1 : Int), .inl (b1 : Int), .inl 1, .inr (sideS r1).cps.toList, .inl 1, .inl (u1 : Int), .inl 0] = [Sum.inl (1 : Int), .inl (b2 : Int), .inl 1, .inr (sideS r2).cps.toList, .inl 1, .inl (u2 : Int), .inl 0] := h
  injection h' with _ h'
  injection h' with e1 h'
  injection h' with _ h'
  injection h' with e2 h'
  injection h' with _ h'
  injection h' with e3 h'
  have e1' := Int.ofNat.inj (Sum.inl.inj e1)
  have e3' := Int.ofNat.inj (Sum.inl.inj e3)
  have e2' : sideS r1 = sideS r2 := by
    have := Sum.inr.inj e2
    have h3 : (sideS r1).cps = (sideS r2).cps := Array.toList_inj.mp this
    cases hr1 : sideS r1
    cases hr2 : sideS r2
    rw [hr1, hr2] at h3
    exact congrArg Str.mk h3
  rw [e1', e3', sideS_inj e2']
theorem sortS_perm (ss : List Sta) : (sortS ss).Perm ss := List.mergeSort_perm ss _
theorem sortS_eq {ss tt : List Sta} (h : ss.Perm tt) : sortS ss = sortS tt := by
  have T : PySem.W.TotalLe (PySem.W.dataLe false stateD) := PySem.W.sortLe_total _ false _
  refine List.Perm.eq_of_pairwise (le := fun a b => PySem.W.dataLe false stateD a b = true) ?_ (PySem.W.sort_pairwise T _) (PySem.W.sort_pairwise T _) (((sortS_perm ss).trans h).trans (sortS_perm tt).symm)
  intro a b _ _ h1 h2
  rw [PySem.W.dataLe_eq] at h1 h2
  have h1' : PySem.W.dataLt (stateD b) (stateD a) = false := by simpa using h1
  have h2' : PySem.W.dataLt (stateD a) (stateD b) = false := by simpa using h2
  exact toks_inj ((listOrd itemOrd).total (PySem.W.keyToks (stateD a)) (PySem.W.keyToks (stateD b)) h2' h1')
theorem nodup_perm {ss tt : List Sta} (h1 : ss.Nodup) (h2 : tt.Nodup) (h : ∀ s, s ∈ ss ↔ s ∈ tt) : ss.Perm tt := (List.perm_ext_iff_of_nodup h1 h2).mpr h
theorem EntsAt.keys {K : PySem.W.Frag} {H : Hp} : ∀ {kvs : List (List Key × V)} {f : List Ent}, EntsAt K H kvs f → kvs.map (·.1) = (keysE f).map keyS
  | [], [], _ => rfl
  | kv :: kvs, e :: es, h => by
    show kv.1 :: kvs.map (·.1) = keyS e.1 :: (keysE es).map keyS
    rw [h.1, EntsAt.keys h.2.2]
  | [], _ :: _, h => h.elim
  | _ :: _, [], h => h.elim
theorem any_end {bs : List Bar} {k : Desk} {g : List Ent} (hf : Found bs k (first k) g) : ((keysE g).map fun s => decide (s.bar = bs.length)).any id = (bestOf bs.length g).isSome := by
  cases e : bestOf bs.length g with
  | none =>
    show _ = false
    rw [List.any_eq_false]
    intro b hb
    obtain ⟨s, hs, rfl⟩ := List.mem_map.mp hb
    obtain ⟨en, he, rfl⟩ := List.mem_map.mp hs
    rw [id, decide_eq_true_iff]
    exact best_none hf e _ _ (hf.path en he).1
  | some row =>
    show _ = true
    rw [List.any_eq_true]
    obtain ⟨⟨st, h1, h2⟩, _⟩ := best_some hf e
    obtain ⟨en, he, h3, _⟩ := hf.least _ _ h1
    exact ⟨_, List.mem_map.mpr ⟨st, List.mem_map.mpr ⟨en, he, h3⟩, rfl⟩, decide_eq_true h2⟩
theorem found_len {bs : List Bar} {k : Desk} {b : Sta} {g : List Ent} (okb : StaOk bs k b) (hke : k.empty ≤ 3) (hf : Found bs k b g) : g.length ≤ (bs.length + 1) * 8 := by
  have h1 := sub_len (r := allSta bs.length 3) hf.nd fun s hs => by
    obtain ⟨e, hm, rfl⟩ := List.mem_map.mp hs
    have ok := okb.path (hf.path e hm).1
    refine allSta_mem ok.bar ?_
    have := ok.used
    omega
  rw [allSta_len, List.length_map] at h1
  omega
theorem decVN (a b : Nat) : decide (V.int (a : Int) = V.int (b : Int)) = decide (a = b) := by
  by_cases h : a = b
  · rw [decide_eq_true h, decide_eq_true (by rw [h])]
  · rw [decide_eq_false h, decide_eq_false]
    intro e
    have := V.int.inj e
    omega
theorem sc_least_paper : FnScope ["part", "desk", "found", "state"] ["part", "desk"] (defScope s_least_paper) := ⟨rfl, rfl, rfl, by decide +kernel, rfl, by decide +kernel, by decide +kernel⟩
section
variable {K : PySem.W.Frag} {mg : Str → Option Value}
theorem b_least_paper (T : Txt K mg) : Binds K (fdOf K ("least_paper", none)) ["part", "desk"] [] := T.least_paper.bindsN fun _ _ _ _ _ _ us hl => match us, hl with | [_, _], _ => rfl
end
/-- the number that a state has -/
def numG (g : List Ent) (s : Sta) : Nat := match look g s with
  | some x => x.1
  | none => 0
def rowsG (g : List Ent) (ss : List Sta) : List LEnt := ss.map fun s => (s, numG g s)
def LeastB (H : Hp) (v : V) (b : Option (List Nat)) (g : List Ent) : Prop := match b with
  | none => v = .non
  | some _ => RowsF H v (rowsG g (sortS (keysE g)))
theorem EntsAt.findL {K : PySem.W.Frag} {H : Hp} : ∀ {kvs : List (List Key × V)} {f : List Ent} {s : Sta}, EntsAt K H kvs f → s ∈ keysE f → ∃ v e, valV kvs (keyS s) = some v ∧ Dp K H v (entD e) ∧ look f s = some e
  | [], [], _, _, h => by cases h
  | kv :: kvs, x :: f, s, h, hs => by
    by_cases e : x.1 = s
    · subst e
      obtain ⟨k0, v0⟩ := kv
      have h1 : k0 = keyS x.1 := h.1
      subst h1
      refine ⟨v0, x.2, valV_pos rfl, h.2.1, ?_⟩
      unfold look
      rw [List.find?_cons_of_pos (by simp)]
      rfl
    · have hs' : s ∈ keysE f := by
        rcases List.mem_cons.mp (show s ∈ x.1 :: keysE f from hs) with z | z
        · exact absurd z.symm e
        · exact z
      obtain ⟨v, e', h1, h2, h3⟩ := EntsAt.findL h.2.2 hs'
      refine ⟨v, e', by rw [valV_neg (fun z => e (keyS_inj (h.1.symm.trans z)))]; exact h1, h2, ?_⟩
      unfold look at h3 ⊢
      rw [List.find?_cons_of_neg (by simpa using e)]
      exact h3
  | [], _ :: _, _, h, _ => h.elim
  | _ :: _, [], _, h, _ => h.elim
def spb_least_paper (K : PySem.W.Frag) : Sp := fun vs H Q _ => ∃ (p q : Addr) (bs : List Bar) (past : List (List Bar)) (x : V) (k : Desk), vs = [.ref p, x] ∧ PartX K H p q bs past ∧ Dp K H x (deskD k) ∧ DeskOk k ∧ bs.length ≤ 100 ∧
  ∀ v H' g, Same H H' → Found bs k (first k) g → Bfs bs k [(first k, (0, []))] [first k] g → LeastB H' v (bestOf bs.length g) g → Q v H'
theorem okb_least_paper {P : Program} {w : World} {K : PySem.W.Frag} {mg : Str → Option Value} {base : Heap} (T : Txt K mg) : OkF P w K mg base CX0 8 ("least_paper", none) ["part", "desk"] (spb_least_paper K) := by
  refine okN T.least_paper sc_least_paper (fun vs H Q E h => ?_) (fun cdv A outer s H vs Q E hr h => ?_)
  · obtain ⟨p, q, bs, past, x, k, rfl, _⟩ := h
    rfl
  · obtain ⟨p, q, bs, past, x, k, rfl, hp, hx, ok, hbl, z⟩ := h
    obtain ⟨dx, rr, ws0, h1, _⟩ := id hp
    refine ⟨_, (pss_cons (ps_expr (pe_call (ok_need_desk T) (hr.mono (by decide)) (by rfl) T.g_need_desk T.need_desk.kp (b_need_desk T) .nil pass0 (pa_cons (pv 1) pa_nil)))
      (pss_cons (ps_set (i := 2) sc_least_paper.nd rfl (by first | exact Or.inl rfl | exact Or.inr rfl) (pe_call (ok_reached T) (hr.mono (by decide)) (by rfl) T.g_reached T.reached.kp (b_reached T) .nil pass0 (pa_cons (pv 0) (pa_cons (pv 1) (pa_cons (pe_call (ok_begin_of T) (hr.mono (by decide)) (by rfl) T.g_begin_of T.begin_of.kp (b_begin_of T) .nil pass0 (pa_cons (pv 1) pa_nil)) pa_nil)))))
      (pss_cons (ps_if (pt_not (pt_val (pe_callB (cr_any rfl) (by rfl) T.b_any (by decide +kernel) (pa_cons (pe_lock (pe_lc (own := [("state", 3)]) (g := (gName 3)) (tt := tYes)  (by rfl) sc_least_paper.nd (pi_keys (pv 2)) (blkOk_by (own := [("state", 3)]) (N := ["part", "desk", "found", "state"]) (sc := defScope s_least_paper) (by decide +kernel)) (fun _ _ _ _ _ => (pg_name (i := 3) sc_least_paper.nd rfl (by first | exact Or.inl rfl | exact Or.inr rfl))) (fun _ _ _ _ _ => pts_nil) (fun _ _ _ _ _ => (pe_cmpR op_eq (pe_ix (r := rIxT K) ix_tup (pv 3) pe_int (fun _ _ => rfl)) (pe_callB (r := rLenP K (sp_Part_len K)) (call_lenP T (ok_Part_len T) (hr.mono (by decide))) (by rfl) T.b_len PySem.boot_len (pa_cons (pv 0) pa_nil)) (nomark _))))) pa_nil)))) (pss_one (ps_ret pe_non)) pss_nil)
      (pss_one (ps_ret (pe_callTy call_tuple_F (by rfl) T.b_tuple (by decide +kernel) (pa_cons (pe_lc (own := [("state", 3)]) (g := (gName 3)) (tt := tYes)  (by rfl) sc_least_paper.nd (pi_list (pe_callB (cr_sortedS rfl (units65 hr)) (by rfl) T.b_sorted (by decide +kernel) (pa_cons (pv 2) pa_nil))) (blkOk_by (own := [("state", 3)]) (N := ["part", "desk", "found", "state"]) (sc := defScope s_least_paper) (by decide +kernel)) (fun _ _ _ _ _ => (pg_name (i := 3) sc_least_paper.nd rfl (by first | exact Or.inl rfl | exact Or.inr rfl))) (fun _ _ _ _ _ => pts_nil) (fun _ _ _ _ _ => (pe_tup (pa_cons (pv 3) (pa_cons (pe_ix (r := rIxT K) ix_tup (pe_dget (hu_of hr) (pv 2) (pv 3) (fun _ _ => rfl)) pe_int (fun _ _ => rfl)) pa_nil))))) pa_nil))))))), ?_⟩
    refine ⟨_, rfl, x, k, rfl, hx, ok, ?_⟩
    refine ⟨_, rfl, _, rfl, _, rfl, x, k, rfl, hx, fun c nc => ?_⟩
    have sc := same_upd (o := .tup (stateV (first k))) nc
    refine ⟨p, q, bs, past, x, k, first k, c, rfl, hp.same sc, dp_same sc hx, upd_same, first_ok ok, ok.e1, hbl, fun d H1 g s1' nd' hd hfound hbfs => ?_⟩
    obtain ⟨kvs, hd, hes⟩ := hd
    have s1 := sc.trans s1'
    have nd : H d = none := sc.free nd'
    have hlen := hes.len
    have gl := found_len (first_ok ok) ok.e1 hfound
    have hsz : sizeLine = 16777216 := sizeLine_eq
    refine ⟨d, .dT kvs, hd, trivial, fun od => ?_⟩
    have sf : Same H (upd H1 d (.frz od (.dT kvs))) := same_updR s1 nd
    have hesf : EntsAt K (upd H1 d (.frz od (.dT kvs))) kvs g := hes.keep fun v e h t => dp_tu (fun a xs z => sqt_lock hd z) h t
    have hdf : (upd H1 d (.frz od (.dT kvs))) d = some (.frz od (.dT kvs)) := upd_same
    generalize (upd H1 d (.frz od (.dT kvs))) = Hf at sf hesf hdf ⊢
    refine ⟨_, rfl, d, od, rfl, .inr ⟨kvs, hdf, fun D hD => lc_it walk_keysT (fun i H' => Same Hf H' ∧ H' D = some (.lst ((((keysE g).take i).map fun s => decide (s.bar = bs.length)).map V.bl))) ⟨same_upd hD, upd_same⟩ ?_ ?_ ?_⟩⟩
    · rintro i H' _ ⟨s', _⟩
      exact s' _ _ hdf
    · rintro i v H' H'' hi ⟨s', hw⟩ ⟨rfl, kk, vv, qa, hkv, rfl, hqa⟩
      obtain ⟨e, he, hk, hvd⟩ := hesf.at hkv
      dsimp only at hk hvd
      subst hk
      have s0 := sf.trans s'
      refine ⟨rfl, _, rfl, qa, _, _, _, rfl, rfl, .of hqa, rfl, _, rfl, p, dx, _, rfl, s0 _ _ h1, p, q, bs, past, rfl, hp.same s0, bs.length, rfl, by omega, rfl, ?_⟩
      refine ⟨_, hw, ?_, same_updR s' hD, ?_⟩
      · rw [List.length_map, List.length_map, List.length_take, List.length_map]
        omega
      · have het : (keysE g)[i]? = some e.1 := by rw [List.getElem?_map, he]; rfl
        rw [upd_same, take_at het, List.map_append, List.map_append]
        show _ = some (HO.lst (_ ++ [V.bl (decide (e.1.bar = bs.length))]))
        rw [← decVN]
        rfl
    · rintro H2 ⟨s2, hw⟩
      rw [hlen, ← List.length_map (f := fun x : Ent => x.1), List.take_length] at hw
      have hd2 := s2 _ _ hdf
      refine ⟨hd2, ?_⟩
      have hDd : D ≠ d := fun e => by
        rw [e, hdf] at hD
        cases hD
      have s3 : Same H (upd H2 d (.dT kvs)) := same_updR (sf.trans s2) nd
      have hw3 : (upd H2 d (.dT kvs)) D = some (.lst (((keysE g).map fun s => decide (s.bar = bs.length)).map V.bl)) := by
        rw [upd_ne hDd]
        exact hw
      have hd3 : (upd H2 d (.dT kvs)) d = some (.dT kvs) := upd_same
      have hes3 : EntsAt K (upd H2 d (.dT kvs)) kvs g := (hesf.keep fun v e h t => dp_same s2 h).keep fun v e h t => dp_tu (fun a xs z => sqt_unlock hd2 z) h t
      generalize (upd H2 d (.dT kvs)) = H3 at s3 hw3 hd3 hes3 ⊢
      refine ⟨D, _, rfl, .of hw3, ?_⟩
      rw [any_end hfound]
      refine ⟨_, rfl, ?_⟩
      cases hb : bestOf bs.length g with
      | none => exact iteT (z .non H3 g s3 hfound hbfs (by rw [hb]; rfl))
      | some row =>
        refine iteF ⟨_, rfl, d, kvs, keysE g, rfl, hd3, hes3.keys, fun l ws nl hst => ?_⟩
        have sl := same_upd (o := .lst ws) nl
        have hst4 := hst.keep fun b ys e => sl _ _ e
        have hl4 : (upd H3 l (.lst ws)) l = some (.lst ws) := upd_same
        have hd4 := sl _ _ hd3
        have hes4 := hes3.keep (H' := upd H3 l (.lst ws)) fun v e h t => dp_same sl h
        have s4 := s3.trans sl
        have hwl := hst4.len
        have hgl : (sortS (keysE g)).length ≤ 808 := by
          rw [(sortS_perm _).length_eq, List.length_map]
          omega
        generalize (upd H3 l (.lst ws)) = H4 at hst4 hl4 hd4 hes4 s4 ⊢
        refine ⟨l, rfl, ⟨_, .of hl4⟩, fun D2 nD2 => lc_list (K := K) (a := l) (xs := ws) (fun i H' => Same H4 H' ∧ ∃ us, H' D2 = some (.lst us) ∧ RowsAt H' us (rowsG g ((sortS (keysE g)).take i))) ⟨same_upd nD2, [], upd_same, trivial⟩ ?_ ?_ ?_⟩
        · rintro i H' _ ⟨s', _⟩
          exact .of (s' _ _ hl4)
        · rintro i v H' hv ⟨s', us, hu, hrows⟩
          obtain ⟨st, hsti, o, rfl, ho⟩ := hst4.at hv
          have hmem : st ∈ keysE g := (sortS_perm _).mem_iff.mp (List.mem_of_getElem? hsti)
          obtain ⟨ev, en, hval, hev, hlook⟩ := (hes4.keep (H' := H') fun v e h t => dp_same s' h).findL hmem
          obtain ⟨te, rfl, e0, e1, hte, he0⟩ : ∃ te, ev = .ref te ∧ ∃ v0 v1, SqT K H' te [v0, v1] ∧ v0 = .int (en.1 : Int) := by
            cases hev with
            | tup st da =>
              obtain ⟨v0, v1, rfl, h0, h1⟩ := dpa2 da
              cases h0
              exact ⟨_, rfl, _, _, st, rfl⟩
          subst he0
          refine ⟨rfl, _, rfl, _, rfl, _, rfl, d, _, rfl, .inr ⟨kvs, keyS st, o, .inl (s' _ _ hd4), rfl, s' _ _ ho, hval.symm⟩, te, _, _, _, rfl, rfl, hte, rfl, by show (2 : Nat) ≤ sizeLine; decide, fun t nt => ?_⟩
          have stt := same_upd (o := .tup [.ref o, .int (en.1 : Int)]) nt
          have hu' := stt _ _ hu
          have htn : (upd H' t (.tup [.ref o, .int (en.1 : Int)])) t = some (.tup [.ref o, .int (en.1 : Int)]) := upd_same
          have ho' := stt _ _ (s' _ _ ho)
          have hrows' := hrows.keep fun b ys e => stt _ _ e
          have s'' := s'.trans stt
          generalize (upd H' t (.tup [.ref o, .int (en.1 : Int)])) = H5 at hu' htn ho' hrows' s'' ⊢
          have ff : ∀ b ys, H5 b = some (.tup ys) → (upd H5 D2 (.lst (us ++ [.ref t]))) b = some (.tup ys) := fun b ys e => by
            rw [upd_ne (ne_of e hu' (fun z => nomatch z))]
            exact e
          have hlr := hrows'.len
          have hlk : (rowsG g ((sortS (keysE g)).take i)).length ≤ 808 := by
            unfold rowsG
            rw [List.length_map, List.length_take]
            omega
          have er : rowsG g ((sortS (keysE g)).take (i + 1)) = rowsG g ((sortS (keysE g)).take i) ++ [(st, en.1)] := by
            unfold rowsG
            rw [take_at hsti, List.map_append]
            show _ ++ [(st, numG g st)] = _
            unfold numG
            rw [hlook]
          refine ⟨us, hu', by omega, same_updR s'' nD2, _, upd_same, ?_⟩
          rw [er]
          exact RowsAt.snoc (hrows'.keep ff) (ff _ _ htn) (ff _ _ ho')
        · rintro H5 ⟨s5, us, hu, hrows⟩
          rw [hwl, List.take_length] at hrows
          refine ⟨D2, us, rfl, .of hu, fun t o nt hto => ?_⟩
          have stt := same_upd (o := .frz o (.tup us)) nt
          refine z (.ref t) _ g ((s4.trans s5).trans stt) hfound hbfs ?_
          rw [hb]
          exact ⟨t, o, us, rfl, upd_same, hto, hrows.keep fun b ys e => stt _ _ e⟩
theorem sc_paper : FnScope ["part", "desk", "found", "state"] ["part", "desk"] (defScope s_paper) := ⟨rfl, rfl, rfl, by decide +kernel, rfl, by decide +kernel, by decide +kernel⟩
section
variable {K : PySem.W.Frag} {mg : Str → Option Value}
theorem b_paper (T : Txt K mg) : Binds K (fdOf K ("paper", none)) ["part", "desk"] [] := T.paper.bindsN fun _ _ _ _ _ _ us hl => match us, hl with | [_, _], _ => rfl
end
def PaperAt (H : Hp) (v : V) (b : Option (List Nat)) (ss : List Sta) : Prop := match b with
  | some _ => v = .non
  | none => ∃ t ws, v = .ref t ∧ H t = some (.tup ws) ∧ StatesAt H ws ss
def sp_paper (K : PySem.W.Frag) : Sp := fun vs H Q _ => ∃ (p q : Addr) (bs : List Bar) (past : List (List Bar)) (x : V) (k : Desk), vs = [.ref p, x] ∧ PartX K H p q bs past ∧ Dp K H x (deskD k) ∧ DeskOk k ∧ bs.length ≤ 100 ∧
  ∀ v H' g, Same H H' → Found bs k (first k) g → Bfs bs k [(first k, (0, []))] [first k] g → PaperAt H' v (bestOf bs.length g) (sortS (keysE g)) → Q v H'
theorem ok_paper {P : Program} {w : World} {K : PySem.W.Frag} {mg : Str → Option Value} {base : Heap} (T : Txt K mg) : OkF P w K mg base CX0 8 ("paper", none) ["part", "desk"] (sp_paper K) := by
  refine okN T.paper sc_paper (fun vs H Q E h => ?_) (fun cdv A outer s H vs Q E hr h => ?_)
  · obtain ⟨p, q, bs, past, x, k, rfl, _⟩ := h
    rfl
  · obtain ⟨p, q, bs, past, x, k, rfl, hp, hx, ok, hbl, z⟩ := h
    obtain ⟨dx, rr, ws0, h1, _⟩ := id hp
    refine ⟨_, (pss_cons (ps_expr (pe_call (ok_need_desk T) (hr.mono (by decide)) (by rfl) T.g_need_desk T.need_desk.kp (b_need_desk T) .nil pass0 (pa_cons (pv 1) pa_nil)))
      (pss_cons (ps_set (i := 2) sc_paper.nd rfl (by first | exact Or.inl rfl | exact Or.inr rfl) (pe_call (ok_reached T) (hr.mono (by decide)) (by rfl) T.g_reached T.reached.kp (b_reached T) .nil pass0 (pa_cons (pv 0) (pa_cons (pv 1) (pa_cons (pe_call (ok_begin_of T) (hr.mono (by decide)) (by rfl) T.g_begin_of T.begin_of.kp (b_begin_of T) .nil pass0 (pa_cons (pv 1) pa_nil)) pa_nil)))))
      (pss_cons (ps_if (pt_val (pe_callB (cr_any rfl) (by rfl) T.b_any (by decide +kernel) (pa_cons (pe_lock (pe_lc (own := [("state", 3)]) (g := (gName 3)) (tt := tYes)  (by rfl) sc_paper.nd (pi_keys (pv 2)) (blkOk_by (own := [("state", 3)]) (N := ["part", "desk", "found", "state"]) (sc := defScope s_paper) (by decide +kernel)) (fun _ _ _ _ _ => (pg_name (i := 3) sc_paper.nd rfl (by first | exact Or.inl rfl | exact Or.inr rfl))) (fun _ _ _ _ _ => pts_nil) (fun _ _ _ _ _ => (pe_cmpR op_eq (pe_ix (r := rIxT K) ix_tup (pv 3) pe_int (fun _ _ => rfl)) (pe_callB (r := rLenP K (sp_Part_len K)) (call_lenP T (ok_Part_len T) (hr.mono (by decide))) (by rfl) T.b_len PySem.boot_len (pa_cons (pv 0) pa_nil)) (nomark _))))) pa_nil))) (pss_one (ps_ret pe_non)) pss_nil)
      (pss_one (ps_ret (pe_callTy call_tuple_of (by rfl) T.b_tuple (by decide +kernel) (pa_cons (pe_callB (cr_sortedS rfl (units65 hr)) (by rfl) T.b_sorted (by decide +kernel) (pa_cons (pv 2) pa_nil)) pa_nil))))))), ?_⟩
    refine ⟨_, rfl, x, k, rfl, hx, ok, ?_⟩
    refine ⟨_, rfl, _, rfl, _, rfl, x, k, rfl, hx, fun c nc => ?_⟩
    have sc := same_upd (o := .tup (stateV (first k))) nc
    refine ⟨p, q, bs, past, x, k, first k, c, rfl, hp.same sc, dp_same sc hx, upd_same, first_ok ok, ok.e1, hbl, fun d H1 g s1' nd' hd hfound hbfs => ?_⟩
    obtain ⟨kvs, hd, hes⟩ := hd
    have s1 := sc.trans s1'
    have nd : H d = none := sc.free nd'
    have hlen := hes.len
    have gl := found_len (first_ok ok) ok.e1 hfound
    have hsz : sizeLine = 16777216 := sizeLine_eq
    refine ⟨d, .dT kvs, hd, trivial, fun od => ?_⟩
    have sf : Same H (upd H1 d (.frz od (.dT kvs))) := same_updR s1 nd
    have hesf : EntsAt K (upd H1 d (.frz od (.dT kvs))) kvs g := hes.keep fun v e h t => dp_tu (fun a xs z => sqt_lock hd z) h t
    have hdf : (upd H1 d (.frz od (.dT kvs))) d = some (.frz od (.dT kvs)) := upd_same
    generalize (upd H1 d (.frz od (.dT kvs))) = Hf at sf hesf hdf ⊢
    refine ⟨_, rfl, d, od, rfl, .inr ⟨kvs, hdf, fun D hD => lc_it walk_keysT (fun i H' => Same Hf H' ∧ H' D = some (.lst ((((keysE g).take i).map fun s => decide (s.bar = bs.length)).map V.bl))) ⟨same_upd hD, upd_same⟩ ?_ ?_ ?_⟩⟩
    · rintro i H' _ ⟨s', _⟩
      exact s' _ _ hdf
    · rintro i v H' H'' hi ⟨s', hw⟩ ⟨rfl, kk, vv, qa, hkv, rfl, hqa⟩
      obtain ⟨e, he, hk, hvd⟩ := hesf.at hkv
      dsimp only at hk hvd
      subst hk
      have s0 := sf.trans s'
      refine ⟨rfl, _, rfl, qa, _, _, _, rfl, rfl, .of hqa, rfl, _, rfl, p, dx, _, rfl, s0 _ _ h1, p, q, bs, past, rfl, hp.same s0, bs.length, rfl, by omega, rfl, ?_⟩
      refine ⟨_, hw, ?_, same_updR s' hD, ?_⟩
      · rw [List.length_map, List.length_map, List.length_take, List.length_map]
        omega
      · have het : (keysE g)[i]? = some e.1 := by rw [List.getElem?_map, he]; rfl
        rw [upd_same, take_at het, List.map_append, List.map_append]
        show _ = some (HO.lst (_ ++ [V.bl (decide (e.1.bar = bs.length))]))
        rw [← decVN]
        rfl
    · rintro H2 ⟨s2, hw⟩
      rw [hlen, ← List.length_map (f := fun x : Ent => x.1), List.take_length] at hw
      have hd2 := s2 _ _ hdf
      refine ⟨hd2, ?_⟩
      have hDd : D ≠ d := fun e => by
        rw [e, hdf] at hD
        cases hD
      have s3 : Same H (upd H2 d (.dT kvs)) := same_updR (sf.trans s2) nd
      have hw3 : (upd H2 d (.dT kvs)) D = some (.lst (((keysE g).map fun s => decide (s.bar = bs.length)).map V.bl)) := by
        rw [upd_ne hDd]
        exact hw
      have hd3 : (upd H2 d (.dT kvs)) d = some (.dT kvs) := upd_same
      generalize (upd H2 d (.dT kvs)) = H3 at s3 hw3 hd3 ⊢
      refine ⟨D, _, rfl, .of hw3, ?_⟩
      rw [any_end hfound]
      refine ⟨_, rfl, ?_⟩
      cases hb : bestOf bs.length g with
      | some row => exact iteT (z .non H3 g s3 hfound hbfs (by rw [hb]; rfl))
      | none =>
        refine iteF ⟨_, rfl, d, kvs, keysE g, rfl, hd3, hes.keys, fun l ws nl hst => ?_⟩
        have sl := same_upd (o := .lst ws) nl
        refine ⟨l, _, rfl, .inl ⟨.of upd_same, fun t nt => ?_⟩⟩
        have st := same_upd (o := .tup ws) nt
        refine z (.ref t) _ g ((s3.trans sl).trans st) hfound hbfs ?_
        rw [hb]
        exact ⟨t, ws, rfl, upd_same, hst.keep fun b ys e => st _ _ (sl _ _ e)⟩
theorem sc_shows_least : FnScope ["part", "desk", "many", "thing", "found", "state", "bars", "other", "one"] ["part", "desk", "many", "thing"] (defScope s_shows_least) := ⟨rfl, rfl, rfl, by decide +kernel, rfl, by decide +kernel, by decide +kernel⟩
section
variable {K : PySem.W.Frag} {mg : Str → Option Value}
theorem b_shows_least (T : Txt K mg) : Binds K (fdOf K ("shows_least", none)) ["part", "desk", "many", "thing"] [] := T.shows_least.bindsN fun _ _ _ _ _ _ us hl => match us, hl with | [_, _, _, _], _ => rfl
end
def sp_shows_least (K : PySem.W.Frag) : Sp := fun vs H Q _ => ∃ (p q : Addr) (bs : List Bar) (past : List (List Bar)) (x y : V) (k : Desk) (many : Nat) (rows : List LEnt), vs = [.ref p, x, .int (many : Int), y] ∧ PartX K H p q bs past ∧ Dp K H x (deskD k) ∧ DeskOk k ∧ many ≤ 99 ∧ RowsF H y rows ∧ rows.length ≤ 10000 ∧ bs.length ≤ 1000 ∧
  ∀ H', Same H H' → Q (.bl (leastS bs k many rows)) H'
theorem ok_shows_least {P : Program} {w : World} {K : PySem.W.Frag} {mg : Str → Option Value} {base : Heap} (T : Txt K mg) : OkF P w K mg base CX0 7 ("shows_least", none) ["part", "desk", "many", "thing"] (sp_shows_least K) := by
  refine okN T.shows_least sc_shows_least (fun vs H Q E h => ?_) (fun cdv A outer s H vs Q E hr h => ?_)
  · obtain ⟨p, q, bs, past, x, y, k, many, rows, rfl, _⟩ := h
    rfl
  · obtain ⟨p, q, bs, past, x, y, k, many, rows, rfl, hp, hx, ok, hmany, hrows, hrl, hbl, z⟩ := h
    obtain ⟨dx, rr, ws0, h1, _⟩ := id hp
    have hsz : sizeLine = 16777216 := sizeLine_eq
    obtain ⟨t, o, ws, rfl, ht, hto, hws⟩ := id hrows
    have hy := hrows.dp (K := K)
    have hl := hws.len
    refine ⟨_, (pss_cons (ps_expr (pe_call (ok_need_desk T) (hr.mono (by decide)) (by rfl) T.g_need_desk T.need_desk.kp (b_need_desk T) .nil pass0 (pa_cons (pv 1) pa_nil)))
      (pss_cons (ps_if (pt_not (pt_val (pe_call (ok_is_number T) (hr.mono (by decide)) (by rfl) T.g_is_number T.is_number.kp (b_is_number T) .nil pass0 (pa_cons (pv 2) (pa_cons pe_int (pa_cons pe_int pa_nil)))))) pss_never pss_nil)
      (pss_cons (ps_if (PW.pt (pw_or (pt_not (pt_val (pe_callB call_isi (by rfl) T.b_isinstance (by decide +kernel) (pa_cons (pv 3) (pa_cons (pe_bltn (v := .ty "tuple") (by rfl) T.b_tuple (by decide +kernel) rfl) pa_nil))))) (pw_or1 (pt_not (pt_val (pe_callB (cr_all rfl) (by rfl) T.b_all (by decide +kernel) (pa_cons (pe_lc (own := [("one", 8)]) (g := (gName 8)) (tt := tYes)  (by rfl) sc_shows_least.nd (pi_tup (pv 3)) (blkOk_by (own := [("one", 8)]) (N := ["part", "desk", "many", "thing", "found", "state", "bars", "other", "one"]) (sc := defScope s_shows_least) (by decide +kernel)) (fun _ _ _ _ _ => (pg_name (i := 8) sc_shows_least.nd rfl (by first | exact Or.inl rfl | exact Or.inr rfl))) (fun _ _ _ _ _ => pts_nil) (fun _ _ _ _ _ => (pe_call (ok_is_row T) (hr.mono (by decide)) (by rfl) T.g_is_row T.is_row.kp (b_is_row T) .nil pass0 (pa_cons (pv 0) (pa_cons (pv 1) (pa_cons (pv 8) pa_nil)))))) pa_nil))))))) (pss_one (ps_ret pe_bl)) pss_nil)
      (pss_cons (ps_set (i := 4) sc_shows_least.nd rfl (by first | exact Or.inl rfl | exact Or.inr rfl) (pe_callTy (cr_dictT rfl (units65 hr)) (by rfl) T.b_dict (by decide +kernel) (pa_cons (pv 3) pa_nil)))
      (pss_cons (ps_if (PW.pt (pw_or (pt_cmpR op_ne (pe_callB call_len_dT (by rfl) T.b_len PySem.boot_len (pa_cons (pv 4) pa_nil)) (pe_callB call_len (by rfl) T.b_len PySem.boot_len (pa_cons (pv 3) pa_nil)) (nomark _)) (pw_or1 (pt_cmpR op_ne (pe_dget2 (hu_of hr) (pv 4) (pe_call (ok_begin_of T) (hr.mono (by decide)) (by rfl) T.g_begin_of T.begin_of.kp (b_begin_of T) .nil pass0 (pa_cons (pv 1) pa_nil)) (pe_un un_neg pe_int) ⟨rfl, rfl, rfl, rfl⟩) pe_int (nomark _))))) (pss_one (ps_ret pe_bl)) pss_nil)
      (pss_cons (ps_lock (ps_for PassesOwn.never rfl (pi_keys (pv 4)) (pg_name (i := 5) sc_shows_least.nd rfl (by first | exact Or.inl rfl | exact Or.inr rfl))
      (pss_cons (ps_if (PW.pt (pw_and (pt_cmpR op_eq (pe_ix ix_tup (pv 5) pe_int (fun _ _ => rfl)) (pe_callB (call_lenP T (ok_Part_len T) (hr.mono (by decide))) (by rfl) T.b_len PySem.boot_len (pa_cons (pv 0) pa_nil)) (nomark _)) (pw_and1 (pt_cmpR op_lt (pe_dget (hu_of hr) (pv 4) (pv 5) (fun _ _ => rfl)) (pv 2) (nomark _))))) (pss_one (ps_ret pe_bl)) pss_nil)
      (pss_one (ps_for PassesOwn.never rfl (pi_list (pe_call (ok_steps T) (hr.mono (by decide)) (by rfl) T.g_steps T.steps.kp (b_steps T) .nil pass0 (pa_cons (pv 0) (pa_cons (pv 1) (pa_cons (pv 5) pa_nil))))) (pg_tup rfl (pgs_cons (pg_name (i := 6) sc_shows_least.nd rfl (by first | exact Or.inl rfl | exact Or.inr rfl)) (pgs_cons (pg_name (i := 7) sc_shows_least.nd rfl (by first | exact Or.inl rfl | exact Or.inr rfl)) pgs_nil)))
      (pss_one (ps_if (PW.pt (pw_or (pt_cmp (pc_dnotin (hu_of hr) (pv 7) (pv 4))) (pw_or1 (pt_cmpR op_gt (pe_dget (hu_of hr) (pv 4) (pv 7) (fun _ _ => rfl)) (pe_op op_add (pe_dget (hu_of hr) (pv 4) (pv 5) (fun _ _ => rfl)) pe_int) (nomark _))))) (pss_one (ps_ret pe_bl)) pss_nil)))))))
      (pss_one (ps_ret pe_bl)))))))), ?_⟩
    refine ⟨_, rfl, x, k, rfl, hx, ok, ?_⟩
    refine ⟨_, rfl, _, .int (many : Int), _, _, rfl, .int _, _, rfl, ?_⟩
    rw [isNum_of (show (0 : Int) ≤ (many : Int) by omega) (show (many : Int) ≤ 99 by omega)]
    refine iteF ?_
    have hs : SqT K H t ws := .inl (.inr ⟨o, ht⟩)
    refine ⟨_, rfl, _, _, _, _, _, rfl, .ty _, dp_ty hy, kit_tup _, _, rfl, iteF ⟨_, rfl, t, rfl, ⟨_, hs⟩, fun D nD => lc_tup (K := K) (a := t) (xs := ws) (fun i H' => Same H H' ∧ H' D = some (.lst (((rows.take i).map (inB bs k)).map V.bl))) ⟨same_upd nD, upd_same⟩ ?_ ?_ ?_⟩⟩
    · rintro i H' _ ⟨s, _⟩
      exact same_sqt s hs
    · rintro i v H' hv ⟨s, e⟩
      obtain ⟨r0, c0, b0, hr0, rfl, hc0, hb0⟩ := hws.at hv
      have hdr : Dp K H' (.ref c0) (rowD r0) := dp_same s (.tup (.of hc0) (.cons (dp_state_of (.of hb0)) (.cons (.int _) .nil)))
      refine ⟨rfl, _, rfl, _, rfl, _, rfl, p, q, bs, past, x, _, k, rowD r0, rfl, hp.same s, dp_same s hx, hdr, hbl, _, e, ?_, same_updR s nD, ?_⟩
      · rw [List.length_map, List.length_map, List.length_take]
        omega
      · rw [upd_same, take_at hr0, List.map_append, List.map_append, isRow_row]
        rfl
    · rintro H1 ⟨s1, e1⟩
      rw [hl, List.take_length] at e1
      refine ⟨D, _, rfl, .of e1, ?_⟩
      have eall : (rows.map (inB bs k)).all id = rows.all (inB bs k) := by
        rw [List.all_map]
        rfl
      rw [eall]
      unfold leastS at z
      cases hall : rows.all (inB bs k) with
      | false =>
        rw [hall] at z
        exact ⟨_, rfl, iteT (z _ s1)⟩
      | true =>
        rw [hall, Bool.true_and] at z
        refine ⟨_, rfl, iteF ?_⟩
        refine ⟨_, rfl, t, o, ws, dictL rows, rfl, s1 _ _ ht, hto, (hws.keep fun b ys e => s1 _ _ e).pairs, fun d nd => ?_⟩
        have sd := same_upd (o := .dT (putAll (dictL rows) [])) nd
        have s2 := s1.trans sd
        have ndH : H d = none := s1.free nd
        have hd2 : (upd H1 d (.dT (putAll (dictL rows) []))) d = some (.dT (putAll (dictL rows) [])) := upd_same
        generalize (upd H1 d (.dT (putAll (dictL rows) []))) = H2 at s2 hd2 ⊢
        refine ⟨_, rfl, d, _, rfl, hd2, _, rfl, _, _, rfl, .inr ⟨_, same_sqt s2 hs, rfl⟩, rfl, _, rfl, ?_⟩
        by_cases hnd : (keysL rows).Nodup
        · have epa : putAll (dictL rows) [] = dictL rows := putAll_nodup (acc := []) (by rw [List.nil_append]; exact (nodup_keyS rows).mpr hnd)
          rw [epa] at hd2 ⊢
          rw [decide_eq_true hnd, Bool.true_and] at z
          refine iteNNQ (by rw [List.length_map, hl]) ?_
          refine ⟨_, rfl, d, rfl, .inr ⟨_, .inl hd2⟩, _, rfl, x, k, rfl, dp_same s2 hx, fun c nc => ?_⟩
          have sc := same_upd (o := .tup (stateV (first k))) nc
          have s3 := s2.trans sc
          have hd3 := sc _ _ hd2
          have hc3 : (upd H2 c (.tup (stateV (first k)))) c = some (.tup ((keyS (first k)).map kV)) := upd_same
          generalize (upd H2 c (.tup (stateV (first k)))) = H3 at s3 hd3 hc3 ⊢
          refine ⟨_, rfl, _, .t hd3 hc3, ?_⟩
          rcases valL rows (first k) with ⟨hn, hv⟩ | ⟨qn, hq, hv⟩
          · rw [hv]
            have e0 : (first k, 0) ∉ rows := fun h => hn (List.mem_map.mpr ⟨_, h, rfl⟩)
            rw [decide_eq_false e0] at z
            exact ⟨rfl, _, rfl, iteNEQ (by decide) (z _ s3)⟩
          · rw [hv]
            refine ⟨rfl, _, rfl, ?_⟩
            refine ite2NQ (fun ne => ?_) (fun eq => ?_)
            · have e0 : (first k, 0) ∉ rows := fun h => ne (by have := lev_uniq hnd h hq; omega)
              rw [decide_eq_false e0] at z
              exact z _ s3
            · have eq0 : qn = 0 := by omega
              subst eq0
              rw [decide_eq_true hq, Bool.true_and] at z
              -- for state in found
              refine ⟨d, .dT (dictL rows), hd3, trivial, fun od => ?_⟩
              have sf : Same H (upd H3 d (.frz od (.dT (dictL rows)))) := same_updR s3 ndH
              have hdf : (upd H3 d (.frz od (.dT (dictL rows)))) d = some (.frz od (.dT (dictL rows))) := upd_same
              generalize (upd H3 d (.frz od (.dT (dictL rows)))) = Hf at sf hdf ⊢
              have out : ∀ H' b, Same Hf H' → rows.all (rowOkR bs k many rows) = b → H' d = some (.frz od (.dT (dictL rows))) ∧ Q (.bl b) (upd H' d (.dT (dictL rows))) := fun H' b s' e => ⟨s' _ _ hdf, by rw [e] at z; exact z _ (same_updR (sf.trans s') ndH)⟩
              refine ⟨_, rfl, d, od, rfl, .inr ⟨dictL rows, hdf, for_it walk_keysT (fun i σ H' => Same Hf H' ∧ (rows.take i).all (rowOkR bs k many rows) = true ∧ ∃ y5 y6 y7 y8, σ = [some (.ref p), some x, some (.int (many : Int)), some (.ref t), some (.ref d), y5, y6, y7, y8]) ⟨Same.refl _, rfl, _, _, _, _, rfl⟩ ?_ ?_ ?_⟩⟩
              · rintro i σ H' _ ⟨s', _⟩
                exact s' _ _ hdf
              · rintro i v σ H4 H4' hi ⟨s4, hok, y5, y6, y7, y8, rfl⟩ ⟨rfl, kk, vv, qa, hkv, rfl, hqa⟩
                rw [List.getElem?_map] at hkv
                cases hri : rows[i]? with
                | none =>
                  rw [hri] at hkv
                  cases hkv
                | some r1 =>
                  rw [hri] at hkv
                  have ekv : (keyS r1.1, V.int (r1.2 : Int)) = (kk, vv) := Option.some.inj hkv
                  cases ekv
                  have rin := List.mem_of_getElem? hri
                  have hval : valV (dictL rows) (keyS r1.1) = some (.int (r1.2 : Int)) := by
                    rcases valL rows r1.1 with ⟨hn, _⟩ | ⟨q1, hq1, hv1⟩
                    · exact absurd (List.mem_map.mpr ⟨r1, rin, rfl⟩) hn
                    · rw [hv1, lev_uniq hnd hq1 (show (r1.1, r1.2) ∈ rows from rin)]
                  have s04 := sf.trans s4
                  have hdf4 := s4 _ _ hdf
                  have hinb := List.all_eq_true.mp hall r1 rin
                  have hrb : r1.1.bar ≤ bs.length := by
                    unfold inB at hinb
                    rw [Bool.and_eq_true, decide_eq_true_iff] at hinb
                    exact hinb.1
                  have fail : rowOkR bs k many rows r1 = false → ∀ H', Same Hf H' → H' d = some (.frz od (.dT (dictL rows))) ∧ Q (.bl false) (upd H' d (.dT (dictL rows))) := fun hf H' s' => out H' false s' (List.all_eq_false.mpr ⟨r1, rin, by rw [hf]; decide⟩)
                  refine ⟨_, rfl, qa, _, _, _, rfl, rfl, .of hqa, rfl, _, rfl, p, dx, _, rfl, s04 _ _ h1, p, q, bs, past, rfl, hp.same s04, bs.length, rfl, by omega, rfl, _, rfl, ?_⟩
                  by_cases hend : r1.1.bar = bs.length ∧ r1.2 < many
                  · refine iteEQ (by omega) ⟨_, rfl, _, rfl, d, _, rfl, .inr ⟨_, keyS r1.1, qa, .inr ⟨od, hdf4⟩, rfl, hqa, hval.symm⟩, _, rfl, _, _, rfl, rfl, _, rfl, iteP (by omega) ?_⟩
                    refine fail ?_ _ s4
                    unfold rowOkR
                    rw [decide_eq_true hend.1, decide_eq_true hend.2]
                    rfl
                  · have hend' : (decide (r1.1.bar = bs.length) && decide (r1.2 < many)) = false := by
                      rw [Bool.and_eq_false_iff, decide_eq_false_iff_not, decide_eq_false_iff_not]
                      by_cases h : r1.1.bar = bs.length
                      · exact .inr fun h2 => hend ⟨h, h2⟩
                      · exact .inl h
                    refine ite2Q (fun eq => ⟨_, rfl, _, rfl, d, _, rfl, .inr ⟨_, keyS r1.1, qa, .inr ⟨od, hdf4⟩, rfl, hqa, hval.symm⟩, _, rfl, _, _, rfl, rfl, _, rfl, iteN (fun h => hend ⟨by omega, by omega⟩) ?_⟩) (fun ne => iteF ?_)
                    all_goals
                      refine ⟨_, rfl, _, rfl, _, rfl, p, q, bs, past, x, _, k, r1.1, rfl, hp.same s04, dp_same s04 hx, dp_state_of (.of hqa), hrb, hbl, fun SL H5 s5 nSL hSL => ?_⟩
                      obtain ⟨sv, hsl, hstp⟩ := hSL
                      have s45 := s4.trans s5
                      refine ⟨SL, rfl, ⟨_, .of hsl⟩, for_list (xs := sv) (fun j σ H' => Same H5 H' ∧ ((stepsL bs k r1.1).take j).all (stepOkR rows r1) = true ∧ ∃ y6 y7, σ = [some (.ref p), some x, some (.int (many : Int)), some (.ref t), some (.ref d), some (.ref qa), y6, y7, y8]) ⟨Same.refl _, rfl, _, _, rfl⟩ ?_ ?_ ?_⟩
                      · rintro j σ H' _ ⟨s', _⟩
                        exact .of (s' _ _ hsl)
                      · rintro j v σ H6 hvj ⟨s6, hok6, y6, y7, rfl⟩
                        obtain ⟨xx, hxx, t1, o1, rfl, ht1, ho1⟩ := hstp.at hvj
                        obtain ⟨mm, oth⟩ := xx
                        have s46 := s45.trans s6
                        have hdf6 := s46 _ _ hdf
                        have ho6 := s6 _ _ ho1
                        have hqa6 := (s5.trans s6) _ _ hqa
                        have sin := List.mem_of_getElem? hxx
                        have fail2 : stepOkR rows r1 (mm, oth) = false → rowOkR bs k many rows r1 = false := fun hf => by
                          unfold rowOkR
                          rw [Bool.and_eq_false_iff]
                          exact .inr (List.all_eq_false.mpr ⟨_, sin, by rw [hf]; decide⟩)
                        have go : stepOkR rows r1 (mm, oth) = true → ((stepsL bs k r1.1).take (j + 1)).all (stepOkR rows r1) = true := fun hg => by
                          rw [take_at hxx, List.all_append, hok6, Bool.true_and, List.all_cons, hg]
                          rfl
                        refine ⟨t1, _, rfl, .of (s6 _ _ ht1), rfl, _, _, rfl, _, _, rfl, rfl, ?_⟩
                        rcases valL rows oth with ⟨hn, hv1⟩ | ⟨q1, hq1, hv1⟩
                        · exact ⟨_, rfl, _, rfl, d, none, rfl, .inr ⟨_, keyS oth, o1, .inr ⟨od, hdf6⟩, rfl, ho6, hv1.symm⟩, _, rfl, iteT (fail (fail2 (stepOk_out hn)) H6 s46)⟩
                        · refine ⟨_, rfl, _, rfl, d, some _, rfl, .inr ⟨_, keyS oth, o1, .inr ⟨od, hdf6⟩, rfl, ho6, hv1.symm⟩, _, rfl, iteF ?_⟩
                          refine ⟨_, rfl, _, rfl, d, _, rfl, .inr ⟨_, keyS oth, o1, .inr ⟨od, hdf6⟩, rfl, ho6, hv1.symm⟩, _, rfl, _, rfl, d, _, rfl, .inr ⟨_, keyS r1.1, qa, .inr ⟨od, hdf6⟩, rfl, hqa6, hval.symm⟩, _, _, rfl, rfl, _, _, rfl, rfl, _, rfl, ite2P (fun hgt => ?_) (fun hle => ?_)⟩
                          · refine fail (fail2 ?_) H6 s46
                            rw [stepOk_in hnd hq1]
                            exact decide_eq_false (by omega)
                          · refine ⟨s6, go ?_, _, _, rfl⟩
                            rw [stepOk_in hnd hq1]
                            exact decide_eq_true (by omega)
                      · rintro σ H6 ⟨s6, hok6, y6, y7, rfl⟩
                        rw [hstp.len, List.take_length] at hok6
                        refine ⟨s45.trans s6, ?_, _, _, _, _, rfl⟩
                        rw [take_at hri, List.all_append, hok, Bool.true_and, List.all_cons]
                        unfold rowOkR
                        rw [hend', hok6]
                        rfl
              · rintro σ H4 ⟨s4, hok, y5, y6, y7, y8, rfl⟩
                rw [List.length_map, List.take_length] at hok
                obtain ⟨o1, o2⟩ := out H4 true s4 hok
                exact ⟨o1, o2⟩
        · rw [decide_eq_false hnd] at z
          refine iteNEQ (fun e => hnd ?_) (z _ s2)
          have h9 := putAll_full (kvs := dictL rows) (acc := []) List.nodup_nil (by
            rw [hl] at e
            show (putAll (dictL rows) []).length = 0 + (dictL rows).length
            rw [List.length_map]
            omega)
          rw [List.nil_append] at h9
          exact (nodup_keyS rows).mp h9
def RowsL (H : Hp) (S : Addr) (rs : List LEnt) : Prop := ∃ ws, H S = some (.lst ws) ∧ RowsAt H ws rs
theorem RowsL.same {H H' : Hp} {S : Addr} {rs : List LEnt} (h : RowsL H S rs) (s : Same H H') : RowsL H' S rs := by
  obtain ⟨ws, h1, h2⟩ := h
  exact ⟨ws, s _ _ h1, h2.keep fun b ys e => s _ _ e⟩
theorem RowsL.fr {ds : List Addr} {H H' : Hp} {S : Addr} {rs : List LEnt} (h : RowsL H S rs) (f : Fr ds H H') (n : S ∉ ds) : RowsL H' S rs := by
  obtain ⟨ws, h1, h2⟩ := h
  exact ⟨ws, f.keep _ _ n h1, h2.keep fun b ys e => f.tu _ _ e⟩
theorem RowsAt.erase {H : Hp} : ∀ {vs : List V} {rs : List LEnt} (n : Nat), RowsAt H vs rs → RowsAt H (vs.eraseIdx n) (rs.eraseIdx n)
  | [], [], _, _ => trivial
  | _ :: _, _ :: _, 0, h => h.2
  | _ :: _, _ :: _, n + 1, h => ⟨h.1, RowsAt.erase n h.2⟩
  | [], _ :: _, _, h => h.elim
  | _ :: _, [], _, h => h.elim
theorem RowsAt.set {H : Hp} {c b : Addr} {x : LEnt} (h1 : H c = some (.tup [.ref b, .int (x.2 : Int)])) (h2 : H b = some (.tup (stateV x.1))) : ∀ {vs : List V} {rs : List LEnt} (n : Nat), RowsAt H vs rs → RowsAt H (vs.set n (.ref c)) (rs.set n x)
  | [], [], _, _ => trivial
  | _ :: _, _ :: _, 0, h => ⟨⟨c, b, rfl, h1, h2⟩, h.2⟩
  | _ :: _, _ :: _, n + 1, h => ⟨h.1, RowsAt.set h1 h2 n h.2⟩
  | [], _ :: _, _, h => h.elim
  | _ :: _, [], _, h => h.elim
theorem least_sound {bs : List Bar} {k : Desk} {many : Nat} {rows : List LEnt} (h : leastS bs k many rows = true) : ∀ row s, Path bs k (first k) row s → s.bar = bs.length → many ≤ row.length := by
  unfold leastS at h
  simp only [Bool.and_eq_true, decide_eq_true_eq] at h
  obtain ⟨_, h2, h3, h4⟩ := h
  have go : ∀ (s t : Sta) (row : List Nat), Path bs k s row t → ∀ n, (s, n) ∈ rows → ∃ n', (t, n') ∈ rows ∧ n' ≤ n + row.length := by
    intro s t row p
    induction p with
    | nil s => exact fun n hn => ⟨n, hn, Nat.le_refl _⟩
    | @cons s u t m row hm hp ih =>
      intro n hn
      have h5 := List.all_eq_true.mp h4 _ hn
      unfold rowOkR at h5
      rw [Bool.and_eq_true, List.all_eq_true] at h5
      have h6 := h5.2 (m, u) hm
      unfold stepOkR at h6
      obtain ⟨z, hz, hc⟩ := List.any_eq_true.mp h6
      rw [Bool.and_eq_true, decide_eq_true_iff, decide_eq_true_iff] at hc
      obtain ⟨zs, zn⟩ := z
      obtain ⟨c1, c2⟩ := hc
      dsimp only at c1 c2
      subst c1
      obtain ⟨n', h7, h8⟩ := ih zn hz
      refine ⟨n', h7, ?_⟩
      rw [List.length_cons]
      omega
  intro row s p e
  obtain ⟨n, hn, hle⟩ := go _ _ _ p 0 h3
  have h5 := List.all_eq_true.mp h4 _ hn
  unfold rowOkR at h5
  rw [Bool.and_eq_true] at h5
  have h6 := h5.1
  rw [decide_eq_true e] at h6
  have h7 : ¬ n < many := by simpa using h6
  omega
theorem numG_of {g : List Ent} {s : Sta} {x : Nat × List Nat} (nd : (keysE g).Nodup) (h : (s, x) ∈ g) : numG g s = x.1 := by
  unfold numG
  rw [look_of nd h]
/-- what makes rows show it -/
theorem least_of {bs : List Bar} {k : Desk} {many : Nat} {rows : List LEnt} (hk : DeskOk k) (hp : ∀ r ∈ rows, ∃ row, Path bs k (first k) row r.1) (nd : (keysL rows).Nodup) (h0 : (first k, 0) ∈ rows)
    (he : ∀ r ∈ rows, r.1.bar = bs.length → many ≤ r.2) (hs : ∀ r ∈ rows, ∀ m t, (m, t) ∈ stepsL bs k r.1 → ∃ n, (t, n) ∈ rows ∧ n ≤ r.2 + 1) : leastS bs k many rows = true := by
  unfold leastS
  rw [decide_eq_true nd, decide_eq_true h0, Bool.true_and, Bool.true_and, Bool.and_eq_true]
  constructor
  · rw [List.all_eq_true]
    intro r hr
    obtain ⟨row, p⟩ := hp r hr
    have ok := (first_ok hk).path p
    unfold inB
    rw [decide_eq_true ok.bar, decide_eq_true ok.used]
    rfl
  · rw [List.all_eq_true]
    intro r hr
    unfold rowOkR
    rw [Bool.and_eq_true]
    constructor
    · by_cases e : r.1.bar = bs.length
      · rw [decide_eq_false (show ¬ r.2 < many from Nat.not_lt.mpr (he r hr e)), Bool.and_false]
        rfl
      · rw [decide_eq_false e]
        rfl
    · rw [List.all_eq_true]
      rintro ⟨m, t⟩ hm
      obtain ⟨n, h1, h2⟩ := hs r hr m t hm
      rw [stepOk_in nd (y := (m, t)) h1]
      exact decide_eq_true h2
section
variable {bs : List Bar} {k : Desk} {g : List Ent}
theorem rowsG_mem (hf : Found bs k (first k) g) {r : LEnt} (h : r ∈ rowsG g (sortS (keysE g))) : ∃ row, Path bs k (first k) row r.1 ∧ row.length = r.2 := by
  obtain ⟨s, hs, rfl⟩ := List.mem_map.mp h
  obtain ⟨⟨s', n, row⟩, he, rfl⟩ := List.mem_map.mp ((sortS_perm _).mem_iff.mp hs)
  obtain ⟨h1, h2⟩ := hf.path _ he
  exact ⟨row, h1, by rw [numG_of hf.nd he]; exact h2⟩
theorem rowsG_of (hf : Found bs k (first k) g) {row : List Nat} {s : Sta} (p : Path bs k (first k) row s) : ∃ n, (s, n) ∈ rowsG g (sortS (keysE g)) ∧ n ≤ row.length := by
  obtain ⟨⟨s', n, row'⟩, he, rfl, hn⟩ := hf.least row s p
  refine ⟨n, List.mem_map.mpr ⟨s', (sortS_perm _).mem_iff.mpr (List.mem_map.mpr ⟨_, he, rfl⟩), ?_⟩, hn⟩
  rw [numG_of hf.nd he]
theorem rowsG_keys (g : List Ent) (ss : List Sta) : keysL (rowsG g ss) = ss := by
  unfold keysL rowsG
  rw [List.map_map]
  exact List.map_id _
theorem least_told {row : List Nat} {many : Nat} (hk : DeskOk k) (hf : Found bs k (first k) g) (hb : bestOf bs.length g = some row) (hm : many ≤ row.length) : leastS bs k many (rowsG g (sortS (keysE g))) = true := by
  refine least_of hk (fun r hr => ?_) ?_ ?_ (fun r hr e => ?_) fun r hr m t hm => ?_
  · obtain ⟨row, p, _⟩ := rowsG_mem hf hr
    exact ⟨row, p⟩
  · rw [rowsG_keys]
    exact (sortS_perm _).nodup_iff.mpr hf.nd
  · obtain ⟨n, h1, h2⟩ := rowsG_of hf (.nil (first k))
    obtain rfl : n = 0 := Nat.le_zero.mp h2
    exact h1
  · obtain ⟨row', p, hl⟩ := rowsG_mem hf hr
    have := (best_some hf hb).2 row' r.1 p e
    omega
  · obtain ⟨row', p, hl⟩ := rowsG_mem hf hr
    obtain ⟨n, h1, h2⟩ := rowsG_of hf (p.snoc hm)
    refine ⟨n, h1, ?_⟩
    rw [List.length_append, hl] at h2
    exact h2
theorem least_no {row : List Nat} {many : Nat} {rows : List LEnt} (hf : Found bs k (first k) g) (hb : bestOf bs.length g = some row) (hm : row.length < many) : leastS bs k many rows = false := by
  obtain ⟨⟨s, p, e⟩, _⟩ := best_some hf hb
  cases h : leastS bs k many rows with
  | false => rfl
  | true =>
    have := least_sound h row s p e
    omega
abbrev zeros (ss : List Sta) : List LEnt := ss.map fun s => (s, 0)
theorem least_zero {ss : List Sta} {many : Nat} (hk : DeskOk k) (hf : Found bs k (first k) g) (hb : bestOf bs.length g = none) (hss : ss.Perm (keysE g)) : leastS bs k many (zeros ss) = true := by
  have key : ∀ s, (∃ row, Path bs k (first k) row s) → s ∈ ss := fun s ⟨row, p⟩ => by
    obtain ⟨e, he, rfl, _⟩ := hf.least _ _ p
    exact hss.mem_iff.mpr (List.mem_map.mpr ⟨e, he, rfl⟩)
  have back : ∀ r ∈ zeros ss, ∃ row, Path bs k (first k) row r.1 := fun r hr => by
    obtain ⟨s, hs, rfl⟩ := List.mem_map.mp hr
    obtain ⟨e, he, rfl⟩ := List.mem_map.mp (hss.mem_iff.mp hs)
    exact ⟨_, (hf.path e he).1⟩
  have ins : ∀ s, (∃ row, Path bs k (first k) row s) → (s, 0) ∈ zeros ss := fun s h => List.mem_map.mpr ⟨s, key s h, rfl⟩
  refine least_of hk back ?_ (ins _ ⟨[], .nil _⟩) (fun r hr e => ?_) fun r hr m t hm => ?_
  · have e : keysL (zeros ss) = ss := by
      unfold keysL zeros
      rw [List.map_map]
      exact List.map_id _
    rw [e]
    exact hss.nodup_iff.mpr hf.nd
  · obtain ⟨row, p⟩ := back r hr
    exact absurd e (best_none hf hb row r.1 p)
  · obtain ⟨row, p⟩ := back r hr
    exact ⟨0, ins t ⟨_, p.snoc hm⟩, Nat.zero_le _⟩
theorem few_pages {row : List Nat} {s : Sta} (hk : DeskOk k) (hbl : bs.length ≤ 14) (p : Path bs k (first k) row s) : row.length ≤ 30 := by
  have h1 := path_len p
  have h2 := (first_ok hk).path p
  have h3 := h2.bar
  have h4 := h2.used
  have := hk.e1
  omega
end
/-! ### the table of a set, up to 512 slots -/
def stairs : Nat → Nat
  | 0 => 0
  | k + 1 => stairs k * 5 + 1
theorem lcg_stairs (m : Nat) : ∀ k, lcgN m k = stairs k % (m + 1)
  | 0 => (Nat.zero_mod _).symm
  | k + 1 => by
    show (lcgN m k * 5 + 1) % _ = (stairs k * 5 + 1) % _
    rw [lcg_stairs m k, Nat.add_mod, Nat.mul_mod, Nat.mod_mod, ← Nat.mul_mod, ← Nat.add_mod]
theorem stairs_add (a : Nat) : ∀ b, stairs (a + b) = 5 ^ b * stairs a + stairs b
  | 0 => by
    rw [Nat.pow_zero, Nat.one_mul]
    rfl
  | b + 1 => by
    show stairs (a + b) * 5 + 1 = 5 ^ (b + 1) * stairs a + (stairs b * 5 + 1)
    rw [stairs_add a b, Nat.pow_succ, Nat.add_mul, Nat.mul_right_comm]
    omega
theorem five_odd : ∀ b : Nat, ∃ r, 5 ^ b = 2 * r + 1
  | 0 => ⟨0, rfl⟩
  | b + 1 => by
    obtain ⟨r, e⟩ := five_odd b
    exact ⟨5 * r + 2, by rw [Nat.pow_succ, e]; omega⟩
theorem half_turn {M x y j : Nat} (hM : M = 128 ∨ M = 256) (hy : y % (2 * M) = M) (h1 : x % M = j % M) (h2 : x % (2 * M) ≠ j) (hj : j < 2 * M) (r : Nat) : ((2 * r + 1) * y + x) % (2 * M) = j := by
  have e : (2 * r + 1) * y = 2 * (r * y) + y := by rw [Nat.add_mul, Nat.one_mul, Nat.mul_assoc]
  rw [e]
  have e2 : y = 2 * M * (y / (2 * M)) + M := by
    have := Nat.div_add_mod y (2 * M)
    omega
  generalize y / (2 * M) = q at e2
  have e3 : r * y = 2 * (M * (r * q)) + M * r := by rw [e2, Nat.mul_add, Nat.mul_assoc, Nat.mul_left_comm r, Nat.mul_left_comm r M, Nat.mul_comm r M]
  rw [e3, e2]
  generalize r * q = z
  rcases hM with rfl | rfl <;> omega
theorem stairs_twice {M : Nat} (hM : M = 128 ∨ M = 256) (h : stairs M % (2 * M) = M) (all : ∀ j, j < M → ∃ b, b < M ∧ stairs b % M = j) : ∀ j, j < 2 * M → ∃ b, b < 2 * M ∧ stairs b % (2 * M) = j := fun j hj => by
  obtain ⟨b, hb, e⟩ := all (j % M) (Nat.mod_lt _ (by omega))
  by_cases c : stairs b % (2 * M) = j
  · exact ⟨b, by omega, c⟩
  · obtain ⟨r, er⟩ := five_odd b
    exact ⟨M + b, by omega, by rw [stairs_add, er]; exact half_turn hM h e c hj r⟩
theorem stairs_128 : stairs 128 % 256 = 128 := by decide +kernel
theorem stairs_256 : stairs 256 % 512 = 256 := by decide +kernel
theorem stairs_512 : stairs 512 % 512 = 0 := by decide +kernel
theorem stairs_all : ∀ j, j < 512 → ∃ b, b < 512 ∧ stairs b % 512 = j := by
  have h0 : ∀ j, j < 128 → ∃ b, b < 128 ∧ stairs b % 128 = j := fun j hj => by
    obtain ⟨b, hb, e⟩ := lcg_all (m := 127) (.inr (.inr rfl)) (Nat.le_of_lt_succ hj)
    rw [lcg_stairs] at e
    exact ⟨b, Nat.lt_succ_of_le hb, e⟩
  exact stairs_twice (.inr rfl) stairs_256 (stairs_twice (.inl rfl) stairs_128 h0)
/-- a mask from whose hashes each slot is met -/
structure Roomy (m : Nat) : Prop where
  kind : m = 7 ∨ m = 31 ∨ m = 127 ∨ m = 511
  odd : m % 2 = 1
  big : m ≤ 511
  met : ∀ (h : Int) (j : Nat), j ≤ m → ∃ n, n ≤ m + 12 ∧ runI m (SetTable.bits h) n = j
theorem roomy_of {m : Nat} (hm : MaskOk m) : Roomy m := ⟨by rcases hm with rfl | rfl | rfl <;> simp, mask_odd hm, by rcases hm with rfl | rfl | rfl <;> decide, fun h j hj => run_meets hm h hj⟩
theorem roomy_511 : Roomy 511 := by
  refine ⟨.inr (.inr (.inr rfl)), rfl, Nat.le_refl _, fun h j hj => ?_⟩
  have hi := runI_le 511 (SetTable.bits h) 12
  generalize hg : runI 511 (SetTable.bits h) 12 = i at hi
  obtain ⟨a, ha, ea⟩ := stairs_all i (by omega)
  obtain ⟨b, hb, eb⟩ := stairs_all j (by omega)
  have ei : lcgN 511 a = i := by rw [lcg_stairs]; exact ea
  have key : ∀ k, k ≤ 511 → stairs (a + k) % 512 = j → ∃ n, n ≤ 511 + 12 ∧ runI 511 (SetTable.bits h) n = j := fun k hk e =>
    ⟨12 + k, by omega, by rw [runI_tail (bits_lt h), hg, ← ei, lcgN_add, lcg_stairs]; exact e⟩
  by_cases c : a ≤ b
  · exact key (b - a) (by omega) (by rw [Nat.add_sub_cancel' c]; exact eb)
  · refine key (b + 512 - a) (by omega) ?_
    rw [show a + (b + 512 - a) = 512 + b by omega, stairs_add, Nat.add_mod, Nat.mul_mod, stairs_512, Nat.mul_zero, Nat.zero_mod, Nat.zero_add, Nat.mod_mod]
    exact eb
theorem Roomy.way {m : Nat} (R : Roomy m) (h : Int) {j : Nat} (hj : j ≤ m) : ∃ k, k < 10 * SetTable.turns m ∧ L2.way m h k = j := by
  obtain ⟨n, hn, e⟩ := R.met h j hj
  obtain ⟨k, hk, e2⟩ := run_nth m (SetTable.bits h) n
  exact ⟨k, by unfold SetTable.turns; omega, (congrArg SetTable.Probe.j e2).trans e⟩
theorem way_bd (m : Nat) (h : Int) (k : Nat) : L2.way m h k ≤ m := by
  have hi : SetTable.bits h % (m + 1) ≤ m := Nat.le_of_lt_succ (Nat.mod_lt _ (Nat.succ_pos _))
  have r := runEnd_bd hi
  have q := nth_in (m := m) k (runAt m (SetTable.bits h % (m + 1)) (SetTable.bits h)) (show SetTable.bits h % (m + 1) + (SetTable.runEnd m _ - SetTable.bits h % (m + 1)) ≤ m by omega)
  exact Nat.le_trans (Nat.le_add_right _ _) q
/-- a table with n slots taken, none given back -/
structure Tab (t : SetTable) (n : Nat) : Prop where
  ris : Ris t.place.toList
  dm : t.dummies = #[]
  sz : t.place.size = n
  rm : Roomy t.mask
theorem Tab.first {t : SetTable} {n : Nat} (T : Tab t n) (hl : n ≤ t.mask) (h : Int) : ∃ K, K < 10 * SetTable.turns t.mask ∧ L2.way t.mask h K ∉ t.place.toList ∧ ∀ k, k < K → L2.way t.mask h k ∈ t.place.toList := by
  obtain ⟨j, hj, hn⟩ := st_missing t.place.toList (t.mask + 1) (by rw [Array.length_toList, T.sz]; omega)
  obtain ⟨k, hk, e⟩ := T.rm.way h (Nat.le_of_lt_succ hj)
  have hn' : L2.way t.mask h k ∉ t.place.toList := by rw [e]; exact hn
  obtain ⟨K, a, b, c⟩ := st_least (p := fun q => L2.way t.mask h q ∉ t.place.toList) k hn'
  exact ⟨K, Nat.lt_of_le_of_lt a hk, b, fun q hq => Classical.byContradiction (c q hq)⟩
theorem Tab.fits {t : SetTable} {n : Nat} (T : Tab t n) (hl : n ≤ t.mask) : t.fits n = true := by
  have := T.sz
  unfold SetTable.fits SetTable.fill
  rw [T.dm, Bool.and_eq_true, beq_iff_eq, decide_eq_true_eq]
  exact ⟨this, by show t.place.size + 0 ≤ _; omega⟩
theorem Tab.stays {t : SetTable} {n : Nat} (T : Tab t n) : ¬ t.gaveWay = true := by
  unfold SetTable.gaveWay
  rw [T.rm.odd]
  decide
theorem Tab.put {t : SetTable} {n j : Nat} (T : Tab t n) (hj : j ∉ t.place.toList) : Tab (t.put j).1 (n + 1) ∧ SetTable.below t.place j ≤ n ∧ (t.put j).1.fill = n + 1 := by
  have c := (below_cut T.ris j).1
  have hnp : t.place[SetTable.below t.place j]? ≠ some j := fun e => hj (List.mem_of_getElem? (by rw [Array.getElem?_toList]; exact e))
  have hs : (t.put j).1.place.size = n + 1 := by
    rw [← Array.length_toList, put_place, len_ins _ (by rw [Array.length_toList]; exact c), Array.length_toList, T.sz]
  refine ⟨⟨ris_insert T.ris hnp, put_dm T.dm j, hs, T.rm⟩, by rw [← T.sz]; exact c, ?_⟩
  show (t.put j).1.place.size + (t.put j).1.dummies.size = _
  rw [hs, put_dm T.dm j]
  rfl
/-! laid anew -/
structure Seats (m n : Nat) (ow : Array (Option Nat)) : Prop where
  sz : ow.size = m + 1
  all : ∀ k, k < n → ∃ j, j ≤ m ∧ oAt ow j = some k
  ps : ∃ ps : List Nat, ps.length = n ∧ ∀ j, j ≤ m → oAt ow j ≠ none → j ∈ ps
theorem Roomy.free {m : Nat} (R : Roomy m) (ow : Array (Option Nat)) (h : Int) {j : Nat} (hj : j ≤ m) (hf : oAt ow j = none) :
    ∃ K, SetTable.layClean.free m ow (SetTable.turns m) (SetTable.bits h % (m + 1)) (SetTable.bits h) = some (L2.way m h K) ∧ oAt ow (L2.way m h K) = none := by
  obtain ⟨n, hn, e⟩ := R.met h j hj
  have hw : L2.way m h (off m (SetTable.bits h % (m + 1)) (SetTable.bits h) n) = j := by
    refine (congrArg SetTable.Probe.j (nth_off m n _ _)).trans ?_
    rw [itL_run]
    exact e
  obtain ⟨K, a, b, c⟩ := st_least (p := fun q => oAt ow (L2.way m h q) = none) _ ((congrArg (oAt ow) hw).trans hf)
  refine ⟨K, free_spec m ow _ n _ _ K (by unfold SetTable.turns; omega) a (fun q hq => ?_) (Option.isNone_iff_eq_none.mpr b), b⟩
  exact Bool.eq_false_iff.mpr fun z => c q hq (Option.isNone_iff_eq_none.mp z)
theorem Seats.step {m n : Nat} {ow : Array (Option Nat)} (R : Roomy m) (W : Seats m n ow) (hl : n ≤ m) (h : Int) :
    ∃ j, SetTable.layClean.free m ow (SetTable.turns m) (SetTable.bits h % (m + 1)) (SetTable.bits h) = some j ∧ Seats m (n + 1) (ow.setIfInBounds j (some n)) := by
  obtain ⟨ps, hps, hin⟩ := W.ps
  obtain ⟨j0, h0, n0⟩ := st_missing ps (m + 1) (by omega)
  have f0 : oAt ow j0 = none := Classical.byContradiction fun z => n0 (hin j0 (Nat.le_of_lt_succ h0) z)
  obtain ⟨K, e1, e2⟩ := R.free ow h (Nat.le_of_lt_succ h0) f0
  have hb := way_bd m h K
  generalize L2.way m h K = j at e1 e2 hb
  have self := oAt_set_self (owner := ow) (j := j) (some n) (by rw [W.sz]; omega)
  refine ⟨j, e1, ⟨by rw [Array.size_setIfInBounds]; exact W.sz, fun k hk => ?_, j :: ps, congrArg Nat.succ hps, fun i hi z => ?_⟩⟩
  · by_cases c : k = n
    · exact ⟨j, hb, by rw [c]; exact self⟩
    · obtain ⟨i, hi, e⟩ := W.all k (by omega)
      refine ⟨i, hi, ?_⟩
      rw [oAt_set_ne _ fun z => by rw [z, e2] at e; cases e]
      exact e
  · by_cases c : i = j
    · exact List.mem_cons.mpr (.inl c)
    · rw [oAt_set_ne _ c] at z
      exact List.mem_cons_of_mem _ (hin i hi z)
theorem Seats.fold {m : Nat} (R : Roomy m) : ∀ (hs : List Int) (n : Nat) (ow : Array (Option Nat)), Seats m n ow → n + hs.length ≤ m + 1 → ∃ ow', hs.foldl (stepF m) (some (ow, n)) = some (ow', n + hs.length) ∧ Seats m (n + hs.length) ow'
  | [], n, ow, W, _ => ⟨ow, rfl, W⟩
  | h :: hs, n, ow, W, hl => by
    have hl' : n + (hs.length + 1) ≤ m + 1 := hl
    obtain ⟨j, e, W'⟩ := W.step R (by omega) h
    obtain ⟨ow', e', W''⟩ := Seats.fold R hs (n + 1) _ W' (by omega)
    have el : n + 1 + hs.length = n + (h :: hs).length := by rw [List.length_cons]; omega
    rw [el] at e' W''
    exact ⟨ow', by rw [List.foldl_cons, stepF_some e]; exact e', W''⟩
theorem seats_new (m : Nat) : Seats m 0 (Array.replicate (m + 1) none) := ⟨by simp, fun _ h => absurd h (Nat.not_lt_zero _), [], rfl, fun _ hj e => absurd (oAt_init hj) e⟩
theorem lay_ok {m : Nat} (R : Roomy m) {hs : Array Int} (hn : hs.size ≤ m) : ∃ ow, SetTable.layClean m hs = some ow ∧ Seats m hs.size ow := by
  obtain ⟨ow, f, W⟩ := Seats.fold R hs.toList 0 _ (seats_new m) (by rw [Array.length_toList]; omega)
  rw [Nat.zero_add, Array.length_toList] at W
  exact ⟨ow, by rw [layClean_eq, f]; rfl, W⟩
theorem relaid_roomy (t : SetTable) {hs : Array Int} {wanted M : Nat} (hw : SetTable.sizeAbove wanted - 1 = M) (hM : Roomy M) (hn : hs.size ≤ M) :
    ∃ t' order, t.relaid hs wanted = some (t', order) ∧ order.toList.Perm (List.range hs.size) ∧ Tab t' hs.size ∧ t'.mask = M ∧ t'.led = t.led := by
  obtain ⟨ow, e, W⟩ := lay_ok hM hn
  have hr : t.relaid hs wanted = some (tabOf t M ow, ((liveOf M ow).map (·.2)).toArray) := by
    rw [relaid_eq, hw, e]
    rfl
  have r1 : Ris ((liveOf M ow).map (·.1)) := (ris_live (fun j => ow.getD j none) (List.range (M + 1)) List.pairwise_lt_range).1
  have up : ∀ k, k < hs.size → k ∈ (liveOf M ow).map (·.2) := fun k hk => by
    obtain ⟨j, b1, b2⟩ := W.all k hk
    exact List.mem_map.mpr ⟨(j, k), (mem_live W.sz).2 ⟨b1, b2⟩, rfl⟩
  have hlen : (liveOf M ow).length = hs.size := by
    obtain ⟨ps, p1, p2⟩ := W.ps
    have nd : ((liveOf M ow).map (·.1)).Nodup := r1.imp fun q => Nat.ne_of_lt q
    have a := nat_nodup_len _ ps nd fun x hx => by
      obtain ⟨⟨y, k⟩, hq, rfl⟩ := List.mem_map.mp hx
      obtain ⟨b1, b2⟩ := (mem_live W.sz).1 hq
      exact p2 y b1 fun z => by rw [b2] at z; cases z
    have b := nat_nodup_len (List.range hs.size) _ List.nodup_range fun k hk => up k (List.mem_range.mp hk)
    rw [List.length_map] at a b
    rw [List.length_range] at b
    omega
  refine ⟨_, _, hr, perm_range hs.size _ (by show ((liveOf M ow).map (·.2)).length = _; rw [List.length_map]; exact hlen) up, ⟨r1, rfl, ?_, hM⟩, rfl, rfl⟩
  show ((liveOf M ow).map (·.1)).toArray.size = _
  rw [List.size_toArray, List.length_map]
  exact hlen
theorem above_5 : SetTable.sizeAbove (SetTable.grown 5) - 1 = 31 := by decide +kernel
theorem above_19 : SetTable.sizeAbove (SetTable.grown 19) - 1 = 127 := by decide +kernel
theorem above_77 : SetTable.sizeAbove (SetTable.grown 77) - 1 = 511 := by decide +kernel
/-! ### sets of states -/
abbrev hashS (P : Program) (w : World) (s : Sta) : Int := tupleKeyHash (mixKind P w) (keyS s)
abbrev IsSt (P : Program) (w : World) (h : Heap) (p : Addr × Sta) : Prop := IsTupleKey (mixKind P w) h (keyS p.2) p.1
def seatsS (P : Program) (w : World) (L : List (Addr × Sta)) : List (Int × Value) := L.map fun p => (hashS P w p.2, .ref p.1)
structure SetM (P : Program) (w : World) (h : Heap) (a : Addr) (L : List (Addr × Sta)) (es : Array (Int × Value)) (ep : Nat) (t : SetTable) : Prop where
  ob : ∃ o, h.get? a = some o ∧ o.ExactSet ∧ o.data = .set es ep t
  rows : es.toList = seatsS P w L
  tab : Tab t L.length
  nd : (L.map (·.2)).Nodup
  tup : ∀ p ∈ L, IsSt P w h p
  led : w.params.followText "set-order" = true ∨ t.led = true
  room : L.length * 5 < t.mask * 3
theorem class_no {v : Value} (n : Nat) (h : carriedByValue v = true) : ofAClassStatement n v = pure false := by
  cases v with
  | ref a => simp [carriedByValue] at h
  | _ => cases n <;> rfl
theorem hash_some {v : Value} (n : Nat) (h : carriedByValue v = true) : ∃ β, hashByValue n v = pure β := by
  cases v with
  | ref a => simp [carriedByValue] at h
  | _ => cases n <;> exact ⟨_, rfl⟩
section
variable {P : Program} {w : World} {A : Around} {E : Value → Shared → Prop} {s : Shared}
theorem class_st {p : Addr × Sta} {Q : Bool → Shared → Prop} (hk : IsSt P w s.heap p) (h : Q false s) : wpAny (model P w) A (ofAClassStatement 8 (.ref p.1)) Q E s := by
  have ty := hk.typeIs
  obtain ⟨o, its, n, ho, _, hd, hi⟩ := hk
  unfold ofAClassStatement
  refine wpAny_bind (wpAny_typeOf ty ?_)
  dsimp only
  simp only [show (("tuple" : String) == "tuple") = true by decide, if_true, Bool.not_true, Bool.false_eq_true, if_false]
  try refine wpAny_bind (wpAny_pure ?_)
  try simp only [Bool.not_true, Bool.false_eq_true, if_false]
  show wpAny _ _ (seqItems? (.ref p.1) >>= _) _ _ s
  refine wpAny_bind (wpAny_seqItems ho hd ?_)
  dsimp only
  refine wpAny_bind ?_
  show wpAny _ _ (forIn its _ _) _ _ s
  rw [← Array.forIn_toList]
  refine wpAny_forIn_list _ (fun l r z => r.1 = none ∧ z = s ∧ ∀ v ∈ l, carriedByValue v = true) _ ?_ ?_ _ _ ⟨rfl, rfl, hi.byValue⟩
  · rintro v l r z ⟨_, rfl, all⟩
    rw [class_no _ (all v List.mem_cons_self)]
    refine wpAny_bind (wpAny_pure ?_)
    simp only [Bool.false_eq_true, if_false]
    exact wpAny_pure ⟨rfl, rfl, fun u hu => all u (List.mem_cons_of_mem _ hu)⟩
  · rintro ⟨r1, r2⟩ z ⟨hr, rfl, _⟩
    cases hr
    exact wpAny_pure h
theorem hash_st {p : Addr × Sta} {Q : Bool → Shared → Prop} (hk : IsSt P w s.heap p) (h : ∀ β, Q β s) : wpAny (model P w) A (hashByValue 8 (.ref p.1)) Q E s := by
  have ty := hk.typeIs
  obtain ⟨o, its, n, ho, _, hd, hi⟩ := hk
  unfold hashByValue
  refine wpAny_bind (wpAny_specialOf ty F.slot_tuple_hash.lookup ?_)
  show wpAny _ _ (seqItems? (.ref p.1) >>= _) _ _ s
  refine wpAny_bind (wpAny_seqItems ho hd ?_)
  refine wpAny_bind ?_
  show wpAny _ _ (forIn its _ _) _ _ s
  rw [← Array.forIn_toList]
  refine wpAny_forIn_list _ (fun l r z => r.1 = none ∧ z = s ∧ ∀ v ∈ l, carriedByValue v = true) _ ?_ ?_ _ _ ⟨rfl, rfl, hi.byValue⟩
  · rintro v l r z ⟨_, rfl, all⟩
    obtain ⟨β, e⟩ := hash_some 7 (all v List.mem_cons_self)
    rw [e]
    refine wpAny_bind (wpAny_pure ?_)
    cases β
    · simp only [Bool.not_false, if_true]
      exact wpAny_pure (wpAny_pure (h _))
    · simp only [Bool.not_true, Bool.false_eq_true, if_false]
      exact wpAny_pure ⟨rfl, rfl, fun u hu => all u (List.mem_cons_of_mem _ hu)⟩
  · rintro ⟨r1, r2⟩ z ⟨hr, rfl, _⟩
    cases hr
    exact wpAny_pure (h _)
theorem seen_st {p : Addr × Sta} {Q : Bool → Shared → Prop} (hk : IsSt P w s.heap p) {ys : List Value} (hy : ∀ y ∈ ys, ∃ q : Addr × Sta, y = .ref q.1 ∧ IsSt P w s.heap q) (h : Q false s) :
    wpAny (model P w) A (searchCouldBeSeen (.ref p.1) ys) Q E s := by
  unfold searchCouldBeSeen
  refine wpAny_bind ?_
  refine wpAny_forIn_list _ (fun l r z => r.1 = none ∧ z = s ∧ ∀ y ∈ l, ∃ q : Addr × Sta, y = .ref q.1 ∧ IsSt P w s.heap q) _ ?_ ?_ _ _ ⟨rfl, rfl, hy⟩
  · rintro v l r z ⟨_, rfl, all⟩
    obtain ⟨q, rfl, hq⟩ := all v List.mem_cons_self
    have on := fun u hu => all u (List.mem_cons_of_mem _ hu)
    dsimp only
    by_cases hv : (p.1 == q.1 || (carriedByValue (.ref p.1) && carriedByValue (.ref q.1))) = true
    · exact wp_if_pos hv (wpAny_pure ⟨rfl, rfl, on⟩)
    · refine wp_if_neg hv (wpAny_bind (wpAny_eqIsQuiet_tuple hk ?_))
      simp only [Bool.not_true, Bool.false_eq_true, if_false]
      refine wpAny_bind (wpAny_eqIsQuiet_tuple hq ?_)
      simp only [Bool.not_true, Bool.false_eq_true, if_false]
      refine wpAny_bind (class_st hk ?_)
      simp only [Bool.false_eq_true, if_false]
      refine wpAny_bind (class_st hq ?_)
      simp only [Bool.false_eq_true, if_false]
      exact wpAny_pure ⟨rfl, rfl, on⟩
  · rintro ⟨r1, r2⟩ z ⟨hr, rfl, _⟩
    cases hr
    exact wpAny_pure h
variable {a : Addr} {L : List (Addr × Sta)} {es : Array (Int × Value)} {ep : Nat} {t : SetTable}
theorem seats_size {L : List (Addr × Sta)} (h : es.toList = seatsS P w L) : es.size = L.length := by
  have e := congrArg List.length h
  rw [seatsS, Array.length_toList, List.length_map] at e
  exact e
theorem seats_at {L : List (Addr × Sta)} {i : Nat} {p : Addr × Sta} (h : es.toList = seatsS P w L) (hp : L[i]? = some p) : es[i]? = some (hashS P w p.2, .ref p.1) := by
  rw [← Array.getElem?_toList, h, seatsS, List.getElem?_map, hp]
  rfl
theorem SetM.fits (R : SetM P w s.heap a L es ep t) : t.fits es.size = true := by
  have := R.room
  rw [seats_size R.rows]
  exact R.tab.fits (by omega)
abbrev wayS (P : Program) (w : World) (t : SetTable) (x : Sta) (c : Nat) : Nat := L2.way t.mask (hashS P w x) c
abbrev stepS (P : Program) (w : World) (t : SetTable) (x : Sta) (c : Nat) : SetTable.Probe := nth t.mask (runAt t.mask (SetTable.bits (hashS P w x) % (t.mask + 1)) (SetTable.bits (hashS P w x))) c
theorem stepS_clean (P : Program) (w : World) (t : SetTable) (x : Sta) : ∀ c, (stepS P w t x c).dummy = none
  | 0 => rfl
  | c + 1 => by
    have e : stepS P w t x (c + 1) = adv t.mask (stepS P w t x c) := nth_succ _ _ _
    rw [e]
    unfold adv
    split <;> exact stepS_clean P w t x c
/-- a state that isn't there: the search ends at the first empty slot of its way -/
theorem search_new (R : SetM P w s.heap a L es ep t) {x : Addr × Sta} (hx : IsSt P w s.heap x) (hno : x.2 ∉ L.map (·.2)) (hu : A.units < cLine) {K : Nat} (hKf : K < 10 * SetTable.turns t.mask)
    (hK : wayS P w t x.2 K ∉ t.place.toList) (hKb : ∀ c, c < K → wayS P w t x.2 c ∈ t.place.toList) {Q : SetFound → Shared → Prop} (hQ : Q (.free (wayS P w t x.2 K) false) s) :
    ∀ (f c : Nat) (stand : Option SetTable.Probe), stand.getD (t.probeStart (hashS P w x.2)) = stepS P w t x.2 c → c ≤ K → K - c < f → wpAny (model P w) A (setSearchFrom a (.ref x.1) (hashS P w x.2) true f stand) Q E s
  | 0, c, stand, _, _, hf => absurd hf (Nat.not_lt_zero _)
  | f + 1, c, stand, hst, hc, hf => by
    obtain ⟨o, ho, hex, hd⟩ := R.ob
    rw [setSearchFrom_succ]
    refine wpAny_bind (wpAny_setState_of ho hd R.fits (wp_if_neg R.tab.stays ?_))
    try refine wpAny_bind (wpAny_pure ?_)
    have e1 : ∀ q, nth t.mask (stepS P w t x.2 c) q = stepS P w t x.2 (c + q) := fun q => (nth_add t.mask c _ q).symm
    have e2 : ∀ q, (nth t.mask (stepS P w t x.2 c) q).j = wayS P w t x.2 (c + q) := fun q => congrArg SetTable.Probe.j (e1 q)
    have eK : c + (K - c) = K := by omega
    rcases go_spec t R.tab.ris R.tab.dm (fun i => (es[i]?.map (·.1)).getD 0) (hashS P w x.2) (10 * SetTable.turns t.mask) (K - c) _ (stepS_clean P w t x.2 c) (by omega) (fun q hq => by rw [e2]; exact hKb _ (by omega)) (by rw [e2, eK]; exact hK) with ⟨q, i, hq, hi, _, _, hpr⟩ | ⟨_, hpr⟩
    · rw [e2, e1] at hpr
      rw [e2] at hi
      rw [hst, show t.probe _ _ _ = _ from hpr]
      dsimp only
      have hil : i < L.length := by
        have z := (List.getElem?_eq_some_iff.mp hi).1
        rw [Array.length_toList, R.tab.sz] at z
        exact z
      obtain ⟨p, hp⟩ : ∃ p, L[i]? = some p := ⟨_, List.getElem?_eq_getElem hil⟩
      have hm := List.mem_of_getElem? hp
      have ent := seats_at R.rows hp
      have ne : ¬ keyS p.2 = keyS x.2 := fun z => hno (List.mem_map.mpr ⟨p, hm, keyS_inj z⟩)
      have go : wpAny (model P w) A (searchRest a (.ref x.1) (hashS P w x.2) true f es t (wayS P w t x.2 (c + q)) i (stepS P w t x.2 (c + (q + 1)))) Q E s := by
        unfold searchRest
        rw [ent]
        refine wpAny_bind (wpAny_holding (wpAny_eqBool_tuple hu (R.tup p hm) hx ?_))
        refine wpAny_bind (wpAny_setState_of ho hd R.fits ?_)
        rw [decide_eq_false ne]
        refine wp_if_neg (by simp) ?_
        try refine wpAny_bind (wpAny_pure ?_)
        rw [sameMem]
        dsimp only
        simp only [if_true, slot_live R.tab.ris hi, ent]
        refine wpAny_bind (wpAny_isSame_ref_self (wpAny_bind (wpAny_pure ?_)))
        simp only [if_true]
        exact wp_if_neg (by simp) (search_new R hx hno hu hKf hK hKb hQ f (c + (q + 1)) _ rfl (by omega) (by omega))
      by_cases hl : t.led = true
      · refine wp_if_neg (by simp [hl]) ?_
        try refine wpAny_bind (wpAny_pure ?_)
        exact go
      · refine wp_if_pos (by simp [hl]) (wpAny_bind (seen_st hx (fun y hy => ?_) (wp_if_neg (by decide) ?_)))
        · obtain ⟨e, he, rfl⟩ := List.mem_map.mp hy
          have he2 : e ∈ es.toList := by simpa using (show e ∈ es ∧ e.1 = hashS P w x.2 by simpa using he).1
          rw [R.rows] at he2
          obtain ⟨p2, hp2, rfl⟩ := List.mem_map.mp he2
          exact ⟨p2, rfl, R.tup p2 hp2⟩
        · try refine wpAny_bind (wpAny_pure ?_)
          exact go
    · rw [e2, eK] at hpr
      rw [hst, show t.probe _ _ _ = _ from hpr]
      exact wpAny_pure hQ
theorem st_same {h h' : Heap} {p : Addr × Sta} {o : Obj} (hb : IsSt P w h p) (ho : h.get? a = some o) (hd : o.data = .set es ep t) (hs : Heap.SameBut a h h') : IsSt P w h' p := by
  obtain ⟨o', its, n, ho', hc, hd', hi⟩ := hb
  refine ⟨o', its, n, (hs.2 _ fun z => ?_).trans ho', hc, hd', hi⟩
  rw [z, ho] at ho'
  cases ho'
  rw [hd] at hd'
  cases hd'
theorem pick_perm : ∀ {α β : Type} (f : α → β) (out : List β) (L : List α), out.Perm (L.map f) → ∃ L' : List α, L'.Perm L ∧ out = L'.map f
  | α, β, f, [], L, h => by
    have e := h.length_eq
    cases L with
    | nil => exact ⟨[], .refl _, rfl⟩
    | cons x L => cases e
  | α, β, f, v :: out, L, h => by
    obtain ⟨q, hq, rfl⟩ := List.mem_map.mp (h.mem_iff.mp List.mem_cons_self)
    obtain ⟨A, B, rfl⟩ := List.append_of_mem hq
    rw [List.map_append, List.map_cons] at h
    have h2 : out.Perm ((A ++ B).map f) := by
      rw [List.map_append]
      exact (h.trans List.perm_middle).cons_inv
    obtain ⟨L', h3, e⟩ := pick_perm f out (A ++ B) h2
    exact ⟨q :: L', (h3.cons q).trans List.perm_middle.symm, by rw [List.map_cons, e]⟩
theorem seats_order (hr : es.toList = seatsS P w L) {order : Array Nat} (hp : order.toList.Perm (List.range L.length)) : ∃ L2, (order.filterMap (es[·]?)).toList = seatsS P w L2 ∧ L2.Perm L := by
  have e : (order.filterMap (es[·]?)).toList = order.toList.filterMap fun i => (seatsS P w L)[i]? := by
    rw [Array.toList_filterMap]
    congr 1
    funext i
    rw [← hr, Array.getElem?_toList]
  have all : ∀ l : List (Int × Value), (List.range l.length).filterMap (fun i => l[i]?) = l := fun l => by
    refine List.ext_getElem? fun i => ?_
    have key : ∀ n, n ≤ l.length → (List.range n).filterMap (fun i => l[i]?) = l.take n := fun n => by
      induction n with
      | zero => exact fun _ => rfl
      | succ n ih =>
        intro hn
        rw [List.range_succ, List.filterMap_append, ih (by omega), List.take_add_one, List.filterMap_cons_some (List.getElem?_eq_getElem hn), List.getElem?_eq_getElem hn]
        rfl
    rw [key _ (Nat.le_refl _), List.take_length]
  have hl : (seatsS P w L).length = L.length := List.length_map _
  have q := hp.filterMap fun i => (seatsS P w L)[i]?
  rw [← hl, all, ← e] at q
  obtain ⟨L', h1, h2⟩ := pick_perm _ _ L q
  exact ⟨L', h2, h1⟩
theorem grow_at {o : Obj} (ho : s.heap.get? a = some o) (hex : o.ExactSet) (hd : o.data = .set es ep t) (hr : es.toList = seatsS P w L) (T : Tab t L.length) (hfl : L.length ≤ t.mask) (nd : (L.map (·.2)).Nodup) (tup : ∀ p ∈ L, IsSt P w s.heap p)
    (ld : w.params.followText "set-order" = true ∨ t.led = true) {wanted M : Nat} (hw : SetTable.sizeAbove wanted - 1 = M) (hM : Roomy M) (hn : L.length * 5 < M * 3) {Q : Unit → Shared → Prop}
    (hQ : ∀ h' L' es' ep' t', Heap.SameBut a s.heap h' → SetM P w h' a L' es' ep' t' → L'.Perm L → Q () { s with heap := h' }) : wpAny (model P w) A (setRelay a wanted) Q E s := by
  have hsl := seats_size hr
  have hb := hM.big
  obtain ⟨t', order, e, hp, T', em, el⟩ := relaid_roomy t (hs := es.map (·.1)) hw hM (by rw [Array.size_map, hsl]; omega)
  rw [Array.size_map, hsl] at hp T'
  obtain ⟨L2, r1, r2⟩ := seats_order hr hp
  have hs2 := seats_size r1
  rw [r2.length_eq] at hs2
  rw [setRelay_eq]
  refine wpAny_bind (wpAny_setState_of ho hd (by rw [hsl]; exact T.fits hfl) ?_)
  refine wp_if_neg (by rw [sizeLine_eq]; omega) ?_
  try refine wpAny_bind (wpAny_pure ?_)
  rw [e]
  refine wpAny_bind (wp_if_neg (by rw [hs2, hsl]; simp) ?_)
  try refine wpAny_bind (wpAny_pure ?_)
  refine wpAny_pure (wpAny_storeSet_of ho hd ?_ (by rw [hs2, sizeLine_eq]; omega))
  have sb : Heap.SameBut a s.heap (s.heap.update a (Obj.putSet (order.filterMap (es[·]?)) t')) := Heap.SameBut.update ..
  refine hQ _ L2 _ (ep + 1) t' sb ⟨⟨_, store_at ho hd, ⟨hex.1, hex.2.1, hex.2.2⟩, rfl⟩, r1, ?_, (r2.map _).nodup_iff.mpr nd, fun p hp => st_same (tup p (r2.mem_iff.mp hp)) ho hd sb, by rw [el]; exact ld, by rw [r2.length_eq, em]; exact hn⟩ r2
  rw [r2.length_eq]
  exact T'
end
/-! ### set(states), a tuple of states that all differ -/
section
variable {P : Program} {w : World} {A : Around} {E : Value → Shared → Prop} {s : Shared} {a : Addr} {L : List (Addr × Sta)} {es : Array (Int × Value)} {ep : Nat} {t : SetTable}
theorem hash_if {γ : Type} {p : Addr × Sta} {b : Bool} {k : Bool → Sem γ} {Q : γ → Shared → Prop} (hk : IsSt P w s.heap p) (h : ∀ β, wpAny (model P w) A (k β) Q E s) : wpAny (model P w) A (if b = true then (hashByValue 8 (.ref p.1) >>= k) else (pure true >>= k)) Q E s := by
  cases b
  · exact wpAny_bind (wpAny_pure (h _))
  · exact wpAny_bind (hash_st hk h)
theorem plain_same {t : SetTable} {n : Nat} (T : Tab t n) (hf : t.fill = n) (β : Bool) : Tab (if β = true then t else { t with plain := false }) n ∧ (if β = true then t else { t with plain := false }).mask = t.mask ∧ (if β = true then t else { t with plain := false }).led = t.led ∧ (if β = true then t else { t with plain := false }).fill = n := by
  cases β
  · exact ⟨⟨T.ris, T.dm, T.sz, T.rm⟩, rfl, rfl, hf⟩
  · exact ⟨T, rfl, rfl, hf⟩
theorem search_st (R : SetM P w s.heap a L es ep t) {x : Addr × Sta} (hx : IsSt P w s.heap x) (hno : x.2 ∉ L.map (·.2)) (hu : A.units < cLine) {Q : SetFound → Shared → Prop} (hQ : ∀ j, j ∉ t.place.toList → Q (.free j false) s) :
    wpAny (model P w) A (setSearch a (.ref x.1) (hashS P w x.2) true) Q E s := by
  have h1 := R.room
  obtain ⟨K, hKf, hK, hKb⟩ := R.tab.first (by omega) (hashS P w x.2)
  have hb := R.tab.rm.big
  have hK2 : K < 100000 := by
    unfold SetTable.turns at hKf
    omega
  unfold setSearch
  exact search_new R hx hno hu hKf hK hKb (hQ _ hK) 100000 0 none rfl (Nat.zero_le _) (by omega)
theorem add_new (R : SetM P w s.heap a L es ep t) {x : Addr × Sta} (hx : IsSt P w s.heap x) (hno : x.2 ∉ L.map (·.2)) (hu : A.units < cLine) (hfew : L.length + 1 ≤ 300) {Q : Bool → Shared → Prop}
    (hQ : ∀ b h' L' es' ep' t', Heap.SameBut a s.heap h' → SetM P w h' a L' es' ep' t' → L'.Perm (x :: L) → Q b { s with heap := h' }) :
    wpAny (model P w) A (setAddHashed a (.ref x.1) (hashS P w x.2)) Q E s := by
  obtain ⟨o, ho, hex, hd⟩ := R.ob
  have hsl := seats_size R.rows
  have hroom := R.room
  unfold setAddHashed
  refine wpAny_holding ?_
  rw [show (100000 : Nat) = 99999 + 1 from rfl, setAddHashedIn_succ]
  refine wpAny_bind (wpAny_setState_of ho hd R.fits ?_)
  refine wp_if_neg (by simp [byScan, Value.scannable]) ?_
  try refine wpAny_bind (wpAny_pure ?_)
  refine wpAny_bind (search_st R hx hno hu fun j hj => ?_)
  dsimp only
  refine wpAny_bind (wpAny_setState_of ho hd R.fits ?_)
  dsimp only
  obtain ⟨T1, hp, hfill⟩ := R.tab.put hj
  have em : (t.put j).1.mask = t.mask := rfl
  have el : (t.put j).1.led = t.led := rfl
  have e2 : (t.put j).2 = SetTable.below t.place j := rfl
  rw [e2]
  generalize SetTable.below t.place j = p at hp ⊢
  generalize (t.put j).1 = t1 at T1 hfill em el ⊢
  refine hash_if hx fun β => ?_
  obtain ⟨T2, em2, el2, hf2⟩ := plain_same T1 hfill β
  generalize (if β = true then t1 else { t1 with plain := false }) = t2 at T2 em2 el2 hf2 ⊢
  have hin : (SetTable.insertAt es p (hashS P w x.2, Value.ref x.1)).toList = seatsS P w (L.take p ++ x :: L.drop p) := by
    rw [SetTable.toList_insertAt, R.rows]
    unfold seatsS
    rw [List.map_append, List.map_cons, List.map_take, List.map_drop]
  have pm := put_perm L p x
  have hlen : (L.take p ++ x :: L.drop p).length = L.length + 1 := pm.length_eq
  generalize SetTable.insertAt es p (hashS P w x.2, Value.ref x.1) = es1 at hin ⊢
  generalize L.take p ++ x :: L.drop p = L1 at pm hlen hin
  have hes := seats_size hin
  have nd1 : (L1.map (·.2)).Nodup := (pm.map (·.2)).nodup_iff.mpr (List.nodup_cons.mpr ⟨hno, R.nd⟩)
  rw [← hlen] at T2 hf2
  refine wpAny_bind (wpAny_storeSet_of ho hd ?_ (by rw [hes, sizeLine_eq]; omega))
  have sb : Heap.SameBut a s.heap (s.heap.update a (Obj.putSet es1 t2)) := Heap.SameBut.update ..
  have ho1 := store_at (es' := es1) (t' := t2) ho hd
  generalize s.heap.update a (Obj.putSet es1 t2) = h1 at sb ho1 ⊢
  have tup1 : ∀ q ∈ L1, IsSt P w h1 q := fun q hq => by
    rcases List.mem_cons.mp (pm.mem_iff.mp hq) with e | hq
    · rw [e]
      exact st_same hx ho hd sb
    · exact st_same (R.tup q hq) ho hd sb
  have ld1 : w.params.followText "set-order" = true ∨ t2.led = true := by
    rw [el2, el]
    exact R.led
  by_cases hf : t2.tooFull = true
  · first
      | (refine wpAny_bind ?_; refine wp_if_pos (by simp [hf]) ?_)
      | (refine wp_if_pos (by simp [hf]) ?_; refine wpAny_bind ?_)
    have hfull : t2.fill * 5 ≥ t2.mask * 3 := of_decide_eq_true hf
    rw [hf2, hlen, em2, em] at hfull
    rw [hsl]
    have go : ∀ M, SetTable.sizeAbove (SetTable.grown (L.length + 1)) - 1 = M → Roomy M → (L.length + 1) * 5 < M * 3 → L.length + 1 ≤ t.mask →
        wpAny (model P w) A (setRelay a (SetTable.grown (L.length + 1))) (fun _ s' => wpAny (model P w) A (pure true) Q E s') E { s with heap := h1 } := fun M z1 z2 z3 z4 => by
      refine grow_at (s := { s with heap := h1 }) ho1 ⟨hex.1, hex.2.1, hex.2.2⟩ rfl hin T2 (by rw [hlen, em2, em]; exact z4) nd1 tup1 ld1 z1 z2 (by rw [hlen]; exact z3) fun h2 L2 es2 ep2 t3 sb2 R2 pm2 => ?_
      exact wpAny_pure (hQ true h2 L2 es2 ep2 t3 (sb.trans sb2) R2 (pm2.trans pm))
    rcases R.tab.rm.kind with e | e | e | e
    · rw [e] at hfull hroom
      have e4 : L.length = 4 := by omega
      exact go 31 (by rw [e4]; exact above_5) (roomy_of (.inr (.inl rfl))) (by omega) (by omega)
    · rw [e] at hfull hroom
      have e4 : L.length = 18 := by omega
      exact go 127 (by rw [e4]; exact above_19) (roomy_of (.inr (.inr rfl))) (by omega) (by omega)
    · rw [e] at hfull hroom
      have e4 : L.length = 76 := by omega
      exact go 511 (by rw [e4]; exact above_77) roomy_511 (by omega) (by omega)
    · rw [e] at hfull
      omega
  · first
      | refine wp_if_neg (by simp [hf]) ?_
      | (refine wpAny_bind ?_; refine wp_if_neg (by simp [hf]) ?_; refine wpAny_pure ?_)
    refine wpAny_pure (hQ true h1 L1 es1 (ep + 1) t2 sb ⟨⟨_, ho1, ⟨hex.1, hex.2.1, hex.2.2⟩, rfl⟩, hin, T2, nd1, tup1, ld1, ?_⟩ pm)
    have hnf : ¬ t2.fill * 5 ≥ t2.mask * 3 := fun z => hf (decide_eq_true z)
    rw [hf2] at hnf
    omega
theorem st_keep {h h' : Heap} {p : Addr × Sta} (x : IsSt P w h p) (hk : ∀ c o, h.get? c = some o → h'.get? c = some o) : IsSt P w h' p := by
  obtain ⟨o, its, n, ho, r⟩ := x
  exact ⟨o, its, n, hk _ o ho, r⟩
theorem SetM.keep {h h' : Heap} (R : SetM P w h a L es ep t) (ha : ∀ o, h.get? a = some o → h'.get? a = some o) (ht : ∀ p ∈ L, IsSt P w h' p) : SetM P w h' a L es ep t := by
  obtain ⟨o, ho, r⟩ := R.ob
  exact ⟨⟨o, ha o ho, r⟩, R.rows, R.tab, R.nd, ht, R.led, R.room⟩
abbrev newSetO (w : World) : Obj := { cls := .type "set", dict := none, data := .set #[] 0 (.fresh 0 0 (!w.params.followText "set-order")) }
theorem setM_new {h : Heap} (ho : h.get? a = some (newSetO w)) : SetM P w h a [] #[] 0 (.fresh 0 0 (!w.params.followText "set-order")) where
  ob := ⟨_, ho, ⟨rfl, rfl, rfl⟩, rfl⟩
  rows := rfl
  tab := ⟨List.Pairwise.nil, rfl, rfl, roomy_of (.inl rfl)⟩
  nd := List.nodup_nil
  tup := fun p hp => nomatch hp
  led := by
    show _ ∨ (!w.params.followText "set-order") = true
    cases w.params.followText "set-order"
    · exact .inr rfl
    · exact .inl rfl
  room := by
    show 0 * 5 < 7 * 3
    decide
theorem take_snoc {α : Type} {l : List α} {i : Nat} {x : α} (h : l[i]? = some x) : l.take (i + 1) = l.take i ++ [x] := by
  rw [List.take_add_one, h]
  rfl
/-- the loop of set.update -/
theorem set_upd_st {I : Addr} {fp wr : List Addr} {G : Array GenState → Array GenState → Prop} {n : Nat} {Pv : Nat → Value → Prop} {St : Nat → Shared → Prop} {R : Result → Shared → Prop}
    (W : WalksS P w A.in1 I fp wr G n Pv St) (S : Addr) (hSf : S ∉ fp) (ks : List (Addr × Sta)) (hn : n = ks.length) (hfew : ks.length ≤ 300) (nd : (ks.map (·.2)).Nodup) (hval : ∀ i v, Pv i v → ∃ p, ks[i]? = some p ∧ v = .ref p.1)
    (h0 : Heap) (hk : ∀ p ∈ ks, IsSt P w h0 p) (hS0 : h0.get? S = none) (hw0 : ∀ b ∈ wr, h0.get? b = none) (hu : A.in1.units < cLine) :
    ∀ (k i : Nat) (s : Shared), n - i = k → i ≤ n → St i s → (∀ b o, h0.get? b = some o → s.heap.get? b = some o) → (∃ L es ep t, SetM P w s.heap S L es ep t ∧ L.Perm (ks.take i)) →
      (∀ s' L es ep t, Moved (S :: wr) G s s' → SetM P w s'.heap S L es ep t → L.Perm ks → (∀ b o, h0.get? b = some o → s'.heap.get? b = some o) → R (.ok (.ret .none)) s') →
      codeAny (model P w) A (.builtin "set.update.loop" ⟨[.ref S, .ref I], []⟩) R s := by
  have hSw : S ∉ wr := fun z => hSf (W.sub _ z)
  have wid : ∀ b ∈ wr, b ∈ S :: wr := fun b hb => List.mem_cons_of_mem _ hb
  have kept : ∀ {s s' : Shared}, Moved wr G s s' → (∀ b o, h0.get? b = some o → s.heap.get? b = some o) → ∀ b o, h0.get? b = some o → s'.heap.get? b = some o := fun hm hkp b o e =>
    hm.heap b o (fun hb => nomatch (hw0 b hb).symm.trans e) (hkp b o e)
  intro k
  induction k with
  | zero =>
    intro i s hk' hi hst hkp ⟨L, es, ep, t, hS, pm⟩ hR
    obtain rfl : i = n := by omega
    refine codeAny_builtin F.entry_set_update_loop ?_
    rw [Around.under_plainId F.plain_set_update_loop _]
    show wpAny _ A.in1 (pyNext (.ref I) >>= _) _ _ s
    rw [hn, List.take_length] at pm
    refine wpAny_bind (W.done s _ _ hst fun s' hm => ?_)
    have hkp' := kept hm hkp
    exact wpAny_pure (hR s' L es ep t (hm.mono wid) (hS.keep (fun o e => hm.heap S o hSw e) fun p hp => st_keep (hk p (pm.mem_iff.mp hp)) hkp') pm hkp')
  | succ k ih =>
    intro i s hk' hi hst hkp ⟨L, es, ep, t, hS, pm⟩ hR
    have hlt : i < n := by omega
    refine codeAny_builtin F.entry_set_update_loop ?_
    rw [Around.under_plainId F.plain_set_update_loop _]
    show wpAny _ A.in1 (pyNext (.ref I) >>= _) _ _ s
    refine wpAny_bind (W.item i s _ _ hlt hst fun v s' hP hst' hm => ?_)
    obtain ⟨p, hp, rfl⟩ := hval i v hP
    have hkp' := kept hm hkp
    have hS' : SetM P w s'.heap S L es ep t := hS.keep (fun o e => hm.heap S o hSw e) fun q hq => st_keep (hk q (List.mem_of_mem_take (pm.mem_iff.mp hq))) hkp'
    have hx : IsSt P w s'.heap p := st_keep (hk p (List.mem_of_getElem? hp)) hkp'
    have hll : L.length = i := by
      rw [pm.length_eq, List.length_take]
      omega
    have hno : p.2 ∉ L.map (·.2) := fun z => by
      have z2 := (pm.map (·.2)).mem_iff.mp z
      have nd2 : ((ks.take (i + 1)).map (·.2)).Nodup := by
        rw [List.map_take]
        exact nd.sublist (List.take_sublist _ _)
      rw [take_snoc hp, List.map_append] at nd2
      exact (List.nodup_append.mp nd2).2.2 _ z2 _ List.mem_cons_self rfl
    show wpAny _ A.in1 (holding [Value.ref p.1] (setAdd S (.ref p.1)) >>= _) _ _ s'
    refine wpAny_bind (wpAny_holding ?_)
    unfold setAdd
    refine wpAny_holding (wpAny_bind (wpAny_pyHash_tuple hu hx ?_))
    refine add_new (s := { s' with toks := s'.toks + ((keyS p.2).length + 1) }) hS' hx hno hu (by omega) fun b h' L' es' ep' t' hsb hS2 pm2 => ?_
    have pm3 : L'.Perm (ks.take (i + 1)) := by
      rw [take_snoc hp]
      exact (pm2.trans (pm.cons p)).trans (List.perm_append_singleton p _).symm
    have hkp2 : ∀ b o, h0.get? b = some o → h'.get? b = some o := fun b o e => (hsb.2 b fun z => nomatch (z ▸ hS0).symm.trans e).trans (hkp' b o e)
    refine wpAny_pure ⟨plainId_quiet F.plain_set_update_loop _, ih (i + 1) _ (by omega) hlt (W.frame _ s' _ _ hst' (Nat.le_add_right _ _) fun b hb o e => ?_) hkp2 ⟨L', es', ep', t', hS2, pm3⟩ fun s2 L2 es2 ep2 t2 hm2 hS3 pm4 hkp3 => ?_⟩
    · exact (hsb.2 b fun z => hSf (z ▸ hb)).trans e
    · refine hR s2 L2 es2 ep2 t2 (Moved.trans W.gtrans ((hm.mono wid).then_heap (Nat.le_add_right _ _) fun b o hb e => ?_) hm2) hS3 pm4 hkp3
      exact (hsb.2 b fun z => hb (z ▸ List.mem_cons_self)).trans e
end
/-! ### set(t), sorted(set) -/
section
variable {P : Program} {w : World} {A : Around} {E : Value → Shared → Prop} {s : Shared}
set_option maxHeartbeats 8000000 in
theorem call_set_st {l : Addr} {its : Array Value} (ks : List (Addr × Sta)) {Q : Value → Shared → Prop} (hh : A.handled = none) (hl : s.heap.IsTuple l its) (hit : its.toList = ks.map fun p => Value.ref p.1)
    (hk : ∀ p ∈ ks, IsSt P w s.heap p) (nd : (ks.map (·.2)).Nodup) (hfew : ks.length ≤ 300) (hu : A.units + 3 < cLine)
    (h : ∀ (h' : Heap) (tk : Nat) L es ep t, SetM P w h' s.heap.objs.size L es ep t → L.Perm ks → (∀ b o, s.heap.get? b = some o → h'.get? b = some o) → Q (.ref s.heap.objs.size) { s with heap := h', toks := tk }) :
    wpAny (model P w) A (call (.type "set") [.ref l]) Q E s := by
  have hsz : its.size = ks.length := by rw [← Array.length_toList, hit, List.length_map]
  obtain ⟨c, tl, hmro⟩ := F.called_set.mro
  have f1 := F.called_set.made
  have f2 := F.called_set.sub
  refine wpAny_call (codeAny_of_tree ?_)
  show wpAny _ _ (callAny (.type "set") _) _ _ _
  refine wpAny_pure ⟨Code.quiet_builtin _ (by decide +kernel), codeAny_builtin F.entry_type_call ?_⟩
  rw [Around.under_plain (weight_type_call_type "set" [.ref l] []) rfl]
  have f3 := F.called_set.notType
  have f4 := F.called_set.canCreate
  have f5 := F.typeCall_set_1 (.ref l)
  all_goals (repeat (any_goals (first | assumption | wp_step)))
  refine codeAny_mono (code_set_led1 (.ref l) (E := E) (Q₁ := fun v z => v = .ref s.heap.objs.size ∧ z = { s with heap := s.heap.push (newSetO w) }) ⟨rfl, rfl⟩) fun r z hr => ?_
  cases r with
  | error e => exact hr
  | ok fl =>
    cases fl with
    | ret v =>
      obtain ⟨rfl, rfl⟩ := hr
      have hS : (s.heap.push (newSetO w)).get? s.heap.objs.size = some (newSetO w) := Heap.get?_push_size _ rfl
      have hT : Shared.TypeIs { s with heap := s.heap.push (newSetO w) } (.ref s.heap.objs.size) "set" := ⟨_, hS, rfl⟩
      have f6 := F.called_set.init.lookup
      have f7 := F.called_set.init.bind (.ref s.heap.objs.size)
      all_goals (repeat (any_goals (first | assumption | wp_step)))
      refine codeAny_mono (codeAny_call_builtin (R := wants (fun r z => r = .none ∧ ∃ h' tk L es ep t, z = { s with heap := h', toks := tk } ∧ SetM P w h' s.heap.objs.size L es ep t ∧ L.Perm ks ∧ (∀ b o, s.heap.get? b = some o → h'.get? b = some o)) E)
        F.called_set.init.plain F.entry_set_init (check_set_init_1 hT ?_)) fun r z hr => ?_
      · obtain ⟨ol, hol, hcl, nl, hdl⟩ := hl
        obtain ⟨ocls, odict, odata, oslots⟩ := ol
        simp only at hcl hdl
        subst hcl hdl
        have hol' : (s.heap.push (newSetO w)).get? l = some { cls := .type "tuple", dict := odict, data := .seq its nl, slots := oslots } := Heap.get?_push_of_some _ hol
        have f8 := F.sub_tuple_set
        have f9 := F.sub_tuple_frozenset
        have f10 : (Value.type "tuple" == Value.type "dict") = false := by decide
        have hl1 : (s.heap.push (newSetO w)).IsTuple l its := ⟨_, hol', rfl, nl, rfl⟩
        unfold Builtin.«set.__init__» noKeywords Builtin.Frozenset.updateFrom
        generalize hPI : pyIter = PI
        wp_walk
        subst hPI
        refine wpAny_pyIter_tuple hl1 (wpAny_bind (wpAny_runValue ?_))
        have hlS : l < s.heap.objs.size := Heap.lt_size hol
        have hz1 : (s.heap.push (newSetO w)).objs.size = s.heap.objs.size + 1 := Heap.size_push ..
        have none_of : ∀ b, s.heap.objs.size ≤ b → s.heap.get? b = none := fun b hb => by
          cases q : s.heap.get? b with
          | none => rfl
          | some o => exact absurd (Heap.lt_size q) (Nat.not_lt.mpr hb)
        have hval : ∀ (i : Nat) (v : Value), its[i]? = some v → ∃ p, ks[i]? = some p ∧ v = .ref p.1 := fun i v hv => by
          rw [← Array.getElem?_toList, hit, List.getElem?_map] at hv
          obtain ⟨p, hp, e⟩ := Option.map_eq_some_iff.mp hv
          exact ⟨p, hp, e.symm⟩
        have ne1 : l ≠ (s.heap.push (newSetO w)).objs.size := by
          rw [hz1]
          exact Nat.ne_of_lt (Nat.lt_succ_of_lt hlS)
        have ne2 : s.heap.objs.size ∉ [(s.heap.push (newSetO w)).objs.size, l] := by
          intro z
          rcases List.mem_cons.mp z with e | e
          · rw [hz1] at e
            exact absurd e (Nat.ne_of_lt (Nat.lt_succ_self _))
          · exact absurd (List.mem_singleton.mp e) (Nat.ne_of_gt hlS)
        have ge1 : s.heap.objs.size ≤ (s.heap.push (newSetO w)).objs.size := by
          rw [hz1]
          exact Nat.le_succ _
        refine set_upd_st ((Walks.tuple (by simp [hh]) _ l ne1 its).toS) s.heap.objs.size ne2 ks hsz hfew nd hval s.heap hk (none_of _ (Nat.le_refl _)) (fun b hb => none_of b (by rw [List.mem_singleton.mp hb]; exact ge1)) hu (its.size - 0) 0 _ (by omega) (Nat.zero_le _)
          ⟨⟨_, Heap.get?_push_size _ rfl, rfl, rfl⟩, hl1.push _⟩ (fun b o e => Heap.get?_push_of_some _ (Heap.get?_push_of_some _ e)) ⟨[], #[], 0, _, setM_new (Heap.get?_push_of_some _ hS), .refl _⟩ ?_
        intro s' L es ep t hm R pm hkp
        obtain ⟨h', g2, d', tk', os'⟩ := s'
        obtain rfl : g2 = s.gens := hm.gens
        obtain rfl : d' = s.drawn := hm.drawn
        obtain rfl : os' = s.os := hm.os
        show wpAny _ _ _ _ _ _
        refine wpAny_pure ?_
        show wpAny _ _ (ret Value.none) _ _ _
        exact wpAny_pure ⟨rfl, h', tk', L, es, ep, t, rfl, R, pm, hkp⟩
      · cases r with
        | error e => exact hr
        | ok fl2 =>
          cases fl2 with
          | ret v =>
            obtain ⟨rfl, h', tk, L, es, ep, t, rfl, R, pm, hkp⟩ := hr
            all_goals (repeat (any_goals (first | assumption | wp_step)))
            exact h _ _ _ _ _ _ R pm hkp
          | _ => exact hr.elim
    | _ => exact hr.elim
end
/-- the set at a, without its members' own objects -/
def SetMO (P : Program) (w : World) (a : Addr) (L : List (Addr × Sta)) : HO := .ext fun h => ∃ es ep t, (∃ o, h.get? a = some o ∧ o.ExactSet ∧ o.data = .set es ep t) ∧ es.toList = seatsS P w L ∧ Tab t L.length ∧ (w.params.followText "set-order" = true ∨ t.led = true) ∧ L.length * 5 < t.mask * 3
theorem setMO_ok {P : Program} {w : World} {H : Hp} {h : Heap} {a : Addr} {L : List (Addr × Sta)} {es : Array (Int × Value)} {ep : Nat} {t : SetTable} (R : SetM P w h a L es ep t) : ObjOk P w H h a (SetMO P w a L) := by
  refine ⟨⟨es, ep, t, R.ob, R.rows, R.tab, R.led, R.room⟩, R.ob.imp fun o z => z.1, fun h1 h2 p k => ?_⟩
  obtain ⟨es', ep', t', ⟨o', ho', r'⟩, q'⟩ := p
  exact ⟨es', ep', t', ⟨o', k o' ho', r'⟩, q'⟩
/-- the states at addresses -/
def StAt (H : Hp) (ps : List (Addr × Sta)) : Prop := ∀ p ∈ ps, H p.1 = some (.tup (stateV p.2))
theorem states_pairs {H : Hp} : ∀ {ws : List V} {ss : List Sta}, StatesAt H ws ss → ∃ ps : List (Addr × Sta), ws = (ps.map fun p => V.ref p.1) ∧ ps.map (·.2) = ss ∧ StAt H ps
  | [], [], _ => ⟨[], rfl, rfl, fun _ z => nomatch z⟩
  | [], _ :: _, h => h.elim
  | _ :: _, [], h => h.elim
  | v :: ws, x :: ss, ⟨⟨o, e, ho⟩, h⟩ => by
    obtain ⟨ps, rfl, rfl, hs⟩ := states_pairs h
    subst e
    exact ⟨(o, x) :: ps, rfl, rfl, fun p hp => by
      rcases List.mem_cons.mp hp with rfl | hp
      · exact ho
      · exact hs p hp⟩
theorem refs_vals : ∀ {ps : List (Addr × Sta)} {us : List Value}, Vals (ps.map fun p => V.ref p.1) us → us = ps.map fun p => Value.ref p.1
  | [], _, .nil => rfl
  | p :: ps, _, .cons r t => by
    cases r
    rw [refs_vals t]
    rfl
section
variable {X : Cx}
def rSetS (K : PySem.W.Frag) (P : Program) (w : World) : List V → Hp → VK → Prop := fun xs H Q => ∃ (l : Addr) (ps : List (Addr × Sta)), xs = [.ref l] ∧ SqT K H l (ps.map fun p => V.ref p.1) ∧ StAt H ps ∧ (ps.map (·.2)).Nodup ∧ ps.length ≤ 300 ∧
  ∀ a L, H a = none → L.Perm ps → Q (.ref a) (upd H a (SetMO P w a L))
theorem cr_setS (hc : X.calm = true) (hu : X.A.units + 65 < cLine) : CallR X (.type "set") (rSetS X.K X.prog X.w) := by
  intro pins s σ H xs us Q I r h
  obtain ⟨l, ps, rfl, hl, hk, nd, hf, q⟩ := h
  rw [Vals.ref1 r]
  obtain ⟨its, rv, pt, hz⟩ := I.tuple hl
  refine call_set_st (P := X.prog) (w := X.w) ps (I.ok.hd hc) pt (by simpa using refs_vals rv) (fun p hp => key_of I.hok (hk p hp)) nd hf (by omega) fun h' tk L es ep t R pm k => ?_
  exact ⟨.ref s.heap.objs.size, upd H s.heap.objs.size (SetMO X.prog X.w s.heap.objs.size L), I.laid (t' := tk) k (Nat.le_refl _) (setMO_ok R), rfl, q _ L (I.hok.fresh (Nat.le_refl _)) pm⟩
def rSortM (P : Program) (w : World) : List V → Hp → VK → Prop := fun xs H Q => ∃ (a : Addr) (L : List (Addr × Sta)), xs = [.ref a] ∧ H a = some (SetMO P w a L) ∧ StAt H L ∧
  ∀ p ws, H p = none → StatesAt H ws (sortS (L.map (·.2))) → Q (.ref p) (upd H p (.lst ws))
theorem each_pairs {H : Hp} : ∀ (L : List (Addr × Sta)), StAt H L → PySem.W.EachIs (fun v x => ∃ o, v = Value.ref o ∧ H o = some (.tup (stateV x))) (L.map fun q => Value.ref q.1) (L.map (·.2))
  | [], _ => .nil
  | q :: L, h => .cons ⟨q.1, rfl, h q List.mem_cons_self⟩ (each_pairs L fun p hp => h p (List.mem_cons_of_mem _ hp))
theorem cr_sortM (hcalm : X.calm = true) (hu : X.A.units + 65 < cLine) : CallR X (.builtin "sorted") (rSortM X.prog X.w) := by
  intro pins s σ H xs us Q I r h
  obtain ⟨a, L, rfl, ha, hst, q⟩ := h
  rw [Vals.ref1 r]
  obtain ⟨⟨es, ep, t, ⟨o, ho, hex, hd⟩, hrows, T, hled, hroom⟩, _⟩ := (show ObjOk X.prog X.w H s.heap a (SetMO X.prog X.w a L) from I.hok a _ ha)
  have hsl := seats_size hrows
  have hb := T.rm.big
  refine Calls.call_function_entry PyProof.Rows.kind_sorted PyProof.Rows.plain_sorted PyProof.Rows.entry_sorted (PyProof.Rows.args_sorted1 _) ?_
  unfold Builtin.«sorted»
  refine wpAny_bind (m := checkCount "sorted" 1 1 _) (wpAny_pure ?_)
  refine wpAny_bind (collect_set (A := X.A.in1) (I.ok.hd hcalm) ⟨o, ho, hex.1, hd⟩ (by rw [hsl]; exact T.fits (by omega)) (by unfold scanBound; omega) T.ris hled fun s1 vs k1 hz g1 o1 pm => ?_)
  rw [hrows, seatsS, List.map_map] at pm
  obtain ⟨L1, pl, hvs⟩ := pick_perm (fun p : Addr × Sta => Value.ref p.1) vs L pm
  subst hvs
  have hll := pl.length_eq
  have st1 : StAt H L1 := fun p hp => hst p (pl.mem_iff.mp hp)
  have hE := each_pairs L1 st1
  have hl1 : (L1.map fun q => Value.ref q.1).length = L.length := by rw [List.length_map, hll]
  refine wpAny_bind (wpAny_newList ?_ (by rw [hl1, sizeLine_eq]; omega))
  generalize hvg : (L1.map fun q => Value.ref q.1) = vs at hE hl1 ⊢
  have hoL : (s1.heap.push (seqObj "list" vs.toArray 0)).get? s1.heap.objs.size = some (seqObj "list" vs.toArray 0) := Heap.get?_push_size _ rfl
  have k2 : ∀ b u, s.heap.get? b = some u → (s1.heap.push (seqObj "list" vs.toArray 0)).get? b = some u := fun b u z => Heap.get?_push_of_some _ (k1 b u z)
  have her : PySem.W.EachIs (fun v b => ∃ as, Reads (s1.heap.push (seqObj "list" vs.toArray 0)) v (stateD b) as ∧ s1.heap.objs.size ∉ as) vs (L1.map (·.2)) := hE.mono fun v b hv => by
    obtain ⟨o, rfl, ho⟩ := hv
    obtain ⟨as, hr⟩ := Dp.reads I (stateD b) (.ref o) (.ref o) (dp_state_of (.of ho)) rfl
    cases reads_state hr
    exact ⟨[], PyProof.Rows.Reads.keeps k2 hr, by simp⟩
  refine wpAny_bind (wpAny_holding (PySem.W.list_sort_data (s := { s1 with heap := s1.heap.push (seqObj "list" vs.toArray 0) }) hoL hE her (PySem.W.AllAlike.of alike_states) (.inl fun d hd => ?_) (by rw [List.length_map, hll, sizeLine_eq]; omega) (fun b _ => ?_) fun out hol hout => ?_))
  · obtain ⟨b, _, rfl⟩ := List.mem_map.mp hd
    exact ⟨_, _, rfl⟩
  · have := depth_state b
    show X.A.units + 1 + 1 + _ < _
    omega
  obtain ⟨ws, hws, hsts⟩ := each_states hout
  obtain ⟨c', hc'⟩ := PyProof.Rows.sortedHeap_at (vs := vs) (out := out.toArray) hoL
  have hlen : ws.length ≤ sizeLine := by
    rw [hws.length, hol, List.length_map, hll, sizeLine_eq]
    omega
  have hn : H s1.heap.objs.size = none := I.hok.fresh hz
  have k3 : ∀ b u, s.heap.get? b = some u → (sortedHeap (s1.heap.push (seqObj "list" vs.toArray 0)) s1.heap.objs.size vs out.toArray).get? b = some u := fun b u z => by
    have hlt := Heap.lt_size (k1 b u z)
    rw [PyProof.Rows.sortedHeap_old (Nat.ne_of_lt hlt) (by rw [size_push']; exact Nat.lt_succ_of_lt hlt)]
    exact k2 b u z
  have J : Inv X pins σ (upd H s1.heap.objs.size (.lst ws)) { s with heap := sortedHeap (s1.heap.push (seqObj "list" vs.toArray 0)) s1.heap.objs.size vs out.toArray, gens := s1.gens, drawn := s1.drawn, toks := s1.toks } :=
    I.call (ch := []) (Un.laid k3 hz hn) (I.hok.laid k3 hz (show ObjOk X.prog X.w _ _ _ (.lst ws) from ⟨hlen, out, c', hws, hc'⟩)) (by rw [g1]; exact I.bare) (fun _ z => nomatch z)
  have e1 : { s1 with heap := sortedHeap (s1.heap.push (seqObj "list" vs.toArray 0)) s1.heap.objs.size vs out.toArray } = { s with heap := sortedHeap (s1.heap.push (seqObj "list" vs.toArray 0)) s1.heap.objs.size vs out.toArray, gens := s1.gens, drawn := s1.drawn, toks := s1.toks } := by
    cases s1
    cases s
    cases o1
    rfl
  rw [show (L1.map (·.2)).mergeSort (PySem.W.dataLe false stateD) = sortS (L.map (·.2)) from sortS_eq (pl.map _)] at hsts
  show wpAny _ _ _ _ _ { s1 with heap := sortedHeap (s1.heap.push (seqObj "list" vs.toArray 0)) s1.heap.objs.size vs out.toArray }
  rw [e1]
  exact wpAny_pure ⟨_, rfl, .ref s1.heap.objs.size, _, J, rfl, q _ ws hn hsts⟩
end
theorem shp_fault (x : Option Wrong) : Shp 1 (faultD x) := by
  cases x with
  | none => exact shp_none
  | some w => cases w with
    | wide p => exact shp_tup (shpA_cons (shp_str (by decide +kernel)) (shpA_cons (shp_int _) shpA_nil))
    | empty p => exact shp_tup (shpA_cons (shp_str (by decide +kernel)) (shpA_cons (shp_int _) shpA_nil))
    | turn p => exact shp_tup (shpA_cons (shp_str (by decide +kernel)) (shpA_cons (shp_int _) shpA_nil))
    | form => exact shp_tup (shpA_cons (shp_str (by decide +kernel)) shpA_nil)
theorem isNone_dp {K : PySem.W.Frag} {H : Hp} {v : V} {x : Option Wrong} (h : Dp K H v (faultD x)) : x.isNone = decide (v = V.non) := by
  cases x with
  | none =>
    rw [dp_none h]
    rfl
  | some wr =>
    rw [decide_eq_false (dp_wrong h)]
    rfl
theorem iteBB {A B : Prop} {a b : Bool} (h : a = b) (x : B) : if (!decide (V.bl a = V.bl b)) = true then A else B := by
  rw [decide_eq_true (congrArg V.bl h)]
  exact iteF x
theorem eqv_bar (a b : Bar) : PyData.eqv (barD a) (barD b) = true ↔ a = b := by
  obtain ⟨w, x, r⟩ := a
  obtain ⟨w', x', r'⟩ := b
  simp [barD, PyData.eqv, PyData.eqvAll]
theorem eqv_bars (xs ys : List Bar) : PyData.eqv (.list (barsD xs)) (.list (barsD ys)) = decide (xs = ys) := by
  rw [Bool.eq_iff_iff, decide_eq_true_iff]
  exact eqv_listM eqv_bar xs ys
theorem shp_bar (b : Bar) : Shp 1 (barD b) := shp_tup (shpA_cons (shp_int _) (shpA_cons (shp_int _) (shpA_cons (shp_bool _) shpA_nil)))
theorem shp_bars (bs : List Bar) : Shp 2 (.list (barsD bs)) := shp_list (shpA_all fun d hd => by
  obtain ⟨b, _, rfl⟩ := List.mem_map.mp hd
  exact shp_bar b)
/-! ### three stores -/
def isSt : Expr → Bool
  | .Starred .. => true
  | _ => false
theorem swap3 {env : Env} {x y z : Str} {a b c : Expr} {px py pz pt : Pos} {kt k2 pt2} (hk : env.blockKind = .function) (hx : env.kindOf x = some .local) (hy : env.kindOf y = some .local) (hz : env.kindOf z = some .local) (l1 : (py.line == px.line) = true) (l2 : (pz.line == px.line) = true)
    (nd : ([x, y, z].eraseDups.length != 3) = false) (st : [a, b, c].all (fun e => !isSt e) = true) (f1 : [a, b, c].all (foldedForSure 8) = false) (f2 : [a, b, c].all (constantsAlone 8) = false) :
    swappedStores [.Tuple [.Name x px, .Name y py, .Name z pz] kt pt] (.Tuple [a, b, c] k2 pt2) env = pure (some [x, y, z]) := by
  have e1 : (px.line == px.line) = true := by simp
  unfold swappedStores
  have e2 : (some NameKind.local == some NameKind.local) = true := rfl
  simp only [hk, hx, hy, hz, l1, l2, e1, e2, List.filterMap, List.head?, Option.map, Option.getD, Expr.pos, List.length, Bool.and_self, if_true]
  rw [if_neg (by decide)]
  refine (if_neg ?_).trans ?_
  · intro h
    obtain ⟨e, he, h⟩ := List.any_eq_true.mp h
    have := List.all_eq_true.mp st e he
    cases e <;> first | (cases h; done) | (cases this; done)
  rw [if_neg, f1, if_neg Bool.false_ne_true, f2]
  · rfl
  · show ¬ ((_ || [x, y, z].eraseDups.length != 3) = true)
    rw [nd]
    decide
theorem sc_law : FnScope ["script", "dice", "bars", "desk", "part", "many", "thing", "greater", "states", "rows", "state", "number"] ["script"] (defScope s_law) := ⟨rfl, rfl, rfl, by decide +kernel, rfl, by decide +kernel, by decide +kernel⟩
theorem gn {i : Nat} {v : V} {σ : L2.St} {H : Hp} {k : L2.St → Hp → Prop} (h : k (σ.set i (some v)) H) : gName i v σ H k := h
def upR (k : Desk) (r : LEnt) : LEnt := (r.1, if r.1 = first k then 0 else r.2 + 1)
theorem ok_law {P : Program} {w : World} {K : PySem.W.Frag} {mg : Str → Option Value} {base : Heap} (T : Txt K mg) : OkF P w K mg base CX0 20 ("law", none) ["script"] (sp_law K) := by
  refine okN T.law sc_law (fun vs H Q E h => ?_) (fun cdv A outer s H vs Q E hr h => ?_)
  · obtain ⟨a, ns, rfl, _⟩ := h
    rfl
  · obtain ⟨a, ns0, rfl, hS, hlen, z⟩ := h
    have hsz : sizeLine = 16777216 := sizeLine_eq
    refine ⟨_, (pss_cons (ps_for PassesOwn.never rfl (pi_list (pe_call (ok__law_rounds T) (hr.mono (by decide)) (by rfl) T.g__law_rounds T._law_rounds.kp (b__law_rounds T) .nil pass0 (pa_cons (pv 0) (pa_cons pe_int pa_nil)))) (pg_name (i := 1) sc_law.nd rfl (by first | exact Or.inl rfl | exact Or.inr rfl))
      (pss_cons (ps_asg (pe_tup (pa_cons (pe_call (ok__law_row T) (hr.mono (by decide)) (by rfl) T.g__law_row T._law_row.kp (b__law_row T) .nil pass0 (pa_cons (pv 1) (pa_cons pe_int pa_nil))) (pa_cons (pe_call (ok__law_stand T) (hr.mono (by decide)) (by rfl) T.g__law_stand T._law_stand.kp (b__law_stand T) .nil pass0 (pa_cons (pv 1) pa_nil)) pa_nil))) (pg_tup rfl (pgs_cons (pg_name (i := 2) sc_law.nd rfl (by first | exact Or.inl rfl | exact Or.inr rfl)) (pgs_cons (pg_name (i := 3) sc_law.nd rfl (by first | exact Or.inl rfl | exact Or.inr rfl)) pgs_nil))))
      (pss_cons (ps_par3 (by rfl) sc_law.nd (i := 4) (j := 5) (l := 6) rfl rfl rfl (by decide) (by decide) (by decide) rfl rfl rfl (pa_cons (pe_make T.mk_Part (ok_Part_init T) (hr.mono (by decide)) (by rfl) T.g_Part (b1_Part T) .nil pass0 (pa_cons (pv 2) pa_nil)) (pa_cons (pe_call (ok_fewest T) (hr.mono (by decide)) (by rfl) T.g_fewest T.fewest.kp (b_fewest T) .nil pass0 (pa_cons (pe_make T.mk_Part (ok_Part_init T) (hr.mono (by decide)) (by rfl) T.g_Part (b1_Part T) .nil pass0 (pa_cons (pv 2) pa_nil)) (pa_cons (pv 3) pa_nil))) (pa_cons (pe_call (okb_least_paper T) (hr.mono (by decide)) (by rfl) T.g_least_paper T.least_paper.kp (b_least_paper T) .nil pass0 (pa_cons (pe_make T.mk_Part (ok_Part_init T) (hr.mono (by decide)) (by rfl) T.g_Part (b1_Part T) .nil pass0 (pa_cons (pv 2) pa_nil)) (pa_cons (pv 3) pa_nil))) pa_nil))) (swap3 rfl rfl rfl rfl rfl rfl (by decide +kernel) rfl rfl rfl))
      (pss_cons (ps_if (pt_cmpR op_ne (pe_cmp (pc_isN (pv 5))) (pe_cmp (pc_isN (pv 6))) (nomark _)) (pss_one (ps_ret pe_bl)) pss_nil)
      (pss_cons (ps_if (pt_cmp (pc_notN (pv 6))) (pss_cons (ps_if (PW.pt (pw_or (pt_not (pt_val (pe_call (ok__law_shows_least T) (hr.mono (by decide)) (by rfl) T.g__law_shows_least T._law_shows_least.kp (b__law_shows_least T) .nil pass0 (pa_cons (pv 2) (pa_cons (pv 3) (pa_cons (pv 5) (pa_cons (pv 6) pa_nil))))))) (pw_or1 (pt_cmpR op_isnot_bl (pe_call (ok_shows_least T) (hr.mono (by decide)) (by rfl) T.g_shows_least T.shows_least.kp (b_shows_least T) .nil pass0 (pa_cons (pv 4) (pa_cons (pv 3) (pa_cons (pv 5) (pa_cons (pv 6) pa_nil))))) pe_bl (nomark _))))) (pss_one (ps_ret pe_bl)) pss_nil)
      (pss_cons (ps_if (pt_cmpR op_isnot_bl (pe_call (ok_shows_least T) (hr.mono (by decide)) (by rfl) T.g_shows_least T.shows_least.kp (b_shows_least T) .nil pass0 (pa_cons (pv 4) (pa_cons (pv 3) (pa_cons (pe_op op_fdiv (pv 5) pe_int) (pa_cons (pv 6) pa_nil))))) pe_bl (nomark _)) (pss_one (ps_ret pe_bl)) pss_nil)
      (pss_cons (ps_if (pt_cmpR op_isnot_bl (pe_call (ok_shows_least T) (hr.mono (by decide)) (by rfl) T.g_shows_least T.shows_least.kp (b_shows_least T) .nil pass0 (pa_cons (pv 4) (pa_cons (pv 3) (pa_cons (pe_op op_add (pv 5) pe_int) (pa_cons (pv 6) pa_nil))))) pe_bl (nomark _)) (pss_one (ps_ret pe_bl)) pss_nil)
      (pss_cons (ps_set (i := 7) sc_law.nd rfl (by first | exact Or.inl rfl | exact Or.inr rfl) (pe_callTy call_tuple_F (by rfl) T.b_tuple (by decide +kernel) (pa_cons (pe_lc (own := [("state", 10), ("number", 11)]) (g := (gTup K 2 (gCons (gName 10) (gCons (gName 11) gNil)))) (tt := tYes)  (by rfl) sc_law.nd (pi_tup (pv 6)) (blkOk_by (own := [("state", 10), ("number", 11)]) (N := ["script", "dice", "bars", "desk", "part", "many", "thing", "greater", "states", "rows", "state", "number"]) (sc := defScope s_law) (by decide +kernel)) (fun _ _ _ _ _ => (pg_tup rfl (pgs_cons (pg_name (i := 10) sc_law.nd rfl (by first | exact Or.inl rfl | exact Or.inr rfl)) (pgs_cons (pg_name (i := 11) sc_law.nd rfl (by first | exact Or.inl rfl | exact Or.inr rfl)) pgs_nil)))) (fun _ _ _ _ _ => pts_nil) (fun _ _ _ _ _ => (pe_tup (pa_cons (pv 10) (pa_cons (pe_ifExp (pt_cmpR (r := rEqD K) (op_eqD hr.units) (pv 10) (pe_call (ok__law_first T) (hr.mono (by decide)) (by rfl) T.g__law_first T._law_first.kp (b__law_first T) .nil pass0 (pa_cons (pv 3) pa_nil)) (nomark _)) pe_int (pe_op op_add (pv 11) pe_int)) pa_nil))))) pa_nil)))
      (pss_one (ps_if (pt_cmpR op_ne (pe_call (ok_shows_least T) (hr.mono (by decide)) (by rfl) T.g_shows_least T.shows_least.kp (b_shows_least T) .nil pass0 (pa_cons (pv 4) (pa_cons (pv 3) (pa_cons (pe_op op_add (pv 5) pe_int) (pa_cons (pv 7) pa_nil))))) (pe_call (ok__law_shows_least T) (hr.mono (by decide)) (by rfl) T.g__law_shows_least T._law_shows_least.kp (b__law_shows_least T) .nil pass0 (pa_cons (pv 2) (pa_cons (pv 3) (pa_cons (pe_op op_add (pv 5) pe_int) (pa_cons (pv 7) pa_nil))))) (nomark _)) (pss_one (ps_ret pe_bl)) pss_nil)))))) pss_nil)
      (pss_cons (ps_set (i := 8) sc_law.nd rfl (by first | exact Or.inl rfl | exact Or.inr rfl) (pe_call (ok_paper T) (hr.mono (by decide)) (by rfl) T.g_paper T.paper.kp (b_paper T) .nil pass0 (pa_cons (pv 4) (pa_cons (pv 3) pa_nil))))
      (pss_cons (ps_set (i := 9) sc_law.nd rfl (by first | exact Or.inl rfl | exact Or.inr rfl) (pe_ifExp (pt_cmp (pc_notN (pv 8))) (pe_callTy call_tuple_F (by rfl) T.b_tuple (by decide +kernel) (pa_cons (pe_lc (own := [("state", 10)]) (g := (gName 10)) (tt := tYes)  (by rfl) sc_law.nd (pi_list (pe_callB (cr_sortM rfl (units65 hr)) (by rfl) T.b_sorted (by decide +kernel) (pa_cons (pe_callTy (cr_setS rfl (units65 hr)) (by rfl) T.b_set (by decide +kernel) (pa_cons (pv 8) pa_nil)) pa_nil))) (blkOk_by (own := [("state", 10)]) (N := ["script", "dice", "bars", "desk", "part", "many", "thing", "greater", "states", "rows", "state", "number"]) (sc := defScope s_law) (by decide +kernel)) (fun _ _ _ _ _ => (pg_name (i := 10) sc_law.nd rfl (by first | exact Or.inl rfl | exact Or.inr rfl))) (fun _ _ _ _ _ => pts_nil) (fun _ _ _ _ _ => (pe_tup (pa_cons (pv 10) (pa_cons pe_int pa_nil))))) pa_nil)) (pe_tup pa_nil)))
      (pss_one (ps_if (PW.pt (pw_and (pt_cmp (pc_notN (pv 8))) (pw_and1 (pt_cmpR op_isnot_bl (pe_call (ok_shows_least T) (hr.mono (by decide)) (by rfl) T.g_shows_least T.shows_least.kp (b_shows_least T) .nil pass0 (pa_cons (pv 4) (pa_cons (pv 3) (pa_cons pe_int (pa_cons (pv 9) pa_nil))))) pe_bl (nomark _))))) (pss_one (ps_ret pe_bl)) pss_nil)))))))))
      (pss_one (ps_ret pe_bl))), ?_⟩
    refine ⟨_, rfl, a, ns0, 4, rfl, hS, hlen, by decide, fun H1 Rr ds s1 nR hR hds hdl => ?_⟩
    clear hS
    refine ⟨Rr, rfl, ⟨_, .of hR⟩, for_list (xs := ds.map V.ref) (fun i σ H' => Rnd H' Rr ds ∧ ∃ y1 y2 y3 y4 y5 y6 y7 y8 y9 y10 y11, σ = [some (.ref a), y1, y2, y3, y4, y5, y6, y7, y8, y9, y10, y11]) ⟨⟨hR, hds⟩, none, none, none, none, none, none, none, none, none, none, none, rfl⟩ ?_ ?_ ?_⟩
    · rintro i σ H' _ ⟨h, _⟩
      exact .of h.1
    · rintro i v σ H0 hv ⟨hRnd, y1, y2, y3, y4, y5, y6, y7, y8, y9, y10, y11, rfl⟩
      obtain ⟨d, rfl, hd, hD0⟩ := hRnd.at hv
      refine gn ?_
      -- bars, desk
      with_reducible refine seq_cont (fun σ' G => ∃ B bs x k, σ' = [some (.ref a), some (.ref d), some (.ref B), some x, y4, y5, y6, y7, y8, y9, y10, y11] ∧ Fr [d] H0 G ∧ Dice G d ∧ RowAt K G B bs ∧ (∀ b ∈ bs, BarOk b) ∧ bs.length ≤ 14 ∧ Dp K G x (deskD k) ∧ DeskOk k) (fun cont => ?_) ?_
      · refine ⟨_, rfl, d, 14, rfl, hD0, by decide, fun H2 B bs f2 hD2 nB row2 hbo hbl => ⟨_, rfl, d, rfl, hD2, fun x H3 k f3 hD3 hx hk => ⟨by show (2 : Nat) ≤ sizeLine; decide, fun tp ntp => ⟨tp, _, rfl, .of upd_same, rfl, _, _, rfl, _, _, rfl, rfl, ?_⟩⟩⟩⟩
        have sp := same_upd (o := .tup [.ref B, x]) ntp
        exact cont _ _ ⟨B, bs, x, k, rfl, (f2.trans f3).then sp, hD3.same sp, (row2.fr f3 (by simpa using new_ne hD0 nB)).same sp, hbo, by omega, dp_same sp hx, hk⟩
      rintro σ' G1 ⟨B, bs, x, k, rfl, f1, hD1, row1, hbo, hbl, hx1, hk⟩
      have hR1 := hRnd.turn hd f1 hD1
      clear hRnd f1 hD0
      have fin : ∀ G, Same G1 G → Rnd G Rr ds := fun G s => hR1.turn hd (Fr.of s [d]) (hD1.same s)
      -- part, many, thing
      with_reducible refine seq_cont (fun σ' G => ∃ p q g tv, σ' = [some (.ref a), some (.ref d), some (.ref B), some x, some (.ref p), some (lenOV (bestOf bs.length g)), some tv, y7, y8, y9, y10, y11] ∧ Same G1 G ∧ PartX K G p q bs [] ∧ Found bs k (first k) g ∧ Bfs bs k [(first k, (0, []))] [first k] g ∧ LeastB G tv (bestOf bs.length g) g) (fun cont => ?_) ?_
      · refine ⟨_, rfl, make_part (.inr ⟨B, rfl, row1.dp⟩) hbo (by omega) fun H4 p q s4 np nq npq hp4 => ?_⟩
        refine ⟨_, rfl, make_part (.inr ⟨B, rfl, (row1.same s4).dp⟩) hbo (by omega) fun H5 p1 q1 s5 np1 nq1 npq1 hp5 => ?_⟩
        have s15 := s4.trans s5
        refine ⟨_, rfl, p1, q1, bs, [], x, k, rfl, hp5, dp_same s15 hx1, hk, by omega, fun H6 g s6 hf hbf => ?_⟩
        have s16 := s15.trans s6
        refine ⟨_, rfl, make_part (.inr ⟨B, rfl, (row1.same s16).dp⟩) hbo (by omega) fun H7 p2 q2 s7 np2 nq2 npq2 hp7 => ?_⟩
        have s17 := s16.trans s7
        refine ⟨_, rfl, p2, q2, bs, [], x, k, rfl, hp7, dp_same s17 hx1, hk, by omega, fun tv H8 g' s8 hf' hbf' hl => ?_⟩
        have eg : g' = g := hbf'.det hbf
        subst eg
        exact ⟨_, _, _, rfl, cont _ _ ⟨p, q, g', tv, rfl, s17.trans s8, hp4.same (((s5.trans s6).trans s7).trans s8), hf, hbf, hl⟩⟩
      rintro σ' G2 ⟨p, q, g, tv, rfl, s12, hp2, hf, hbf, hlb⟩
      have row2 := row1.same s12
      have hx2 := dp_same s12 hx1
      have gl := found_len (first_ok hk) hk.e1 hf
      have hssl : (sortS (keysE g)).length ≤ 120 := by
        rw [(sortS_perm _).length_eq, List.length_map]
        omega
      cases hb : bestOf bs.length g with
      | none =>
        rw [hb] at hlb
        cases hlb
        with_reducible refine seq_cont (fun σ' G => σ' = [some (.ref a), some (.ref d), some (.ref B), some x, some (.ref p), some .non, some .non, y7, y8, y9, y10, y11] ∧ G2 = G) (fun cont => ?_) ?_
        · exact ⟨_, rfl, _, rfl, rfl, _, rfl, iteF (cont _ _ ⟨rfl, rfl⟩)⟩
        rintro σ' _ ⟨rfl, rfl⟩
        with_reducible refine seq_cont (fun σ' G => σ' = [some (.ref a), some (.ref d), some (.ref B), some x, some (.ref p), some .non, some .non, y7, y8, y9, y10, y11] ∧ G2 = G) (fun cont => ?_) ?_
        · exact ⟨_, rfl, _, rfl, iteF (cont _ _ ⟨rfl, rfl⟩)⟩
        rintro σ' _ ⟨rfl, rfl⟩
        -- states
        with_reducible refine seq_cont (fun σ' G => ∃ t ws, σ' = [some (.ref a), some (.ref d), some (.ref B), some x, some (.ref p), some .non, some .non, y7, some (.ref t), y9, y10, y11] ∧ Same G2 G ∧ G t = some (.tup ws) ∧ StatesAt G ws (sortS (keysE g))) (fun cont => ?_) ?_
        · refine ⟨_, rfl, _, rfl, p, q, bs, [], x, k, rfl, hp2, hx2, hk, by omega, fun v G3 g' s3 hf' hbf' hpap => ?_⟩
          have eg : g' = g := hbf'.det hbf
          subst eg
          rw [hb] at hpap
          obtain ⟨t, ws, rfl, h1, h2⟩ := hpap
          exact cont _ _ ⟨t, ws, rfl, s3, h1, h2⟩
        rintro σ' G3 ⟨t, ws, rfl, s3, ht3, hst3⟩
        have hp3 := hp2.same s3
        have hx3 := dp_same s3 hx2
        -- rows
        with_reducible refine seq_cont (fun σ' G => ∃ rv y10, σ' = [some (.ref a), some (.ref d), some (.ref B), some x, some (.ref p), some .non, some .non, y7, some (.ref t), some rv, y10, y11] ∧ Same G3 G ∧ RowsF G rv (zeros (sortS (keysE g)))) (fun cont => ?_) ?_
        · obtain ⟨ps, hpw, hps, hat⟩ := states_pairs hst3
          subst hpw
          have nd : (ps.map (·.2)).Nodup := by
            rw [hps]
            exact (sortS_perm _).nodup_iff.mpr hf.nd
          have pl : ps.length ≤ 120 := by
            have := congrArg List.length hps
            rw [List.length_map] at this
            omega
          refine ⟨_, rfl, _, rfl, iteT ⟨_, rfl, t, ps, rfl, .of ht3, hat, nd, by omega, fun aS L nS pm => ?_⟩⟩
          have sS := same_upd (o := SetMO P w aS L) nS
          have hatL : StAt (upd G3 aS (SetMO P w aS L)) L := fun q hq => sS _ _ (hat q (pm.mem_iff.mp hq))
          refine ⟨aS, L, rfl, upd_same, hatL, fun S0 ws0 nS0 hst0 => ?_⟩
          rw [sortS_eq (tt := keysE g) ((pm.map (·.2)).trans (by rw [hps]; exact sortS_perm _))] at hst0
          have sS0 := same_upd (o := .lst ws0) nS0
          have hS0 : (upd (upd G3 aS (SetMO P w aS L)) S0 (.lst ws0)) S0 = some (.lst ws0) := upd_same
          have s34 := sS.trans sS0
          have hst4 := hst0.keep fun b ys e => sS0 _ _ e
          have hw0 := hst4.len
          refine ⟨S0, rfl, ⟨_, .of hS0⟩, fun D nD => lc_list (K := K) (a := S0) (xs := ws0) (fun i H' => Same (upd (upd G3 aS (SetMO P w aS L)) S0 (.lst ws0)) H' ∧ ∃ us, H' D = some (.lst us) ∧ RowsAt H' us (zeros ((sortS (keysE g)).take i))) ⟨same_upd nD, [], upd_same, trivial⟩ ?_ ?_ ?_⟩
          · rintro i H' _ ⟨s', _⟩
            exact .of (s' _ _ hS0)
          · rintro i v H' hv ⟨s', us, e, hus⟩
            obtain ⟨st, hst1, o, rfl, ho⟩ := hst4.at hv
            refine ⟨rfl, _, rfl, by show (2 : Nat) ≤ sizeLine; decide, fun c1 nc1 => ?_⟩
            have sc1 := same_upd (o := .tup [.ref o, .int 0]) nc1
            have e2 := sc1 _ _ e
            have fu : Fr [D] (upd H' c1 (.tup [.ref o, .int 0])) (upd (upd H' c1 (.tup [.ref o, .int 0])) D (.lst (us ++ [.ref c1]))) := Fr.upd e2 trivial (by simp)
            refine ⟨us, e2, ?_, same_updR (s'.trans sc1) nD, _, upd_same, ?_⟩
            · rw [hus.len, List.length_map, List.length_take]
              omega
            · rw [take_at hst1, zeros, List.map_append]
              exact ((hus.keep fun b ys e => sc1 _ _ e).keep fun b ys e => fu.tu _ _ e).snoc (x := (st, 0)) (fu.tu _ _ upd_same) (fu.tu _ _ (sc1 _ _ (s' _ _ ho)))
          · rintro H' ⟨s', us, e, hus⟩
            rw [hw0, List.take_length] at hus
            refine ⟨D, us, rfl, .of e, fun l o nl hto => cont _ _ ⟨_, _, rfl, (s34.trans s').trans (same_upd nl), l, o, us, rfl, upd_same, hto, hus.keep fun b ys e => (same_upd nl) _ _ e⟩⟩
        rintro σ' G5 ⟨rv, y10, rfl, s35, hrv⟩
        have hz : (zeros (sortS (keysE g))).length ≤ 120 := by
          rw [List.length_map]
          exact hssl
        refine ⟨_, rfl, _, rfl, iteT ⟨_, rfl, _, rfl, _, rfl, p, q, bs, [], x, rv, k, 99, _, rfl, hp3.same s35, dp_same s35 hx3, hk, by decide, hrv, by omega, by omega, fun G6 s6 => ?_⟩⟩
        rw [least_zero hk hf hb (sortS_perm _)]
        exact ⟨_, _, rfl, rfl, _, rfl, iteF ⟨fin _ (((s12.trans s3).trans s35).trans s6), _, _, _, _, _, _, _, _, _, _, _, rfl⟩⟩
      | some row =>
        rw [hb] at hlb
        obtain ⟨t, ot, ws, rfl, ht, hto, hws⟩ := id hlb
        have hrl : row.length ≤ 30 := by
          obtain ⟨⟨st, h1, _⟩, _⟩ := best_some hf hb
          exact few_pages hk hbl h1
        have hnum : ∀ r ∈ rowsG g (sortS (keysE g)), r.2 ≤ 30 := fun r hr => by
          obtain ⟨row', h1, h2⟩ := rowsG_mem hf hr
          have := few_pages hk hbl h1
          omega
        have hgl : (rowsG g (sortS (keysE g))).length ≤ 120 := by
          rw [rowsG, List.length_map]
          exact hssl
        with_reducible refine seq_cont (fun σ' G => σ' = [some (.ref a), some (.ref d), some (.ref B), some x, some (.ref p), some (.int (row.length : Int)), some (.ref t), y7, y8, y9, y10, y11] ∧ G2 = G) (fun cont => ?_) ?_
        · exact ⟨_, rfl, _, rfl, rfl, _, rfl, iteF (cont _ _ ⟨rfl, rfl⟩)⟩
        rintro σ' _ ⟨rfl, rfl⟩
        with_reducible refine seq_cont (fun σ' G => (∃ y7 y10 y11, σ' = [some (.ref a), some (.ref d), some (.ref B), some x, some (.ref p), some (.int (row.length : Int)), some (.ref t), y7, y8, y9, y10, y11]) ∧ Same G2 G) (fun cont => ?_) ?_
        · refine ⟨_, rfl, _, rfl, iteT ?_⟩
          -- if not _law_shows_least .. or shows_least ..
          with_reducible refine seq_cont (fun σ' G => σ' = [some (.ref a), some (.ref d), some (.ref B), some x, some (.ref p), some (.int (row.length : Int)), some (.ref t), y7, y8, y9, y10, y11] ∧ Same G2 G) (fun cont => ?_) ?_
          · refine ⟨_, rfl, _, rfl, _, rfl, _, rfl, B, bs, x, _, k, row.length, _, rfl, row2.dp, hx2, hlb, by omega, fun r hr => Nat.le_trans (hnum r hr) (by decide), by omega, hbo, fun G3 s3 => ?_⟩
            rw [least_told hk hf hb (Nat.le_refl _)]
            refine ⟨_, rfl, iteF ⟨_, rfl, _, rfl, _, rfl, _, rfl, p, q, bs, [], x, _, k, row.length, _, rfl, hp2.same s3, dp_same s3 hx2, hk, by omega, hlb.same s3, by omega, by omega, fun G4 s4 => ?_⟩⟩
            rw [least_told hk hf hb (Nat.le_refl _)]
            exact ⟨_, _, rfl, rfl, _, rfl, iteF (cont _ _ ⟨rfl, s3.trans s4⟩)⟩
          rintro σ' G3 ⟨rfl, s3⟩
          -- many // 2
          with_reducible refine seq_cont (fun σ' G => σ' = [some (.ref a), some (.ref d), some (.ref B), some x, some (.ref p), some (.int (row.length : Int)), some (.ref t), y7, y8, y9, y10, y11] ∧ Same G2 G) (fun cont => ?_) ?_
          · refine ⟨_, rfl, _, rfl, _, rfl, _, _, rfl, rfl, ⟨by decide, by decide⟩, _, rfl, p, q, bs, [], x, _, k, row.length / 2, _, rfl, hp2.same s3, dp_same s3 hx2, hk, by omega, hlb.same s3, by omega, by omega, fun G4 s4 => ?_⟩
            rw [least_told hk hf hb (Nat.div_le_self _ _)]
            exact ⟨_, _, rfl, rfl, _, rfl, iteF (cont _ _ ⟨rfl, s3.trans s4⟩)⟩
          clear s3
          rintro σ' G3 ⟨rfl, s3⟩
          -- many + 1
          with_reducible refine seq_cont (fun σ' G => σ' = [some (.ref a), some (.ref d), some (.ref B), some x, some (.ref p), some (.int (row.length : Int)), some (.ref t), y7, y8, y9, y10, y11] ∧ Same G2 G) (fun cont => ?_) ?_
          · refine ⟨_, rfl, _, rfl, _, rfl, _, _, rfl, rfl, _, rfl, p, q, bs, [], x, _, k, row.length + 1, _, rfl, hp2.same s3, dp_same s3 hx2, hk, by omega, hlb.same s3, by omega, by omega, fun G4 s4 => ?_⟩
            rw [least_no hf hb (Nat.lt_succ_self _)]
            exact ⟨_, _, rfl, rfl, _, rfl, iteF (cont _ _ ⟨rfl, s3.trans s4⟩)⟩
          clear s3
          rintro σ' G3 ⟨rfl, s3⟩
          -- greater
          have hpw : SqT K G3 t ws := .inl (.inr ⟨ot, s3 _ _ ht⟩)
          have hws3 := hws.keep fun b ys e => s3 _ _ e
          with_reducible refine seq_cont (fun σ' G => ∃ gv rs y10 y11, σ' = [some (.ref a), some (.ref d), some (.ref B), some x, some (.ref p), some (.int (row.length : Int)), some (.ref t), some gv, y8, y9, y10, y11] ∧ Same G3 G ∧ RowsF G gv rs ∧ rs.length ≤ 120 ∧ ∀ r ∈ rs, r.2 ≤ 31) (fun cont => ?_) ?_
          · refine ⟨_, rfl, t, rfl, ⟨_, hpw⟩, fun D nD => lc_tup (K := K) (a := t) (xs := ws) (fun i H' => Same G3 H' ∧ ∃ us, H' D = some (.lst us) ∧ RowsAt H' us (((rowsG g (sortS (keysE g))).take i).map (upR k))) ⟨same_upd nD, [], upd_same, trivial⟩ ?_ ?_ ?_⟩
            · rintro i H' _ ⟨s', _⟩
              exact same_sqt s' hpw
            · rintro i v H' hv ⟨s', us, e, hus⟩
              obtain ⟨r0, c0, b0, hr0, rfl, hc0, hb0⟩ := hws3.at hv
              have s2' := s3.trans s'
              refine ⟨c0, _, rfl, .of (s' _ _ hc0), rfl, _, _, rfl, _, _, rfl, rfl, rfl, _, rfl, _, rfl, _, rfl, x, k, rfl, dp_same s2' hx2, fun c nc => ?_⟩
              have sc := same_upd (o := .tup (stateV (first k))) nc
              refine ⟨stateD r0.1, stateD (first k), dp_state_of (.of (sc _ _ (s' _ _ hb0))), dp_state_of (.of upd_same), (shp_sta _).ok (by decide), (shp_sta _).ok (by decide), ?_⟩
              have step : ∀ n : Nat, (upR k r0).2 = n → ∀ c1, (upd H' c (.tup (stateV (first k)))) c1 = none → ∃ us', (upd (upd H' c (.tup (stateV (first k)))) c1 (.tup [.ref b0, .int (n : Int)])) D = some (.lst us') ∧ us'.length + 1 ≤ sizeLine ∧ Same G3 (upd (upd (upd H' c (.tup (stateV (first k)))) c1 (.tup [.ref b0, .int (n : Int)])) D (.lst (us' ++ [.ref c1]))) ∧ ∃ us2, (upd (upd (upd H' c (.tup (stateV (first k)))) c1 (.tup [.ref b0, .int (n : Int)])) D (.lst (us' ++ [.ref c1]))) D = some (.lst us2) ∧ RowsAt (upd (upd (upd H' c (.tup (stateV (first k)))) c1 (.tup [.ref b0, .int (n : Int)])) D (.lst (us' ++ [.ref c1]))) us2 (((rowsG g (sortS (keysE g))).take (i + 1)).map (upR k)) := fun n hn c1 nc1 => by
                have sc1 := same_upd (o := .tup [.ref b0, .int (n : Int)]) nc1
                have sx := sc.trans sc1
                have e2 := sx _ _ e
                have fu : Fr [D] (upd (upd H' c (.tup (stateV (first k)))) c1 (.tup [.ref b0, .int (n : Int)])) (upd (upd (upd H' c (.tup (stateV (first k)))) c1 (.tup [.ref b0, .int (n : Int)])) D (.lst (us ++ [.ref c1]))) := Fr.upd e2 trivial (by simp)
                refine ⟨us, e2, ?_, same_updR (s'.trans sx) nD, _, upd_same, ?_⟩
                · rw [hus.len, List.length_map, List.length_take]
                  omega
                · rw [take_at hr0, List.map_append]
                  refine ((hus.keep fun b ys e => sx _ _ e).keep fun b ys e => fu.tu _ _ e).snoc (x := upR k r0) (c := c1) (b := b0) ?_ (fu.tu _ _ (sx _ _ (s' _ _ hb0)))
                  rw [hn]
                  exact fu.tu _ _ upd_same
              by_cases h : r0.1 = first k
              · rw [show PyData.eqv (stateD r0.1) (stateD (first k)) = true from (eqv_sta _ _).mpr h]
                exact ⟨_, rfl, iteT ⟨by show (2 : Nat) ≤ sizeLine; decide, fun c1 nc1 => step 0 (if_pos h) c1 nc1⟩⟩
              · rw [show PyData.eqv (stateD r0.1) (stateD (first k)) = false from Bool.eq_false_iff.mpr fun z => h ((eqv_sta _ _).mp z)]
                exact ⟨_, rfl, iteF ⟨_, rfl, _, _, rfl, rfl, by show (2 : Nat) ≤ sizeLine; decide, fun c1 nc1 => step (r0.2 + 1) (if_neg h) c1 nc1⟩⟩
            · rintro H' ⟨s', us, e, hus⟩
              rw [hws.len, List.take_length] at hus
              refine ⟨D, us, rfl, .of e, fun l o nl hto2 => cont _ _ ⟨_, _, _, _, rfl, s'.trans (same_upd nl), ⟨l, o, us, rfl, upd_same, hto2, hus.keep fun b ys e => (same_upd nl) _ _ e⟩, ?_, fun r hr => ?_⟩⟩
              · rw [List.length_map]
                exact hgl
              · obtain ⟨r0, h0, rfl⟩ := List.mem_map.mp hr
                have := hnum r0 h0
                show (if r0.1 = first k then 0 else r0.2 + 1) ≤ 31
                split <;> omega
          rintro σ' G4 ⟨gv, rs, y10, y11, rfl, s4, hgv, hrsl, hrsn⟩
          have s24 := s3.trans s4
          refine ⟨_, rfl, _, rfl, _, rfl, _, _, rfl, rfl, _, rfl, p, q, bs, [], x, gv, k, row.length + 1, rs, rfl, hp2.same s24, dp_same s24 hx2, hk, by omega, hgv, by omega, by omega, fun G5 s5 => ?_⟩
          have s25 := s24.trans s5
          refine ⟨_, rfl, _, rfl, _, rfl, _, _, rfl, rfl, _, rfl, B, bs, x, gv, k, row.length + 1, rs, rfl, (row2.same s25).dp, dp_same s25 hx2, hgv.same s5, by omega, fun r hr => Nat.le_trans (hrsn r hr) (by decide), by omega, hbo, fun G6 s6 => ?_⟩
          exact ⟨rfl, _, rfl, iteBB rfl (cont _ _ ⟨⟨_, _, _, rfl⟩, s25.trans s6⟩)⟩
        rintro σ' G3 ⟨⟨y7, y10, y11, rfl⟩, s3⟩
        have hp3 := hp2.same s3
        have hx3 := dp_same s3 hx2
        -- states
        with_reducible refine seq_cont (fun σ' G => σ' = [some (.ref a), some (.ref d), some (.ref B), some x, some (.ref p), some (.int (row.length : Int)), some (.ref t), y7, some .non, y9, y10, y11] ∧ Same G3 G) (fun cont => ?_) ?_
        · refine ⟨_, rfl, _, rfl, p, q, bs, [], x, k, rfl, hp3, hx3, hk, by omega, fun v G4 g' s4 hf' hbf' hpap => ?_⟩
          have eg : g' = g := hbf'.det hbf
          subst eg
          rw [hb] at hpap
          cases hpap
          exact cont _ _ ⟨rfl, s4⟩
        rintro σ' G4 ⟨rfl, s4⟩
        with_reducible refine seq_cont (fun σ' G => (∃ y9, σ' = [some (.ref a), some (.ref d), some (.ref B), some x, some (.ref p), some (.int (row.length : Int)), some (.ref t), y7, some .non, y9, y10, y11]) ∧ Same G4 G) (fun cont => ?_) ?_
        · exact ⟨_, rfl, _, rfl, iteF ⟨by show (0 : Nat) ≤ sizeLine; decide, fun t0 nt0 => cont _ _ ⟨⟨_, rfl⟩, same_upd nt0⟩⟩⟩
        rintro σ' G5 ⟨⟨y9, rfl⟩, s5⟩
        exact ⟨_, rfl, _, rfl, iteF (iteF ⟨fin _ (((s12.trans s3).trans s4).trans s5), _, _, _, _, _, _, _, _, _, _, _, rfl⟩)⟩
    · rintro σ H' ⟨_, y1, y2, y3, y4, y5, y6, y7, y8, y9, y10, y11, rfl⟩
      exact z _
abbrev R : PySem.W.OpenRow := PySem.W.OpenLaw.row PySem.Challenge.rw_turnedleaves_k42_whole_least_papers
def tf : List He.Defn := []
abbrev hk : PySem.W.Hook := He.hookX 6 fa fn [] tf ex
def ob (s : PySem.W.SharedT) : He.AlX := He.obsX 6 fa fn [] tf ex (HandSHeadRun.getT s)
theorem ob_eq (s : PySem.W.SharedT) : ob s = hk.obs s.abs := He.obsX_eq (HandSHeadRun.getT_eq s)
theorem run (w : World) : HandSHeadRun.RunEq R (PySem.W.view R.prog [45]) hk ob 20000 loose w := by
  intro os
  kernel_rfl
end TL
open PySem PySem.W PySem.Calls PyProof.Rows
set_option maxRecDepth 100000 in
set_option maxHeartbeats 0 in
theorem PySem.Challenge.cw_turnedleaves_k42_whole_least_papers_holds : PySem.Challenge.rw_turnedleaves_k42_whole_least_papers.Holds := by
  w_on; o_law
  refine HandSHeadRun.head_any (r := OpenLaw.row PySem.Challenge.rw_turnedleaves_k42_whole_least_papers) (q := view (OpenLaw.row PySem.Challenge.rw_turnedleaves_k42_whole_least_papers).prog [45]) (H := TL.hk) (ob := TL.ob) (M := 20000) (loose := TL.loose) (d := HandSHeadRun.topDef (OpenLaw.row PySem.Challenge.rw_turnedleaves_k42_whole_least_papers).prog 45) (kwd := []) TL.ob_eq
    (by kernel_rfl) (fun s => by kernel_rfl) TL.run (by kernel_rfl) (by kernel_rfl) (by kernel_rfl) (by rfl) (by first | assumption | decide +kernel) (by decide +kernel) ⟨rfl, rfl, rfl, rfl, rfl, by decide +kernel⟩ ?hw ?hc
  case hw => w_witness2
  case hc =>
    refine L2.walk_ofE (l := PySem.Challenge.rw_turnedleaves_k42_whole_least_papers) (n := 63) (k := 20) (x := "script") (CX := L2.CX0) rfl (by decide) (by kernel_rfl) ⟨rfl, by decide, by decide⟩ ?F (fun _ _ _ _ z => z)
    intro w mg fa h Y G hmg0
    obtain ⟨K, KX, c⟩ := Y
    have hmg : mg ("law" : PySem.Str) = some (.ref fa) := by
      have e : (HandSHeadRun.topDef (OpenLaw.row PySem.Challenge.rw_turnedleaves_k42_whole_least_papers).prog 45).name = ("law" : PySem.Str) := by kernel_rfl
      rw [← e]
      exact hmg0
    have T : TL.Txt K mg := TL.txt_of KX G c
    have e := hmg.symm.trans T.g_law
    cases e
    have b := L2.FunD.bindsA (ps := ["script"]) T.law fun _ _ _ _ _ _ us hl => match us, hl with | [_], _ => rfl
    exact ⟨K, TL.fdOf K ("law", none), TL.sp_law K, KX, fun s v => b s [v] rfl, fun H a ns hl _ hS => ⟨a, ns, rfl, hS, hl, fun _ => rfl⟩, fun base _ _ => TL.ok_law T⟩
