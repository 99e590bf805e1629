import PyProof.Rows.All
import Wide.All
import OpenK.AllK
import Wide.FinOn
import KE.KStateDown
import KE.SortKeyHeap
import KE.KLam
import HandS.ForMost
import HandS.ForExc
import HandS.Defaults
import HandS.IsInst
import HandS.Wide
import HandS.Style
import HandS.SetFor
import HandS.Lambda
import HandS.More
import HandS.HeadHook1
import HandS.HeadHook2
import HandS.HeadHook4
import HandS.Evl
import HandS.ExcInit
import HandS.Walk
import HandS.ExcIs
import KE.KExcIs
import HandS.ExcField
import HandS.HotCalls
import HandS.MakeKw
import HandS.MakeKwOnly
import HandS.TryMany
import HandS.TryElse
import HandS.TupLe
import HandS.HeadWalk
import HandS.Head0
import HandS.Head1
import HandS.Head2
import HandS.HeadEnd
import PySem.Challenge.RW_fewpegs_k10_rows_refused
import KE.KNestM
import HandS.NestedK
set_option Elab.async false
set_option linter.all false
set_option maxRecDepth 100000
set_option maxHeartbeats 4000000
namespace Fp
open PySem PySem.Spec PyProof.Rows L2 LamX

/-! ### how the heap moves -/
/-- what is data: all but code tables and things known by a fact -/
def dat : HO → Bool
  | .tbl _ => false
  | .ext _ => false
  | _ => true
/-- no data at p -/
def nod (H : Hp) (p : Addr) : Prop := ∀ o, H p = some o → dat o = false
theorem nod.of {H : Hp} {p : Addr} (h : H p = none) : nod H p := fun o e => by rw [h] at e; cases e
theorem nod.ne {H : Hp} {p b : Addr} {o : HO} (n : nod H p) (h : H b = some o) (d : dat o = true := by rfl) : b ≠ p := fun z => by
  subst z
  rw [n o h] at d
  cases d
/-- from H to H': data outside of S stays, no data is forgotten, the tables stay tables -/
structure Mv (T : List (Addr × Str)) (S : Addr → Prop) (H H' : Hp) : Prop where
  kp : ∀ b o, H b = some o → dat o = true → ¬ S b → H' b = some o
  dm : ∀ b, nod H' b → nod H b
  tb : Tabs T H → Tabs T H'
abbrev no : Addr → Prop := fun _ => False
abbrev Ex (T : List (Addr × Str)) (H H' : Hp) : Prop := Mv T no H H'
section
variable {T : List (Addr × Str)} {S S' : Addr → Prop} {H H' H1 H2 : Hp} {p : Addr} {o u : HO}
theorem Mv.refl : Mv T S H H := ⟨fun _ _ h _ _ => h, fun _ h => h, fun h => h⟩
theorem Mv.of (T : List (Addr × Str)) (H : Hp) : Ex T H H := Mv.refl
theorem Mv.trans (a : Mv T S H H1) (b : Mv T S H1 H2) : Mv T S H H2 :=
  ⟨fun c o h d s => b.kp c o (a.kp c o h d s) d s, fun c h => a.dm c (b.dm c h), fun t => b.tb (a.tb t)⟩
theorem Mv.wk (a : Mv T S H H1) (h : ∀ b, S b → S' b) : Mv T S' H H1 := ⟨fun c o e d s => a.kp c o e d fun z => s (h c z), a.dm, a.tb⟩
theorem Mv.mv (a : Mv T no H H1) : Mv T S H H1 := a.wk fun _ z => z.elim
theorem Mv.new (hp : H p = none) : Mv T S H (upd H p o) := by
  have k : ∀ b u, H b = some u → upd H p o b = some u := fun b u e => by rw [upd_ne (ne_of_none e hp)]; exact e
  exact ⟨fun b u e _ _ => k b u e, fun b e w q => e w (k b w q), fun t => t.ext k⟩
/-- a thing of S, or a new one, is changed -/
theorem Mv.set (m : Mv T S H H') (hs : S p ∨ nod H p) (hp : H' p = some u) (du : dat u = true := by rfl) (dn : dat o = true := by rfl) : Mv T S H (upd H' p o) := by
  refine ⟨fun b w e d s => ?_, fun b e => ?_, fun t q hq => ?_⟩
  · have n : b ≠ p := by
      rintro rfl
      rcases hs with z | z
      · exact s z
      · rw [z w e] at d; cases d
    rw [upd_ne n]
    exact m.kp b w e d s
  · by_cases z : b = p
    · subst z
      have q := e o upd_same
      rw [dn] at q
      cases q
    · exact m.dm b fun w q => e w (by rw [upd_ne z]; exact q)
  · obtain ⟨ps, h1, h2, h3⟩ := m.tb t q hq
    have n : ∀ b w, H' b = some w → dat w = false → upd H' p o b = some w := fun b w e d => by
      rw [upd_ne]
      · exact e
      · rintro rfl
        rw [hp] at e
        cases e
        rw [du] at d
        cases d
    exact ⟨ps, n _ _ h1 rfl, h2, fun pos cv e => by
      obtain ⟨c, e1, e2⟩ := h3 pos cv e
      exact ⟨c, e1, n _ _ e2 rfl⟩⟩
theorem Mv.set1 (hp : H p = some u) (du : dat u = true := by rfl) (dn : dat o = true := by rfl) : Mv T (fun b => b = p) H (upd H p o) := Mv.refl.set (.inl rfl) hp du dn
theorem Mv.nod (m : Mv T S H H') (h : H' p = none) : nod H p := m.dm p (.of h)
theorem Mv.rd {a : Addr} (m : Mv T S H H') (h : Rd H a u) (d : dat u = true) (s : ¬ S a) : Rd H' a u := by
  rcases h with h | ⟨w, h⟩
  · exact .inl (m.kp a _ h d s)
  · exact .inr ⟨w, m.kp a _ h rfl s⟩
variable {K : PySem.W.Frag} {a : Addr} {xs : List V}
theorem Mv.lS (m : Mv T S H H') (h : SqL K H a xs) (s : ¬ S a) : SqL K H' a xs := by
  rcases h with h | h
  · exact .inl (m.rd h rfl s)
  · exact .inr h
theorem Mv.tS (m : Mv T S H H') (h : SqT K H a xs) (s : ¬ S a) : SqT K H' a xs := by
  rcases h with h | h
  · exact .inl (m.rd h rfl s)
  · exact .inr h
theorem Mv.l (m : Mv T no H H') (h : SqL K H a xs) : SqL K H' a xs := m.lS h id
theorem Mv.t (m : Mv T no H H') (h : SqT K H a xs) : SqT K H' a xs := m.tS h id
theorem Mv.at (m : Mv T no H H') (h : H a = some o) (d : dat o = true := by rfl) : H' a = some o := m.kp a o h d id
end
theorem sz {n : Nat} (h : n ≤ 100000) : n ≤ sizeLine := Nat.le_trans h (by decide)
theorem szl {n : Nat} (h : n < 100000) : n < sizeLine := Nat.lt_of_lt_of_le h (by decide)

/-! ### kinds of things -/
/-- the kind of a value, by its name; "" where it is not told -/
def kd (H : Hp) : V → String
  | .non => "NoneType"
  | .bl _ => "bool"
  | .int _ => "int"
  | .str _ => "str"
  | .ref a => match H a with
    | some (.lst _) => "list"
    | some (.tup _) => "tuple"
    | some (.dK _) => "dict"
    | some (.frz _ (.lst _)) => "list"
    | _ => ""
  | _ => ""
theorem kd_mono {T : List (Addr × Str)} {S : Addr → Prop} {H H' : Hp} {x : V} (m : Mv T S H H') (s : ∀ a, x = .ref a → ¬ S a) (h : kd H x ≠ "") : kd H' x = kd H x := by
  cases x with
  | ref a =>
    cases e : H a with
    | none => exact absurd (show kd H (.ref a) = "" by simp only [kd, e]) h
    | some o =>
      cases d : dat o with
      | true => simp only [kd, e, m.kp a o e d (s a rfl)]
      | false => cases o <;> first | (cases d; done) | exact absurd (show kd H (.ref a) = "" by simp only [kd, e]) h
  | _ => rfl
theorem kd_ex {T : List (Addr × Str)} {H H' : Hp} {x : V} {k : String} (m : Ex T H H') (h : kd H x = k) (hk : k ≠ "") : kd H' x = k := by
  subst h
  exact kd_mono m (fun _ _ z => z) hk
/-- isinstance of a thing of the kind k, of a built-in class c -/
def isK (k c : String) : Bool := k == c || (k == "bool" && c == "int")
theorem kd_ty {K : PySem.W.Frag} {H : Hp} {x : V} (h : kd H x ≠ "") : TyX K H x (.type (kd H x)) ∧ (kd H x = "NoneType" ∨ kd H x = "bool" ∨ kd H x = "int" ∨ kd H x = "str" ∨ kd H x = "list" ∨ kd H x = "tuple" ∨ kd H x = "dict") := by
  cases x with
  | non => exact ⟨.base .non, by simp [kd]⟩
  | bl b => exact ⟨.base (.bl b), by simp [kd]⟩
  | int i => exact ⟨.base (.int i), by simp [kd]⟩
  | str z => exact ⟨.base (.str z), by simp [kd]⟩
  | ref a =>
    cases e : H a with
    | none => exact absurd (show kd H (.ref a) = "" by simp only [kd, e]) h
    | some o =>
      cases o with
      | lst xs => have q : kd H (.ref a) = "list" := by simp only [kd, e]
                  rw [q]; exact ⟨.base (.lst e), by simp⟩
      | tup xs => have q : kd H (.ref a) = "tuple" := by simp only [kd, e]
                  rw [q]; exact ⟨.base (.tup e), by simp⟩
      | dK xs => have q : kd H (.ref a) = "dict" := by simp only [kd, e]
                 rw [q]; exact ⟨.base (.dK e), by simp⟩
      | frz ob u =>
        cases u with
        | lst xs => have q : kd H (.ref a) = "list" := by simp only [kd, e]
                    rw [q]; exact ⟨.base (.frz e), by simp⟩
        | _ => exact absurd (show kd H (.ref a) = "" by simp only [kd, e]) h
      | _ => exact absurd (show kd H (.ref a) = "" by simp only [kd, e]) h
  | _ => exact absurd rfl h
/-- isinstance(x, c), c one of five built-in classes -/
def rIs : List V → Hp → VK → Prop := fun xs H Q => ∃ (x : V) (c : String), xs = [x, .ty c] ∧ kd H x ≠ "" ∧ (c = "int" ∨ c = "bool" ∨ c = "list" ∨ c = "tuple" ∨ c = "str") ∧ Q (.bl (isK (kd H x) c)) H
theorem call_is {X : Cx} : CallR X (.builtin "isinstance") rIs := by
  intro pins s σ H xs us Q I r h
  obtain ⟨x, c, rfl, hk, hc, q⟩ := h
  obtain ⟨ty, hn⟩ := kd_ty (K := X.K) hk
  refine call_isi pins s σ H [x, .ty c] us Q I r ⟨x, .ty c, _, _, isK (kd H x) c, rfl, ClsV.ty c, ty, kit_ty ?_, q⟩
  rcases hn with e | e | e | e | e | e | e <;> rw [e] <;> rcases hc with z | z | z | z | z <;> subst z <;> decide +kernel

/-! ### what gives what -/
/-- te gives v, from every heap behind H -/
def Ev (T : List (Addr × Str)) (te : TE) (σ : L2.St) (H : Hp) (v : V) : Prop := ∀ H1, Ex T H H1 → ∀ Q : VK, (∀ H2, Ex T H1 H2 → Q v H2) → te σ H1 Q
/-- te gives what R says, of the heap ahead, the value, the heap behind -/
def EvR (T : List (Addr × Str)) (te : TE) (σ : L2.St) (H : Hp) (R : Hp → V → Hp → Prop) : Prop := ∀ H1, Ex T H H1 → ∀ Q : VK, (∀ v H2, Ex T H1 H2 → R H1 v H2 → Q v H2) → te σ H1 Q
def newL (xs : List V) : Hp → V → Hp → Prop := fun H v H' => ∃ p, v = .ref p ∧ nod H p ∧ H' p = some (.lst xs)
def newU (xs : List V) : Hp → V → Hp → Prop := fun H v H' => ∃ p, v = .ref p ∧ nod H p ∧ H' p = some (.tup xs)
abbrev EvL (T : List (Addr × Str)) (te : TE) (σ : L2.St) (H : Hp) (xs : List V) : Prop := EvR T te σ H (newL xs)
abbrev EvU (T : List (Addr × Str)) (te : TE) (σ : L2.St) (H : Hp) (xs : List V) : Prop := EvR T te σ H (newU xs)
def EvT (T : List (Addr × Str)) (tt : TT) (σ : L2.St) (H : Hp) (b : Bool) : Prop := ∀ H1, Ex T H H1 → ∀ Q : Bool → Hp → Prop, (∀ H2, Ex T H1 H2 → Q b H2) → tt σ H1 Q
def EvA (T : List (Addr × Str)) (ta : TA) (σ : L2.St) (H : Hp) (vs : List V) : Prop := ∀ H1, Ex T H H1 → ∀ Q : List V → Hp → Prop, (∀ H2, Ex T H1 H2 → Q vs H2) → ta σ H1 Q
def EvAR (T : List (Addr × Str)) (ta : TA) (σ : L2.St) (H : Hp) (R : Hp → List V → Hp → Prop) : Prop := ∀ H1, Ex T H H1 → ∀ Q : List V → Hp → Prop, (∀ vs H2, Ex T H1 H2 → R H1 vs H2 → Q vs H2) → ta σ H1 Q
def EvO (T : List (Addr × Str)) (to : TO) (σ : L2.St) (H : Hp) (o : Option Int) : Prop := ∀ H1, Ex T H H1 → ∀ Q : Option Int → Hp → Prop, (∀ H2, Ex T H1 H2 → Q o H2) → to σ H1 Q
def RV (T : List (Addr × Str)) (r : R2) (x y : V) (H : Hp) (z : V) : Prop := ∀ H1, Ex T H H1 → ∀ Q : VK, (∀ H2, Ex T H1 H2 → Q z H2) → r x y H1 Q
def RVR (T : List (Addr × Str)) (r : R2) (x y : V) (H : Hp) (R : Hp → V → Hp → Prop) : Prop := ∀ H1, Ex T H H1 → ∀ Q : VK, (∀ v H2, Ex T H1 H2 → R H1 v H2 → Q v H2) → r x y H1 Q
def RC (T : List (Addr × Str)) (r : List V → Hp → VK → Prop) (vs : List V) (H : Hp) (z : V) : Prop := ∀ H1, Ex T H H1 → ∀ Q : VK, (∀ H2, Ex T H1 H2 → Q z H2) → r vs H1 Q
def RCR (T : List (Addr × Str)) (r : List V → Hp → VK → Prop) (vs : List V) (H : Hp) (R : Hp → V → Hp → Prop) : Prop := ∀ H1, Ex T H H1 → ∀ Q : VK, (∀ v H2, Ex T H1 H2 → R H1 v H2 → Q v H2) → r vs H1 Q
def SpV (T : List (Addr × Str)) (sp : Sp) (vs : List V) (H : Hp) (z : V) : Prop := ∀ H1, Ex T H H1 → ∀ Q : VK, (∀ H2, Ex T H1 H2 → Q z H2) → ∀ E : XK, sp vs H1 Q E
def SpR (T : List (Addr × Str)) (sp : Sp) (vs : List V) (H : Hp) (R : Hp → V → Hp → Prop) : Prop := ∀ H1, Ex T H H1 → ∀ Q : VK, (∀ v H2, Ex T H1 H2 → R H1 v H2 → Q v H2) → ∀ E : XK, sp vs H1 Q E

section
variable {T : List (Addr × Str)} {K : PySem.W.Frag} {σ : L2.St} {H H' : Hp} {ta tb te tx : TE} {t u : TT} {x y z v : V} {r : R2} {R R' R1 : Hp → V → Hp → Prop}
theorem Ev.mono (e : Ex T H H') (h : Ev T te σ H v) : Ev T te σ H' v := fun H1 a Q q => h H1 (e.trans a) Q q
theorem EvR.mono (e : Ex T H H') (h : EvR T te σ H R) : EvR T te σ H' R := fun H1 a Q q => h H1 (e.trans a) Q q
theorem EvT.mono {b : Bool} (e : Ex T H H') (h : EvT T t σ H b) : EvT T t σ H' b := fun H1 a Q q => h H1 (e.trans a) Q q
theorem EvA.mono {ta : TA} {vs : List V} (e : Ex T H H') (h : EvA T ta σ H vs) : EvA T ta σ H' vs := fun H1 a Q q => h H1 (e.trans a) Q q
theorem EvR.imp (h : EvR T te σ H R) (i : ∀ H1 v H2, Ex T H H1 → Ex T H1 H2 → R H1 v H2 → R' H1 v H2) : EvR T te σ H R' := fun H1 a Q q => h H1 a Q fun v H2 e r => q v H2 e (i H1 v H2 a e r)
theorem Ev.toR (h : Ev T te σ H v) : EvR T te σ H (fun _ w _ => w = v) := fun H1 a Q q => h H1 a Q fun H2 e => q v H2 e rfl
theorem EvR.toV (h : EvR T te σ H (fun _ w _ => w = v)) : Ev T te σ H v := fun H1 a Q q => h H1 a Q fun w H2 e z => by rw [z]; exact q H2 e
theorem ev_is {w : V} (h : Ev T te σ H v) (e : v = w) : Ev T te σ H w := e ▸ h
theorem et_is {a b : Bool} (h : EvT T t σ H a) (e : a = b) : EvT T t σ H b := e ▸ h
theorem ev_var {i : Nat} (h : σ[i]? = some (some v)) : Ev T (tVar i) σ H v := fun H1 _ _ q => ⟨v, h, q H1 Mv.refl⟩
theorem ev_c : Ev T (tC v) σ H v := fun H1 _ _ q => q H1 Mv.refl
theorem ev_op (ha : Ev T ta σ H x) (hb : Ev T tb σ H y) (hr : RV T r x y H z) : Ev T (tOp r ta tb) σ H z := fun H1 e Q q =>
  ha H1 e _ fun H2 e2 => hb H2 (e.trans e2) _ fun H3 e3 => hr H3 ((e.trans e2).trans e3) Q fun H4 e4 => q H4 ((e2.trans e3).trans e4)
/-- both, one, or none of the two is told by a relation; what is made of them as well -/
theorem er_op (ha : EvR T ta σ H R) (hb : ∀ H1 x H2, Ex T H H1 → Ex T H1 H2 → R H1 x H2 → EvR T tb σ H2 R') (hr : ∀ H1 x H2 y H3, Ex T H H1 → Ex T H1 H2 → R H1 x H2 → Ex T H2 H3 → R' H2 y H3 → RVR T r x y H3 fun _ v H4 => Ex T H3 H4 → R1 H1 v H4) :
    EvR T (tOp r ta tb) σ H R1 := fun H1 e Q q =>
  ha H1 e _ fun x H2 e2 r2 => hb H1 x H2 e e2 r2 H2 Mv.refl _ fun y H3 e3 r3 => hr H1 x H2 y H3 e e2 r2 e3 r3 H3 Mv.refl Q fun w H4 e4 r4 => q w H4 ((e2.trans e3).trans e4) (r4 e4)
theorem ev_opLL {xs ys : List V} (ha : EvL T ta σ H xs) (hb : ∀ H1, Ex T H H1 → EvL T tb σ H1 ys) (hr : ∀ p q H1, H1 p = some (.lst xs) → H1 q = some (.lst ys) → Ex T H H1 → RV T r (.ref p) (.ref q) H1 z) : Ev T (tOp r ta tb) σ H z := fun H1 e Q k =>
  ha H1 e _ fun _ H2 e2 ⟨p, ep, _, hp⟩ => hb H2 (e.trans e2) H2 Mv.refl _ fun _ H3 e3 ⟨q, eq, _, hq⟩ => by
    subst ep eq
    exact hr p q H3 (e3.at hp) hq ((e.trans e2).trans e3) H3 Mv.refl Q fun H4 e4 => k H4 ((e2.trans e3).trans e4)
theorem ev_opVL {ys : List V} (ha : Ev T ta σ H x) (hb : EvL T tb σ H ys) (hr : ∀ q H1, H1 q = some (.lst ys) → Ex T H H1 → RV T r x (.ref q) H1 z) : Ev T (tOp r ta tb) σ H z := fun H1 e Q k =>
  ha H1 e _ fun H2 e2 => hb H2 (e.trans e2) _ fun _ H3 e3 ⟨q, eq, _, hq⟩ => by
    subst eq
    exact hr q H3 hq ((e.trans e2).trans e3) H3 Mv.refl Q fun H4 e4 => k H4 ((e2.trans e3).trans e4)
theorem ev_opVU {ys : List V} (ha : Ev T ta σ H x) (hb : EvU T tb σ H ys) (hr : ∀ q H1, H1 q = some (.tup ys) → Ex T H H1 → RV T r x (.ref q) H1 z) : Ev T (tOp r ta tb) σ H z := fun H1 e Q k =>
  ha H1 e _ fun H2 e2 => hb H2 (e.trans e2) _ fun _ H3 e3 ⟨q, eq, _, hq⟩ => by
    subst eq
    exact hr q H3 hq ((e.trans e2).trans e3) H3 Mv.refl Q fun H4 e4 => k H4 ((e2.trans e3).trans e4)
theorem ev_opLV {xs : List V} (ha : EvL T ta σ H xs) (hb : Ev T tb σ H y) (hr : ∀ q H1, H1 q = some (.lst xs) → Ex T H H1 → RV T r (.ref q) y H1 z) : Ev T (tOp r ta tb) σ H z := fun H1 e Q k =>
  ha H1 e _ fun _ H2 e2 ⟨q, eq, _, hq⟩ => hb H2 (e.trans e2) _ fun H3 e3 => by
    subst eq
    exact hr q H3 (e3.at hq) ((e.trans e2).trans e3) H3 Mv.refl Q fun H4 e4 => k H4 ((e2.trans e3).trans e4)
theorem ev_opUU {xs ys : List V} (ha : EvU T ta σ H xs) (hb : ∀ H1, Ex T H H1 → EvU T tb σ H1 ys) (hr : ∀ p q H1, H1 p = some (.tup xs) → H1 q = some (.tup ys) → Ex T H H1 → RV T r (.ref p) (.ref q) H1 z) : Ev T (tOp r ta tb) σ H z := fun H1 e Q k =>
  ha H1 e _ fun _ H2 e2 ⟨p, ep, _, hp⟩ => hb H2 (e.trans e2) H2 Mv.refl _ fun _ H3 e3 ⟨q, eq, _, hq⟩ => by
    subst ep eq
    exact hr p q H3 (e3.at hp) hq ((e.trans e2).trans e3) H3 Mv.refl Q fun H4 e4 => k H4 ((e2.trans e3).trans e4)
theorem ev_un {f : V → Hp → VK → Prop} (ha : Ev T ta σ H x) (hr : ∀ H1, Ex T H H1 → ∀ Q : VK, (∀ H2, Ex T H1 H2 → Q z H2) → f x H1 Q) : Ev T (tUn f ta) σ H z := fun H1 e Q q =>
  ha H1 e _ fun H2 e2 => hr H2 (e.trans e2) Q fun H3 e3 => q H3 (e2.trans e3)
theorem ev_neg {i : Int} (ha : Ev T ta σ H (.int i)) : Ev T (tUn (rU fun i => .int (-i)) ta) σ H (.int (-i)) := ev_un ha fun H1 _ _ q => ⟨i, rfl, q H1 Mv.refl⟩
theorem ev_rep {k : Int} {xs ys : List V} (ha : EvL T ta σ H xs) (hb : Ev T tb σ H (.int k)) (h1 : 0 ≤ k ∧ k ≤ 1000) (h2 : xs.length ≤ 100) (h3 : (List.replicate k.toNat xs).flatten = ys) : EvL T (tOp rRep ta tb) σ H ys := fun H1 e Q q =>
  ha H1 e _ fun _ H2 e2 ⟨p, ep, np, hp⟩ => hb H2 (e.trans e2) _ fun H3 e3 => by
    subst ep
    have hz : xs.length * k.toNat ≤ 100 * 1000 := Nat.mul_le_mul h2 (by omega)
    have hb := e3.at hp
    refine ⟨p, k, xs, rfl, rfl, hb, by omega, by omega, sz hz, fun q' hq' => ?_⟩
    exact q _ _ ((e2.trans e3).trans (Mv.new hq')) ⟨q', rfl, e2.dm _ (e3.nod hq'), by rw [upd_same, ← h3]⟩
/-! operators on values -/
theorem rv_i0 {g : Int → Int → V} {i j : Int} : RV T (rI0 g) (.int i) (.int j) H (g i j) := fun H1 _ _ q => ⟨i, j, rfl, rfl, q H1 Mv.refl⟩
theorem rv_i {C : Int → Int → Prop} {g : Int → Int → V} {i j : Int} (hc : C i j) : RV T (rI C g) (.int i) (.int j) H (g i j) := fun H1 _ _ q => ⟨i, j, rfl, rfl, hc, q H1 Mv.refl⟩
theorem rv_eq (h : scal x y = true) : RV T rEq x y H (.bl (decide (x = y))) := fun H1 _ _ q => ⟨h, q H1 Mv.refl⟩
theorem rv_ne (h : scal x y = true) : RV T rNe x y H (.bl (!decide (x = y))) := fun H1 _ _ q => ⟨h, q H1 Mv.refl⟩
theorem rv_eqI {i j : Int} : RV T rEq (.int i) (.int j) H (.bl (decide (i = j))) := fun H1 e Q q => rv_eq rfl H1 e Q fun H2 e2 => by
  rw [show decide (V.int i = V.int j) = decide (i = j) by simp]
  exact q H2 e2
theorem rv_neI {i j : Int} : RV T rNe (.int i) (.int j) H (.bl (!decide (i = j))) := fun H1 e Q q => rv_ne rfl H1 e Q fun H2 e2 => by
  rw [show decide (V.int i = V.int j) = decide (i = j) by simp]
  exact q H2 e2
theorem rv_eqB {i j : Bool} : RV T rEq (.bl i) (.bl j) H (.bl (i == j)) := fun H1 e Q q => rv_eq rfl H1 e Q fun H2 e2 => by
  rw [show decide (V.bl i = V.bl j) = (i == j) by cases i <;> cases j <;> rfl]
  exact q H2 e2
theorem rv_neB {i j : Bool} : RV T rNe (.bl i) (.bl j) H (.bl (i != j)) := fun H1 e Q q => rv_ne rfl H1 e Q fun H2 e2 => by
  rw [show (!decide (V.bl i = V.bl j)) = (i != j) by cases i <;> cases j <;> rfl]
  exact q H2 e2
theorem rv_eqS {i j : Str} : RV T rEq (.str i) (.str j) H (.bl (decide (i = j))) := fun H1 e Q q => rv_eq rfl H1 e Q fun H2 e2 => by
  rw [show decide (V.str i = V.str j) = decide (i = j) by simp]
  exact q H2 e2
theorem rv_isN : RV T (fun x y H Q => y = .non ∧ Q (.bl (decide (x = .non))) H) x .non H (.bl (decide (x = .non))) := fun H1 _ _ q => ⟨rfl, q H1 Mv.refl⟩
theorem rv_notN : RV T (fun x y H Q => y = .non ∧ Q (.bl (!decide (x = .non))) H) x .non H (.bl (!decide (x = .non))) := fun H1 _ _ q => ⟨rfl, q H1 Mv.refl⟩
theorem rv_ixL {p : Addr} {xs : List V} {i : Int} (h : SqL K H p xs) (ha : atI xs i = some v) : RV T (rIxL K) (.ref p) (.int i) H v := fun H1 e _ q => ⟨p, xs, i, v, rfl, rfl, e.l h, ha, q H1 Mv.refl⟩
theorem rv_ixT {p : Addr} {xs : List V} {i : Int} (h : SqT K H p xs) (ha : atI xs i = some v) : RV T (rIxT K) (.ref p) (.int i) H v := fun H1 e _ q => ⟨p, xs, i, v, rfl, rfl, e.t h, ha, q H1 Mv.refl⟩
theorem rv_in {neg : Bool} {p : Addr} {xs : List V} (h : SqL K H p xs ∨ SqT K H p xs) (hx : flatV x = true) (ha : xs.all flatV = true) : RV T (rIn K neg) x (.ref p) H (.bl (if neg then !inV x xs else inV x xs)) :=
  fun H1 e _ q => ⟨p, xs, rfl, h.imp e.l e.t, hx, ha, q H1 Mv.refl⟩
theorem inV_int {i : Int} {ns : List Int} : inV (.int i) (ns.map V.int) = decide (i ∈ ns) := by
  unfold inV
  rw [List.any_map, Bool.eq_iff_iff]
  simp [List.any_eq_true, eqV]
theorem flat_ints : ∀ ns : List Int, (ns.map V.int).all flatV = true := fun ns => by simp [List.all_eq_true, flatV]
theorem rv_inI {i : Int} {p : Addr} {ns : List Int} (h : SqL K H p (ns.map V.int)) : RV T (rIn K false) (.int i) (.ref p) H (.bl (decide (i ∈ ns))) := by
  have q := rv_in (T := T) (neg := false) (x := .int i) (.inl h) rfl (flat_ints ns)
  rw [inV_int] at q
  exact q
theorem rv_niI {i : Int} {p : Addr} {ns : List Int} (h : SqL K H p (ns.map V.int)) : RV T (rIn K true) (.int i) (.ref p) H (.bl (!decide (i ∈ ns))) := by
  have q := rv_in (T := T) (neg := true) (x := .int i) (.inl h) rfl (flat_ints ns)
  rw [inV_int] at q
  exact q
theorem rv_isB {a b : Bool} : RV T rIsB (.bl a) (.bl b) H (.bl (decide (a = b))) := fun H1 _ _ q => ⟨a, b, rfl, rfl, q H1 Mv.refl⟩
/-! tests, and, or, not -/
theorem et_test {b : Bool} (h : Ev T te σ H (.bl b)) : EvT T (tTest te) σ H b := fun H1 e _ q => h H1 e _ fun H2 e2 => ⟨b, rfl, q H2 e2⟩
theorem et_B {b : Bool} (h : Ev T te σ H (.bl b)) : EvT T (tB te) σ H b := fun H1 e _ q => h H1 e _ fun H2 e2 => ⟨b, rfl, q H2 e2⟩
theorem et_and {a b : Bool} (h1 : EvT T t σ H a) (h2 : a = true → EvT T u σ H b) : EvT T (tAnd t u) σ H (a && b) := fun H1 e Q q => h1 H1 e _ fun H2 e2 => by
  cases a with
  | true => exact h2 rfl H2 (e.trans e2) Q fun H3 e3 => q H3 (e2.trans e3)
  | false => exact q H2 e2
theorem et_or {a b : Bool} (h1 : EvT T t σ H a) (h2 : a = false → EvT T u σ H b) : EvT T (tOr t u) σ H (a || b) := fun H1 e Q q => h1 H1 e _ fun H2 e2 => by
  cases a with
  | true => exact q H2 e2
  | false => exact h2 rfl H2 (e.trans e2) Q fun H3 e3 => q H3 (e2.trans e3)
theorem et_not {a : Bool} (h1 : EvT T t σ H a) : EvT T (tNot t) σ H (!a) := fun H1 e _ q => h1 H1 e _ fun H2 e2 => q H2 e2
theorem ev_and {a b : Bool} (h1 : Ev T ta σ H (.bl a)) (h2 : a = true → Ev T tb σ H (.bl b)) : Ev T (tAndV ta tb) σ H (.bl (a && b)) := fun H1 e Q q => h1 H1 e _ fun H2 e2 => ⟨a, rfl, by
  cases a with
  | true => exact h2 rfl H2 (e.trans e2) Q fun H3 e3 => q H3 (e2.trans e3)
  | false => exact q H2 e2⟩
theorem ev_or {a b : Bool} (h1 : Ev T ta σ H (.bl a)) (h2 : a = false → Ev T tb σ H (.bl b)) : Ev T (tOrV ta tb) σ H (.bl (a || b)) := fun H1 e Q q => h1 H1 e _ fun H2 e2 => ⟨a, rfl, by
  cases a with
  | true => exact q H2 e2
  | false => exact h2 rfl H2 (e.trans e2) Q fun H3 e3 => q H3 (e2.trans e3)⟩
theorem ev_not {a : Bool} (h1 : Ev T ta σ H (.bl a)) : Ev T (tNotV ta) σ H (.bl (!a)) := fun H1 e _ q => h1 H1 e _ fun H2 e2 => ⟨a, rfl, q H2 e2⟩
/-- a op b op' c, on whole numbers -/
theorem ev_chain {tc : TE} {g g' : Int → Int → Bool} {i j k : Int} (ha : Ev T ta σ H (.int i)) (hb : Ev T tb σ H (.int j)) (hc : g i j = true → Ev T tc σ H (.int k)) :
    Ev T (tChain (rI0 fun i j => .bl (g i j)) (rI0 fun i j => .bl (g' i j)) ta tb tc) σ H (.bl (g i j && g' j k)) := fun H1 e Q q =>
  ha H1 e _ fun H2 e2 => hb H2 (e.trans e2) _ fun H3 e3 => ⟨i, j, rfl, rfl, g i j, rfl, by
    cases h : g i j with
    | true =>
      rw [h] at q
      show tc σ H3 _
      exact hc h H3 ((e.trans e2).trans e3) _ fun H4 e4 => ⟨j, k, rfl, rfl, q H4 ((e2.trans e3).trans e4)⟩
    | false =>
      rw [h] at q
      exact q H3 (e2.trans e3)⟩
theorem ev_if {b : Bool} (h : EvT T t σ H b) (h1 : b = true → Ev T ta σ H v) (h2 : b = false → Ev T tb σ H v) : Ev T (tIf t ta tb) σ H v := fun H1 e Q q => h H1 e _ fun H2 e2 => by
  cases b with
  | true => exact h1 rfl H2 (e.trans e2) Q fun H3 e3 => q H3 (e2.trans e3)
  | false => exact h2 rfl H2 (e.trans e2) Q fun H3 e3 => q H3 (e2.trans e3)
/-! arguments, displays, calls -/
theorem ea_nil : EvA T tNil σ H [] := fun H1 _ _ q => q H1 Mv.refl
theorem ea_cons {tr : TA} {vs : List V} (h : Ev T ta σ H x) (hr : EvA T tr σ H vs) : EvA T (tCons ta tr) σ H (x :: vs) := fun H1 e _ q =>
  h H1 e _ fun H2 e2 => hr H2 (e.trans e2) _ fun H3 e3 => q H3 (e2.trans e3)
theorem EvA.toR {ta : TA} {vs : List V} (h : EvA T ta σ H vs) : EvAR T ta σ H (fun _ w _ => w = vs) := fun H1 a Q q => h H1 a Q fun H2 e => q vs H2 e rfl
theorem ear_nil : EvAR T tNil σ H (fun _ w _ => w = []) := ea_nil.toR
/-- arguments, each told by a relation that later extensions keep -/
theorem ear_cons {tr : TA} {RA RB : Hp → List V → Hp → Prop} (h : EvR T te σ H R) (hr : ∀ H1 x H2, Ex T H H1 → Ex T H1 H2 → R H1 x H2 → EvAR T tr σ H2 RA) (hm : ∀ H1 x H2 xs H3, Ex T H H1 → Ex T H1 H2 → R H1 x H2 → Ex T H2 H3 → RA H2 xs H3 → RB H1 (x :: xs) H3) : EvAR T (tCons te tr) σ H RB := fun H1 e Q q =>
  h H1 e _ fun x H2 e2 r2 => hr H1 x H2 e e2 r2 H2 Mv.refl _ fun xs H3 e3 r3 => q _ H3 (e2.trans e3) (hm H1 x H2 xs H3 e e2 r2 e3 r3)
theorem eu_tup {ta : TA} {vs : List V} (h : EvA T ta σ H vs) (hl : vs.length ≤ 100000) : EvU T (tTup ta) σ H vs := fun H1 e _ q =>
  h H1 e _ fun H2 e2 => ⟨sz hl, fun p hp => q _ _ (e2.trans (Mv.new hp)) ⟨p, rfl, e2.nod hp, upd_same⟩⟩
theorem el_lst {ta : TA} {vs : List V} (h : EvA T ta σ H vs) (hl : vs.length ≤ 100000) : EvL T (tLst ta) σ H vs := fun H1 e _ q =>
  h H1 e _ fun H2 e2 => ⟨sz hl, fun p hp => q _ _ (e2.trans (Mv.new hp)) ⟨p, rfl, e2.nod hp, upd_same⟩⟩
theorem er_tup {ta : TA} {RA : Hp → List V → Hp → Prop} (h : EvAR T ta σ H RA) (hl : ∀ H1 vs H2, Ex T H H1 → Ex T H1 H2 → RA H1 vs H2 → vs.length ≤ 100000 ∧ ∀ p, H2 p = none → R H1 (.ref p) (upd H2 p (.tup vs))) : EvR T (tTup ta) σ H R := fun H1 e _ q =>
  h H1 e _ fun vs H2 e2 r2 => ⟨sz (hl H1 vs H2 e e2 r2).1, fun p hp => q _ _ (e2.trans (Mv.new hp)) ((hl H1 vs H2 e e2 r2).2 p hp)⟩
theorem er_lst {ta : TA} {RA : Hp → List V → Hp → Prop} (h : EvAR T ta σ H RA) (hl : ∀ H1 vs H2, Ex T H H1 → Ex T H1 H2 → RA H1 vs H2 → vs.length ≤ 100000 ∧ ∀ p, H2 p = none → R H1 (.ref p) (upd H2 p (.lst vs))) : EvR T (tLst ta) σ H R := fun H1 e _ q =>
  h H1 e _ fun vs H2 e2 r2 => ⟨sz (hl H1 vs H2 e e2 r2).1, fun p hp => q _ _ (e2.trans (Mv.new hp)) ((hl H1 vs H2 e e2 r2).2 p hp)⟩
theorem ev_cb {rc : List V → Hp → VK → Prop} {ta : TA} {vs : List V} (h : EvA T ta σ H vs) (hr : RC T rc vs H z) : Ev T (tCB rc ta) σ H z := fun H1 e Q q =>
  h H1 e _ fun H2 e2 => hr H2 (e.trans e2) Q fun H3 e3 => q H3 (e2.trans e3)
theorem er_cb {rc : List V → Hp → VK → Prop} {ta : TA} {RA : Hp → List V → Hp → Prop} (h : EvAR T ta σ H RA) (hr : ∀ H1 vs H2, Ex T H H1 → Ex T H1 H2 → RA H1 vs H2 → RCR T rc vs H2 fun _ v H3 => Ex T H2 H3 → R H1 v H3) : EvR T (tCB rc ta) σ H R := fun H1 e Q q =>
  h H1 e _ fun vs H2 e2 r2 => hr H1 vs H2 e e2 r2 H2 Mv.refl Q fun v H3 e3 r3 => q v H3 (e2.trans e3) (r3 e3)
theorem ev_call {sp : Sp} {dvs vs ws : List V} {E : XK} {ta : TA} (h : EvA T ta σ H vs) (hw : vs ++ dvs = ws) (hs : SpV T sp ws H z) : Ev T (tCall sp dvs E ta) σ H z := fun H1 e Q q =>
  h H1 e _ fun H2 e2 => by
    rw [hw]
    exact hs H2 (e.trans e2) Q (fun H3 e3 => q H3 (e2.trans e3)) E
theorem er_call {sp : Sp} {dvs vs ws : List V} {E : XK} {ta : TA} (h : EvA T ta σ H vs) (hw : vs ++ dvs = ws) (hs : SpR T sp ws H R) (hm : ∀ H1 H2 v H3, Ex T H H1 → Ex T H1 H2 → Ex T H2 H3 → R H2 v H3 → R H1 v H3) : EvR T (tCall sp dvs E ta) σ H R := fun H1 e Q q =>
  h H1 e _ fun H2 e2 => by
    rw [hw]
    exact hs H2 (e.trans e2) Q (fun v H3 e3 r => q v H3 (e2.trans e3) (hm H1 H2 v H3 e e2 e3 r)) E
theorem newL_back {xs : List V} : ∀ H1 H2 v H3, Ex T H H1 → Ex T H1 H2 → Ex T H2 H3 → newL xs H2 v H3 → newL xs H1 v H3 := fun _ _ _ _ _ e _ ⟨p, h1, h2, h3⟩ => ⟨p, h1, e.dm p h2, h3⟩
theorem newU_back {xs : List V} : ∀ H1 H2 v H3, Ex T H H1 → Ex T H1 H2 → Ex T H2 H3 → newU xs H2 v H3 → newU xs H1 v H3 := fun _ _ _ _ _ e _ ⟨p, h1, h2, h3⟩ => ⟨p, h1, e.dm p h2, h3⟩
/-- a call whose arguments are told by a relation -/
theorem er_callR {sp : Sp} {E : XK} {ta : TA} {RA : Hp → List V → Hp → Prop} (h : EvAR T ta σ H RA) (hs : ∀ H1 vs H2, Ex T H H1 → Ex T H1 H2 → RA H1 vs H2 → SpR T sp vs H2 fun _ v H3 => Ex T H2 H3 → R H1 v H3) : EvR T (tCall sp [] E ta) σ H R := fun H1 e Q q =>
  h H1 e _ fun vs H2 e2 r2 => by
    rw [List.append_nil]
    exact hs H1 vs H2 e e2 r2 H2 Mv.refl Q (fun v H3 e3 r3 => q v H3 (e2.trans e3) (r3 e3)) E
/-! built-ins -/
def rLen (K : PySem.W.Frag) : List V → Hp → VK → Prop := fun xs H Q => ∃ p ys, xs = [.ref p] ∧ (SqL K H p ys ∨ SqT K H p ys) ∧ Q (.int ys.length) H
def rLst (K : PySem.W.Frag) : List V → Hp → VK → Prop := fun xs H Q => ∃ p ys, xs = [.ref p] ∧ (SqL K H p ys ∨ SqT K H p ys) ∧ ∀ l, H l = none → Q (.ref l) (upd H l (.lst ys))
theorem rc_is {c : String} {k : String} (h : kd H x = k) (hk : k ≠ "") (hc : c = "int" ∨ c = "bool" ∨ c = "list" ∨ c = "tuple" ∨ c = "str") : RC T rIs [x, .ty c] H (.bl (isK k c)) := fun H1 e _ q => by
  have h1 := kd_ex e h hk
  exact ⟨x, c, rfl, by rw [h1]; exact hk, hc, by rw [h1]; exact q H1 Mv.refl⟩
theorem rc_len {p : Addr} {xs : List V} (h : SqL K H p xs ∨ SqT K H p xs) : RC T (rLen K) [.ref p] H (.int xs.length) := fun H1 e _ q => ⟨p, xs, rfl, h.imp e.l e.t, q H1 Mv.refl⟩
theorem rc_lenI {p : Addr} {ns : List Int} (h : SqL K H p (ns.map V.int)) : RC T (rLen K) [.ref p] H (.int ns.length) := fun H1 e Q q => rc_len (.inl h) H1 e Q fun H2 e2 => by
  rw [List.length_map]
  exact q H2 e2
theorem el_list {p : Addr} {xs : List V} (ha : Ev T ta σ H (.ref p)) (h : SqL K H p xs ∨ SqT K H p xs) : EvL T (tCB (rLst K) (tCons ta tNil)) σ H xs := fun H1 e Q q =>
  ha H1 e _ fun H2 e2 => ⟨p, xs, rfl, h.imp (e.trans e2).l (e.trans e2).t, fun l hl => q _ _ (e2.trans (Mv.new hl)) ⟨l, rfl, e2.nod hl, upd_same⟩⟩
/-! slices of lists -/
theorem eo_no : EvO T tNoPart σ H none := fun H1 _ _ q => q H1 Mv.refl
theorem eo_part {i : Int} (h : Ev T te σ H (.int i)) : EvO T (tPart te) σ H (some i) := fun H1 e _ q => h H1 e _ fun H2 e2 => ⟨i, rfl, q H2 e2⟩
theorem el_sl {p : Addr} {xs : List V} {tl th : TO} {lo hi : Option Int} (ha : Ev T ta σ H (.ref p)) (hl : EvO T tl σ H lo) (hh : EvO T th σ H hi) (h : SqL K H p xs) : EvL T (tSl (rSlL K) ta tl th) σ H (cutV xs lo hi) := fun H1 e Q q =>
  ha H1 e _ fun H2 e2 => hl H2 (e.trans e2) _ fun H3 e3 => hh H3 ((e.trans e2).trans e3) _ fun H4 e4 =>
    ⟨p, xs, rfl, (((e.trans e2).trans e3).trans e4).l h, fun l hn => q _ _ (((e2.trans e3).trans e4).trans (Mv.new hn)) ⟨l, rfl, e2.dm l (e3.dm l (e4.nod hn)), upd_same⟩⟩
/-! ### statements; H0 is the heap in which all is known -/
variable {D : Ends} {tu tw : TS} {g : TG} {H0 : Hp}
theorem s_asg {i : Nat} (e : Ex T H0 H) (h : Ev T te σ H0 v) (k : ∀ H1, Ex T H0 H1 → Ex T H H1 → D.nx (σ.set i (some v)) H1) : tAsg te (gName i) D σ H := h H e _ fun H1 e1 => k H1 (e.trans e1) e1
theorem s_asgR {i : Nat} (e : Ex T H0 H) (h : EvR T te σ H0 R) (k : ∀ w H1, Ex T H0 H1 → Ex T H H1 → R H w H1 → D.nx (σ.set i (some w)) H1) : tAsg te (gName i) D σ H := h H e _ fun w H1 e1 r => k w H1 (e.trans e1) e1 r
theorem s_ret (e : Ex T H0 H) (h : Ev T te σ H0 v) (k : ∀ H1, Ex T H0 H1 → D.rt v H1) : tRet te D σ H := h H e _ fun H1 e1 => k H1 (e.trans e1)
theorem s_retR (e : Ex T H0 H) (h : EvR T te σ H0 R) (k : ∀ w H1, Ex T H0 H1 → Ex T H H1 → R H w H1 → D.rt w H1) : tRet te D σ H := h H e _ fun w H1 e1 r => k w H1 (e.trans e1) e1 r
theorem s_if {b : Bool} (e : Ex T H0 H) (h : EvT T t σ H0 b) (h1 : b = true → ∀ H1, Ex T H0 H1 → Ex T H H1 → tu D σ H1) (h2 : b = false → ∀ H1, Ex T H0 H1 → Ex T H H1 → tw D σ H1) : tIfS t tu tw D σ H := h H e _ fun H1 e1 => by
  cases b with
  | true => exact h1 rfl H1 (e.trans e1) e1
  | false => exact h2 rfl H1 (e.trans e1) e1
theorem s_drop (e : Ex T H0 H) (h : Ev T te σ H0 v) (k : ∀ H1, Ex T H0 H1 → Ex T H H1 → D.nx σ H1) : tDrop te D σ H := h H e _ fun H1 e1 => k H1 (e.trans e1) e1
/-- a cut: what follows is shown once, from Mid -/
theorem s_cut (Mid : L2.St → Hp → Prop) (h1 : tu { D with nx := Mid } σ H) (h2 : ∀ σ' H', Mid σ' H' → tw D σ' H') (hm : ∀ {D1 D2 : Ends}, (∀ σ H, D1.nx σ H → D2.nx σ H) → D1.rt = D2.rt → D1.bk = D2.bk → D1.ct = D2.ct → ∀ σ H, tu D1 σ H → tu D2 σ H) : tSeq tu tw D σ H :=
  hm (D1 := { D with nx := Mid }) (D2 := { D with nx := tw D }) (fun σ' H' => h2 σ' H') rfl rfl rfl σ H h1
/-- xs.append(e), xs known at l -/
theorem s_app {l : Addr} {xs : List V} (e : Ex T H0 H) (hl : H l = some (.lst xs)) (ha : Ev T ta σ H0 (.ref l)) (h : Ev T te σ H0 v) (hz : xs.length < 100000) (k : ∀ H1, Ex T H0 H1 → Ex T H H1 → D.nx σ (upd H1 l (.lst (xs ++ [v])))) :
    tDrop (tBM K "list" rAppend ta (tCons te tNil)) D σ H := ha H e _ fun H1 e1 =>
  ⟨.inl ⟨rfl, xs, .inl (.inl (e1.at hl))⟩, h H1 (e.trans e1) _ fun H2 e2 => ⟨l, xs, v, rfl, rfl, e2.at (e1.at hl), szl hz, k H2 ((e.trans e1).trans e2) (e1.trans e2)⟩⟩
theorem s_appR {l : Addr} {xs : List V} (e : Ex T H0 H) (hl : H l = some (.lst xs)) (ha : Ev T ta σ H0 (.ref l)) (h : EvR T te σ H0 R) (hz : xs.length < 100000) (k : ∀ w H1 H2, Ex T H0 H1 → Ex T H H1 → Ex T H1 H2 → R H1 w H2 → D.nx σ (upd H2 l (.lst (xs ++ [w])))) :
    tDrop (tBM K "list" rAppend ta (tCons te tNil)) D σ H := ha H e _ fun H1 e1 =>
  ⟨.inl ⟨rfl, xs, .inl (.inl (e1.at hl))⟩, h H1 (e.trans e1) _ fun w H2 e2 r => ⟨l, xs, w, rfl, rfl, e2.at (e1.at hl), szl hz, k w H1 H2 (e.trans e1) e1 e2 r⟩⟩
/-- xs[i] = e -/
theorem s_setL {l : Addr} {xs : List V} {i : Int} {j : Nat} (e : Ex T H0 H) (hl : H l = some (.lst xs)) (h : Ev T te σ H0 v) (ho : Ev T ta σ H0 (.ref l)) (hi : Ev T tb σ H0 (.int i)) (hj : ixN xs.length i = some j) (k : ∀ H1, Ex T H0 H1 → Ex T H H1 → D.nx σ (upd H1 l (.lst (xs.set j v)))) :
    tAsg te (gSub ta tb rSetL) D σ H := h H e _ fun H1 e1 => ho H1 (e.trans e1) _ fun H2 e2 => hi H2 ((e.trans e1).trans e2) _ fun H3 e3 =>
  ⟨l, xs, i, j, rfl, rfl, e3.at (e2.at (e1.at hl)), hj, k H3 (((e.trans e1).trans e2).trans e3) ((e1.trans e2).trans e3)⟩
/-! loops -/
theorem s_forR {ta : TA} {j : Nat} {n : Int} (e : Ex T H0 H) (h : EvA T ta σ H0 [.int n]) (hn : -100000 ≤ n ∧ n ≤ 100000) (Pv : Nat → L2.St → Hp → Prop) (h0 : ∀ H1, Ex T H0 H1 → Ex T H H1 → Pv 0 σ H1)
    (hs : ∀ (i : Nat) σ' H', (i : Int) < n → Pv i σ' H' → tu { D with nx := Pv (i + 1), ct := Pv (i + 1), bk := D.nx } (σ'.set j (some (.int (i : Int)))) H') (hd : ∀ σ' H', Pv n.toNat σ' H' → D.nx σ' H') : tFor (iRng1 ta) (gName j) tu D σ H :=
  h H e _ fun H1 e1 => ⟨n, rfl, by omega, by omega, for_range (lo := 0) (n := n.toNat) Pv (h0 H1 (e.trans e1) e1) (fun i σ' H' hi p => by
    have z : (0 : Int) + (i : Int) = (i : Int) := Int.zero_add _
    show tu { D with nx := Pv (i + 1), ct := Pv (i + 1), bk := D.nx } (σ'.set j (some (.int ((0 : Int) + (i : Int))))) H'
    rw [z]
    exact hs i σ' H' (by omega) p) hd⟩
theorem s_forL {a : Addr} {xs : List V} {tl : TE} (e : Ex T H0 H) (h : Ev T tl σ H0 (.ref a)) (hx : SqL K H0 a xs) (Pv : Nat → L2.St → Hp → Prop) (h0 : ∀ H1, Ex T H0 H1 → Ex T H H1 → Pv 0 σ H1) (hl : ∀ i σ' H', i ≤ xs.length → Pv i σ' H' → SqL K H' a xs)
    (hs : ∀ i x σ' H', xs[i]? = some x → Pv i σ' H' → g x σ' H' fun σ2 H2 => tu { D with nx := Pv (i + 1), ct := Pv (i + 1), bk := D.nx } σ2 H2) (hd : ∀ σ' H', Pv xs.length σ' H' → D.nx σ' H') : tFor (iList K tl) g tu D σ H :=
  h H e _ fun H1 e1 => ⟨a, rfl, ⟨xs, (e.trans e1).l hx⟩, for_list Pv (h0 H1 (e.trans e1) e1) hl hs hd⟩
theorem s_forNL {xs : List V} {tl : TE} (e : Ex T H0 H) (h : EvL T tl σ H0 xs) (Pv : Addr → Nat → L2.St → Hp → Prop) (h0 : ∀ p H1, nod H p → Ex T H0 H1 → Ex T H H1 → H1 p = some (.lst xs) → Pv p 0 σ H1) (hl : ∀ p i σ' H', i ≤ xs.length → Pv p i σ' H' → SqL K H' p xs)
    (hs : ∀ p i x σ' H', xs[i]? = some x → Pv p i σ' H' → g x σ' H' fun σ2 H2 => tu { D with nx := Pv p (i + 1), ct := Pv p (i + 1), bk := D.nx } σ2 H2) (hd : ∀ p σ' H', Pv p xs.length σ' H' → D.nx σ' H') : tFor (iList K tl) g tu D σ H :=
  h H e _ fun _ H1 e1 ⟨p, ep, np, hp⟩ => by
    subst ep
    exact ⟨p, rfl, ⟨xs, .inl (.inl hp)⟩, for_list (Pv p) (h0 p H1 np (e.trans e1) e1 hp) (hl p) (hs p) (hd p)⟩
theorem s_forT {a : Addr} {xs : List V} {tl : TE} (e : Ex T H0 H) (h : Ev T tl σ H0 (.ref a)) (hx : SqT K H0 a xs) (Pv : Nat → L2.St → Hp → Prop) (h0 : ∀ H1, Ex T H0 H1 → Ex T H H1 → Pv 0 σ H1) (hl : ∀ i σ' H', i ≤ xs.length → Pv i σ' H' → SqT K H' a xs)
    (hs : ∀ i x σ' H', xs[i]? = some x → Pv i σ' H' → g x σ' H' fun σ2 H2 => tu { D with nx := Pv (i + 1), ct := Pv (i + 1), bk := D.nx } σ2 H2) (hd : ∀ σ' H', Pv xs.length σ' H' → D.nx σ' H') : tFor (iTup K tl) g tu D σ H :=
  h H e _ fun H1 e1 => ⟨a, rfl, ⟨xs, (e.trans e1).t hx⟩, for_tup Pv (h0 H1 (e.trans e1) e1) hl hs hd⟩
end
end Fp

namespace Fp
open PySem PySem.Spec PyProof.Rows L2 LamX
open PySem.W (EachIs KeyPure)

/-! ### the order -/
/-- the rank of a line -/
def rk (rs : List Int) (i : Int) : Int := rs.getD i.toNat 0
/-- comes ahead, or is the same -/
def ordLe (rs : List Int) (p q : Int) : Bool := decide (rk rs p < rk rs q ∨ (rk rs p = rk rs q ∧ p ≤ q))
def inOrd (rs ls : List Int) : List Int := ls.mergeSort (ordLe rs)

/-! ### sorted(lines, key=lambda line: (ranks[line], line)) -/
abbrev lamB (a1 a2 a3 a4 a5 : Pos) : Expr := .Tuple [.Subscript (.Name "ranks" a1) (.Name "line" a2) a3, .Name "line" a4] 0 a5
abbrev lamSc : Scope := { kind := .function, names := [("line", .local), ("ranks", .free)], isGenerator := false, isCoroutine := false, more := [] }
theorem lk1 {α : Type} {k : Str} {v : α} : List.lookup k [(k, v)] = some v := by simp [List.lookup]
theorem lam_line : lamSc.names.lookup ("line" : Str) = some NameKind.local := by decide +kernel
theorem lam_ranks : lamSc.names.lookup ("ranks" : Str) = some NameKind.free := by decide +kernel
section
variable {prog : Program} {w : World} {A : Around} {s : Shared}
/-- one call of the key -/
theorem key_turn {f c' cr r : Addr} {q : Str} {params : Arguments} {a1 a2 a3 a4 a5 : Pos} {pm ctv : Value} {its : List Value} {rs : List Int} {orr oc occ : Obj} {vs : Array Value} {tq t : Tok} {n : Nat} {i : Int}
    (hroom : A.depth < recursionLimit) (hlim : s.heap.NoLimit) (hf : s.heap.get? f = some (PySem.W.kla_obj "<lambda>" q params (lamB a1 a2 a3 a4 a5) lamSc [("ranks", cr)] pm c' ctv))
    (hoc : s.heap.get? c' = some oc) (hdc : oc.data = .fields vs) (hvc : vs[1]? = some (.str q tq))
    (hbind : ∀ v, bindArgs (PySem.W.kla_fn "<lambda>" q params (lamB a1 a2 a3 a4 a5) lamSc [("ranks", cr)] pm (.ref c') ctv) ⟨[v], []⟩ = pure [(("line" : Str), v)])
    (hcc : s.heap.get? cr = some occ) (hcd : occ.data = .cell (some (.ref r))) (hr : s.heap.get? r = some orr) (hrc : orr.cls = .type "list") (hrd : orr.data = .seq its.toArray n) (hv : Vals (rs.map V.int) its)
    (h0 : 0 ≤ i) (h1 : i < rs.length) (hz : rs.length ≤ sizeLine) :
    wpAny (model prog w) A (call (.ref f) [.int i t]) (KeyPure (.tuple [.int (rk rs i), .int i]) s) (fun _ _ => False) s := by
  refine wpAny_call (PySem.W.kla_callFunE hroom hf rfl rfl rfl rfl ⟨c', oc, vs, tq, rfl, hoc, hdc, hvc⟩ ?_)
  rw [hbind]
  refine wpAny_pure (wpAny_newFunctionEnv (show ∀ x ∈ lamSc.names, x.2 ≠ .cell by decide) (fun x hx => by rw [List.mem_singleton] at hx; rw [hx]; exact lam_line) (fun h₁ hns hsb => ⟨hlim.fresh _ hsb, ?_⟩) rfl)
  show codeAny _ _ (.expr (lamB a1 a2 a3 a4 a5) (PySem.W.envX q lamSc s.heap.objs.size f (.ref c') [("ranks", cr)])) _ _
  have kp : ∀ b o, s.heap.get? b = some o → h₁.get? b = some o := fun b o e => hsb.extBut b o (Nat.ne_of_lt (Heap.lt_size e)) (Heap.get?_push_of_some _ e)
  obtain ⟨u, hu, ru⟩ := hv.get (i := i.toNat) (x := .int (rk rs i)) (by
    rw [List.getElem?_map, List.getElem?_eq_getElem (by omega)]
    simp [rk, List.getD_eq_getElem?_getD, List.getElem?_eq_getElem (show i.toNat < rs.length by omega)])
  obtain ⟨t2, rfl⟩ := ru
  have hn := line63
  have fin : ∀ (tk : Nat), KeyPure (.tuple [.int (rk rs i), .int i]) s (.ref h₁.objs.size) { s with heap := h₁.push { cls := .type "tuple", data := .seq #[.int (rk rs i) t2, .int i t] }, toks := tk } := fun tk =>
    ⟨_, _, rfl, fun b o e => Heap.get?_push_of_some _ (kp b o e), Reads.tuple (Heap.get?_push_size _ rfl) rfl rfl (ReadsAll.cons (Reads.int _ _) (ReadsAll.cons (Reads.int _ _) ReadsAll.nil))⟩
  refine PySem.W.kla_codeExpr (wpAny_mono (E := fun _ _ => False) (Q := fun v s' => KeyPure (.tuple [.int (rk rs i), .int i]) s v s') ?_ (fun v s' z => z) fun _ _ z => z.elim)
  refine wpAny_Tuple_spliced ?_
  show wpAny _ _ (spliced ((false, eval (.Subscript (.Name "ranks" a1) (.Name "line" a2) a3) _) :: (false, eval (.Name "line" a4) _) :: [])) _ _ _
  refine Calls.spliced_cons (Subscript_ (wpAny_Name (wpAny_loadName_free rfl lam_ranks (c := cr) lk1 ⟨_, kp _ _ hcc, hcd⟩ ?_) (by decide)))
  refine wpAny_Name (wpAny_loadName_local rfl lam_line hns (v := .int i t) lk1 ?_) (by decide)
  refine item_listR (x := .int (rk rs i) t2) ⟨orr, kp _ _ hr, hrc, n, hrd⟩ h0 (by omega) (by simpa using hu) ?_ (by intros; rfl)
  refine Calls.spliced_cons (wpAny_Name (wpAny_loadName_local rfl lam_line hns (v := .int i t) lk1 ?_) (by decide))
  exact Calls.spliced_nil ⟨by show 2 ≤ sizeLine; decide, fin _⟩
end
theorem Mv.ofN {T : List (Addr × Str)} {H H1 : Hp} (e : ExtN H H1) (t : Tabs T H1) : Ex T H H1 :=
  have k : ∀ b o, H b = some o → dat o = true → H1 b = some o := fun b o h d => e b o h fun ps z => by subst z; cases d
  ⟨fun b o h d _ => k b o h d, fun b n o h => by
    cases d : dat o with
    | false => rfl
    | true => exact d.symm.trans (n o (k b o h d)), fun _ => t⟩
theorem clo_ranks {cells : List (Str × Addr)} {c : Addr} (h : cells.lookup ("ranks" : Str) = some c) : cloFrom cells lamSc.names [] = [(("ranks" : Str), c)] := by
  simp [cloFrom, h]
/-- what the two handed things are -/
structure Kys (K : PySem.W.Frag) (H : Hp) (l r : Addr) (rs ls : List Int) : Prop where
  l : SqL K H l (ls.map V.int)
  r : SqL K H r (rs.map V.int)
  lo : ∀ i ∈ ls, 0 ≤ i ∧ i < rs.length
def rSortK (K : PySem.W.Frag) (T : List (Addr × Str)) (σ : L2.St) (ir : Nat) (Q : VK) : List V → Hp → Prop := fun vs H1 => ∃ (l r : Addr) (rs ls : List Int), vs = [.ref l] ∧ σ[ir]? = some (some (.ref r)) ∧ Kys K H1 l r rs ls ∧ Tabs T H1 ∧
  ∀ v H2, Ex T H1 H2 → newL ((inOrd rs ls).map V.int) H1 v H2 → Q v H2
def tSortK (K : PySem.W.Frag) (T : List (Addr × Str)) (ir : Nat) (ta : TA) : TE := fun σ H Q => ta σ H (rSortK K T σ ir Q)
section
variable {X : Cx} {T : List (Addr × Str)} {e : Expr} {ta : TA} {c P : Addr} {ir k : Nat} {p a1 a2 a3 a4 a5 lpos kpos pos : Pos} {params : Arguments}
theorem vals_each : ∀ {ls : List Int} {its : List Value}, Vals (ls.map V.int) its → EachIs (fun v i => ∃ t, v = Value.int i t) its ls
  | [], [], _ => .nil
  | _ :: _, _ :: _, .cons r t => .cons r (vals_each t)
theorem each_vals : ∀ {ls : List Int} {its : List Value}, EachIs (fun v i => ∃ t, v = Value.int i t) its ls → Vals (ls.map V.int) its
  | [], [], _ => .nil
  | _ :: _, _ :: _, .cons r t => .cons r (each_vals t)
/-- sorted(e, key=lambda line: (ranks[line], line)) -/
theorem pe_sortK (ha : PA X [e] ta) (hr : Room k X.A) (hg : Gl X "sorted") (hm : X.mg "sorted" = none) (TB : TabB X.base X.mg c P) (hcode : X.env.code = .ref c) (hmT : (P, X.env.qual ++ "<lambda>") ∈ T) (hu : ∀ p ∈ T, p.1 = P → p.2 = X.env.qual ++ "<lambda>")
    (hN : X.N[ir]? = some ("ranks" : Str)) (hk : X.env.scope.names.lookup ("ranks" : Str) = some NameKind.cell) (hdef : defaultsOf params X.env = ([], []))
    (hbind : ∀ (q : Str) (cl : List (Str × Addr)) (pm cv ctv v : Value), bindArgs (PySem.W.kla_fn "<lambda>" q params (lamB a1 a2 a3 a4 a5) lamSc cl pm cv ctv) ⟨[v], []⟩ = pure [(("line" : Str), v)])
    (h1 : backTo pos (starEach [e] X.env) = (false, eval e X.env) :: backTo pos (starEach [] X.env) := by rfl) (h2 : (backTo pos (starEach [e] X.env)).any (·.1) = false := by rfl)
    (h3 : (backToKw pos (keywordEach [⟨some "key", .Lambda params (lamB a1 a2 a3 a4 a5) lamSc lpos, kpos⟩] X.env)).all (·.1.isSome) = true := by rfl) (h4 : (backToKw pos (keywordEach [⟨some "key", .Lambda params (lamB a1 a2 a3 a4 a5) lamSc lpos, kpos⟩] X.env)).any (·.1.isNone) = false := by rfl)
    (h5 : (backToKw pos (keywordEach [⟨some "key", .Lambda params (lamB a1 a2 a3 a4 a5) lamSc lpos, kpos⟩] X.env)).filterMap (·.1) = [("key" : Str)] := by rfl) :
    PE X (.Call (.Name "sorted" p) [e] [⟨some "key", .Lambda params (lamB a1 a2 a3 a4 a5) lamSc lpos, kpos⟩] pos) (tSortK X.K T ir ta) := by
  refine ⟨fun pins s σ H Q I h => wpAny_Call_Name_kw (ld_blt (u := .builtin "sorted") I hg hm (by decide +kernel) (PyProof.Rows.callWith_kw (thn (ha.run pos pins s σ H (rSortK X.K T σ ir Q) I h) fun us s1 hh => ?_) h1 h2 h3 h4))⟩
  obtain ⟨vs, H1, I1, rv, l, r, rs, ls, rfl, er, ky, tb, q⟩ := hh
  obtain ⟨v1, rfl, rfl⟩ := vals1 rv
  have hfree : ∀ y ∈ lamSc.names, y.2 = .free → ∃ c, X.env.cells.lookup y.1 = some c := fun y hy e => I1.ok.has y.1 (.inl (by
    have e2 : y = (("ranks" : Str), NameKind.free) := by
      rcases List.mem_cons.mp hy with z | z
      · rw [z] at e; cases e
      · exact List.mem_singleton.mp z
    rw [e2]
    exact hk))
  show wpAny _ _ (evalAll ((do let v ← eval (.Lambda params (lamB a1 a2 a3 a4 a5) lamSc lpos) X.env; standAt pos; pure v) :: [])) _ _ s1
  refine wpAny_evalAll_cons (wpAny_bind (lam_make2 I1 TB hcode hmT hu tb hdef hfree fun f c' pm ctv H2 s2 I2 eN t2 hf hfn hfr hco => ?_))
  refine wpAny_bind (wpAny_standAt (wpAny_pure (wpAny_evalAll_nil ?_)))
  rw [h5]
  show wpAny _ _ (call (.builtin "sorted") [.ref l] [(("key" : Str), .ref f)]) _ _ s2
  have e2 : Ex T H1 H2 := Mv.ofN eN t2
  obtain ⟨itl, rl, pl, zl⟩ := I2.list (e2.l ky.l)
  obtain ⟨itr, rr, ⟨orr, nr, hr1, hr2, hr3, hr4⟩, zr⟩ := I2.list (e2.l ky.r)
  obtain ⟨m, hn, hl⟩ := I2.loc
  obtain ⟨u, ru, lk⟩ := hl ir ("ranks" : Str) (.ref r) hN er (.inr (.inl hk))
  obtain rfl : u = Value.ref r := ru
  obtain ⟨cr, hcr, occ, hoc1, hoc2⟩ : ∃ cr, X.env.cells.lookup ("ranks" : Str) = some cr ∧ s2.heap.IsCell cr (some (.ref r)) := by
    rcases lk with ⟨z, _⟩ | ⟨_, c, z1, z2⟩
    · rw [show X.env.kindOf ("ranks" : Str) = X.env.scope.names.lookup ("ranks" : Str) from rfl, hk] at z; cases z
    · exact ⟨c, z1, z2⟩
  rw [clo_ranks hcr] at hf
  obtain ⟨⟨oc, vc, tc, k1, k2, k3⟩, _, _⟩ := I2.hok c' _ hco
  have zl2 : ls.length ≤ sizeLine := by rw [List.length_map] at zl; exact zl
  have zr2 : rs.length ≤ sizeLine := by rw [List.length_map] at zr; exact zr
  refine PySem.W.sorted_key_data (s := s2) (vs := itl) (bs := ls) (R := fun v i => ∃ t, v = Value.int i t) (b := false) (fun i => .tuple [.int (rk rs i), .int i]) pl.isList (vals_each rl) (PySem.W.AllAlike.of fun _ _ => rfl) (PySem.W.Sortable.tuples fun _ => ⟨_, _, rfl⟩) zl2
    (fun x _ => by have z := hr.un; show X.A.units + 2 + 1 < cLine; omega) (PyProof.Rows.ksk_s1 _ _) (fun _ => PyProof.Rows.ksk_l1 _ _) (fun x => PyProof.Rows.ksk_t1 f x) (fun v i hv hi h tk kp => ?_) (fun out cc h' tk kp hne hout hlen heach => ?_)
  · obtain ⟨t, rfl⟩ := hv
    obtain ⟨b0, b1⟩ := ky.lo i hi
    have hd : X.A.in1.in1.depth < recursionLimit := by have z := hr.dp; show X.A.depth < recursionLimit; omega
    exact key_turn (s := { s2 with heap := h, toks := tk }) hd (I2.nolimit.keeps kp) (kp _ _ hf) (kp _ _ k1) k2 k3 (fun v => hbind _ _ _ _ _ v) (kp _ _ hoc1) hoc2 (kp _ _ hr1) hr2 hr4 rr b0 b1 zr2
  · rw [PySem.W.dataLe_ii (rk rs) (fun i => i)] at heach
    have rv : Vals ((inOrd rs ls).map V.int) out := each_vals heach
    have zo : ((inOrd rs ls).map V.int).length ≤ sizeLine := by
      rw [List.length_map]
      unfold inOrd
      rw [List.length_mergeSort]
      exact zl2
    have fr : H2 (s2.heap.objs.size + 1) = none := I2.hok.fresh (Nat.le_succ _)
    exact ⟨.ref (s2.heap.objs.size + 1), upd H2 (s2.heap.objs.size + 1) (.lst ((inOrd rs ls).map V.int)), I2.laid (t' := tk) kp (Nat.le_succ _) ⟨zo, out, cc, rv, hout⟩, rfl, q _ _ (e2.trans (Mv.new fr)) ⟨_, rfl, e2.nod fr, upd_same⟩⟩
end
end Fp

namespace Fp
open PySem PySem.Spec PyProof.Rows L2 LamX
/-! ### defs by name -/
/-- a def of the module that keeps a promise -/
structure Gd (P : Program) (w : World) (K : PySem.W.Frag) (mg : Str → Option Value) (base : Heap) (CX : CXT) (k : Nat) (x : Str) (ps : List Str) (sp : Sp) : Prop where
  ex : ∃ f fd, FnOk P w K mg base CX k f fd ps sp ∧ mg x = some (.ref f) ∧ PySem.W.keepIn K (.ref f) = true ∧ L2.Binds K fd ps []
/-- where a def stands -/
structure Df (K : PySem.W.Frag) (mg : Str → Option Value) (x : Str) (st : Stmt) : Prop where
  ex : ∃ f fd, FunD K x x (defArgs st) (defBody st) (defScope st) [] [] f fd ∧ mg x = some (.ref f) ∧ f = He.fAd K (x, none)
/-- the built-in names that the module leaves alone -/
structure Bi (mg : Str → Option Value) : Prop where
  len : mg "len" = none
  isinstance : mg "isinstance" = none
  sorted : mg "sorted" = none
  range : mg "range" = none
  list : mg "list" = none
  int : mg "int" = none
  bool : mg "bool" = none
  all : mg "all" = none
  zip : mg "zip" = none
  tuple : mg "tuple" = none
  str : mg "str" = none
  enumerate : mg "enumerate" = none
  min : mg "min" = none
  ve : mg "ValueError" = none
section
variable {X : Cx} {CX : CXT} {k : Nat} {x : Str} {ps : List Str} {sp : Sp} {E : XK} {p pos : Pos} {e : Expr} {es : List Expr} {t : TA}
theorem pe_g (G : Gd X.prog X.w X.K X.mg X.base CX k x ps sp) (hr : Room k X.A) (hg : Gl X x) (hx : Passes CX X E) (ha : PA X (e :: es) t) (hdb : (x == ("__debug__" : Str)) = false := by decide)
    (he : starEach (e :: es) X.env = (false, eval e X.env) :: starEach es X.env := by rfl) (hpl : (backTo pos (starEach es X.env)).any (·.1) = false := by rfl) : PE X (.Call (.Name x p) (e :: es) [] pos) (tCall sp [] E t) := by
  obtain ⟨f, fd, F, h1, h2, h3⟩ := G.ex
  exact pe_call F hr hg h1 h2 h3 .nil hx ha hdb he hpl
end
section
variable {P : Program} {w : World} {K : PySem.W.Frag} {mg : Str → Option Value} {base : Heap} {x : Str} {st : Stmt} {N ps : List Str} {k : Nat} {sp : Sp}
/-- a def that lets nothing out -/
theorem Df.ok0 (D : Df K mg x st) (S : FnScope N ps (defScope st)) (len : ∀ vs H Q E, sp vs H Q E → vs.length = ps.length)
    (hb : ∀ (kV doc pm : Value) (an : Option Addr) (cdv ct : Value) (us : List Value), us.length = ps.length → bindArgs (PySem.W.fnOf x x (defArgs st) (defBody st) (defScope st) .none kV doc pm an cdv ct) ⟨us, []⟩ = pure (ps.zip us))
    (hbody : ∀ (f : Addr) (cdv : Value) (A : Around) (outer : List Env) (s : Shared) (H : Hp) (vs : List V) (Q : VK) (E : XK), Room k (A.deeper (envOfC x (defScope st) s.heap.objs.size f cdv)) → sp vs H Q E →
      ∃ t, PSs (cxOf CX0 P w K mg base N x (defScope st) f cdv A outer s H E).nox (defBody st) t ∧ t { nx := fun _ H' => Q .non H', rt := Q } (start N vs) H) : Gd P w K mg base CX0 (k + 1) x ps sp := by
  obtain ⟨f, fd, F, hm, hf⟩ := D.ex
  refine ⟨f, fd, F.ok S len (fun cdv A outer s H vs Q E hr h => ?_), hm, F.kp, F.bindsN hb⟩
  obtain ⟨t, h1, h2⟩ := hbody f cdv A outer s H vs Q E hr h
  exact ⟨t, h1.nox, h2⟩
/-- a def that may raise -/
theorem Df.okX (D : Df K mg x st) (S : FnScope N ps (defScope st)) (len : ∀ vs H Q E, sp vs H Q E → vs.length = ps.length)
    (hb : ∀ (kV doc pm : Value) (an : Option Addr) (cdv ct : Value) (us : List Value), us.length = ps.length → bindArgs (PySem.W.fnOf x x (defArgs st) (defBody st) (defScope st) .none kV doc pm an cdv ct) ⟨us, []⟩ = pure (ps.zip us))
    (hbody : ∀ (f : Addr) (cdv : Value) (A : Around) (outer : List Env) (s : Shared) (H : Hp) (vs : List V) (Q : VK) (E : XK), Room k (A.deeper (envOfC x (defScope st) s.heap.objs.size f cdv)) → sp vs H Q E →
      ∃ t, PSs (cxOf (L2.CX P w) P w K mg base N x (defScope st) f cdv A outer s H E) (defBody st) t ∧ t { nx := fun _ H' => Q .non H', rt := Q } (start N vs) H) : Gd P w K mg base (L2.CX P w) (k + 1) x ps sp := by
  obtain ⟨f, fd, F, hm, hf⟩ := D.ex
  exact ⟨f, fd, F.ok S len (fun cdv A outer s H vs Q E hr h => hbody f cdv A outer s H vs Q E hr h), hm, F.kp, F.bindsN hb⟩
/-- a def whose own code object is wanted -/
theorem Df.okC (D : Df K mg x st) (S : FnScope N ps (defScope st)) (len : ∀ vs H Q E, sp vs H Q E → vs.length = ps.length)
    (hb : ∀ (kV doc pm : Value) (an : Option Addr) (cdv ct : Value) (us : List Value), us.length = ps.length → bindArgs (PySem.W.fnOf x x (defArgs st) (defBody st) (defScope st) .none kV doc pm an cdv ct) ⟨us, []⟩ = pure (ps.zip us))
    (hbody : ∀ (f : Addr) (cdv : Value) (A : Around) (outer : List Env) (s : Shared) (H : Hp) (vs : List V) (Q : VK) (E : XK), cdv = .ref (He.codeOf K (x, none)) → Room k (A.deeper (envOfC x (defScope st) s.heap.objs.size f cdv)) → sp vs H Q E →
      ∃ t, PSs (cxOf CX0 P w K mg base N x (defScope st) f cdv A outer s H E).nox (defBody st) t ∧ t { nx := fun _ H' => Q .non H', rt := Q } (start N vs) H) : Gd P w K mg base CX0 (k + 1) x ps sp := by
  obtain ⟨f, fd, F, hm, hf⟩ := D.ex
  refine ⟨f, fd, ?_, hm, F.kp, F.bindsN hb⟩
  obtain ⟨oc, od, dV, kV, doc, pm, an, cdv, ct, osl, rfl, lk, hcd, _, _⟩ := F.ex
  obtain ⟨c, hc⟩ := He.codeIn_ref hcd
  refine fn_of lk hcd S len fun A outer s H vs Q E hr hsp => ?_
  obtain ⟨t, h, q⟩ := hbody f cdv A outer s H vs Q E (hc.trans (congrArg Value.ref (He.codeOf_eq (p := (x, none)) (by rw [← hf]; exact lk) hc).symm)) hr hsp
  exact ⟨t, h.nox, q⟩
end
/-! ### statements in a row; the slots told anew -/
section
variable {T : List (Addr × Str)} {K : PySem.W.Frag} {σ σ2 : L2.St} {H H0 : Hp} {te ta tb : TE} {t : TT} {v : V} {R : Hp → V → Hp → Prop} {D : Ends} {u tu tw : TS} {i : Nat}
theorem q_asg (e : Ex T H0 H) (h : Ev T te σ H0 v) (hs : σ.set i (some v) = σ2) (k : ∀ H1, Ex T H0 H1 → Ex T H H1 → u D σ2 H1) : tSeq (tAsg te (gName i)) u D σ H := h H e _ fun H1 e1 => by
  show u D (σ.set i (some v)) H1
  rw [hs]
  exact k H1 (e.trans e1) e1
theorem q_asgR (e : Ex T H0 H) (h : EvR T te σ H0 R) (k : ∀ w H1 σ2, σ.set i (some w) = σ2 → Ex T H0 H1 → Ex T H H1 → R H w H1 → u D σ2 H1) : tSeq (tAsg te (gName i)) u D σ H := h H e _ fun w H1 e1 r => k w H1 _ rfl (e.trans e1) e1 r
theorem q_if {b : Bool} (e : Ex T H0 H) (h : EvT T t σ H0 b) (h1 : b = true → ∀ H1, Ex T H0 H1 → Ex T H H1 → tu { D with nx := u D } σ H1) (h2 : b = false → ∀ H1, Ex T H0 H1 → Ex T H H1 → tw { D with nx := u D } σ H1) : tSeq (tIfS t tu tw) u D σ H := s_if e h h1 h2
theorem q_drop (e : Ex T H0 H) (h : Ev T te σ H0 v) (k : ∀ H1, Ex T H0 H1 → Ex T H H1 → u D σ H1) : tSeq (tDrop te) u D σ H := s_drop e h k
theorem q_cut (Mid : L2.St → Hp → Prop) (h1 : tu { D with nx := Mid } σ H) (h2 : ∀ σ' H', Mid σ' H' → tw D σ' H') : Evl.tCut tu tw D σ H := ⟨Mid, h1, h2⟩
theorem q_next (h : D.nx σ H) : tNext D σ H := h
end
end Fp
namespace Fp
open PySem PySem.Spec PyProof.Rows L2 LamX
/-! ### operators by short names -/
abbrev oAdd : R2 := rI0 fun i j => .int (i + j)
abbrev oSub : R2 := rI0 fun i j => .int (i - j)
abbrev oMul : R2 := rI CMul fun i j => .int (i * j)
abbrev oMod : R2 := rI (fun _ j => 0 < j) fun i j => .int (i % j)
abbrev oDiv : R2 := rI CDivW fun i j => .int (i / j)
abbrev oPow : R2 := rI CPow fun i j => .int (i ^ j.toNat)
abbrev oLt : R2 := rI0 fun i j => .bl (decide (i < j))
abbrev oLe : R2 := rI0 fun i j => .bl (decide (i ≤ j))
abbrev oGt : R2 := rI0 fun i j => .bl (decide (j < i))
abbrev oGe : R2 := rI0 fun i j => .bl (decide (j ≤ i))
abbrev oIsN : R2 := fun x y H Q => y = .non ∧ Q (.bl (decide (x = .non))) H
abbrev oNotN : R2 := fun x y H Q => y = .non ∧ Q (.bl (!decide (x = .non))) H
def rInsert : V → List V → Hp → VK → Prop := fun x vs H Q => ∃ (l : Addr) (xs : List V) (i : Int) (y : V), x = .ref l ∧ vs = [.int i, y] ∧ H l = some (.lst xs) ∧ xs.length < sizeLine ∧ 0 ≤ i ∧ i < 2 ^ 63 ∧ Q .non (upd H l (.lst (xs.take i.toNat ++ [y] ++ xs.drop i.toNat)))
def rInt1 : List V → Hp → VK → Prop := fun xs H Q => (∃ i, xs = [.int i] ∧ Q (.int i) H) ∨ ∃ k, xs = [.bl k] ∧ Q (.int (if k then 1 else 0)) H
def rMin2 : List V → Hp → VK → Prop := fun xs H Q => ∃ i j, xs = [.int i, .int j] ∧ Q (.int (if j < i then j else i)) H
section
variable {T : List (Addr × Str)} {K : PySem.W.Frag} {σ : L2.St} {H H0 : Hp} {te ta tb : TE} {v z : V} {R : Hp → V → Hp → Prop}
theorem ev_call0 {sp : Sp} {vs : List V} {E : XK} {ta : TA} (h : EvA T ta σ H vs) (hs : SpV T sp vs H z) : Ev T (tCall sp [] E ta) σ H z := ev_call h (List.append_nil vs) hs
theorem er_call0 {sp : Sp} {vs : List V} {E : XK} {ta : TA} (h : EvA T ta σ H vs) (hs : SpR T sp vs H R) (hm : ∀ H1 H2 v H3, Ex T H H1 → Ex T H1 H2 → Ex T H2 H3 → R H2 v H3 → R H1 v H3) : EvR T (tCall sp [] E ta) σ H R := er_call h (List.append_nil vs) hs hm
theorem el_call0 {sp : Sp} {vs xs : List V} {E : XK} {ta : TA} (h : EvA T ta σ H vs) (hs : SpR T sp vs H (newL xs)) : EvL T (tCall sp [] E ta) σ H xs := er_call h (List.append_nil vs) hs newL_back
theorem ev_p60 : Ev T (tOp oPow (tC (.int 10)) (tC (.int 60))) σ H (.int 1000000000000000000000000000000000000000000000000000000000000) := ev_is (ev_op ev_c ev_c (rv_i ⟨by decide, by decide, by decide⟩)) (by decide +kernel)
theorem ev_p59 : Ev T (tOp oPow (tC (.int 10)) (tC (.int 59))) σ H (.int 100000000000000000000000000000000000000000000000000000000000) := ev_is (ev_op ev_c ev_c (rv_i ⟨by decide, by decide, by decide⟩)) (by decide +kernel)
theorem ev_p58 : Ev T (tOp oPow (tC (.int 10)) (tC (.int 58))) σ H (.int 10000000000000000000000000000000000000000000000000000000000) := ev_is (ev_op ev_c ev_c (rv_i ⟨by decide, by decide, by decide⟩)) (by decide +kernel)
theorem ev_p57 : Ev T (tOp oPow (tC (.int 10)) (tC (.int 57))) σ H (.int 1000000000000000000000000000000000000000000000000000000000) := ev_is (ev_op ev_c ev_c (rv_i ⟨by decide, by decide, by decide⟩)) (by decide +kernel)
theorem ev_p30 : Ev T (tOp oPow (tC (.int 10)) (tC (.int 30))) σ H (.int 1000000000000000000000000000000) := ev_is (ev_op ev_c ev_c (rv_i ⟨by decide, by decide, by decide⟩)) (by decide +kernel)
/-- an item of a list of whole numbers -/
theorem ix_int {ns : List Int} {i : Int} (h0 : 0 ≤ i) (h1 : i < ns.length) : atI (ns.map V.int) i = some (.int (rk ns i)) := by
  have e : ((i.toNat : Nat) : Int) = i := by omega
  have z : atI (ns.map V.int) ((i.toNat : Nat) : Int) = some (.int (rk ns i)) := atI_nat (by
    rw [List.getElem?_map, List.getElem?_eq_getElem (by omega)]
    simp [rk, List.getD_eq_getElem?_getD, List.getElem?_eq_getElem (show i.toNat < ns.length by omega)])
  rwa [e] at z
theorem rv_ixI {p : Addr} {ns : List Int} {i : Int} (h : SqL K H p (ns.map V.int)) (h0 : 0 ≤ i) (h1 : i < ns.length) : RV T (rIxL K) (.ref p) (.int i) H (.int (rk ns i)) := rv_ixL h (ix_int h0 h1)
/-- the last item, by -1 -/
theorem ix_neg {xs : List V} {v : V} (h : xs.getLast? = some v) : atI xs (-1) = some v := by
  obtain ⟨ys, rfl⟩ := List.getLast?_eq_some_iff.mp h
  exact atI_last _ _
theorem kd_l {H : Hp} {a : Addr} {xs : List V} (h : H a = some (.lst xs)) : kd H (.ref a) = "list" := by simp only [kd, h]
theorem kd_t {H : Hp} {a : Addr} {xs : List V} (h : H a = some (.tup xs)) : kd H (.ref a) = "tuple" := by simp only [kd, h]
theorem rc_isB {b : Bool} {c : String} (hc : c = "int" ∨ c = "bool" ∨ c = "list" ∨ c = "tuple" ∨ c = "str") : RC T rIs [.bl b, .ty c] H (.bl (isK "bool" c)) := rc_is rfl (by decide) hc
theorem rc_isI {i : Int} {c : String} (hc : c = "int" ∨ c = "bool" ∨ c = "list" ∨ c = "tuple" ∨ c = "str") : RC T rIs [.int i, .ty c] H (.bl (isK "int" c)) := rc_is rfl (by decide) hc
theorem rc_isS {i : Str} {c : String} (hc : c = "int" ∨ c = "bool" ∨ c = "list" ∨ c = "tuple" ∨ c = "str") : RC T rIs [.str i, .ty c] H (.bl (isK "str" c)) := rc_is rfl (by decide) hc
theorem rc_isN {c : String} (hc : c = "int" ∨ c = "bool" ∨ c = "list" ∨ c = "tuple" ∨ c = "str") : RC T rIs [.non, .ty c] H (.bl (isK "NoneType" c)) := rc_is rfl (by decide) hc
theorem rc_isL {a : Addr} {xs : List V} {c : String} (h : H a = some (.lst xs)) (hc : c = "int" ∨ c = "bool" ∨ c = "list" ∨ c = "tuple" ∨ c = "str") : RC T rIs [.ref a, .ty c] H (.bl (isK "list" c)) := rc_is (kd_l h) (by decide) hc
theorem rc_isT {a : Addr} {xs : List V} {c : String} (h : H a = some (.tup xs)) (hc : c = "int" ∨ c = "bool" ∨ c = "list" ∨ c = "tuple" ∨ c = "str") : RC T rIs [.ref a, .ty c] H (.bl (isK "tuple" c)) := rc_is (kd_t h) (by decide) hc
/-- whether a thing is a whole number -/
def isI : V → Bool
  | .int _ => true
  | _ => false
theorem isI_kd {H : Hp} {x : V} : (isK (kd H x) "int" && !isK (kd H x) "bool") = isI x := by
  cases x with
  | ref a =>
    show (isK (match H a with | some (.lst _) => "list" | some (.tup _) => "tuple" | some (.dK _) => "dict" | some (.frz _ (.lst _)) => "list" | _ => "") "int" && _) = false
    split <;> rfl
  | _ => rfl
theorem et_orT {t u : TT} (h : EvT T t σ H true) : EvT T (tOr t u) σ H true := et_is (et_or (b := true) h fun z => nomatch z) rfl
theorem et_andF {t u : TT} (h : EvT T t σ H false) : EvT T (tAnd t u) σ H false := et_is (et_and (b := true) h fun z => nomatch z) rfl
theorem et_orF {t u : TT} {b : Bool} (h : EvT T t σ H false) (h2 : EvT T u σ H b) : EvT T (tOr t u) σ H b := et_is (et_or (b := b) h fun _ => h2) (Bool.false_or b)
theorem et_andT {t u : TT} {b : Bool} (h : EvT T t σ H true) (h2 : EvT T u σ H b) : EvT T (tAnd t u) σ H b := et_is (et_and (b := b) h fun _ => h2) (Bool.true_and b)
theorem nextI {D : Ends} {σ : L2.St} {H : Hp} (h : D.nx σ H) : tNext D σ H := h
end
end Fp

local macro_rules | `(tactic| walk_at "fact") => `(tactic| first | assumption | exact Or.inl (Or.inl ‹_›) | exact Or.inl ‹_› | exact Or.inr ‹_› | exact Or.inl (Or.inl (Or.inl ‹_›)))
local macro_rules | `(tactic| walk_at "num") => `(tactic| first | assumption | omega | decide | (refine And.intro ?_ ?_ <;> walk_at "num") | (refine Or.inl ?_; walk_at "num") | (refine Or.inr ?_; walk_at "num") | (simp only [List.length_map, List.length_append, List.length_cons, List.length_nil] at *; omega))
local macro_rules | `(tactic| walk_at "hyp") => `(tactic| (intro h; (try simp only [decide_eq_true_eq, Bool.not_eq_true', decide_eq_false_iff_not, Bool.and_eq_true, Bool.or_eq_false_iff] at h)))
local macro_rules | `(tactic| walk_at "rv") => `(tactic| with_reducible first | apply Fp.rv_i0 | (apply Fp.rv_i; with_unfolding_all walk_at "num") | apply Fp.rv_eqI | apply Fp.rv_neI | apply Fp.rv_eqB | apply Fp.rv_neB | apply Fp.rv_eqS | apply Fp.rv_isN | apply Fp.rv_notN | (apply Fp.rv_ixI; (· walk_at "fact"); (· walk_at "num"); (· walk_at "num")) | (apply Fp.rv_inI; walk_at "fact") | (apply Fp.rv_niI; walk_at "fact") | apply Fp.rv_isB | (apply Fp.rv_ixL; (· walk_at "fact"); (· first | assumption | with_unfolding_all rfl)) | (apply Fp.rv_ixT; (· walk_at "fact"); (· first | assumption | with_unfolding_all rfl)) | (apply Fp.rv_eq; with_unfolding_all rfl) | (apply Fp.rv_ne; with_unfolding_all rfl))
local macro_rules | `(tactic| walk_at "rc") => `(tactic| with_reducible first | (apply Fp.rc_lenI; walk_at "fact") | (apply Fp.rc_len; walk_at "fact") | (apply Fp.rc_isB; decide) | (apply Fp.rc_isI; decide) | (apply Fp.rc_isS; decide) | (apply Fp.rc_isN; decide) | (apply Fp.rc_isL; (· assumption); (· decide)) | (apply Fp.rc_isT; (· assumption); (· decide)) | (apply Fp.rc_is; (· first | assumption | with_unfolding_all rfl); (· first | assumption | decide); (· decide)))
local macro_rules | `(tactic| walk_at "ev") => `(tactic| with_reducible first | (apply Fp.ev_var; with_unfolding_all rfl) | apply Fp.ev_c | apply Fp.ev_p60 | apply Fp.ev_p59 | apply Fp.ev_p58 | apply Fp.ev_p57 | apply Fp.ev_p30 | (apply Fp.ev_op; (· walk_at "ev"); (· walk_at "ev"); (· walk_at "rv")) | (apply Fp.ev_neg; walk_at "ev") | (apply Fp.ev_cb; (· walk_at "ea"); (· walk_at "rc")) | (apply Fp.ev_call0; (· walk_at "ea"); (· walk_at "sp")) | (apply Fp.ev_and; (· walk_at "ev"); (· walk_at "hyp"; walk_at "ev")) | (apply Fp.ev_or; (· walk_at "ev"); (· walk_at "hyp"; walk_at "ev")) | (apply Fp.ev_not; walk_at "ev") | (apply Fp.ev_chain; (· walk_at "ev"); (· walk_at "ev"); (· walk_at "hyp"; walk_at "ev")))
local macro_rules | `(tactic| walk_at "ea") => `(tactic| with_reducible first | apply Fp.ea_nil | (apply Fp.ea_cons; (· walk_at "ev"); (· walk_at "ea")))
local macro_rules | `(tactic| walk_at "et") => `(tactic| with_reducible first | (apply Fp.et_not; walk_at "et") | (apply Fp.et_and; (· walk_at "et"); (· walk_at "hyp"; walk_at "et")) | (apply Fp.et_or; (· walk_at "et"); (· walk_at "hyp"; walk_at "et")) | (apply Fp.et_test; walk_at "ev") | (apply Fp.et_B; walk_at "ev"))
local macro_rules | `(tactic| walk_at "slot") => `(tactic| (simp only [List.set_cons_zero, List.set_cons_succ]))
local macro_rules | `(tactic| walk_at "mem") => `(tactic| repeat (first | exact List.Mem.head _ | apply List.Mem.tail))
namespace Fp
open PySem PySem.Spec PyProof.Rows L2 LamX
/-! ### ranks: what is meant -/
/-- a line comes before another one -/
def bef (rs : List Int) (i j : Int) : Bool := decide (rk rs i < rk rs j ∨ (rk rs i = rk rs j ∧ i < j))
def fstStep (rs : List Int) (f : Option Int) (i : Int) : Option Int := match f with
  | none => some i
  | some j => if bef rs i j = true then some i else some j
def fstOf (rs ls : List Int) : Option Int := ls.foldl (fstStep rs) none
/-- a whole number or None -/
def oI : Option Int → V
  | none => .non
  | some i => .int i
/-- a number that is a line's -/
def inR (rs : List Int) (i : Int) : Prop := 0 ≤ i ∧ i < rs.length

def sp_is_whole (_K : PySem.W.Frag) (T : List (Addr × Str)) : Sp := fun vs H Q _ => ∃ x, vs = [x] ∧ kd H x ≠ "" ∧ ∀ H', Ex T H H' → Q (.bl (isI x)) H'
def sp_before (K : PySem.W.Frag) (T : List (Addr × Str)) : Sp := fun vs H Q _ => ∃ r i j rs, vs = [.ref r, .int i, .int j] ∧ SqL K H r (rs.map V.int) ∧ inR rs i ∧ inR rs j ∧ ∀ H', Ex T H H' → Q (.bl (bef rs i j)) H'
def sp_in_order (K : PySem.W.Frag) (T : List (Addr × Str)) : Sp := fun vs H Q _ => ∃ r l rs ls, vs = [.ref r, .ref l] ∧ Kys K H l r rs ls ∧ Tabs T H ∧ ∀ v H', Ex T H H' → newL ((inOrd rs ls).map V.int) H v H' → Q v H'
def sp_first_of (K : PySem.W.Frag) (T : List (Addr × Str)) : Sp := fun vs H Q _ => ∃ r l rs ls, vs = [.ref r, .ref l] ∧ Kys K H l r rs ls ∧ ∀ H', Ex T H H' → Q (oI (fstOf rs ls)) H'
theorem len_is_whole {K : PySem.W.Frag} {T : List (Addr × Str)} : ∀ vs H Q E, sp_is_whole K T vs H Q E → vs.length = 1 := fun vs H Q E h => by
  obtain ⟨_, rfl, _⟩ := h
  exact rfl
theorem len_before {K : PySem.W.Frag} {T : List (Addr × Str)} : ∀ vs H Q E, sp_before K T vs H Q E → vs.length = 3 := fun vs H Q E h => by
  obtain ⟨_, _, _, _, rfl, _⟩ := h
  exact rfl
theorem len_in_order {K : PySem.W.Frag} {T : List (Addr × Str)} : ∀ vs H Q E, sp_in_order K T vs H Q E → vs.length = 2 := fun vs H Q E h => by
  obtain ⟨_, _, _, _, rfl, _⟩ := h
  exact rfl
theorem len_first_of {K : PySem.W.Frag} {T : List (Addr × Str)} : ∀ vs H Q E, sp_first_of K T vs H Q E → vs.length = 2 := fun vs H Q E h => by
  obtain ⟨_, _, _, _, rfl, _⟩ := h
  exact rfl
section
variable {K : PySem.W.Frag} {T : List (Addr × Str)} {H : Hp} {Q : VK} {E : XK} {vs : List V}
theorem v_is_whole {x : V} (h : kd H x ≠ "") : SpV T (sp_is_whole K T) [x] H (.bl (isI x)) := fun H1 e Q q E => ⟨x, rfl, by rw [kd_ex e rfl h]; exact h, q⟩
theorem v_before {r : Addr} {rs : List Int} {i j : Int} (h : SqL K H r (rs.map V.int)) (hi : inR rs i) (hj : inR rs j) : SpV T (sp_before K T) [.ref r, .int i, .int j] H (.bl (bef rs i j)) := fun H1 e Q q E => ⟨r, i, j, rs, rfl, e.l h, hi, hj, q⟩
theorem Kys.ex {H1 : Hp} {l r : Addr} {rs ls : List Int} (k : Kys K H l r rs ls) (e : Ex T H H1) : Kys K H1 l r rs ls := ⟨e.l k.l, e.l k.r, k.lo⟩
theorem v_in_order {r l : Addr} {rs ls : List Int} (k : Kys K H l r rs ls) (t : Tabs T H) : SpR T (sp_in_order K T) [.ref r, .ref l] H (newL ((inOrd rs ls).map V.int)) := fun H1 e Q q E => ⟨r, l, rs, ls, rfl, k.ex e, e.tb t, q⟩
theorem v_first_of {r l : Addr} {rs ls : List Int} (k : Kys K H l r rs ls) : SpV T (sp_first_of K T) [.ref r, .ref l] H (oI (fstOf rs ls)) := fun H1 e Q q E => ⟨r, l, rs, ls, rfl, k.ex e, q⟩
end
def r_is_whole (K : PySem.W.Frag) (T : List (Addr × Str)) : TS :=
  (tRet (tAndV (tCB rIs (tCons (tVar 0) (tCons (tC (.ty "int")) tNil))) (tNotV (tCB rIs (tCons (tVar 0) (tCons (tC (.ty "bool")) tNil))))))
def r_before (K : PySem.W.Frag) (T : List (Addr × Str)) : TS :=
  (tSeq (tIfS (tTest (tOp rNe (tOp (rIxL K) (tVar 0) (tVar 1)) (tOp (rIxL K) (tVar 0) (tVar 2)))) (tRet (tOp oLt (tOp (rIxL K) (tVar 0) (tVar 1)) (tOp (rIxL K) (tVar 0) (tVar 2)))) tNext)
  (tRet (tOp oLt (tVar 1) (tVar 2))))
def r_in_order (K : PySem.W.Frag) (T : List (Addr × Str)) : TS :=
  (tRet (tSortK K T 0 (tCons (tVar 1) tNil)))
def r_first_of (K : PySem.W.Frag) (T : List (Addr × Str)) : TS :=
  (tSeq (tAsg (tC .non) (gName 2))
  (tSeq (tFor (iList K (tVar 1)) (gName 3) (tIfS (tOr (tTest (tOp oIsN (tVar 2) (tC .non))) (tB (tCall (sp_before K T) [] E0 (tCons (tVar 0) (tCons (tVar 3) (tCons (tVar 2) tNil)))))) (tAsg (tVar 3) (gName 2)) tNext))
  (tRet (tVar 2))))
end Fp
local macro_rules | `(tactic| walk_at "sp") => `(tactic| first | exact Fp.v_is_whole (by first | assumption | decide) | exact Fp.v_before (by walk_at "fact") (by assumption) (by assumption) | exact Fp.v_first_of (by assumption))
namespace Fp
open PySem PySem.Spec PyProof.Rows L2 LamX
section
variable {K : PySem.W.Frag} {T : List (Addr × Str)} {H : Hp} {Q : VK} {E : XK} {vs : List V}
theorem p_is_whole (h : sp_is_whole K T vs H Q E) : r_is_whole K T { nx := fun _ H' => Q .non H', rt := Q } (start ["thing"] vs) H := by
  obtain ⟨x, rfl, hx, k⟩ := h
  have a := (rfl : kd H x = kd H x)
  exact s_ret (Mv.of T H) (ev_is (ev_and (ev_cb (by walk_at "ea") (rc_is a hx (by decide))) fun _ => ev_not (ev_cb (by walk_at "ea") (rc_is a hx (by decide)))) (by rw [isI_kd])) k
theorem p_before (h : sp_before K T vs H Q E) : r_before K T { nx := fun _ H' => Q .non H', rt := Q } (start ["ranks", "one", "other"] vs) H := by
  obtain ⟨r, i, j, rs, rfl, hr, ⟨i0, i1⟩, ⟨j0, j1⟩, k⟩ := h
  unfold r_before
  refine q_if (Mv.of T H) (by walk_at "et") (fun hb H1 e _ => ?_) (fun hb H1 e _ => ?_)
  · refine s_ret e (ev_is (by walk_at "ev") ?_) k
    simp only [Bool.not_eq_true', decide_eq_false_iff_not] at hb
    simp [bef, hb]
  · refine nextI ?_
    dsimp only
    refine s_ret e (ev_is (by walk_at "ev") ?_) k
    simp only [Bool.not_eq_false', decide_eq_true_eq] at hb
    simp [bef, hb]
theorem p_in_order (h : sp_in_order K T vs H Q E) : r_in_order K T { nx := fun _ H' => Q .non H', rt := Q } (start ["ranks", "lines"] vs) H := by
  obtain ⟨r, l, rs, ls, rfl, ky, tb, k⟩ := h
  exact ⟨_, rfl, l, r, rs, ls, rfl, rfl, ky, tb, k⟩
theorem item_int {ns : List Int} {i : Nat} {y : V} (h : (ns.map V.int)[i]? = some y) : ∃ z, ns[i]? = some z ∧ y = V.int z := by
  rw [List.getElem?_map] at h
  cases e : ns[i]? with
  | none => rw [e] at h; cases h
  | some z => rw [e] at h; exact ⟨z, rfl, (Option.some.inj h).symm⟩
theorem take_snoc {α : Type} {l : List α} {i : Nat} {x : α} (h : l[i]? = some x) : l.take (i + 1) = l.take i ++ [x] := by
  rw [List.take_add_one, h]
  rfl
theorem fst_snoc {rs ls : List Int} {i : Nat} {z : Int} (h : ls[i]? = some z) : fstOf rs (ls.take (i + 1)) = fstStep rs (fstOf rs (ls.take i)) z := by
  unfold fstOf
  rw [take_snoc h, List.foldl_append]
  rfl
theorem fst_mem {rs : List Int} : ∀ {ls : List Int} {f : Option Int} {z : Int}, ls.foldl (fstStep rs) f = some z → f = some z ∨ z ∈ ls
  | [], f, z, h => .inl h
  | a :: ls, f, z, h => by
    rcases fst_mem (ls := ls) h with e | e
    · cases f with
      | none => exact .inr (by cases e; exact List.mem_cons_self)
      | some j =>
        unfold fstStep at e
        dsimp only at e
        split at e
        · cases e; exact .inr List.mem_cons_self
        · exact .inl e
    · exact .inr (List.mem_cons_of_mem _ e)
theorem p_first_of (h : sp_first_of K T vs H Q E) : r_first_of K T { nx := fun _ H' => Q .non H', rt := Q } (start ["ranks", "lines", "found", "line"] vs) H := by
  obtain ⟨r, l, rs, ls, rfl, ky, k⟩ := h
  unfold r_first_of
  refine q_asg (Mv.of T H) ev_c rfl fun H1 e1 _ => ?_
  refine s_forL (xs := ls.map V.int) e1 (by walk_at "ev") ky.l (fun i σ' H' => ∃ v, σ' = [some (.ref r), some (.ref l), some (oI (fstOf rs (ls.take i))), v] ∧ Ex T H H') (fun H2 e2 _ => ⟨none, rfl, e2⟩) (fun i σ' H' _ ⟨_, _, e⟩ => e.l ky.l) ?_ ?_
  · rintro i x σ' H' hi ⟨v, rfl, e⟩
    obtain ⟨z, hz, rfl⟩ := item_int hi
    have hzl := List.mem_of_getElem? hz
    have hk := ky.r
    have iz := ky.lo z hzl
    have step := fst_snoc (rs := rs) hz
    cases hf : fstOf rs (ls.take i) with
    | none =>
      refine s_if (b := true) e (et_orT (et_is (by walk_at "et") (by simp [oI]))) (fun _ H2 e2 _ => ?_) (fun hb => nomatch hb)
      refine s_asg e2 (by walk_at "ev") fun H3 e3 _ => ⟨some (.int z), ?_, e3⟩
      rw [step, hf]
      rfl
    | some j =>
      have jz : inR rs j := by
        rcases fst_mem hf with q | q
        · cases q
        · exact ky.lo j (List.mem_of_mem_take q)
      refine s_if (b := bef rs z j) e (et_orF (et_is (by walk_at "et") (by simp [oI])) (et_B (ev_call0 (by walk_at "ea") (v_before hk iz jz)))) (fun hb H2 e2 _ => ?_) (fun hb H2 e2 _ => ?_)
      · refine s_asg e2 (by walk_at "ev") fun H3 e3 _ => ⟨some (.int z), ?_, e3⟩
        rw [step, hf]
        simp only [fstStep, hb, if_true, oI]
        rfl
      · refine nextI ⟨some (.int z), ?_, e2⟩
        rw [step, hf]
        simp only [fstStep, hb, oI]
        rfl
  · rintro σ' H' ⟨v, rfl, e⟩
    rw [List.length_map, List.take_length]
    dsimp only
    exact s_ret e (by walk_at "ev") k
end
end Fp

namespace Fp
open PySem PySem.Spec PyProof.Rows L2 LamX
/-! ### data compared -/
mutual
theorem Dp.mv {K : PySem.W.Frag} {H H' : Hp} (m : ∀ a xs, SqL K H a xs → SqL K H' a xs) (t : ∀ a xs, SqT K H a xs → SqT K H' a xs) : ∀ {v : V} {d : PyData}, Dp K H v d → Dp K H' v d
  | _, _, .non => .non
  | _, _, .bl b => .bl b
  | _, _, .int i => .int i
  | _, _, .str x => .str x
  | _, _, .lst h a => .lst (m _ _ h) (DpAll.mv m t a)
  | _, _, .tup h a => .tup (t _ _ h) (DpAll.mv m t a)
theorem DpAll.mv {K : PySem.W.Frag} {H H' : Hp} (m : ∀ a xs, SqL K H a xs → SqL K H' a xs) (t : ∀ a xs, SqT K H a xs → SqT K H' a xs) : ∀ {vs : List V} {ds : List PyData}, DpAll K H vs ds → DpAll K H' vs ds
  | _, _, .nil => .nil
  | _, _, .cons h a => .cons (Dp.mv m t h) (DpAll.mv m t a)
end
section
variable {T : List (Addr × Str)} {K : PySem.W.Frag} {σ : L2.St} {H H' : Hp} {ta tb te : TE} {x y z v : V} {a : Addr} {d e : PyData} {ns ms : List Int}
theorem _root_.L2.Dp.ex (m : Ex T H H') (h : Dp K H v d) : Dp K H' v d := Dp.mv (fun _ _ => m.l) (fun _ _ => m.t) h
/-- a list of whole numbers -/
def dI (ns : List Int) : PyData := .list (ns.map PyData.int)
theorem dp_all : ∀ ns : List Int, DpAll K H (ns.map V.int) (ns.map PyData.int)
  | [] => .nil
  | n :: ns => .cons (.int n) (dp_all ns)
theorem dp_l (h : SqL K H a (ns.map V.int)) : Dp K H (.ref a) (dI ns) := .lst h (dp_all ns)
theorem dp_n (h : H a = some (.lst (ns.map V.int))) : Dp K H (.ref a) (dI ns) := dp_l (.inl (.inl h))
theorem lay_ints : ∀ ns : List Int, PyData.canLayAll0 (ns.map PyData.int) = true ∧ PyData.depthAll (ns.map PyData.int) = 0
  | [] => ⟨rfl, rfl⟩
  | n :: ns => by
    have ih := lay_ints ns
    constructor
    · simp [PyData.canLayAll0, PyData.canLay0, ih.1]
    · simp [PyData.depthAll, PyData.depth, ih.2]
theorem lay_dI : PyData.canLay0 (dI ns) = true ∧ PyData.depth (dI ns) = 1 := by
  have ih := lay_ints ns
  exact ⟨by unfold dI PyData.canLay0; exact ih.1, by unfold dI PyData.depth; rw [ih.2]⟩
theorem sh_dI : SeqAt.shaped (dI ns) = true := by
  have h := lay_dI (ns := ns)
  unfold SeqAt.shaped
  rw [h.1, h.2]
  decide
theorem eqv_all : ∀ ns ms : List Int, PyData.eqvAll (ns.map PyData.int) (ms.map PyData.int) = decide (ns = ms)
  | [], [] => rfl
  | [], _ :: _ => rfl
  | _ :: _, [] => rfl
  | n :: ns, m :: ms => by
    simp only [List.map_cons, PyData.eqvAll, PyData.eqv, eqv_all ns ms, List.cons.injEq, Bool.decide_and]
    rfl
theorem eqv_dI : PyData.eqv (dI ns) (dI ms) = decide (ns = ms) := by
  unfold dI PyData.eqv
  exact eqv_all ns ms
theorem rv_eqD (h1 : Dp K H x d) (h2 : Dp K H y e) (s1 : SeqAt.shaped d = true) (s2 : SeqAt.shaped e = true) : RV T (rEqD K) x y H (.bl (PyData.eqv d e)) := fun H1 m _ q => ⟨d, e, h1.ex m, h2.ex m, s1, s2, q H1 Mv.refl⟩
theorem rv_neD (h1 : Dp K H x d) (h2 : Dp K H y e) (s1 : SeqAt.shaped d = true) (s2 : SeqAt.shaped e = true) : RV T (rNeD K) x y H (.bl (!PyData.eqv d e)) := fun H1 m _ q => ⟨d, e, h1.ex m, h2.ex m, s1, s2, q H1 Mv.refl⟩
/-- the same data on both sides -/
theorem rv_eqDt (h1 : Dp K H x d) (h2 : Dp K H y d) (s1 : SeqAt.shaped d = true) : RV T (rEqD K) x y H (.bl true) := fun H1 m Q q => rv_eqD h1 h2 s1 s1 H1 m Q fun H2 e2 => by
  rw [SeqAt.eqv_refl d (SeqAt.canLay_of_shaped s1)]
  exact q H2 e2
theorem rv_neDf (h1 : Dp K H x d) (h2 : Dp K H y d) (s1 : SeqAt.shaped d = true) : RV T (rNeD K) x y H (.bl false) := fun H1 m Q q => rv_neD h1 h2 s1 s1 H1 m Q fun H2 e2 => by
  rw [SeqAt.eqv_refl d (SeqAt.canLay_of_shaped s1)]
  exact q H2 e2
theorem rv_eqDI (h1 : Dp K H x (dI ns)) (h2 : Dp K H y (dI ms)) : RV T (rEqD K) x y H (.bl (decide (ns = ms))) := fun H1 m Q q => rv_eqD h1 h2 sh_dI sh_dI H1 m Q fun H2 e2 => by
  rw [eqv_dI]
  exact q H2 e2
theorem rv_neDI (h1 : Dp K H x (dI ns)) (h2 : Dp K H y (dI ms)) : RV T (rNeD K) x y H (.bl (!decide (ns = ms))) := fun H1 m Q q => rv_neD h1 h2 sh_dI sh_dI H1 m Q fun H2 e2 => by
  rw [eqv_dI]
  exact q H2 e2
theorem last_of {ns : List Int} (h : ns ≠ []) : ∃ j, ns.getLast? = some j ∧ j ∈ ns := ⟨ns.getLast h, List.getLast?_eq_some_getLast h, List.getLast_mem h⟩
/-! ### a list made of a list -/
variable {α : Type} {tl tt : TE} {t : TT} {vs : List Nat} {j : Nat}
theorem el_lc {as : List α} {g f : α → V} {b : α → Bool} (ha : Ev T tl σ H (.ref a)) (hx : SqL K H a (as.map g)) (hz : as.length ≤ 100000) (hw : ∀ x, wipe ((wipe σ vs).set j (some x)) vs = wipe σ vs)
    (ht : ∀ z ∈ as, EvT T t ((wipe σ vs).set j (some (g z))) H (b z)) (he : ∀ z ∈ as, b z = true → Ev T te ((wipe σ vs).set j (some (g z))) H (f z)) : EvL T (tLc (iList K tl) (gName j) t te vs) σ H ((as.filter b).map f) := fun H1 e Q q =>
  ha H1 e _ fun H2 e2 => ⟨a, rfl, ⟨as.map g, (e.trans e2).l hx⟩, fun D hD => by
    have e3 : Ex T H2 (upd H2 D (.lst [])) := Mv.new hD
    refine lc_list (fun i H' => Ex T H2 H' ∧ H' D = some (.lst (((as.take i).filter b).map f))) ⟨e3, upd_same⟩ (fun i H' _ p => ((e.trans e2).trans p.1).l hx) (fun i x H' hi p => ?_) (fun H' p => ?_)
    · rw [List.getElem?_map] at hi
      cases hj : as[i]? with
      | none => rw [hj] at hi; cases hi
      | some z =>
        rw [hj] at hi
        obtain rfl := Option.some.inj hi
        have hm := List.mem_of_getElem? hj
        have ts : (as.take (i + 1)).filter b = (as.take i).filter b ++ (if b z = true then [z] else []) := by
          rw [List.take_add_one, hj, List.filter_append]
          congr 1
          cases bz : b z <;> simp [bz]
        refine ⟨hw _, ht z hm H' ((e.trans e2).trans p.1) _ fun H3 e3' => ?_⟩
        cases bz : b z with
        | false =>
          rw [bz] at ts
          refine ⟨p.1.trans e3', ?_⟩
          rw [e3'.at p.2, ts]
          simp
        | true =>
          rw [bz] at ts
          refine he z hm bz H3 (((e.trans e2).trans p.1).trans e3') _ fun H4 e4 => ?_
          have k4 := (e3'.trans e4).at p.2
          refine ⟨_, k4, ?_, ((p.1.trans e3').trans e4).set (.inr (.of hD)) k4, ?_⟩
          · refine Nat.lt_of_le_of_lt (Nat.le_trans ?_ (?_ : i ≤ 100000)) (by decide)
            · rw [List.length_map]
              exact Nat.le_trans (List.length_filter_le _ _) (by rw [List.length_take]; exact Nat.min_le_left _ _)
            · have := (List.getElem?_eq_some_iff.mp hj).1
              omega
          · rw [upd_same, ts]
            simp
    · rw [List.length_map, List.take_length] at p
      exact q _ H' (e2.trans p.1) ⟨D, rfl, e2.dm D (.of hD), p.2⟩⟩
theorem et_yes : EvT T tYes σ H true := fun H1 _ _ q => q H1 Mv.refl
theorem el_lcA {as : List α} {g f : α → V} (ha : Ev T tl σ H (.ref a)) (hx : SqL K H a (as.map g)) (hz : as.length ≤ 100000) (hw : ∀ x, wipe ((wipe σ vs).set j (some x)) vs = wipe σ vs)
    (he : ∀ z ∈ as, Ev T te ((wipe σ vs).set j (some (g z))) H (f z)) : EvL T (tLc (iList K tl) (gName j) tYes te vs) σ H (as.map f) := by
  have q := el_lc (b := fun _ => true) (t := tYes) (te := te) (f := f) ha hx hz hw (fun _ _ => et_yes) (fun z hm _ => he z hm)
  rwa [List.filter_eq_self.mpr (fun _ _ => rfl)] at q
theorem el_lcR {n : Nat} {f : Nat → V} {b : Nat → Bool} {ta : TA} (ha : EvA T ta σ H [.int n]) (hz : n ≤ 100000) (hw : ∀ x, wipe ((wipe σ vs).set j (some x)) vs = wipe σ vs)
    (ht : ∀ z, z < n → EvT T t ((wipe σ vs).set j (some (.int (z : Int)))) H (b z)) (he : ∀ z, z < n → b z = true → Ev T te ((wipe σ vs).set j (some (.int (z : Int)))) H (f z)) : EvL T (tLc (iRng1 ta) (gName j) t te vs) σ H (((List.range n).filter b).map f) := fun H1 e Q q =>
  ha H1 e _ fun H2 e2 => ⟨n, rfl, by omega, by omega, fun D hD => by
    have e3 : Ex T H2 (upd H2 D (.lst [])) := Mv.new hD
    refine lc_range (lo := 0) (n := n) (fun i H' => Ex T H2 H' ∧ H' D = some (.lst (((List.range i).filter b).map f))) ⟨e3, upd_same⟩ (fun i H' hi p => ?_) (fun H' p => ?_)
    · have z0 : (0 : Int) + (i : Int) = (i : Int) := Int.zero_add _
      rw [z0]
      have ts : (List.range (i + 1)).filter b = (List.range i).filter b ++ (if b i = true then [i] else []) := by
        rw [List.range_succ, List.filter_append]
        congr 1
        cases bz : b i <;> simp [bz]
      refine ⟨hw _, ht i hi H' ((e.trans e2).trans p.1) _ fun H3 e3' => ?_⟩
      cases bz : b i with
      | false =>
        rw [bz] at ts
        refine ⟨p.1.trans e3', ?_⟩
        rw [e3'.at p.2, ts]
        simp
      | true =>
        rw [bz] at ts
        refine he i hi bz H3 (((e.trans e2).trans p.1).trans e3') _ fun H4 e4 => ?_
        have k4 := (e3'.trans e4).at p.2
        refine ⟨_, k4, ?_, ((p.1.trans e3').trans e4).set (.inr (.of hD)) k4, ?_⟩
        · refine Nat.lt_of_le_of_lt (Nat.le_trans ?_ (?_ : i ≤ 100000)) (by decide)
          · rw [List.length_map]
            exact Nat.le_trans (List.length_filter_le _ _) (by rw [List.length_range]; exact Nat.le_refl _)
          · omega
        · rw [upd_same, ts]
          simp
    · exact q _ H' (e2.trans p.1) ⟨D, rfl, e2.dm D (.of hD), p.2⟩⟩
end
end Fp

namespace Fp
open PySem PySem.Spec PyProof.Rows L2 LamX
/-! ### methods and makings by name -/
/-- the method m of the class c keeps a promise -/
structure Gm (P : Program) (w : World) (K : PySem.W.Frag) (mg : Str → Option Value) (base : Heap) (CX : CXT) (k : Nat) (c m : Str) (ps : List Str) (dvs : List V) (sp : Sp) : Prop where
  cls : Cls K (He.ga K c)
  meth : Meth K (He.ga K c) m (He.ma K (He.ga K c) m)
  ex : ∃ fd ds, FnOk P w K mg base CX k (He.ma K (He.ga K c) m) fd ps sp ∧ L2.Binds K fd ps ds ∧ Vals dvs ds
/-- the class c is made by a promise of its __init__ -/
structure Gk (P : Program) (w : World) (K : PySem.W.Frag) (mg : Str → Option Value) (base : Heap) (CX : CXT) (k : Nat) (c : Str) (ps : List Str) (dvs : List V) (sp : Sp) : Prop where
  mkr : Mk K (He.ga K c) (He.ma K (He.ga K c) "__init__")
  at_ : mg c = some (.ref (He.ga K c))
  ex : ∃ fd ds, FnOk P w K mg base CX k (He.ma K (He.ga K c) "__init__") fd ps sp ∧ L2.Binds K fd ps ds ∧ Vals dvs ds
/-- where a method stands -/
structure Dm (K : PySem.W.Frag) (c m qual : Str) (st : Stmt) (dvs : List V) : Prop where
  cls : Cls K (He.ga K c)
  meth : Meth K (He.ga K c) m (He.ma K (He.ga K c) m)
  ex : ∃ fd, FunD K m qual (defArgs st) (defBody st) (defScope st) dvs [] (He.ma K (He.ga K c) m) fd
theorem passN {X : Cx} {E : XK} (h : ∀ c d H, ¬ E c d H) : Passes (L2.CX X.prog X.w) X E := fun _ _ _ _ _ _ _ ⟨_, _, _, _, _, _, _, _, _, _, _, _, z⟩ => (h _ _ _ z).elim
theorem passE {X : Cx} {E : XK} (tk : Takes X (fun c d _ H => E c d H)) : Passes (L2.CX X.prog X.w) X E := passes_call tk fun _ _ _ _ h => h
section
variable {X : Cx} {CX : CXT} {k : Nat} {c m : Str} {ps : List Str} {dvs : List V} {sp : Sp} {E : XK} {p pos apos : Pos} {e o : Expr} {es : List Expr} {t : TA} {ta : TE} {pl : Sem Bool}
theorem pe_m (G : Gm X.prog X.w X.K X.mg X.base CX k c m ps dvs sp) (hr : Room k X.A) (hx : Passes CX X E) (he : PE X o ta) (ha : PA X (e :: es) t)
    (h1 : starEach (e :: es) X.env = (false, eval e X.env) :: starEach es X.env := by rfl) (h2 : (backTo pos (starEach es X.env)).any (·.1) = false := by rfl)
    (h3 : eval (.Call (.Attribute o m apos) (e :: es) [] pos) X.env = (do
      let a ← eval o X.env
      standAt apos.atName
      let (g, b) ← holding [a] (getMethod a m pl)
      callWith pos g b (backTo pos (starEach (e :: es) X.env)) (backToKw pos (keywordEach [] X.env))) := by rfl) :
    PE X (.Call (.Attribute o m apos) (e :: es) [] pos) (tMeth (He.ga X.K c) m sp dvs E ta t) := by
  obtain ⟨fd, ds, F, b, hd⟩ := G.ex
  exact pe_meth he G.cls G.meth F hr b hd hx ha h1 h2 h3
theorem pe_m0 (G : Gm X.prog X.w X.K X.mg X.base CX k c m ps dvs sp) (hr : Room k X.A) (hx : Passes CX X E) (he : PE X o ta)
    (h3 : eval (.Call (.Attribute o m apos) [] [] pos) X.env = (do
      let a ← eval o X.env
      standAt apos.atName
      let (g, b) ← holding [a] (getMethod a m pl)
      callWith pos g b (backTo pos (starEach [] X.env)) (backToKw pos (keywordEach [] X.env))) := by rfl) :
    PE X (.Call (.Attribute o m apos) [] [] pos) (tMeth (He.ga X.K c) m sp dvs E ta tNil) := by
  obtain ⟨fd, ds, F, b, hd⟩ := G.ex
  exact pe_meth0 he G.cls G.meth F hr b hd hx h3
theorem pe_k (G : Gk X.prog X.w X.K X.mg X.base CX k c ps dvs sp) (hr : Room (k + 1) X.A) (hg : Gl X c) (hx : Passes CX X E) (ha : PA X (e :: es) t)
    (h0 : (c == ("__debug__" : Str)) = false := by decide) (h1 : starEach (e :: es) X.env = (false, eval e X.env) :: starEach es X.env := by rfl) (h2 : (backTo pos (starEach es X.env)).any (·.1) = false := by rfl) :
    PE X (.Call (.Name c p) (e :: es) [] pos) (tMake (He.ga X.K c) sp dvs E t) := by
  obtain ⟨fd, ds, F, b, hd⟩ := G.ex
  exact pe_make G.mkr F hr hg G.at_ b hd hx ha h0 h1 h2
/-! in the body of a try: what is let out is wished of the slots as they are -/
def tMakeS (C : Addr) (sp : Sp) (dvs : List V) (E : L2.St → XK) (t : TA) : TE := fun σ H Q => tMake C sp dvs (E σ) t σ H Q
def tMethS1 (C : Addr) (m : Str) (sp : Sp) (dvs : List V) (E : L2.St → XK) (ta : TE) (t : TA) : TE := fun σ H Q => tMeth C m sp dvs (E σ) ta t σ H Q
theorem run_mkS {pins : List (Addr × Obj)} {σ : L2.St} {H : Hp} {s : Shared} {Q : VK} {us ds : List Value} {vs : List V} {C f : Addr} {fd : FuncData} {W : XK} (M : Mk X.K C f) (F : FnOk X.prog X.w X.K X.mg X.base CX k f fd ps sp) (hr : Room (k + 1) X.A)
    (b : L2.Binds X.K fd ps ds) (hd : Vals dvs ds) (hx : PassesAt CX X σ W) (I : Inv X pins σ H s) (r : Vals vs us)
    (h : ∀ y d, H y = none → H d = none → d ≠ y → sp (.ref y :: (vs ++ dvs)) (upd (upd H d (.own y)) y (.ins C d [])) (fun v H2 => v = .non ∧ Q (.ref y) H2) W) : wpAny (model X.prog X.w) X.A (call (.ref C) us) (EP X pins σ Q) X.xe s := by
  have I2 := Inv.made (C := C) I
  have z := h _ _ (I.hok.fresh (Nat.le_succ s.heap.objs.size)) (I.hok.fresh (Nat.le_refl s.heap.objs.size)) (Nat.ne_of_lt (Nat.lt_succ_self _))
  have rr : Vals (V.ref (s.heap.objs.size + 1) :: (vs ++ dvs)) (.ref (s.heap.objs.size + 1) :: (us ++ ds)) := .cons rfl (r.append hd)
  have n : (Value.ref (s.heap.objs.size + 1) :: us ++ ds).length = ps.length := (F.len _ _ _ _ z) ▸ rr.length.symm
  refine wpAny_call (make_map (f := f) I.kIn M.makes M.init (beq_iff_eq.mp M.fn) (codeAny_mono
    (F.run _ X.stack _ _ ⟨.ref (s.heap.objs.size + 1) :: us, []⟩ _ _ _ W (hr.make C us []) (I2.env0.make C us []) (b _ (.ref (s.heap.objs.size + 1) :: us) I2.kIn n) rr z) fun g s' q => ?_))
  match g, q with
  | .error e, q => exact hx pins _ _ e s' I2 q
  | .ok (.ret u), q =>
    obtain ⟨v, H', I3, rv, rfl, q3⟩ := I2.after q
    exact ⟨rv, ⟨.ref (s.heap.objs.size + 1), H', I3, rfl, q3⟩⟩
  | .ok .next, q => exact q.elim
  | .ok .brk, q => exact q.elim
  | .ok .cont, q => exact q.elim
theorem pe_kS {W : L2.St → XK} (G : Gk X.prog X.w X.K X.mg X.base CX k c ps dvs sp) (hr : Room (k + 1) X.A) (hg : Gl X c) (hx : ∀ σ, PassesAt CX X σ (W σ)) (ha : PA X (e :: es) t)
    (h0 : (c == ("__debug__" : Str)) = false := by decide) (h1 : starEach (e :: es) X.env = (false, eval e X.env) :: starEach es X.env := by rfl) (h2 : (backTo pos (starEach es X.env)).any (·.1) = false := by rfl) :
    PE X (.Call (.Name c p) (e :: es) [] pos) (tMakeS (He.ga X.K c) sp dvs W t) := by
  obtain ⟨fd, ds, F, b, hd⟩ := G.ex
  refine ⟨fun pins s σ H Q I h => wpAny_Call_Name_kw (ld_glob I hg G.at_ (PySem.W.callWith_K (h₀ := X.base) I.ok.mod.kin G.mkr.kp (thn (ha.run pos pins s σ H _ I h) fun us s1 ⟨vs, H1, I1, r, q⟩ => ⟨I1.kIn, run_mkS G.mkr F hr b hd (hx σ) I1 r q⟩) h1 h2) h0)⟩
theorem pe_mS {W : L2.St → XK} (G : Gm X.prog X.w X.K X.mg X.base CX k c m ps [] sp) (hr : Room k X.A) (hx : ∀ σ, PassesAt CX X σ (W σ)) (he : PE X o ta) (ha : PA X (e :: es) t)
    (h1 : starEach (e :: es) X.env = (false, eval e X.env) :: starEach es X.env := by rfl) (h2 : (backTo pos (starEach es X.env)).any (·.1) = false := by rfl)
    (h3 : eval (.Call (.Attribute o m apos) (e :: es) [] pos) X.env = (do
      let a ← eval o X.env
      standAt apos.atName
      let (g, b) ← holding [a] (getMethod a m pl)
      callWith pos g b (backTo pos (starEach (e :: es) X.env)) (backToKw pos (keywordEach [] X.env))) := by rfl) :
    PE X (.Call (.Attribute o m apos) (e :: es) [] pos) (tMethS1 (He.ga X.K c) m sp [] W ta t) := by
  obtain ⟨fd, ds, F, b, hd⟩ := G.ex
  obtain rfl : ds = [] := by cases hd; rfl
  refine ⟨fun pins s σ H Q I h => PySem.W.methodCall_KW (pl := pl) (thn (he.run pins s σ H _ I h) fun u s1 ⟨x, H1, I1, rx, a, dx, fs, ex, ea, l, q⟩ => ?_) h3⟩
  subst ex
  obtain rfl : u = Value.ref a := rx
  refine getmeth_ok I1 ea G.cls G.meth l ?_
  refine PySem.W.callWith_K (h₀ := X.base) (first := [.ref a]) I1.ok.mod.kin G.meth.kp (thn (ha.run pos pins s1 σ H1 _ I1 q) fun us s2 ⟨vs, H2, I2, r, q2⟩ => ⟨I2.kIn, ?_⟩) h1 h2
  have q2 : sp (.ref a :: (vs ++ [])) H2 Q (W σ) := q2
  rw [List.append_nil] at q2
  exact run_fnS (us := .ref a :: us) (vs := .ref a :: vs) F hr b (hx σ) I2 (.cons rfl r) q2
end
section
variable {P : Program} {w : World} {K : PySem.W.Frag} {mg : Str → Option Value} {base : Heap} {c m qual : Str} {st : Stmt} {N ps : List Str} {k : Nat} {sp : Sp} {dvs : List V}
theorem bindN {f : Addr} {fd : FuncData} (hb : ∀ (kV doc pm : Value) (an : Option Addr) (cdv ct : Value) (us : List Value), us.length = ps.length → bindArgs (PySem.W.fnOf m qual (defArgs st) (defBody st) (defScope st) .none kV doc pm an cdv ct) ⟨us, []⟩ = pure (ps.zip us))
    (F : FunD K m qual (defArgs st) (defBody st) (defScope st) [] [] f fd) : ∃ ds, L2.Binds K fd ps ds ∧ Vals [] ds := ⟨[], F.bindsN hb, .nil⟩
/-- a method that lets nothing out -/
theorem Dm.fn0 {dv0 : List V} (D : Dm K c m qual st dv0) (S : FnScope N ps (defScope st)) (len : ∀ vs H Q E, sp vs H Q E → vs.length = ps.length) (hb : ∀ f fd, FunD K m qual (defArgs st) (defBody st) (defScope st) dv0 [] f fd → ∃ ds, L2.Binds K fd ps ds ∧ Vals dvs ds)
    (hbody : ∀ (f : Addr) (cdv : Value) (A : Around) (outer : List Env) (s : Shared) (H : Hp) (vs : List V) (Q : VK) (E : XK), Room k (A.deeper (envOfC qual (defScope st) s.heap.objs.size f cdv)) → sp vs H Q E →
      ∃ t, PSs (cxOf CX0 P w K mg base N qual (defScope st) f cdv A outer s H E).nox (defBody st) t ∧ t { nx := fun _ H' => Q .non H', rt := Q } (start N vs) H) :
    ∃ fd ds, FnOk P w K mg base CX0 (k + 1) (He.ma K (He.ga K c) m) fd ps sp ∧ L2.Binds K fd ps ds ∧ Vals dvs ds := by
  obtain ⟨fd, F⟩ := D.ex
  obtain ⟨ds, b, v⟩ := hb _ fd F
  refine ⟨fd, ds, F.ok S len (fun cdv A outer s H vs Q E hr h => ?_), b, v⟩
  obtain ⟨t, h1, h2⟩ := hbody _ cdv A outer s H vs Q E hr h
  exact ⟨t, h1.nox, h2⟩
/-- a method that may raise -/
theorem Dm.fnX {dv0 : List V} (D : Dm K c m qual st dv0) (S : FnScope N ps (defScope st)) (len : ∀ vs H Q E, sp vs H Q E → vs.length = ps.length) (hb : ∀ f fd, FunD K m qual (defArgs st) (defBody st) (defScope st) dv0 [] f fd → ∃ ds, L2.Binds K fd ps ds ∧ Vals dvs ds)
    (hbody : ∀ (f : Addr) (cdv : Value) (A : Around) (outer : List Env) (s : Shared) (H : Hp) (vs : List V) (Q : VK) (E : XK), Room k (A.deeper (envOfC qual (defScope st) s.heap.objs.size f cdv)) → sp vs H Q E →
      ∃ t, PSs (cxOf (L2.CX P w) P w K mg base N qual (defScope st) f cdv A outer s H E) (defBody st) t ∧ t { nx := fun _ H' => Q .non H', rt := Q } (start N vs) H) :
    ∃ fd ds, FnOk P w K mg base (L2.CX P w) (k + 1) (He.ma K (He.ga K c) m) fd ps sp ∧ L2.Binds K fd ps ds ∧ Vals dvs ds := by
  obtain ⟨fd, F⟩ := D.ex
  obtain ⟨ds, b, v⟩ := hb _ fd F
  exact ⟨fd, ds, F.ok S len (fun cdv A outer s H vs Q E hr h => hbody _ cdv A outer s H vs Q E hr h), b, v⟩
end
section
variable {P : Program} {w : World} {K : PySem.W.Frag} {mg : Str → Option Value} {base : Heap} {c m qual : Str} {st : Stmt} {N ps : List Str} {k : Nat} {sp : Sp} {dvs : List V} {CX : CXT}
theorem Dm.gm {dv0 : List V} (D : Dm K c m qual st dv0) (h : ∃ fd ds, FnOk P w K mg base CX k (He.ma K (He.ga K c) m) fd ps sp ∧ L2.Binds K fd ps ds ∧ Vals dvs ds) : Gm P w K mg base CX k c m ps dvs sp := ⟨D.cls, D.meth, h⟩
/-- where an __init__ stands -/
structure Dk (K : PySem.W.Frag) (mg : Str → Option Value) (c qual : Str) (st : Stmt) (dvs : List V) : Prop where
  mkr : Mk K (He.ga K c) (He.ma K (He.ga K c) "__init__")
  at_ : mg c = some (.ref (He.ga K c))
  dm : Dm K c "__init__" qual st dvs
theorem Dk.gk {dv0 : List V} (D : Dk K mg c qual st dv0) (h : ∃ fd ds, FnOk P w K mg base CX k (He.ma K (He.ga K c) "__init__") fd ps sp ∧ L2.Binds K fd ps ds ∧ Vals dvs ds) : Gk P w K mg base CX k c ps dvs sp := ⟨D.mkr, D.at_, h⟩
theorem Gm.mono {j : Nat} (G : Gm P w K mg base CX j c m ps dvs sp) (h : j ≤ k) : Gm P w K mg base CX k c m ps dvs sp := by
  obtain ⟨fd, ds, F, b, v⟩ := G.ex
  exact ⟨G.cls, G.meth, fd, ds, F.mono h, b, v⟩
/-- either reading -/
def tOr2 (t u : TE) : TE := fun σ H Q => t σ H Q ∨ u σ H Q
theorem pe_either {X : Cx} {e : Expr} {t u : TE} (h1 : PE X e t) (h2 : PE X e u) : PE X e (tOr2 t u) := ⟨fun pins s σ H Q I h => h.elim (h1.run pins s σ H Q I) (h2.run pins s σ H Q I)⟩
theorem pe_gi {X : Cx} {x : Str} {p : Pos} {i : Int} (h : ∃ t, X.mg x = some (.int i t)) (hg : Gl X x) (h0 : (x == ("__debug__" : Str)) = false := by decide) : PE X (.Name x p) (tC (.int i)) := by
  obtain ⟨t, e⟩ := h
  exact pe_glob hg e ⟨t, rfl⟩ h0
theorem pe_gS {X : Cx} {CX : CXT} {k : Nat} {x : Str} {ps : List Str} {sp : Sp} {E : L2.St → XK} {p pos : Pos} {e : Expr} {es : List Expr} {t : TA} (G : Gd X.prog X.w X.K X.mg X.base CX k x ps sp) (hr : Room k X.A) (hg : Gl X x) (hx : ∀ σ, PassesAt CX X σ (E σ)) (ha : PA X (e :: es) t) (h0 : (x == ("__debug__" : Str)) = false := by decide)
    (h1 : starEach (e :: es) X.env = (false, eval e X.env) :: starEach es X.env := by rfl) (h2 : (backTo pos (starEach es X.env)).any (·.1) = false := by rfl) : PE X (.Call (.Name x p) (e :: es) [] pos) (tCallS sp E t) := by
  obtain ⟨f, fd, F, g1, g2, g3⟩ := G.ex
  exact pe_callS F hr hg g1 g2 g3 hx ha h0 h1 h2
/-- try: .. except c as n: .., nothing else let out -/
def tTryAs (K : PySem.W.Frag) (c : Value) (i : Nat) (tb : WX → TS) (ts : Addr → Value → Option Addr → TS) : TS := fun D σ H => tb (wAs K c i ts (fun _ _ _ _ => False) D) D σ H
theorem ps_tryAs {X : Cx} {x n : Str} {c : Value} {i : Nat} {body suite : List Stmt} {b0 : Stmt} {np pos pos' : Pos} {tb : WX → TS} {ts : Addr → Value → Option Addr → TS} (hs : X.stack = X.env :: X.outer) (hf : X.env.frame = some X.env.locals) (hN : X.N.Nodup) (hi : X.N[i]? = some n) (hln : X.env.kindOf n = some .local) (hc : Names X x c)
    (hb : ∀ (W : WX) (pn : List (Addr × Obj)) (xe : Value → Shared → Prop), Takes (X.tr pn xe) W → PassesOwn (model X.prog X.w) X.A X.env xe → PSs (X.tr pn xe) body (tb W))
    (hsu : ∀ (a : Addr) (oe : Obj) (cls : Value) (d : Option Addr) (pn : List (Addr × Obj)), Zc cls d oe → (∃ vs, oe.data = .fields vs) → PSs (X.suite a ((a, oe) :: pn)) (b0 :: suite) (ts a cls d)) :
    PS X (.Try body [.ExceptHandler (some (.Name x np)) (some n) (b0 :: suite) pos'] [] [] pos) (tTryAs X.K c i tb ts) := ps_try_as hs hf hN hi hln hc L2.takes0 hb hsu
end
/-! ### classes of refusals -/
structure Ee (K : PySem.W.Frag) (mg : Str → Option Value) (c : Str) : Prop where
  g : mg c = some (.ref (He.ga K c))
  x : PySem.W.excIn K (He.ga K c) He.veBase "ValueError.__new__" = true
  k : PySem.W.keepIn K (.ref (He.ga K c)) = true
  b : PySem.W.subIn K (.ref (He.ga K c)) (.type "BaseException") = some true
  t : PySem.W.typeIn K (.ref (He.ga K c)) = some (.type "type")
def tRaise (E : XK) (c : Value) : TS := fun _ _ H => E c none H
theorem ps_no {X : Cx} {E : XK} {c z : Str} {j : Nat} {p p2 pos pos' : Pos} (R : Ee X.K X.mg c) (hc : X.calm = true) (tk : Takes X (fun c d _ H => E c d H)) (hg : Gl X c) (h0 : (c == ("__debug__" : Str)) = false := by decide) :
    PS X (.Raise (some (.Call (.Name c p) [.Constant (.str z) j p2] [] pos)) none pos') (tRaise E (.ref (He.ga X.K c))) := ps_raise hc tk (pmk_own PySem.F.excBase_ValueError R.x R.g R.k (raises_own R.b R.t) hg h0)
/-- a block whose walk rests on something that its reading tells -/
theorem pss_ex {α : Type} {X : Cx} {ss : List Stmt} {p : α → Prop} {t : α → TS} (h : ∀ a, p a → PSs X ss (t a)) : PSs X ss (fun D σ H => ∃ a, p a ∧ t a D σ H) := ⟨fun pins s σ H D I ⟨a, pa, q⟩ => (h a pa).run pins s σ H D I q⟩
/-! ### fields -/
section
variable {T : List (Addr × Str)} {K : PySem.W.Frag} {σ : L2.St} {H H0 : Hp} {te ta tb : TE} {v z : V} {R : Hp → V → Hp → Prop} {D : Ends} {u : TS} {a C dx : Addr} {fs : List (Str × V)} {f m : Str} {E : XK} {sp : Sp} {t : TA} {vs dvs ws : List V}
theorem Mv.seq {S S2 : Addr → Prop} {H1 H2 : Hp} (a : Mv T S H H1) (b : Mv T S2 H1 H2) (h : ∀ x, S2 x → S x ∨ Fp.nod H x) : Mv T S H H2 :=
  ⟨fun x o e d s => b.kp x o (a.kp x o e d s) d fun z => (h x z).elim s fun n => by rw [n o e] at d; exact Bool.noConfusion d, fun x n => a.dm x (b.dm x n), fun x => b.tb (a.tb x)⟩
theorem ev_fld (ho : Ev T ta σ H (.ref a)) (ha : H a = some (.ins C dx fs)) (c : Cls K C) (n : NoAttr K C f) (l : fs.lookup f = some v) : Ev T (tFld K ta f) σ H v := fun H1 e Q q =>
  ho H1 e _ fun H2 e2 => ⟨a, C, dx, fs, v, rfl, (e.trans e2).at ha, c, n, l, q H2 e2⟩
theorem ev_meth (ho : Ev T ta σ H (.ref a)) (ha : H a = some (.ins C dx fs)) (l : fs.lookup m = none) (h : EvA T t σ H vs) (hw : .ref a :: (vs ++ dvs) = ws) (hs : SpV T sp ws H z) : Ev T (tMeth C m sp dvs E ta t) σ H z := fun H1 e Q q =>
  ho H1 e _ fun H2 e2 => ⟨a, dx, fs, rfl, (e.trans e2).at ha, l, h H2 (e.trans e2) _ fun H3 e3 => by
    rw [hw]
    exact hs H3 ((e.trans e2).trans e3) Q (fun H4 e4 => q H4 ((e2.trans e3).trans e4)) E⟩
theorem er_meth (ho : Ev T ta σ H (.ref a)) (ha : H a = some (.ins C dx fs)) (l : fs.lookup m = none) (h : EvA T t σ H vs) (hw : .ref a :: (vs ++ dvs) = ws) (hs : SpR T sp ws H R) (hm : ∀ H1 H2 v H3, Ex T H H1 → Ex T H1 H2 → Ex T H2 H3 → R H2 v H3 → R H1 v H3) : EvR T (tMeth C m sp dvs E ta t) σ H R := fun H1 e Q q =>
  ho H1 e _ fun H2 e2 => ⟨a, dx, fs, rfl, (e.trans e2).at ha, l, h H2 (e.trans e2) _ fun H3 e3 => by
    rw [hw]
    exact hs H3 ((e.trans e2).trans e3) Q (fun v H4 e4 r => q v H4 ((e2.trans e3).trans e4) (hm H1 H3 v H4 e (e2.trans e3) e4 r)) E⟩
/-- o.f = e -/
theorem s_fld (e : Ex T H0 H) (h : Ev T te σ H0 v) (ho : Ev T ta σ H0 (.ref a)) (ha : H a = some (.ins C dx fs)) (c : Cls K C) (n : NoAttr K C f) (hl : fs.length ≤ 100) (k : ∀ H1, Ex T H0 H1 → Ex T H H1 → D.nx σ (upd H1 a (.ins C dx (putF f v fs)))) : sFld K ta te f D σ H :=
  h H e _ fun H1 e1 => ho H1 (e.trans e1) _ fun H2 e2 => ⟨a, C, dx, fs, rfl, e2.at (e1.at ha), c, n, by omega, k H2 ((e.trans e1).trans e2) (e1.trans e2)⟩
theorem s_fldR (e : Ex T H0 H) (h : EvR T te σ H0 R) (ho : Ev T ta σ H0 (.ref a)) (ha : H a = some (.ins C dx fs)) (c : Cls K C) (n : NoAttr K C f) (hl : fs.length ≤ 100) (k : ∀ w H1 H2, Ex T H0 H1 → Ex T H H1 → R H w H1 → Ex T H1 H2 → D.nx σ (upd H2 a (.ins C dx (putF f w fs)))) : sFld K ta te f D σ H :=
  h H e _ fun w H1 e1 r => ho H1 (e.trans e1) _ fun H2 e2 => ⟨a, C, dx, fs, rfl, e2.at (e1.at ha), c, n, by omega, k w H1 H2 (e.trans e1) e1 r e2⟩
/-- o.m(..), as a statement: what its promise asks -/
theorem s_meth (e : Ex T H0 H) (ho : Ev T ta σ H0 (.ref a)) (ha : H a = some (.ins C dx fs)) (l : fs.lookup m = none) (h : EvA T t σ H0 vs) (hw : .ref a :: (vs ++ dvs) = ws) (k : ∀ H1, Ex T H0 H1 → Ex T H H1 → sp ws H1 (fun _ H' => D.nx σ H') E) : tDrop (tMeth C m sp dvs E ta t) D σ H :=
  ho H e _ fun H2 e2 => ⟨a, dx, fs, rfl, e2.at ha, l, h H2 (e.trans e2) _ fun H3 e3 => by
    rw [hw]
    exact k H3 ((e.trans e2).trans e3) (e2.trans e3)⟩
theorem s_asgMeth {i : Nat} (e : Ex T H0 H) (ho : Ev T ta σ H0 (.ref a)) (ha : H a = some (.ins C dx fs)) (l : fs.lookup m = none) (h : EvA T t σ H0 vs) (hw : .ref a :: (vs ++ dvs) = ws) (k : ∀ H1, Ex T H0 H1 → Ex T H H1 → sp ws H1 (fun v H' => D.nx (σ.set i (some v)) H') E) : tAsg (tMeth C m sp dvs E ta t) (gName i) D σ H :=
  ho H e _ fun H2 e2 => ⟨a, dx, fs, rfl, e2.at ha, l, h H2 (e.trans e2) _ fun H3 e3 => by
    rw [hw]
    exact k H3 ((e.trans e2).trans e3) (e2.trans e3)⟩
/-- a def called as a statement -/
theorem s_call (e : Ex T H0 H) (h : EvA T t σ H0 vs) (k : ∀ H1, Ex T H0 H1 → Ex T H H1 → sp vs H1 (fun _ H' => D.nx σ H') E) : tDrop (tCall sp [] E t) D σ H := h H e _ fun H2 e2 => by
  rw [List.append_nil]
  exact k H2 (e.trans e2) e2
theorem q_fld (fs2 : V → List (Str × V)) (e : Ex T H0 H) (h : Ev T te σ H0 v) (ho : Ev T ta σ H0 (.ref a)) (ha : H a = some (.ins C dx fs)) (c : Cls K C) (n : NoAttr K C f) (hl : fs.length ≤ 100) (hf : ∀ w, putF f w fs = fs2 w) (k : ∀ H1, Ex T H0 H1 → Ex T H H1 → u D σ (upd H1 a (.ins C dx (fs2 v)))) : tSeq (sFld K ta te f) u D σ H :=
  s_fld (D := { D with nx := u D }) e h ho ha c n hl fun H1 z1 z2 => by
    rw [hf]
    exact k H1 z1 z2
theorem t_fld (fs2 : V → List (Str × V)) (e : Ex T H0 H) (h : Ev T te σ H0 v) (ho : Ev T ta σ H0 (.ref a)) (ha : H a = some (.ins C dx fs)) (c : Cls K C) (n : NoAttr K C f) (hl : fs.length ≤ 100) (hf : ∀ w, putF f w fs = fs2 w) (k : ∀ H1, Ex T H0 H1 → Ex T H H1 → D.nx σ (upd H1 a (.ins C dx (fs2 v)))) : sFld K ta te f D σ H :=
  s_fld e h ho ha c n hl fun H1 z1 z2 => by
    rw [hf]
    exact k H1 z1 z2
theorem q_fldR (fs2 : V → List (Str × V)) (e : Ex T H0 H) (h : EvR T te σ H0 R) (ho : Ev T ta σ H0 (.ref a)) (ha : H a = some (.ins C dx fs)) (c : Cls K C) (n : NoAttr K C f) (hl : fs.length ≤ 100) (hf : ∀ w, putF f w fs = fs2 w) (k : ∀ w H1 H2, Ex T H0 H1 → Ex T H H1 → R H w H1 → Ex T H1 H2 → u D σ (upd H2 a (.ins C dx (fs2 w)))) : tSeq (sFld K ta te f) u D σ H :=
  s_fldR (D := { D with nx := u D }) e h ho ha c n hl fun w H1 H2 z1 z2 z3 z4 => by
    rw [hf]
    exact k w H1 H2 z1 z2 z3 z4
theorem q_meth (e : Ex T H0 H) (ho : Ev T ta σ H0 (.ref a)) (ha : H a = some (.ins C dx fs)) (l : fs.lookup m = none) (h : EvA T t σ H0 vs) (hw : .ref a :: (vs ++ dvs) = ws) (k : ∀ H1, Ex T H0 H1 → Ex T H H1 → sp ws H1 (fun _ H' => u D σ H') E) : tSeq (tDrop (tMeth C m sp dvs E ta t)) u D σ H :=
  s_meth (D := { D with nx := u D }) e ho ha l h hw k
theorem first_at : ∀ {ns : List Int} {k : Int}, k ∈ ns → ∃ j : Nat, ns[j]? = some k ∧ (∀ m : Nat, m < j → ns[m]? ≠ some k) ∧ ns.eraseIdx j = ns.erase k
  | n :: ns, k, h => by
    by_cases e : n = k
    · subst e
      exact ⟨0, rfl, fun m z => absurd z (Nat.not_lt_zero _), by simp⟩
    · obtain ⟨j, h1, h2, h3⟩ := first_at ((List.mem_cons.mp h).resolve_left (fun z => e z.symm))
      refine ⟨j + 1, h1, fun m z => ?_, ?_⟩
      · cases m with
        | zero => exact fun q => e (Option.some.inj q)
        | succ m => exact h2 m (by omega)
      · rw [List.eraseIdx_cons_succ, h3, List.erase_cons_tail (by simpa using e)]
/-- xs.remove(k) -/
theorem s_rem {l : Addr} {ns : List Int} {k : Int} (e : Ex T H0 H) (hl : H l = some (.lst (ns.map V.int))) (ha : Ev T ta σ H0 (.ref l)) (h : Ev T te σ H0 (.int k)) (hk : k ∈ ns) (q : ∀ H1, Ex T H0 H1 → Ex T H H1 → D.nx σ (upd H1 l (.lst ((ns.erase k).map V.int)))) :
    tDrop (tBM K "list" rRemI ta (tCons te tNil)) D σ H := ha H e _ fun H1 e1 => by
  obtain ⟨j, h1, h2, h3⟩ := first_at hk
  exact ⟨.inl ⟨rfl, _, .inl (.inl (e1.at hl))⟩, h H1 (e.trans e1) _ fun H2 e2 => ⟨l, ns, k, j, rfl, rfl, e2.at (e1.at hl), h1, h2, by rw [h3]; exact q H2 ((e.trans e1).trans e2) (e1.trans e2)⟩⟩
theorem cut_lo {xs : List V} {m : Int} (h : 0 ≤ m) : cutV xs none (some m) = xs.take m.toNat := by
  obtain ⟨k, rfl⟩ := Int.eq_ofNat_of_zero_le h
  unfold cutV
  rw [HT.sIx_none, show HT.sIx xs.length xs.length (some (k : Int)) = min k xs.length from HT.sIx_nat _ _ k, List.drop_zero, Nat.sub_zero]
  show xs.take (min k xs.length) = xs.take k
  rw [← List.take_eq_take_min]
theorem cut_hi {xs : List V} {m : Int} (h : 0 ≤ m) : cutV xs (some m) none = xs.drop m.toNat := by
  obtain ⟨k, rfl⟩ := Int.eq_ofNat_of_zero_le h
  unfold cutV
  rw [HT.sIx_none, show HT.sIx xs.length 0 (some (k : Int)) = min k xs.length from HT.sIx_nat _ _ k]
  show (xs.drop (min k xs.length)).take (xs.length - min k xs.length) = xs.drop k
  have e : xs.drop (min k xs.length) = xs.drop k := by
    by_cases z : k ≤ xs.length
    · rw [Nat.min_eq_left z]
    · rw [Nat.min_eq_right (by omega), List.drop_length, List.drop_of_length_le (by omega)]
  rw [e, List.take_of_length_le]
  rw [List.length_drop]
  omega
theorem q_app {l : Addr} {xs : List V} (e : Ex T H0 H) (hl : H l = some (.lst xs)) (ha : Ev T ta σ H0 (.ref l)) (h : Ev T te σ H0 v) (hz : xs.length < 100000) (k : ∀ H1, Ex T H0 H1 → Ex T H H1 → u D σ (upd H1 l (.lst (xs ++ [v])))) : tSeq (tDrop (tBM K "list" rAppend ta (tCons te tNil))) u D σ H := s_app (D := { D with nx := u D }) e hl ha h hz k
/-- a + b, lists, the second one new -/
theorem el_cat {p : Addr} {xs ys : List V} (ha : Ev T ta σ H (.ref p)) (hp : H p = some (.lst xs)) (hb : EvL T tb σ H ys) (hz : xs.length + ys.length ≤ 100000) : EvL T (tOp rCat ta tb) σ H (xs ++ ys) := fun H1 e Q q =>
  ha H1 e _ fun H2 e2 => hb H2 (e.trans e2) _ fun _ H3 e3 ⟨b, eb, _, hb⟩ => by
    subst eb
    exact ⟨p, b, xs, ys, rfl, rfl, ((e.trans e2).trans e3).at hp, hb, sz hz, fun n hn => q _ _ ((e2.trans e3).trans (Mv.new hn)) ⟨n, rfl, (e2.trans e3).nod hn, upd_same⟩⟩
/-- a two-place call, the second argument a new list -/
theorem er_callVL {sp : Sp} {E : XK} {t1 t2 : TE} {x : V} {xs : List V} {R : Hp → V → Hp → Prop} (h1 : Ev T t1 σ H x) (h2 : EvL T t2 σ H xs) (hs : ∀ q H1, H1 q = some (.lst xs) → Ex T H H1 → SpR T sp [x, .ref q] H1 R) (hm : ∀ H1 H2 v H3, Ex T H H1 → Ex T H1 H2 → Ex T H2 H3 → R H2 v H3 → R H1 v H3) : EvR T (tCall sp [] E (tCons t1 (tCons t2 tNil))) σ H R := fun H1 e Q q =>
  h1 H1 e _ fun H2 e2 => h2 H2 (e.trans e2) _ fun _ H3 e3 ⟨b, eb, _, hb⟩ => by
    subst eb
    exact hs b H3 hb ((e.trans e2).trans e3) H3 Mv.refl Q (fun v H4 e4 r => q v H4 ((e2.trans e3).trans e4) (hm H1 H3 v H4 e (e2.trans e3) e4 r)) E
/-- xs.append(ys.pop()) -/
theorem s_appPop {l l2 : Addr} {xs ys : List V} {y : V} (e : Ex T H0 H) (ha : Ev T ta σ H0 (.ref l)) (hb : Ev T tb σ H0 (.ref l2)) (hl : H l = some (.lst xs)) (h2 : H l2 = some (.lst ys)) (ne : l ≠ l2) (hy : ys.getLast? = some y) (hz : xs.length < 100000)
    (k : ∀ H1, Ex T H H1 → D.nx σ (upd (upd H1 l2 (.lst ys.dropLast)) l (.lst (xs ++ [y])))) : tDrop (tBM K "list" rAppend ta (tCons (tBM0 K "list" rPop tb) tNil)) D σ H := ha H e _ fun H1 e1 =>
  ⟨.inl ⟨rfl, xs, .inl (.inl (e1.at hl))⟩, hb H1 (e.trans e1) _ fun H2 e2 => ⟨.inl ⟨rfl, ys, .inl (.inl (e2.at (e1.at h2)))⟩, l2, ys, y, rfl, rfl, e2.at (e1.at h2), by rw [← List.getLast?_eq_getElem?]; exact hy,
    l, xs, y, rfl, rfl, by rw [upd_ne ne]; exact e2.at (e1.at hl), szl hz, k H2 (e1.trans e2)⟩⟩
theorem er_callLV {sp : Sp} {E : XK} {t1 t2 : TE} {x : V} {xs : List V} (h1 : EvL T t1 σ H xs) (h2 : Ev T t2 σ H x) (hs : ∀ q H1, H1 q = some (.lst xs) → Ex T H H1 → SpR T sp [.ref q, x] H1 (fun _ v _ => v = z)) : EvR T (tCall sp [] E (tCons t1 (tCons t2 tNil))) σ H (fun _ v _ => v = z) := fun H1 e Q q =>
  h1 H1 e _ fun _ H2 e2 ⟨b, eb, _, hb⟩ => by
    subst eb
    exact h2 H2 (e.trans e2) _ fun H3 e3 => hs b H3 (e3.at hb) ((e.trans e2).trans e3) H3 Mv.refl Q (fun v H4 e4 r => q v H4 ((e2.trans e3).trans e4) r) E
theorem SpR.ofV (h : SpV T sp ws H z) : SpR T sp ws H (fun _ v _ => v = z) := fun H1 e Q q E => h H1 e Q (fun H2 e2 => q z H2 e2 rfl) E
theorem q_pop {l : Addr} {xs : List V} {y : V} (e : Ex T H0 H) (hl : H l = some (.lst xs)) (ha : Ev T ta σ H0 (.ref l)) (hy : xs.getLast? = some y) (k : ∀ H1, Ex T H0 H1 → Ex T H H1 → u D σ (upd H1 l (.lst xs.dropLast))) : tSeq (tDrop (tBM0 K "list" rPop ta)) u D σ H := ha H e _ fun H1 e1 =>
  ⟨.inl ⟨rfl, xs, .inl (.inl (e1.at hl))⟩, l, xs, y, rfl, rfl, e1.at hl, by rw [← List.getLast?_eq_getElem?]; exact hy, k H1 (e.trans e1) e1⟩
end
end Fp

namespace Fp
open PySem PySem.Spec PyProof.Rows L2 LamX
/-! ### pegs: what is meant -/
structure PSt where
  ranks : List Int
  many : Int
  hung : List Int
  book : List Int
  came : Int
  laid : Int
  calls : Int
def PSt.make (rs : List Int) (m : Int) (ls : List Int) : PSt :=
  ⟨rs, m, (inOrd rs ls).take m.toNat, (inOrd rs ls).drop m.toNat, (ls.length : Int), ((inOrd rs ls).take m.toNat).length, 0⟩
/-- comes before the last of them -/
def lastBef (rs hs : List Int) (i : Int) : Bool := match hs.getLast? with
  | some j => bef rs i j
  | none => false
def PSt.press (s : PSt) (i : Int) : Bool := lastBef s.ranks s.hung i || (decide (s.book = []) && decide ((s.hung.length : Int) < s.many))
/-- a peg is made free -/
def PSt.yield (s : PSt) : PSt := if (s.hung.length : Int) = s.many then { s with hung := s.hung.dropLast, book := s.book ++ s.hung.getLast?.toList } else s
def PSt.hang (s : PSt) (i : Int) : PSt := { s with hung := inOrd s.ranks (s.hung ++ [i]), laid := s.laid + 1 }
def PSt.tick (s : PSt) : PSt := { s with came := s.came + 1 }
def PSt.come (s : PSt) (i : Int) : PSt := if s.press i = true then (s.tick.yield).hang i else { s.tick with book := s.book ++ [i] }
def PSt.call (s : PSt) : PSt := { s with hung := (inOrd s.ranks s.book).take s.many.toNat, book := (inOrd s.ranks s.book).drop s.many.toNat, laid := s.laid + ((inOrd s.ranks s.book).take s.many.toNat).length, calls := s.calls + 1 }
def PSt.drop (s : PSt) (i : Int) : PSt := if i ∈ s.hung then { s with hung := s.hung.erase i } else { s with book := s.book.erase i }
def PSt.go (s : PSt) (i : Int) : PSt := if (s.drop i).hung = [] ∧ (s.drop i).book ≠ [] then (s.drop i).call else s.drop i
/-- what holds of pegs -/
structure PWf (s : PSt) : Prop where
  m0 : 1 ≤ s.many
  m1 : s.many ≤ 16
  nr : s.ranks.length ≤ 60
  ih : ∀ i ∈ s.hung, inR s.ranks i
  ib : ∀ i ∈ s.book, inR s.ranks i
  lh : s.hung.length ≤ 100
  lb : s.book.length ≤ 100
/-! ### how they lie in the heap -/
structure PgC (K : PySem.W.Frag) : Prop where
  cls : Cls K (He.ga K "Pegs")
  na : ∀ f ∈ (["ranks", "many", "hung", "book", "came", "laid", "calls"] : List Str), NoAttr K (He.ga K "Pegs") f
abbrev pegF (r m h b c l k : V) : List (Str × V) := [("ranks", r), ("many", m), ("hung", h), ("book", b), ("came", c), ("laid", l), ("calls", k)]
structure PegA (K : PySem.W.Frag) (H : Hp) (a dx r h b : Addr) (s : PSt) : Prop where
  at_ : H a = some (.ins (He.ga K "Pegs") dx (pegF (.ref r) (.int s.many) (.ref h) (.ref b) (.int s.came) (.int s.laid) (.int s.calls)))
  rk : H r = some (.lst (s.ranks.map V.int))
  hg : H h = some (.lst (s.hung.map V.int))
  bk : H b = some (.lst (s.book.map V.int))
  rh : r ≠ h
  rb : r ≠ b
  hb : h ≠ b
structure PegO (K : PySem.W.Frag) (H : Hp) (a : Addr) (s : PSt) (S : Addr → Prop) : Prop where
  ex : ∃ dx r h b, PegA K H a dx r h b s ∧ S a ∧ S r ∧ S h ∧ S b
  pc : PgC K
  wf : PWf s
section
variable {T : List (Addr × Str)} {K : PySem.W.Frag} {H H' : Hp} {a dx r h b q : Addr} {s : PSt} {S S' : Addr → Prop} {σ : L2.St} {ta : TE}
theorem PegA.ex (A : PegA K H a dx r h b s) (e : Ex T H H') : PegA K H' a dx r h b s := ⟨e.at A.at_, e.at A.rk, e.at A.hg, e.at A.bk, A.rh, A.rb, A.hb⟩
theorem PegA.mv (A : PegA K H a dx r h b s) (m : Mv T S H H') (sa : ¬ S a) (sr : ¬ S r) (sh : ¬ S h) (sb : ¬ S b) : PegA K H' a dx r h b s := ⟨m.kp a _ A.at_ rfl sa, m.kp r _ A.rk rfl sr, m.kp h _ A.hg rfl sh, m.kp b _ A.bk rfl sb, A.rh, A.rb, A.hb⟩
theorem PegO.ex' (O : PegO K H a s S) (e : Ex T H H') : PegO K H' a s S := by
  obtain ⟨⟨dx, r, h, b, A, z⟩, pc, wf⟩ := O
  exact ⟨⟨dx, r, h, b, A.ex e, z⟩, pc, wf⟩
/-- pegs out of what is changed stay -/
theorem PegO.mv (O : PegO K H a s S) (m : Mv T S' H H') (d : ∀ x, S x → ¬ S' x) : PegO K H' a s S := by
  obtain ⟨⟨dx, r, h, b, A, sa, sr, sh, sb⟩, pc, wf⟩ := O
  exact ⟨⟨dx, r, h, b, A.mv m (d _ sa) (d _ sr) (d _ sh) (d _ sb), sa, sr, sh, sb⟩, pc, wf⟩
theorem PegO.wk (O : PegO K H a s S) (d : ∀ x, S x → S' x) : PegO K H a s S' := by
  obtain ⟨⟨dx, r, h, b, A, sa, sr, sh, sb⟩, pc, wf⟩ := O
  exact ⟨⟨dx, r, h, b, A, d _ sa, d _ sr, d _ sh, d _ sb⟩, pc, wf⟩
theorem PegA.ar (A : PegA K H a dx r h b s) : r ≠ a := ne_of A.rk A.at_ (fun z => nomatch z)
theorem PegA.ah (A : PegA K H a dx r h b s) : h ≠ a := ne_of A.hg A.at_ (fun z => nomatch z)
theorem PegA.ab (A : PegA K H a dx r h b s) : b ≠ a := ne_of A.bk A.at_ (fun z => nomatch z)
theorem PegA.lr (A : PegA K H a dx r h b s) : SqL K H r (s.ranks.map V.int) := .inl (.inl A.rk)
theorem PegA.lh (A : PegA K H a dx r h b s) : SqL K H h (s.hung.map V.int) := .inl (.inl A.hg)
theorem PegA.lb (A : PegA K H a dx r h b s) : SqL K H b (s.book.map V.int) := .inl (.inl A.bk)
theorem PegA.setF {m c l k : Int} (A : PegA K H a dx r h b s) : PegA K (upd H a (.ins (He.ga K "Pegs") dx (pegF (.ref r) (.int m) (.ref h) (.ref b) (.int c) (.int l) (.int k)))) a dx r h b { s with many := m, came := c, laid := l, calls := k } :=
  ⟨upd_same, by rw [upd_ne A.ar]; exact A.rk, by rw [upd_ne A.ah]; exact A.hg, by rw [upd_ne A.ab]; exact A.bk, A.rh, A.rb, A.hb⟩
theorem PegA.setH {xs : List Int} (A : PegA K H a dx r h b s) (hq : H q = some (.lst (xs.map V.int))) (n1 : r ≠ q) (n2 : q ≠ b) : PegA K (upd H a (.ins (He.ga K "Pegs") dx (pegF (.ref r) (.int s.many) (.ref q) (.ref b) (.int s.came) (.int s.laid) (.int s.calls)))) a dx r q b { s with hung := xs } :=
  ⟨upd_same, by rw [upd_ne A.ar]; exact A.rk, by rw [upd_ne (ne_of hq A.at_ (fun z => nomatch z))]; exact hq, by rw [upd_ne A.ab]; exact A.bk, n1, A.rb, n2⟩
theorem PegA.setB {xs : List Int} (A : PegA K H a dx r h b s) (hq : H q = some (.lst (xs.map V.int))) (n1 : r ≠ q) (n2 : h ≠ q) : PegA K (upd H a (.ins (He.ga K "Pegs") dx (pegF (.ref r) (.int s.many) (.ref h) (.ref q) (.int s.came) (.int s.laid) (.int s.calls)))) a dx r h q { s with book := xs } :=
  ⟨upd_same, by rw [upd_ne A.ar]; exact A.rk, by rw [upd_ne A.ah]; exact A.hg, by rw [upd_ne (ne_of hq A.at_ (fun z => nomatch z))]; exact hq, A.rh, n1, n2⟩
theorem PegA.putH {xs : List Int} (A : PegA K H a dx r h b s) : PegA K (upd H h (.lst (xs.map V.int))) a dx r h b { s with hung := xs } :=
  ⟨by rw [upd_ne (Ne.symm A.ah)]; exact A.at_, by rw [upd_ne A.rh]; exact A.rk, upd_same, by rw [upd_ne (Ne.symm A.hb)]; exact A.bk, A.rh, A.rb, A.hb⟩
theorem PegA.putB {xs : List Int} (A : PegA K H a dx r h b s) : PegA K (upd H b (.lst (xs.map V.int))) a dx r h b { s with book := xs } :=
  ⟨by rw [upd_ne (Ne.symm A.ab)]; exact A.at_, by rw [upd_ne A.rb]; exact A.rk, by rw [upd_ne A.hb]; exact A.hg, upd_same, A.rh, A.rb, A.hb⟩
/-! its fields -/
theorem PgC.no (pc : PgC K) {f : Str} (h : f ∈ (["ranks", "many", "hung", "book", "came", "laid", "calls"] : List Str) := by simp) : NoAttr K (He.ga K "Pegs") f := pc.na f h
theorem ep_ranks (A : PegA K H a dx r h b s) (pc : PgC K) (ho : Ev T ta σ H (.ref a)) : Ev T (tFld K ta "ranks") σ H (.ref r) := ev_fld ho A.at_ pc.cls pc.no rfl
theorem ep_many (A : PegA K H a dx r h b s) (pc : PgC K) (ho : Ev T ta σ H (.ref a)) : Ev T (tFld K ta "many") σ H (.int s.many) := ev_fld ho A.at_ pc.cls pc.no rfl
theorem ep_hung (A : PegA K H a dx r h b s) (pc : PgC K) (ho : Ev T ta σ H (.ref a)) : Ev T (tFld K ta "hung") σ H (.ref h) := ev_fld ho A.at_ pc.cls pc.no rfl
theorem ep_book (A : PegA K H a dx r h b s) (pc : PgC K) (ho : Ev T ta σ H (.ref a)) : Ev T (tFld K ta "book") σ H (.ref b) := ev_fld ho A.at_ pc.cls pc.no rfl
theorem ep_came (A : PegA K H a dx r h b s) (pc : PgC K) (ho : Ev T ta σ H (.ref a)) : Ev T (tFld K ta "came") σ H (.int s.came) := ev_fld ho A.at_ pc.cls pc.no rfl
theorem ep_laid (A : PegA K H a dx r h b s) (pc : PgC K) (ho : Ev T ta σ H (.ref a)) : Ev T (tFld K ta "laid") σ H (.int s.laid) := ev_fld ho A.at_ pc.cls pc.no rfl
theorem ep_calls (A : PegA K H a dx r h b s) (pc : PgC K) (ho : Ev T ta σ H (.ref a)) : Ev T (tFld K ta "calls") σ H (.int s.calls) := ev_fld ho A.at_ pc.cls pc.no rfl
end
end Fp

namespace Fp
open PySem PySem.Spec PyProof.Rows L2 LamX
/-- a count of pegs -/
def isPg : V → Bool
  | .int m => decide (1 ≤ m) && decide (m ≤ 16)
  | _ => false
/-- what a change of pegs has to tell -/
def MutO (K : PySem.W.Frag) (T : List (Addr × Str)) (H : Hp) (a : Addr) (S : Addr → Prop) (s' : PSt) (v : V) (Q : VK) : Prop := ∀ H' S', Mv T S H H' → PegO K H' a s' S' → (∀ x, S' x → S x ∨ nod H x) → Q v H'
def sp_Pegs_init (K : PySem.W.Frag) (T : List (Addr × Str)) : Sp := fun vs H Q E => ∃ x r y l, vs = [.ref x, .ref r, y, .ref l] ∧ kd H y ≠ "" ∧ ((isPg y = false ∧ ∀ H', Ex T H H' → E (.ref (He.ga K "NoPegs")) none H') ∨
  ∃ m dx rs ls, y = .int m ∧ 1 ≤ m ∧ m ≤ 16 ∧ H x = some (.ins (He.ga K "Pegs") dx []) ∧ Kys K H l r rs ls ∧ List.length rs ≤ 60 ∧ List.length ls ≤ 60 ∧ Tabs T H ∧ PgC K ∧ ∀ H' S, Mv T (fun b => b = x) H H' → PegO K H' x (.make rs m ls) S → (∀ b, S b → b = x ∨ nod H b) → Q .non H')
def sp_Pegs_is_pressing (K : PySem.W.Frag) (T : List (Addr × Str)) : Sp := fun vs H Q _ => ∃ a i s S, vs = [.ref a, .int i] ∧ PegO K H a s S ∧ inR s.ranks i ∧ ∀ H', Ex T H H' → Q (.bl (s.press i)) H'
def sp_Pegs_come (K : PySem.W.Frag) (T : List (Addr × Str)) : Sp := fun vs H Q _ => ∃ a i s S, vs = [.ref a, .int i] ∧ PegO K H a s S ∧ inR s.ranks i ∧ Tabs T H ∧ PWf (s.come i) ∧ MutO K T H a S (s.come i) .non Q
def sp_Pegs_go (K : PySem.W.Frag) (T : List (Addr × Str)) : Sp := fun vs H Q _ => ∃ a i s S, vs = [.ref a, .int i] ∧ PegO K H a s S ∧ (i ∈ s.hung ∨ i ∈ s.book) ∧ Tabs T H ∧ MutO K T H a S (s.go i) .non Q
def sp_Pegs_call_keeper (K : PySem.W.Frag) (T : List (Addr × Str)) : Sp := fun vs H Q _ => ∃ a s S, vs = [.ref a] ∧ PegO K H a s S ∧ Tabs T H ∧ MutO K T H a S s.call .non Q
def sp_Pegs_on_pegs (K : PySem.W.Frag) (T : List (Addr × Str)) : Sp := fun vs H Q _ => ∃ a s S, vs = [.ref a] ∧ PegO K H a s S ∧ ∀ v H', Ex T H H' → newL (s.hung.map V.int) H v H' → Q v H'
def sp_Pegs_waiting (K : PySem.W.Frag) (T : List (Addr × Str)) : Sp := fun vs H Q _ => ∃ a s S, vs = [.ref a] ∧ PegO K H a s S ∧ Tabs T H ∧ ∀ v H', Ex T H H' → newL ((inOrd s.ranks s.book).map V.int) H v H' → Q v H'
def sp_Pegs_first (K : PySem.W.Frag) (T : List (Addr × Str)) : Sp := fun vs H Q _ => ∃ a s S, vs = [.ref a] ∧ PegO K H a s S ∧ ∀ H', Ex T H H' → Q (oI s.hung.head?) H'
def sp_Pegs_tallies (K : PySem.W.Frag) (T : List (Addr × Str)) : Sp := fun vs H Q _ => ∃ a s S, vs = [.ref a] ∧ PegO K H a s S ∧ ∀ v H', Ex T H H' → newU [.int s.came, .int s.laid, .int s.calls] H v H' → Q v H'
theorem len_Pegs_init {K : PySem.W.Frag} {T : List (Addr × Str)} : ∀ vs H Q E, sp_Pegs_init K T vs H Q E → vs.length = 4 := fun vs H Q E h => by
  obtain ⟨_, _, _, _, rfl, _⟩ := h
  exact rfl
theorem len_Pegs_is_pressing {K : PySem.W.Frag} {T : List (Addr × Str)} : ∀ vs H Q E, sp_Pegs_is_pressing K T vs H Q E → vs.length = 2 := fun vs H Q E h => by
  obtain ⟨_, _, _, _, rfl, _⟩ := h
  exact rfl
theorem len_Pegs_come {K : PySem.W.Frag} {T : List (Addr × Str)} : ∀ vs H Q E, sp_Pegs_come K T vs H Q E → vs.length = 2 := fun vs H Q E h => by
  obtain ⟨_, _, _, _, rfl, _⟩ := h
  exact rfl
theorem len_Pegs_go {K : PySem.W.Frag} {T : List (Addr × Str)} : ∀ vs H Q E, sp_Pegs_go K T vs H Q E → vs.length = 2 := fun vs H Q E h => by
  obtain ⟨_, _, _, _, rfl, _⟩ := h
  exact rfl
theorem len_Pegs_call_keeper {K : PySem.W.Frag} {T : List (Addr × Str)} : ∀ vs H Q E, sp_Pegs_call_keeper K T vs H Q E → vs.length = 1 := fun vs H Q E h => by
  obtain ⟨_, _, _, rfl, _⟩ := h
  exact rfl
theorem len_Pegs_on_pegs {K : PySem.W.Frag} {T : List (Addr × Str)} : ∀ vs H Q E, sp_Pegs_on_pegs K T vs H Q E → vs.length = 1 := fun vs H Q E h => by
  obtain ⟨_, _, _, rfl, _⟩ := h
  exact rfl
theorem len_Pegs_waiting {K : PySem.W.Frag} {T : List (Addr × Str)} : ∀ vs H Q E, sp_Pegs_waiting K T vs H Q E → vs.length = 1 := fun vs H Q E h => by
  obtain ⟨_, _, _, rfl, _⟩ := h
  exact rfl
theorem len_Pegs_first {K : PySem.W.Frag} {T : List (Addr × Str)} : ∀ vs H Q E, sp_Pegs_first K T vs H Q E → vs.length = 1 := fun vs H Q E h => by
  obtain ⟨_, _, _, rfl, _⟩ := h
  exact rfl
theorem len_Pegs_tallies {K : PySem.W.Frag} {T : List (Addr × Str)} : ∀ vs H Q E, sp_Pegs_tallies K T vs H Q E → vs.length = 1 := fun vs H Q E h => by
  obtain ⟨_, _, _, rfl, _⟩ := h
  exact rfl
def r_Pegs_init (K : PySem.W.Frag) (T : List (Addr × Str)) (E : XK) : TS :=
  (tSeq (tIfS (tOr (tNot (tB (tCall (sp_is_whole K T) [] E0 (tCons (tVar 2) tNil)))) (tOr (tTest (tOp oLt (tVar 2) (tC (.int 1)))) (tTest (tOp oGt (tVar 2) (tC (.int 16)))))) (tRaise E (.ref (He.ga K "NoPegs"))) tNext)
  (tSeq (tAsg (tCall (sp_in_order K T) [] E0 (tCons (tVar 1) (tCons (tVar 3) tNil))) (gName 4))
  (tSeq (sFld K (tVar 0) (tCB (rLst K) (tCons (tVar 1) tNil)) "ranks")
  (tSeq (sFld K (tVar 0) (tVar 2) "many")
  (tSeq (sFld K (tVar 0) (tSl (rSlL K) (tVar 4) tNoPart (tPart (tVar 2))) "hung")
  (tSeq (sFld K (tVar 0) (tSl (rSlL K) (tVar 4) (tPart (tVar 2)) tNoPart) "book")
  (tSeq (sFld K (tVar 0) (tCB (rLen K) (tCons (tVar 4) tNil)) "came")
  (tSeq (sFld K (tVar 0) (tCB (rLen K) (tCons (tFld K (tVar 0) "hung") tNil)) "laid")
  (sFld K (tVar 0) (tC (.int 0)) "calls")))))))))
def r_Pegs_is_pressing (K : PySem.W.Frag) (T : List (Addr × Str)) : TS :=
  (tSeq (tIfS (tAnd (tTest (tOp (rNeD K) (tFld K (tVar 0) "hung") (tLst tNil))) (tB (tCall (sp_before K T) [] E0 (tCons (tFld K (tVar 0) "ranks") (tCons (tVar 1) (tCons (tOp (rIxL K) (tFld K (tVar 0) "hung") (tUn (rU fun i => .int (-i)) (tC (.int 1)))) tNil)))))) (tRet (tC (.bl true))) tNext)
  (tRet (tAndV (tOp (rEqD K) (tFld K (tVar 0) "book") (tLst tNil)) (tOp oLt (tCB (rLen K) (tCons (tFld K (tVar 0) "hung") tNil)) (tFld K (tVar 0) "many")))))
def r_Pegs_come (K : PySem.W.Frag) (T : List (Addr × Str)) : TS :=
  (tSeq (sFld K (tVar 0) (tOp oAdd (tFld K (tVar 0) "came") (tC (.int 1))) "came")
  (tSeq (tIfS (tNot (tB (tMeth (He.ga K "Pegs") "is_pressing" (sp_Pegs_is_pressing K T) [] E0 (tVar 0) (tCons (tVar 1) tNil)))) (tSeq (tDrop (tBM K "list" rAppend (tFld K (tVar 0) "book") (tCons (tVar 1) tNil)))
  tRetN) tNext)
  (Evl.tCut (tIfS (tTest (tOp rEq (tCB (rLen K) (tCons (tFld K (tVar 0) "hung") tNil)) (tFld K (tVar 0) "many"))) (tDrop (tBM K "list" rAppend (tFld K (tVar 0) "book") (tCons (tBM0 K "list" rPop (tFld K (tVar 0) "hung")) tNil))) tNext)
  (tSeq (sFld K (tVar 0) (tCall (sp_in_order K T) [] E0 (tCons (tFld K (tVar 0) "ranks") (tCons (tOp rCat (tFld K (tVar 0) "hung") (tLst (tCons (tVar 1) tNil))) tNil))) "hung")
  (sFld K (tVar 0) (tOp oAdd (tFld K (tVar 0) "laid") (tC (.int 1))) "laid")))))
def r_Pegs_go (K : PySem.W.Frag) (T : List (Addr × Str)) : TS :=
  (Evl.tCut (tIfS (tTest (tOp (rIn K false) (tVar 1) (tFld K (tVar 0) "hung"))) (tDrop (tBM K "list" rRemI (tFld K (tVar 0) "hung") (tCons (tVar 1) tNil))) (tDrop (tBM K "list" rRemI (tFld K (tVar 0) "book") (tCons (tVar 1) tNil))))
  (tIfS (tAnd (tTest (tOp (rEqD K) (tFld K (tVar 0) "hung") (tLst tNil))) (tTest (tOp (rNeD K) (tFld K (tVar 0) "book") (tLst tNil)))) (tDrop (tMeth (He.ga K "Pegs") "call_keeper" (sp_Pegs_call_keeper K T) [] E0 (tVar 0) tNil)) tNext))
def r_Pegs_call_keeper (K : PySem.W.Frag) (T : List (Addr × Str)) : TS :=
  (tSeq (tAsg (tCall (sp_in_order K T) [] E0 (tCons (tFld K (tVar 0) "ranks") (tCons (tFld K (tVar 0) "book") tNil))) (gName 1))
  (tSeq (sFld K (tVar 0) (tSl (rSlL K) (tVar 1) tNoPart (tPart (tFld K (tVar 0) "many"))) "hung")
  (tSeq (sFld K (tVar 0) (tSl (rSlL K) (tVar 1) (tPart (tFld K (tVar 0) "many")) tNoPart) "book")
  (tSeq (sFld K (tVar 0) (tOp oAdd (tFld K (tVar 0) "laid") (tCB (rLen K) (tCons (tFld K (tVar 0) "hung") tNil))) "laid")
  (sFld K (tVar 0) (tOp oAdd (tFld K (tVar 0) "calls") (tC (.int 1))) "calls")))))
def r_Pegs_on_pegs (K : PySem.W.Frag) (T : List (Addr × Str)) : TS :=
  (tRet (tCB (rLst K) (tCons (tFld K (tVar 0) "hung") tNil)))
def r_Pegs_waiting (K : PySem.W.Frag) (T : List (Addr × Str)) : TS :=
  (tRet (tCall (sp_in_order K T) [] E0 (tCons (tFld K (tVar 0) "ranks") (tCons (tFld K (tVar 0) "book") tNil))))
def r_Pegs_first (K : PySem.W.Frag) (T : List (Addr × Str)) : TS :=
  (tSeq (tIfS (tTest (tOp (rEqD K) (tFld K (tVar 0) "hung") (tLst tNil))) (tRet (tC .non)) tNext)
  (tRet (tOp (rIxL K) (tFld K (tVar 0) "hung") (tC (.int 0)))))
def r_Pegs_tallies (K : PySem.W.Frag) (T : List (Addr × Str)) : TS :=
  (tRet (tTup (tCons (tFld K (tVar 0) "came") (tCons (tFld K (tVar 0) "laid") (tCons (tFld K (tVar 0) "calls") tNil)))))
section
variable {K : PySem.W.Frag} {T : List (Addr × Str)} {H H0 : Hp} {Q : VK} {E : XK} {vs : List V} {a : Addr} {s : PSt} {S : Addr → Prop} {i : Int}
theorem v_pressing (O : PegO K H a s S) (hi : inR s.ranks i) : SpV T (sp_Pegs_is_pressing K T) [.ref a, .int i] H (.bl (s.press i)) := fun H1 e Q q E => ⟨a, i, s, S, rfl, O.ex' e, hi, q⟩
theorem v_on_pegs (O : PegO K H a s S) : SpR T (sp_Pegs_on_pegs K T) [.ref a] H (newL (s.hung.map V.int)) := fun H1 e Q q E => ⟨a, s, S, rfl, O.ex' e, q⟩
theorem v_waiting (O : PegO K H a s S) (t : Tabs T H) : SpR T (sp_Pegs_waiting K T) [.ref a] H (newL ((inOrd s.ranks s.book).map V.int)) := fun H1 e Q q E => ⟨a, s, S, rfl, O.ex' e, e.tb t, q⟩
theorem v_first (O : PegO K H a s S) : SpV T (sp_Pegs_first K T) [.ref a] H (oI s.hung.head?) := fun H1 e Q q E => ⟨a, s, S, rfl, O.ex' e, q⟩
theorem v_tallies (O : PegO K H a s S) : SpR T (sp_Pegs_tallies K T) [.ref a] H (newU [.int s.came, .int s.laid, .int s.calls]) := fun H1 e Q q E => ⟨a, s, S, rfl, O.ex' e, q⟩
end
end Fp
local macro_rules | `(tactic| walk_at "ev") => `(tactic| with_reducible first | (apply Fp.ep_ranks; (· assumption); (· assumption); (· walk_at "ev")) | (apply Fp.ep_many; (· assumption); (· assumption); (· walk_at "ev")) | (apply Fp.ep_hung; (· assumption); (· assumption); (· walk_at "ev")) | (apply Fp.ep_book; (· assumption); (· assumption); (· walk_at "ev")) | (apply Fp.ep_came; (· assumption); (· assumption); (· walk_at "ev")) | (apply Fp.ep_laid; (· assumption); (· assumption); (· walk_at "ev")) | (apply Fp.ep_calls; (· assumption); (· assumption); (· walk_at "ev")))
namespace Fp
open PySem PySem.Spec PyProof.Rows L2 LamX
section
variable {K : PySem.W.Frag} {T : List (Addr × Str)} {H H0 : Hp} {Q : VK} {E : XK} {vs : List V}
theorem p_Pegs_is_pressing (h : sp_Pegs_is_pressing K T vs H Q E) : r_Pegs_is_pressing K T { nx := fun _ H' => Q .non H', rt := Q } (start ["self", "line"] vs) H := by
  obtain ⟨a, i, s, S, rfl, ⟨⟨dx, r, h, b, A, _⟩, pc, wf⟩, hi, k⟩ := h
  unfold r_Pegs_is_pressing
  have lr := A.lr
  have lh := A.lh
  have lb := A.lb
  refine q_if (b := lastBef s.ranks s.hung i) (Mv.of T H) ?_ (fun hb H1 e _ => ?_) (fun hb H1 e _ => nextI ?_)
  · refine et_is (et_and (a := !decide (s.hung = [])) (b := lastBef s.ranks s.hung i) (et_test (ev_opVL (by walk_at "ev") (el_lst ea_nil (by decide)) fun q H1 hq e => ?_)) (fun hn => ?_)) ?_
    · exact rv_neDI (dp_n (e.at A.hg)) (dp_n (ns := []) hq)
    · have hn : s.hung ≠ [] := by simpa using hn
      obtain ⟨j, hj⟩ := last_of hn
      rw [show lastBef s.ranks s.hung i = bef s.ranks i j by unfold lastBef; rw [hj.1]]
      exact et_B (ev_call0 (ea_cons (by walk_at "ev") (ea_cons (by walk_at "ev") (ea_cons (ev_op (by walk_at "ev") (ev_neg ev_c) (rv_ixL lh (ix_neg (by rw [List.getLast?_map, hj.1]; rfl)))) ea_nil))) (v_before lr hi (wf.ih j hj.2)))
    · cases hh : s.hung with
      | nil => rfl
      | cons x xs => rfl
  · refine s_ret e (by walk_at "ev") fun H2 e2 => ?_
    have := k H2 e2
    unfold PSt.press at this
    rwa [hb, Bool.true_or] at this
  · dsimp only
    refine s_ret e (ev_is (ev_and (a := decide (s.book = [])) (b := decide ((s.hung.length : Int) < s.many)) (ev_opVL (by walk_at "ev") (el_lst ea_nil (by decide)) fun q H1 hq e => rv_eqDI (dp_n (e.at A.bk)) (dp_n (ns := []) hq)) fun _ => by walk_at "ev") ?_) k
    unfold PSt.press
    rw [hb, Bool.false_or]
theorem p_Pegs_on_pegs (h : sp_Pegs_on_pegs K T vs H Q E) : r_Pegs_on_pegs K T { nx := fun _ H' => Q .non H', rt := Q } (start ["self"] vs) H := by
  obtain ⟨a, s, S, rfl, ⟨⟨dx, r, h, b, A, _⟩, pc, wf⟩, k⟩ := h
  unfold r_Pegs_on_pegs
  exact s_retR (Mv.of T H) (el_list (by walk_at "ev") (.inl A.lh)) fun w H1 e1 _ z => k w H1 e1 z
theorem p_Pegs_waiting (h : sp_Pegs_waiting K T vs H Q E) : r_Pegs_waiting K T { nx := fun _ H' => Q .non H', rt := Q } (start ["self"] vs) H := by
  obtain ⟨a, s, S, rfl, ⟨⟨dx, r, h, b, A, _⟩, pc, wf⟩, tb, k⟩ := h
  unfold r_Pegs_waiting
  exact s_retR (Mv.of T H) (el_call0 (by walk_at "ea") (v_in_order ⟨A.lb, A.lr, wf.ib⟩ tb)) fun w H1 e1 _ z => k w H1 e1 z
theorem p_Pegs_first (h : sp_Pegs_first K T vs H Q E) : r_Pegs_first K T { nx := fun _ H' => Q .non H', rt := Q } (start ["self"] vs) H := by
  obtain ⟨a, s, S, rfl, ⟨⟨dx, r, h, b, A, _⟩, pc, wf⟩, k⟩ := h
  unfold r_Pegs_first
  have lh := A.lh
  refine q_if (b := decide (s.hung = [])) (Mv.of T H) (et_test (ev_opVL (by walk_at "ev") (el_lst ea_nil (by decide)) fun q H1 hq e => rv_eqDI (dp_n (e.at A.hg)) (dp_n (ns := []) hq))) (fun hb H1 e _ => ?_) (fun hb H1 e _ => nextI ?_)
  · have z := of_decide_eq_true hb
    rw [z] at k
    exact s_ret e (ev_is (by walk_at "ev") (by rfl)) k
  · have z := of_decide_eq_false hb
    dsimp only
    obtain ⟨x, xs, hx⟩ := List.exists_cons_of_ne_nil z
    rw [hx] at k lh
    exact s_ret e (ev_op (by walk_at "ev") ev_c (rv_ixI lh (by decide) (by simp))) k
theorem p_Pegs_tallies (h : sp_Pegs_tallies K T vs H Q E) : r_Pegs_tallies K T { nx := fun _ H' => Q .non H', rt := Q } (start ["self"] vs) H := by
  obtain ⟨a, s, S, rfl, ⟨⟨dx, r, h, b, A, _⟩, pc, wf⟩, k⟩ := h
  unfold r_Pegs_tallies
  exact s_retR (Mv.of T H) (eu_tup (by walk_at "ea") (by simp)) fun w H1 e1 _ z => k w H1 e1 z
theorem inOrd_mem {rs ls : List Int} {i : Int} : i ∈ inOrd rs ls ↔ i ∈ ls := (List.mergeSort_perm ls (ordLe rs)).mem_iff
theorem inOrd_len {rs ls : List Int} : (inOrd rs ls).length = ls.length := (List.mergeSort_perm ls (ordLe rs)).length_eq
theorem PWf.call {s : PSt} (wf : PWf s) : PWf s.call := ⟨wf.m0, wf.m1, wf.nr, fun i hi => wf.ib i (inOrd_mem.mp (List.mem_of_mem_take hi)), fun i hi => wf.ib i (inOrd_mem.mp (List.mem_of_mem_drop hi)),
  by
    show ((inOrd s.ranks s.book).take s.many.toNat).length ≤ 100
    have := wf.lb
    rw [List.length_take, inOrd_len]
    omega,
  by
    show ((inOrd s.ranks s.book).drop s.many.toNat).length ≤ 100
    have := wf.lb
    rw [List.length_drop, inOrd_len]
    omega⟩
theorem PWf.drop {s : PSt} (wf : PWf s) (i : Int) : PWf (s.drop i) := by
  unfold PSt.drop
  split
  · exact ⟨wf.m0, wf.m1, wf.nr, fun j hj => wf.ih j (List.mem_of_mem_erase hj), wf.ib, Nat.le_trans (List.length_erase_le) wf.lh, wf.lb⟩
  · exact ⟨wf.m0, wf.m1, wf.nr, wf.ih, fun j hj => wf.ib j (List.mem_of_mem_erase hj), wf.lh, Nat.le_trans (List.length_erase_le) wf.lb⟩
theorem PWf.go {s : PSt} (wf : PWf s) (i : Int) : PWf (s.go i) := by
  unfold PSt.go
  split
  · exact (wf.drop i).call
  · exact wf.drop i
theorem p_Pegs_call_keeper (h : sp_Pegs_call_keeper K T vs H Q E) : r_Pegs_call_keeper K T { nx := fun _ H' => Q .non H', rt := Q } (start ["self", "order"] vs) H := by
  obtain ⟨a, s, S, rfl, ⟨⟨dx, r, h, b, A, sa, sr, sh, sb⟩, pc, wf⟩, tb, k⟩ := h
  unfold r_Pegs_call_keeper
  have m0 : 0 ≤ s.many := by have := wf.m0; omega
  refine q_asgR (Mv.of T H) (el_call0 (by walk_at "ea") (v_in_order ⟨A.lb, A.lr, wf.ib⟩ tb)) fun v H1 σ2 hs e1 _ hv => ?_
  obtain ⟨o, rfl, no, ho⟩ := hv
  subst hs
  have A1 := A.ex e1
  have ho' : SqL K H1 o ((inOrd s.ranks s.book).map V.int) := .inl (.inl ho)
  have el := el_sl (T := T) (ta := tVar 1) (tl := tNoPart) (th := tPart (tFld K (tVar 0) "many")) (σ := [some (.ref a), some (.ref o)]) (by walk_at "ev") eo_no (eo_part (i := s.many) (by walk_at "ev")) ho'
  rw [cut_lo m0, ← List.map_take] at el
  refine q_fldR (fun w => pegF (.ref r) (.int s.many) w (.ref b) (.int s.came) (.int s.laid) (.int s.calls)) (Mv.of T H1) el (by walk_at "ev") A1.at_ pc.cls pc.no (by simp) (fun _ => rfl) fun v H2 H3 e2 _ hv e3 => ?_
  obtain ⟨h', rfl, nh, hh⟩ := hv
  have A3 := ((A1.ex e2).ex e3).setH (e3.at hh) (nh.ne A1.rk) (nh.ne A1.bk).symm
  have M3 : Mv T S H (upd H3 a (.ins (He.ga K "Pegs") dx (pegF (.ref r) (.int s.many) (.ref h') (.ref b) (.int s.came) (.int s.laid) (.int s.calls)))) := ((e1.trans e2).trans e3).mv.set (.inl sa) ((A1.ex e2).ex e3).at_
  have no3 := ne_of ho A1.at_ (fun z => nomatch z)
  have ho3 : (upd H3 a (.ins (He.ga K "Pegs") dx (pegF (.ref r) (.int s.many) (.ref h') (.ref b) (.int s.came) (.int s.laid) (.int s.calls)))) o = some (.lst ((inOrd s.ranks s.book).map V.int)) := by rw [upd_ne no3]; exact e3.at (e2.at ho)
  generalize (upd H3 a (.ins (He.ga K "Pegs") dx (pegF (.ref r) (.int s.many) (.ref h') (.ref b) (.int s.came) (.int s.laid) (.int s.calls)))) = H4 at A3 M3 ho3
  have ho4 : SqL K H4 o ((inOrd s.ranks s.book).map V.int) := .inl (.inl ho3)
  have el := el_sl (T := T) (ta := tVar 1) (th := tNoPart) (tl := tPart (tFld K (tVar 0) "many")) (σ := [some (.ref a), some (.ref o)]) (by walk_at "ev") (eo_part (i := s.many) (ev_is (ep_many A3 pc (by walk_at "ev")) rfl)) eo_no ho4
  rw [cut_hi m0, ← List.map_drop] at el
  refine q_fldR (fun w => pegF (.ref r) (.int s.many) (.ref h') w (.int s.came) (.int s.laid) (.int s.calls)) (Mv.of T H4) el (by walk_at "ev") A3.at_ pc.cls pc.no (by simp) (fun _ => rfl) fun v H5 H6 e5 _ hv e6 => ?_
  obtain ⟨b', rfl, nb, hb'⟩ := hv
  have A6 := ((A3.ex e5).ex e6).setB (e6.at hb') (nb.ne A3.rk) (nb.ne A3.hg)
  have M6 := (M3.trans (e5.trans e6).mv).set (o := .ins (He.ga K "Pegs") dx (pegF (.ref r) (.int s.many) (.ref h') (.ref b') (.int s.came) (.int s.laid) (.int s.calls))) (.inl sa) ((A3.ex e5).ex e6).at_
  generalize (upd H6 a (.ins (He.ga K "Pegs") dx (pegF (.ref r) (.int s.many) (.ref h') (.ref b') (.int s.came) (.int s.laid) (.int s.calls)))) = H7 at A6 M6
  have lh7 := A6.lh
  refine q_fld (v := .int (s.laid + ((inOrd s.ranks s.book).take s.many.toNat).length)) (fun w => pegF (.ref r) (.int s.many) (.ref h') (.ref b') (.int s.came) w (.int s.calls)) (Mv.of T H7) (ev_op (ev_is (w := .int s.laid) (ep_laid A6 pc (by walk_at "ev")) rfl) (ev_cb (ea_cons (ep_hung A6 pc (by walk_at "ev")) ea_nil) (rc_lenI lh7)) rv_i0) (by walk_at "ev") A6.at_ pc.cls pc.no (by simp) (fun _ => rfl) fun H8 e8 _ => ?_
  have A8 := (A6.ex e8).setF (m := s.many) (c := s.came) (l := s.laid + ((inOrd s.ranks s.book).take s.many.toNat).length) (k := s.calls)
  have M8 := (M6.trans e8.mv).set (o := .ins (He.ga K "Pegs") dx (pegF (.ref r) (.int s.many) (.ref h') (.ref b') (.int s.came) (.int (s.laid + ((inOrd s.ranks s.book).take s.many.toNat).length)) (.int s.calls))) (.inl sa) (A6.ex e8).at_
  generalize (upd H8 a _) = H9 at A8 M8
  refine t_fld (v := .int (s.calls + 1)) (fun w => pegF (.ref r) (.int s.many) (.ref h') (.ref b') (.int s.came) (.int (s.laid + ((inOrd s.ranks s.book).take s.many.toNat).length)) w) (Mv.of T H9) (ev_op (ev_is (w := .int s.calls) (ep_calls A8 pc (by walk_at "ev")) rfl) ev_c rv_i0) (by walk_at "ev") A8.at_ pc.cls pc.no (by simp) (fun _ => rfl) fun H10 e10 _ => ?_
  have A10 := (A8.ex e10).setF (m := s.many) (c := s.came) (l := s.laid + ((inOrd s.ranks s.book).take s.many.toNat).length) (k := s.calls + 1)
  refine k _ (fun x => S x ∨ nod H x) ((M8.trans e10.mv).set (.inl sa) (A8.ex e10).at_) ⟨⟨dx, r, h', b', A10, .inl sa, .inl sr, .inr (e1.dm _ nh), .inr (M3.dm _ nb)⟩, pc, wf.call⟩ (fun x z => z)
theorem PSt.hang_wf {s : PSt} {i : Int} (h : PWf (s.come i)) (hp : s.press i = true) : PWf (s.tick.yield.hang i) := by
  unfold PSt.come at h
  rwa [if_pos hp] at h
theorem p_Pegs_come (h : sp_Pegs_come K T vs H Q E) : r_Pegs_come K T { nx := fun _ H' => Q .non H', rt := Q } (start ["self", "line"] vs) H := by
  obtain ⟨a, i, s, S, rfl, ⟨⟨dx, r, h, b, A, sa, sr, sh, sb⟩, pc, wf⟩, hi, tb, wf2, k⟩ := h
  unfold r_Pegs_come
  refine q_fld (v := .int (s.came + 1)) (fun w => pegF (.ref r) (.int s.many) (.ref h) (.ref b) w (.int s.laid) (.int s.calls)) (Mv.of T H) (ev_op (ev_is (w := .int s.came) (ep_came A pc (by walk_at "ev")) rfl) ev_c rv_i0) (by walk_at "ev") A.at_ pc.cls pc.no (by simp) (fun _ => rfl) fun H1 e1 _ => ?_
  have A2 : PegA K _ a dx r h b s.tick := (A.ex e1).setF (m := s.many) (c := s.came + 1) (l := s.laid) (k := s.calls)
  have M2 := (e1.mv (S := S)).set (o := .ins (He.ga K "Pegs") dx (pegF (.ref r) (.int s.many) (.ref h) (.ref b) (.int (s.came + 1)) (.int s.laid) (.int s.calls))) (.inl sa) (A.ex e1).at_
  generalize (upd H1 a _) = H2 at A2 M2
  have wf3 : PWf s.tick := ⟨wf.m0, wf.m1, wf.nr, wf.ih, wf.ib, wf.lh, wf.lb⟩
  have O2 : PegO K H2 a s.tick S := ⟨⟨dx, r, h, b, A2, sa, sr, sh, sb⟩, pc, wf3⟩
  refine q_if (b := !s.press i) (Mv.of T H2) (et_not (et_B (ev_is (ev_meth (by walk_at "ev") A2.at_ rfl (by walk_at "ea") rfl (v_pressing O2 hi)) rfl))) (fun hb H3 e3 _ => ?_) (fun hb H3 e3 _ => nextI ?_)
  · have hb : s.press i = false := by simpa using hb
    have A3 := A2.ex e3
    refine q_app (Mv.of T H3) A3.bk (ep_book A3 pc (by walk_at "ev")) (v := .int i) (by walk_at "ev") (by rw [List.length_map]; exact Nat.lt_of_le_of_lt wf.lb (by decide)) fun H4 e4 _ => ?_
    have A4 := A3.ex e4
    have A5 := A4.putB (xs := s.book ++ [i])
    rw [List.map_append] at A5
    have es : s.come i = { s.tick with book := s.book ++ [i] } := by
      unfold PSt.come
      rw [if_neg (by rw [hb]; simp)]
    rw [es] at k wf2
    exact k _ S (((M2.trans e3.mv).trans e4.mv).set (.inl sb) A4.bk) ⟨⟨dx, r, h, b, A5, sa, sr, sh, sb⟩, pc, wf2⟩ fun x z => .inl z
  · have hb : s.press i = true := by simpa using hb
    have A3 := A2.ex e3
    have es : s.come i = s.tick.yield.hang i := by
      unfold PSt.come
      rw [if_pos hb]
    rw [es] at k wf2
    have lh3 := A3.lh
    dsimp only
    refine q_cut (fun σ' H' => σ' = [some (.ref a), some (.int i)] ∧ Mv T S H H' ∧ PegA K H' a dx r h b s.tick.yield) ?_ ?_
    · refine s_if (b := decide ((s.hung.length : Int) = s.many)) (Mv.of T H3) (et_test (ev_op (ev_cb (ea_cons (ep_hung A3 pc (by walk_at "ev")) ea_nil) (rc_lenI lh3)) (ev_is (w := .int s.many) (ep_many A3 pc (by walk_at "ev")) rfl) rv_eqI)) (fun hm H4 e4 _ => ?_) (fun hm H4 e4 _ => nextI ⟨rfl, (M2.trans e3.mv).trans e4.mv, ?_⟩)
      · have hm := of_decide_eq_true hm
        have A4 := A3.ex e4
        have hne : s.hung ≠ [] := by
          intro z
          rw [z] at hm
          have := wf.m0
          simp at hm
          omega
        obtain ⟨j, hj, _⟩ := last_of hne
        have ey : s.tick.yield = { s.tick with hung := s.hung.dropLast, book := s.book ++ [j] } := by
          unfold PSt.yield
          rw [if_pos (show (s.tick.hung.length : Int) = s.tick.many from hm)]
          show { s.tick with hung := s.hung.dropLast, book := s.book ++ s.hung.getLast?.toList } = _
          rw [hj]
          rfl
        rw [ey]
        refine s_appPop (y := .int j) (Mv.of T H4) (ep_book A4 pc (by walk_at "ev")) (ep_hung A4 pc (by walk_at "ev")) A4.bk A4.hg (Ne.symm A4.hb) ?_ ?_ fun H6 e6 => ?_
        · show (s.hung.map V.int).getLast? = _
          rw [List.getLast?_map, hj]
          rfl
        · rw [List.length_map]
          exact Nat.lt_of_le_of_lt wf.lb (by decide)
        · have A6 := A4.ex e6
          have A7 := A6.putH (xs := s.hung.dropLast)
          have M7 := (((M2.trans e3.mv).trans e4.mv).trans (e6.mv (S := S))).set (o := .lst (s.hung.dropLast.map V.int)) (.inl sh) A6.hg
          have A8 := A7.putB (xs := s.book ++ [j])
          have M8 := M7.set (o := .lst ((s.book ++ [j]).map V.int)) (.inl sb) A7.bk
          rw [List.map_append, List.map_dropLast] at A8 M8
          exact ⟨rfl, M8, A8⟩
      · have hm := of_decide_eq_false hm
        have ey : s.tick.yield = s.tick := by
          unfold PSt.yield
          rw [if_neg (show ¬ (s.tick.hung.length : Int) = s.tick.many from hm)]
        rw [ey]
        exact A3.ex e4
    · rintro σ' H4 ⟨rfl, M4, A4⟩
      have hr4 : s.tick.yield.ranks = s.ranks := by unfold PSt.yield; split <;> rfl
      have hih : ∀ x ∈ s.tick.yield.hung ++ [i], inR s.tick.yield.ranks x := fun x hx => by
        have := wf2.ih x (inOrd_mem.mpr hx)
        exact this
      refine q_fldR (fun w => pegF (.ref r) (.int s.tick.yield.many) w (.ref b) (.int s.tick.yield.came) (.int s.tick.yield.laid) (.int s.tick.yield.calls)) (Mv.of T H4) (er_callVL (R := newL ((inOrd s.tick.yield.ranks (s.tick.yield.hung ++ [i])).map V.int)) (ep_ranks A4 pc (by walk_at "ev")) (el_cat (ep_hung A4 pc (by walk_at "ev")) A4.hg (el_lst (ea_cons (x := .int i) (by walk_at "ev") ea_nil) (by simp)) ?_) (fun q H1 hq e => v_in_order ⟨.inl (.inl ?_), (A4.ex e).lr, hih⟩ ((M4.trans e.mv).tb tb)) newL_back) (by walk_at "ev") A4.at_ pc.cls pc.no (by simp) (fun _ => rfl) fun v H5 H6 e5 _ hv e6 => ?_
      · have := wf2.lh
        have z : (s.tick.yield.hang i).hung.length = s.tick.yield.hung.length + 1 := by
          show (inOrd _ _).length = _
          rw [inOrd_len, List.length_append, List.length_singleton]
        rw [List.length_map, List.length_singleton]
        omega
      · rw [List.map_append]
        exact hq
      · obtain ⟨h', rfl, nh, hh⟩ := hv
        have A6 := ((A4.ex e5).ex e6).setH (e6.at hh) (nh.ne A4.rk) (nh.ne A4.bk).symm
        have M6 := ((M4.trans e5.mv).trans (e6.mv (S := S))).set (o := .ins (He.ga K "Pegs") dx (pegF (.ref r) (.int s.tick.yield.many) (.ref h') (.ref b) (.int s.tick.yield.came) (.int s.tick.yield.laid) (.int s.tick.yield.calls))) (.inl sa) ((A4.ex e5).ex e6).at_
        generalize (upd H6 a _) = H7 at A6 M6
        refine t_fld (v := .int (s.tick.yield.laid + 1)) (fun w => pegF (.ref r) (.int s.tick.yield.many) (.ref h') (.ref b) (.int s.tick.yield.came) w (.int s.tick.yield.calls)) (Mv.of T H7) (ev_op (ev_is (w := .int s.tick.yield.laid) (ep_laid A6 pc (by walk_at "ev")) rfl) ev_c rv_i0) (by walk_at "ev") A6.at_ pc.cls pc.no (by simp) (fun _ => rfl) fun H8 e8 _ => ?_
        have A8 := (A6.ex e8).setF (m := s.tick.yield.many) (c := s.tick.yield.came) (l := s.tick.yield.laid + 1) (k := s.tick.yield.calls)
        exact k _ (fun x => S x ∨ nod H x) ((M6.trans e8.mv).set (.inl sa) (A6.ex e8).at_) ⟨⟨dx, r, h', b, A8, .inl sa, .inl sr, .inr (M4.dm _ nh), .inl sb⟩, pc, wf2⟩ (fun x z => z)
theorem p_Pegs_go (h : sp_Pegs_go K T vs H Q E) : r_Pegs_go K T { nx := fun _ H' => Q .non H', rt := Q } (start ["self", "line"] vs) H := by
  obtain ⟨a, i, s, S, rfl, ⟨⟨dx, r, h, b, A, sa, sr, sh, sb⟩, pc, wf⟩, hi, tb, k⟩ := h
  unfold r_Pegs_go
  have lh := A.lh
  have wd := wf.drop i
  refine q_cut (fun σ' H' => σ' = [some (.ref a), some (.int i)] ∧ Mv T S H H' ∧ PegA K H' a dx r h b (s.drop i)) ?_ ?_
  · refine s_if (b := decide (i ∈ s.hung)) (Mv.of T H) (et_test (ev_op (by walk_at "ev") (ep_hung A pc (by walk_at "ev")) (rv_inI lh))) (fun hb H1 e1 _ => ?_) (fun hb H1 e1 _ => ?_)
    · have hb := of_decide_eq_true hb
      have A1 := A.ex e1
      have ed : s.drop i = { s with hung := s.hung.erase i } := by unfold PSt.drop; rw [if_pos hb]
      rw [ed]
      exact s_rem (Mv.of T H1) A1.hg (ep_hung A1 pc (by walk_at "ev")) (by walk_at "ev") hb fun H2 e2 _ => ⟨rfl, (e1.trans e2).mv.set (.inl sh) (A1.ex e2).hg, (A1.ex e2).putH⟩
    · have hb := of_decide_eq_false hb
      have A1 := A.ex e1
      have ed : s.drop i = { s with book := s.book.erase i } := by unfold PSt.drop; rw [if_neg hb]
      rw [ed]
      exact s_rem (Mv.of T H1) A1.bk (ep_book A1 pc (by walk_at "ev")) (by walk_at "ev") (hi.resolve_left hb) fun H2 e2 _ => ⟨rfl, (e1.trans e2).mv.set (.inl sb) (A1.ex e2).bk, (A1.ex e2).putB⟩
  · rintro σ' H1 ⟨rfl, M1, A1⟩
    refine s_if (b := decide ((s.drop i).hung = []) && !decide ((s.drop i).book = [])) (Mv.of T H1) (et_and (et_test (ev_opVL (ep_hung A1 pc (by walk_at "ev")) (el_lst ea_nil (by decide)) fun q H2 hq e => rv_eqDI (dp_n (e.at A1.hg)) (dp_n (ns := []) hq))) fun _ => et_test (ev_opVL (ep_book A1 pc (by walk_at "ev")) (el_lst ea_nil (by decide)) fun q H2 hq e => rv_neDI (dp_n (e.at A1.bk)) (dp_n (ns := []) hq))) (fun hb H2 e2 _ => ?_) (fun hb H2 e2 _ => nextI ?_)
    · have hb : (s.drop i).hung = [] ∧ (s.drop i).book ≠ [] := by simpa using hb
      have eg : s.go i = (s.drop i).call := by unfold PSt.go; rw [if_pos hb]
      rw [eg] at k
      have A2 := A1.ex e2
      refine s_meth (Mv.of T H2) (by walk_at "ev") A2.at_ rfl ea_nil rfl fun H3 e3 _ => ⟨a, s.drop i, S, rfl, ⟨⟨dx, r, h, b, A2.ex e3, sa, sr, sh, sb⟩, pc, wd⟩, ((M1.trans e2.mv).trans e3.mv).tb tb, fun H4 S4 m4 O4 n4 => ?_⟩
      have m3 := (M1.trans e2.mv).trans e3.mv
      exact k H4 S4 (m3.trans m4) O4 fun x hx => (n4 x hx).imp id (m3.dm x)
    · have hb : ¬ ((s.drop i).hung = [] ∧ (s.drop i).book ≠ []) := by
        rintro ⟨z1, z2⟩
        simp [z1, z2] at hb
      have eg : s.go i = s.drop i := by unfold PSt.go; rw [if_neg hb]
      rw [eg] at k
      exact k H2 S (M1.trans e2.mv) ⟨⟨dx, r, h, b, A1.ex e2, sa, sr, sh, sb⟩, pc, wd⟩ fun x hx => .inl hx
theorem isPg_int {m : Int} : isPg (.int m) = (decide (1 ≤ m) && decide (m ≤ 16)) := rfl
theorem PSt.make_wf {rs ls : List Int} {m : Int} (h1 : 1 ≤ m) (h2 : m ≤ 16) (hr : rs.length ≤ 60) (hl : ls.length ≤ 60) (hi : ∀ x ∈ ls, 0 ≤ x ∧ x < rs.length) : PWf (.make rs m ls) :=
  ⟨h1, h2, hr, fun i z => hi i (inOrd_mem.mp (List.mem_of_mem_take z)), fun i z => hi i (inOrd_mem.mp (List.mem_of_mem_drop z)), by
    show ((inOrd rs ls).take m.toNat).length ≤ 100
    rw [List.length_take, inOrd_len]
    omega, by
    show ((inOrd rs ls).drop m.toNat).length ≤ 100
    rw [List.length_drop, inOrd_len]
    omega⟩
theorem p_Pegs_init (h : sp_Pegs_init K T vs H Q E) : r_Pegs_init K T E { nx := fun _ H' => Q .non H', rt := Q } (start ["self", "ranks", "many", "lines", "order"] vs) H := by
  obtain ⟨x, r, y, l, rfl, hy, h⟩ := h
  unfold r_Pegs_init
  have ew : ∀ {H' : Hp}, Ex T H H' → EvT T (tNot (tB (tCall (sp_is_whole K T) [] E0 (tCons (tVar 2) tNil)))) [some (.ref x), some (.ref r), some y, some (.ref l), none] H' (!isI y) := fun e => et_not (et_B (ev_call0 (by walk_at "ea") (v_is_whole (by rw [kd_ex e rfl hy]; exact hy))))
  refine q_if (b := !isPg y) (Mv.of T H) ?_ (fun hb H1 e1 _ => ?_) (fun hb H1 e1 _ => nextI ?_)
  · cases y with
    | int m =>
      refine et_is (et_or (ew (Mv.of T H)) fun _ => et_or (et_test (ev_op (by walk_at "ev") ev_c rv_i0)) fun _ => et_test (ev_op (by walk_at "ev") ev_c rv_i0)) ?_
      rw [isPg_int, Bool.eq_iff_iff]
      simp [isI]
    | _ => exact et_orT (ew (Mv.of T H))
  · rcases h with ⟨_, z⟩ | ⟨m, dx, rs, ls, rfl, m1, m2, _⟩
    · exact z H1 e1
    · rw [isPg_int] at hb
      simp [m1, m2] at hb
  · rcases h with ⟨z, _⟩ | ⟨m, dx, rs, ls, rfl, m1, m2, hx, ky, nr, nl, tb, pc, k⟩
    · rw [z] at hb
      cases hb
    · dsimp only
      have m0 : 0 ≤ m := by omega
      have ky1 := ky.ex e1
      refine q_asgR (Mv.of T H1) (el_call0 (by walk_at "ea") (v_in_order ky1 (e1.tb tb))) fun v H2 σ2 hs e2 _ hv => ?_
      obtain ⟨o, rfl, no, ho⟩ := hv
      subst hs
      have e12 := e1.trans e2
      have hr2 := (ky1.ex e2).r
      refine q_fldR (fun w => [("ranks", w)]) (Mv.of T H2) (el_list (by walk_at "ev") (.inl hr2)) (by walk_at "ev") (e12.at hx) pc.cls pc.no (by simp) (fun _ => rfl) fun v H3 H4 e3 _ hv e4 => ?_
      obtain ⟨r', rfl, nr', hr'⟩ := hv
      have e14 := (e12.trans e3).trans e4
      have xr : r' ≠ x := Ne.symm (nr'.ne (e12.at hx))
      have M5 := e14.mv.set (S := fun b => b = x) (o := .ins (He.ga K "Pegs") dx [("ranks", .ref r')]) (.inl rfl) (e14.at hx)
      have hx5 : upd H4 x (.ins (He.ga K "Pegs") dx [("ranks", .ref r')]) x = some (.ins (He.ga K "Pegs") dx [("ranks", .ref r')]) := upd_same
      have hr5 : upd H4 x (.ins (He.ga K "Pegs") dx [("ranks", .ref r')]) r' = some (.lst (rs.map V.int)) := by rw [upd_ne xr]; exact e4.at hr'
      have ho5 : upd H4 x (.ins (He.ga K "Pegs") dx [("ranks", .ref r')]) o = some (.lst ((inOrd rs ls).map V.int)) := by rw [upd_ne (ne_of ho (e12.at hx) (fun z => nomatch z))]; exact (e3.trans e4).at ho
      generalize upd H4 x (.ins (He.ga K "Pegs") dx [("ranks", .ref r')]) = H5 at M5 hx5 hr5 ho5
      refine q_fld (v := .int m) (fun w => [("ranks", .ref r'), ("many", w)]) (Mv.of T H5) (by walk_at "ev") (by walk_at "ev") hx5 pc.cls pc.no (by simp) (fun _ => rfl) fun H6 e6 _ => ?_
      have M7 := (M5.trans e6.mv).set (o := .ins (He.ga K "Pegs") dx [("ranks", .ref r'), ("many", .int m)]) (.inl rfl) (e6.at hx5)
      have hx7 : upd H6 x (.ins (He.ga K "Pegs") dx [("ranks", .ref r'), ("many", .int m)]) x = some (.ins (He.ga K "Pegs") dx [("ranks", .ref r'), ("many", .int m)]) := upd_same
      have hr7 : upd H6 x (.ins (He.ga K "Pegs") dx [("ranks", .ref r'), ("many", .int m)]) r' = some (.lst (rs.map V.int)) := by rw [upd_ne xr]; exact e6.at hr5
      have ho7 : upd H6 x (.ins (He.ga K "Pegs") dx [("ranks", .ref r'), ("many", .int m)]) o = some (.lst ((inOrd rs ls).map V.int)) := by rw [upd_ne (ne_of ho5 hx5 (fun z => nomatch z))]; exact e6.at ho5
      generalize upd H6 x (.ins (He.ga K "Pegs") dx [("ranks", .ref r'), ("many", .int m)]) = H7 at M7 hx7 hr7 ho7
      have lo7 : SqL K H7 o ((inOrd rs ls).map V.int) := .inl (.inl ho7)
      have el := el_sl (T := T) (ta := tVar 4) (tl := tNoPart) (th := tPart (tVar 2)) (σ := [some (.ref x), some (.ref r), some (.int m), some (.ref l), some (.ref o)]) (by walk_at "ev") eo_no (eo_part (i := m) (by walk_at "ev")) lo7
      rw [cut_lo m0, ← List.map_take] at el
      refine q_fldR (fun w => [("ranks", .ref r'), ("many", .int m), ("hung", w)]) (Mv.of T H7) el (by walk_at "ev") hx7 pc.cls pc.no (by simp) (fun _ => rfl) fun v H8 H9 e8 _ hv e9 => ?_
      obtain ⟨h', rfl, nh, hh⟩ := hv
      have e89 := e8.trans e9
      have M10 := (M7.trans e89.mv).set (o := .ins (He.ga K "Pegs") dx [("ranks", .ref r'), ("many", .int m), ("hung", .ref h')]) (.inl rfl) (e89.at hx7)
      have hx10 : upd H9 x (.ins (He.ga K "Pegs") dx [("ranks", .ref r'), ("many", .int m), ("hung", .ref h')]) x = some (.ins (He.ga K "Pegs") dx [("ranks", .ref r'), ("many", .int m), ("hung", .ref h')]) := upd_same
      have hr10 : upd H9 x (.ins (He.ga K "Pegs") dx [("ranks", .ref r'), ("many", .int m), ("hung", .ref h')]) r' = some (.lst (rs.map V.int)) := by rw [upd_ne xr]; exact e89.at hr7
      have ho10 : upd H9 x (.ins (He.ga K "Pegs") dx [("ranks", .ref r'), ("many", .int m), ("hung", .ref h')]) o = some (.lst ((inOrd rs ls).map V.int)) := by rw [upd_ne (ne_of ho7 hx7 (fun z => nomatch z))]; exact e89.at ho7
      have hh10 : upd H9 x (.ins (He.ga K "Pegs") dx [("ranks", .ref r'), ("many", .int m), ("hung", .ref h')]) h' = some (.lst (((inOrd rs ls).take m.toNat).map V.int)) := by rw [upd_ne (Ne.symm (nh.ne hx7))]; exact e9.at hh
      generalize upd H9 x (.ins (He.ga K "Pegs") dx [("ranks", .ref r'), ("many", .int m), ("hung", .ref h')]) = H10 at M10 hx10 hr10 ho10 hh10
      have lo10 : SqL K H10 o ((inOrd rs ls).map V.int) := .inl (.inl ho10)
      have el := el_sl (T := T) (ta := tVar 4) (th := tNoPart) (tl := tPart (tVar 2)) (σ := [some (.ref x), some (.ref r), some (.int m), some (.ref l), some (.ref o)]) (by walk_at "ev") (eo_part (i := m) (by walk_at "ev")) eo_no lo10
      rw [cut_hi m0, ← List.map_drop] at el
      refine q_fldR (fun w => [("ranks", .ref r'), ("many", .int m), ("hung", .ref h'), ("book", w)]) (Mv.of T H10) el (by walk_at "ev") hx10 pc.cls pc.no (by simp) (fun _ => rfl) fun v H11 H12 e11 _ hv e12' => ?_
      obtain ⟨b', rfl, nb, hb'⟩ := hv
      have e112 := e11.trans e12'
      have M13 := (M10.trans e112.mv).set (o := .ins (He.ga K "Pegs") dx [("ranks", .ref r'), ("many", .int m), ("hung", .ref h'), ("book", .ref b')]) (.inl rfl) (e112.at hx10)
      have hx13 : upd H12 x (.ins (He.ga K "Pegs") dx [("ranks", .ref r'), ("many", .int m), ("hung", .ref h'), ("book", .ref b')]) x = some (.ins (He.ga K "Pegs") dx [("ranks", .ref r'), ("many", .int m), ("hung", .ref h'), ("book", .ref b')]) := upd_same
      have hr13 : upd H12 x (.ins (He.ga K "Pegs") dx [("ranks", .ref r'), ("many", .int m), ("hung", .ref h'), ("book", .ref b')]) r' = some (.lst (rs.map V.int)) := by rw [upd_ne xr]; exact e112.at hr10
      have ho13 : upd H12 x (.ins (He.ga K "Pegs") dx [("ranks", .ref r'), ("many", .int m), ("hung", .ref h'), ("book", .ref b')]) o = some (.lst ((inOrd rs ls).map V.int)) := by rw [upd_ne (ne_of ho10 hx10 (fun z => nomatch z))]; exact e112.at ho10
      have hh13 : upd H12 x (.ins (He.ga K "Pegs") dx [("ranks", .ref r'), ("many", .int m), ("hung", .ref h'), ("book", .ref b')]) h' = some (.lst (((inOrd rs ls).take m.toNat).map V.int)) := by rw [upd_ne (ne_of hh10 hx10 (fun z => nomatch z))]; exact e112.at hh10
      have hb13 : upd H12 x (.ins (He.ga K "Pegs") dx [("ranks", .ref r'), ("many", .int m), ("hung", .ref h'), ("book", .ref b')]) b' = some (.lst (((inOrd rs ls).drop m.toNat).map V.int)) := by rw [upd_ne (Ne.symm (nb.ne hx10))]; exact e12'.at hb'
      generalize upd H12 x (.ins (He.ga K "Pegs") dx [("ranks", .ref r'), ("many", .int m), ("hung", .ref h'), ("book", .ref b')]) = H13 at M13 hx13 hr13 ho13 hh13 hb13
      have lo13 : SqL K H13 o ((inOrd rs ls).map V.int) := .inl (.inl ho13)
      refine q_fld (v := .int ((inOrd rs ls).length : Int)) (fun w => [("ranks", .ref r'), ("many", .int m), ("hung", .ref h'), ("book", .ref b'), ("came", w)]) (Mv.of T H13) (ev_cb (by walk_at "ea") (rc_lenI lo13)) (by walk_at "ev") hx13 pc.cls pc.no (by simp) (fun _ => rfl) fun H14 e14' _ => ?_
      rw [inOrd_len]
      have M15 := (M13.trans e14'.mv).set (o := .ins (He.ga K "Pegs") dx [("ranks", .ref r'), ("many", .int m), ("hung", .ref h'), ("book", .ref b'), ("came", .int (ls.length : Int))]) (.inl rfl) (e14'.at hx13)
      have hx15 : upd H14 x (.ins (He.ga K "Pegs") dx [("ranks", .ref r'), ("many", .int m), ("hung", .ref h'), ("book", .ref b'), ("came", .int (ls.length : Int))]) x = some (.ins (He.ga K "Pegs") dx [("ranks", .ref r'), ("many", .int m), ("hung", .ref h'), ("book", .ref b'), ("came", .int (ls.length : Int))]) := upd_same
      have hr15 : upd H14 x (.ins (He.ga K "Pegs") dx [("ranks", .ref r'), ("many", .int m), ("hung", .ref h'), ("book", .ref b'), ("came", .int (ls.length : Int))]) r' = some (.lst (rs.map V.int)) := by rw [upd_ne xr]; exact e14'.at hr13
      have hh15 : upd H14 x (.ins (He.ga K "Pegs") dx [("ranks", .ref r'), ("many", .int m), ("hung", .ref h'), ("book", .ref b'), ("came", .int (ls.length : Int))]) h' = some (.lst (((inOrd rs ls).take m.toNat).map V.int)) := by rw [upd_ne (ne_of hh13 hx13 (fun z => nomatch z))]; exact e14'.at hh13
      have hb15 : upd H14 x (.ins (He.ga K "Pegs") dx [("ranks", .ref r'), ("many", .int m), ("hung", .ref h'), ("book", .ref b'), ("came", .int (ls.length : Int))]) b' = some (.lst (((inOrd rs ls).drop m.toNat).map V.int)) := by rw [upd_ne (ne_of hb13 hx13 (fun z => nomatch z))]; exact e14'.at hb13
      generalize upd H14 x (.ins (He.ga K "Pegs") dx [("ranks", .ref r'), ("many", .int m), ("hung", .ref h'), ("book", .ref b'), ("came", .int (ls.length : Int))]) = H15 at M15 hx15 hr15 hh15 hb15
      have lh15 : SqL K H15 h' (((inOrd rs ls).take m.toNat).map V.int) := .inl (.inl hh15)
      refine q_fld (v := .int (((inOrd rs ls).take m.toNat).length : Int)) (fun w => [("ranks", .ref r'), ("many", .int m), ("hung", .ref h'), ("book", .ref b'), ("came", .int (ls.length : Int)), ("laid", w)]) (Mv.of T H15) (ev_cb (ea_cons (ev_fld (by walk_at "ev") hx15 pc.cls pc.no rfl) ea_nil) (rc_lenI lh15)) (by walk_at "ev") hx15 pc.cls pc.no (by simp) (fun _ => rfl) fun H16 e16 _ => ?_
      have hx17 : upd H16 x (.ins (He.ga K "Pegs") dx [("ranks", .ref r'), ("many", .int m), ("hung", .ref h'), ("book", .ref b'), ("came", .int (ls.length : Int)), ("laid", .int (((inOrd rs ls).take m.toNat).length : Int))]) x = some (.ins (He.ga K "Pegs") dx [("ranks", .ref r'), ("many", .int m), ("hung", .ref h'), ("book", .ref b'), ("came", .int (ls.length : Int)), ("laid", .int (((inOrd rs ls).take m.toNat).length : Int))]) := upd_same
      have M17 := (M15.trans e16.mv).set (o := .ins (He.ga K "Pegs") dx [("ranks", .ref r'), ("many", .int m), ("hung", .ref h'), ("book", .ref b'), ("came", .int (ls.length : Int)), ("laid", .int (((inOrd rs ls).take m.toNat).length : Int))]) (.inl rfl) (e16.at hx15)
      refine t_fld (v := .int 0) (fun w => pegF (.ref r') (.int m) (.ref h') (.ref b') (.int (ls.length : Int)) (.int (((inOrd rs ls).take m.toNat).length : Int)) w) (Mv.of T _) ev_c (by walk_at "ev") hx17 pc.cls pc.no (by simp) (fun _ => rfl) fun H18 e18 _ => ?_
      have n1 : ∀ {q : Addr} {xs : List V}, H15 q = some (.lst xs) → q ≠ x := fun z => ne_of z hx15 (fun w => nomatch w)
      have at18 : ∀ {q : Addr} {xs : List V}, H15 q = some (.lst xs) → upd H18 x (.ins (He.ga K "Pegs") dx (pegF (.ref r') (.int m) (.ref h') (.ref b') (.int (ls.length : Int)) (.int (((inOrd rs ls).take m.toNat).length : Int)) (.int 0))) q = some (.lst xs) := fun z => by
        rw [upd_ne (n1 z)]
        refine e18.at ?_
        rw [upd_ne (n1 z)]
        exact e16.at z
      refine k _ (fun z => z = x ∨ nod H z) ((M17.trans e18.mv).set (.inl rfl) (e18.at hx17)) ⟨⟨dx, r', h', b', ⟨upd_same, at18 hr15, at18 hh15, at18 hb15, nh.ne hr7, nb.ne hr10, nb.ne hh10⟩, .inl rfl, .inr (e12.dm _ nr'), .inr (M7.dm _ nh), .inr (M10.dm _ nb)⟩, pc, PSt.make_wf m1 m2 nr nl ky.lo⟩ (fun z hz => hz)
end
end Fp

namespace Fp
open PySem PySem.Spec PyProof.Rows L2 LamX
/-! ### the order, plainly -/
theorem ordLe_tr {rs : List Int} {a b c : Int} (h1 : ordLe rs a b = true) (h2 : ordLe rs b c = true) : ordLe rs a c = true := by
  simp only [ordLe, decide_eq_true_eq] at *
  omega
theorem ordLe_tot {rs : List Int} (a b : Int) : (ordLe rs a b || ordLe rs b a) = true := by
  simp only [ordLe, Bool.or_eq_true, decide_eq_true_eq]
  omega
theorem ordLe_anti {rs : List Int} {a b : Int} (h1 : ordLe rs a b = true) (h2 : ordLe rs b a = true) : a = b := by
  simp only [ordLe, decide_eq_true_eq] at *
  omega
theorem bef_of {rs : List Int} {a b : Int} (h1 : ordLe rs a b = true) (h2 : a ≠ b) : bef rs a b = true := by
  simp only [ordLe, bef, decide_eq_true_eq] at *
  omega
theorem ordLe_of {rs : List Int} {a b : Int} (h1 : bef rs a b = true) : ordLe rs a b = true := by
  simp only [ordLe, bef, decide_eq_true_eq] at *
  omega
theorem ordLe_not {rs : List Int} {a b : Int} (h1 : ¬ bef rs a b = true) : ordLe rs b a = true := by
  simp only [ordLe, bef, decide_eq_true_eq] at *
  omega
theorem ordLe_self {rs : List Int} (a : Int) : ordLe rs a a = true := by simp [ordLe]
theorem inOrd_perm (rs ls : List Int) : (inOrd rs ls).Perm ls := List.mergeSort_perm _ _
theorem inOrd_le (rs ls : List Int) : (inOrd rs ls).Pairwise fun a b => ordLe rs a b = true := List.pairwise_mergeSort (le := ordLe rs) (fun _ _ _ h1 h2 => ordLe_tr h1 h2) (fun a b => ordLe_tot a b) ls
theorem inOrd_bef {rs ls : List Int} (nd : ls.Nodup) : (inOrd rs ls).Pairwise fun a b => bef rs a b = true := by
  have n2 : (inOrd rs ls).Nodup := (inOrd_perm rs ls).nodup_iff.mpr nd
  exact (inOrd_le rs ls).imp₂ (fun _ _ h1 h2 => bef_of h1 h2) n2
theorem fst_run {rs : List Int} : ∀ {ls : List Int} {j m : Int}, ls.foldl (fstStep rs) (some j) = some m → ordLe rs m j = true ∧ ∀ x ∈ ls, ordLe rs m x = true
  | [], j, m, h => by
    cases h
    exact ⟨ordLe_self _, fun _ z => by cases z⟩
  | a :: ls, j, m, h => by
    have e : fstStep rs (some j) a = if bef rs a j = true then some a else some j := rfl
    rw [List.foldl_cons, e] at h
    by_cases hb : bef rs a j = true
    · rw [if_pos hb] at h
      have ih := fst_run h
      exact ⟨ordLe_tr ih.1 (ordLe_of hb), fun x hx => (List.mem_cons.mp hx).elim (fun z => z ▸ ih.1) (ih.2 x)⟩
    · rw [if_neg hb] at h
      have ih := fst_run h
      exact ⟨ih.1, fun x hx => (List.mem_cons.mp hx).elim (fun z => z ▸ ordLe_tr ih.1 (ordLe_not hb)) (ih.2 x)⟩
theorem fst_some {rs : List Int} : ∀ {ls : List Int} {j : Int}, ∃ m, ls.foldl (fstStep rs) (some j) = some m
  | [], j => ⟨j, rfl⟩
  | a :: ls, j => by
    have e : fstStep rs (some j) a = if bef rs a j = true then some a else some j := rfl
    rw [List.foldl_cons, e]
    split <;> exact fst_some
theorem fstOf_least {rs ls : List Int} {m : Int} (h : fstOf rs ls = some m) : m ∈ ls ∧ ∀ x ∈ ls, ordLe rs m x = true := by
  refine ⟨(fst_mem h).elim (fun z => nomatch z) id, ?_⟩
  cases ls with
  | nil => cases h
  | cons a ls =>
    have q := fst_run (ls := ls) (j := a) h
    exact fun x hx => (List.mem_cons.mp hx).elim (fun z => z ▸ q.1) (q.2 x)
theorem fstOf_none {rs ls : List Int} : fstOf rs ls = none ↔ ls = [] := by
  cases ls with
  | nil => exact ⟨fun _ => rfl, fun _ => rfl⟩
  | cons a ls =>
    obtain ⟨m, hm⟩ := fst_some (rs := rs) (ls := ls) (j := a)
    exact ⟨fun h => by rw [show fstOf rs (a :: ls) = some m from hm] at h; exact (nomatch h), fun h => nomatch h⟩
theorem inOrd_head (rs ls : List Int) : (inOrd rs ls).head? = fstOf rs ls := by
  have hp := inOrd_perm rs ls
  have hs := inOrd_le rs ls
  cases e : inOrd rs ls with
  | nil =>
    rw [e] at hp
    rw [hp.nil_eq.symm]
    rfl
  | cons a xs =>
    rw [e] at hp hs
    cases f : fstOf rs ls with
    | none =>
      rw [fstOf_none.mp f] at hp
      exact absurd hp.length_eq (by simp)
    | some m =>
      have q := fstOf_least f
      refine congrArg some (ordLe_anti ?_ (q.2 a (hp.mem_iff.mp List.mem_cons_self)))
      rcases List.mem_cons.mp (hp.mem_iff.mpr q.1) with z | z
      · rw [z]; exact ordLe_self _
      · exact List.rel_of_pairwise_cons hs z
/-- lines, each once, below n -/
def Lns (n : Nat) (ls : List Int) : Prop := ls.Nodup ∧ ∀ x ∈ ls, 0 ≤ x ∧ x < n
def newLns (n : Nat) : Hp → V → Hp → Prop := fun H v H' => ∃ ls, Lns n ls ∧ newL (ls.map V.int) H v H'
section
variable {K : PySem.W.Frag} {T : List (Addr × Str)} {H H0 : Hp} {Q : VK} {E : XK} {vs : List V}
theorem s_ins {σ : L2.St} {D : Ends} {ta tb te : TE} {l : Addr} {xs : List V} {i : Int} {v : V} (e : Ex T H0 H) (hl : H l = some (.lst xs)) (ha : Ev T ta σ H0 (.ref l)) (hi : Ev T tb σ H0 (.int i)) (h : Ev T te σ H0 v) (hz : xs.length < 100000) (h0 : 0 ≤ i) (h1 : i < 2 ^ 63) (k : ∀ H1, Ex T H0 H1 → Ex T H H1 → D.nx σ (upd H1 l (.lst (xs.take i.toNat ++ [v] ++ xs.drop i.toNat)))) :
    tDrop (tBM K "list" rInsert ta (tCons tb (tCons te tNil))) D σ H := ha H e _ fun H1 e1 =>
  ⟨.inl ⟨rfl, xs, .inl (.inl (e1.at hl))⟩, hi H1 (e.trans e1) _ fun H2 e2 => h H2 ((e.trans e1).trans e2) _ fun H3 e3 => ⟨l, xs, i, v, rfl, rfl, e3.at (e2.at (e1.at hl)), szl hz, h0, h1, k H3 (((e.trans e1).trans e2).trans e3) ((e1.trans e2).trans e3)⟩⟩
theorem nd_len : ∀ (n : Nat) (ls : List Nat), ls.Nodup → (∀ x ∈ ls, x < n) → ls.length ≤ n
  | 0, [], _, _ => Nat.le_refl _
  | 0, a :: _, _, h => absurd (h a List.mem_cons_self) (Nat.not_lt_zero _)
  | n + 1, ls, nd, h => by
    by_cases hm : n ∈ ls
    · have ih := nd_len n (ls.erase n) (nd.erase n) fun x hx => by
        have z := (nd.mem_erase_iff).mp hx
        have := h x z.2
        omega
      rw [List.length_erase_of_mem hm] at ih
      omega
    · have := nd_len n ls nd fun x hx => by
        have := h x hx
        have : x ≠ n := fun e => hm (e ▸ hx)
        omega
      omega
theorem Lns.len {n : Nat} : ∀ {ls : List Int}, Lns n ls → ls.length ≤ n := fun {ls} h => by
  have h1 : (ls.map Int.toNat).Nodup := by
    refine List.pairwise_map.mpr (h.1.imp_of_mem fun {a b} ha hb ne e => ne ?_)
    have := h.2 a ha
    have := h.2 b hb
    omega
  have h2 := nd_len n _ h1 fun x hx => by
    obtain ⟨y, hy, rfl⟩ := List.mem_map.mp hx
    have := h.2 y hy
    omega
  rwa [List.length_map] at h2
theorem Lns.ins {n i : Nat} {ls : List Int} {m : Nat} (h : Lns i ls) (hi : i < n) : Lns (i + 1) (ls.take m ++ [(i : Int)] ++ ls.drop m) := by
  have hp : (ls.take m ++ [(i : Int)] ++ ls.drop m).Perm ((i : Int) :: ls) := by
    refine (List.perm_append_right_iff _ |>.mpr List.perm_append_comm).trans ?_
    rw [List.singleton_append, List.cons_append, List.take_append_drop]
  refine ⟨hp.nodup_iff.mpr (List.nodup_cons.mpr ⟨fun z => ?_, h.1⟩), fun x hx => ?_⟩
  · have := h.2 _ z
    omega
  · rcases List.mem_cons.mp (hp.mem_iff.mp hx) with z | z
    · omega
    · have := h.2 _ z
      omega
theorem rk_el {ls : List Int} {i : Int} (h0 : 0 ≤ i) (h1 : i < ls.length) : rk ls i = ls[i.toNat]'(by omega) := by
  unfold rk
  rw [List.getD_eq_getElem?_getD, List.getElem?_eq_getElem (by omega)]
  rfl
theorem rk_at {ls : List Int} {i : Int} (h0 : 0 ≤ i) (h1 : i < ls.length) : rk ls i ∈ ls := by
  unfold rk
  rw [List.getD_eq_getElem?_getD, List.getElem?_eq_getElem (by omega)]
  exact List.getElem_mem _
end
section
variable {K : PySem.W.Frag} {T : List (Addr × Str)} {H H0 : Hp} {Q : VK} {E : XK} {vs : List V} 
/-! ### things of all kinds -/
inductive Kin
  | v (x : V)
  | k (c : String)
def Kin.isI : Kin → Bool
  | .v x => Fp.isI x
  | .k _ => false
def Ks (H : Hp) : List Kin → List V → Prop
  | [], [] => True
  | .v x :: ks, y :: ys => y = x ∧ kd H x ≠ "" ∧ Ks H ks ys
  | .k c :: ks, y :: ys => (∃ a, y = .ref a) ∧ kd H y = c ∧ c ≠ "" ∧ Ks H ks ys
  | _, _ => False
theorem Ks.get {ks : List Kin} {ys : List V} (h : Ks H ks ys) {i : Nat} {z : Kin} (hz : ks[i]? = some z) : ∃ y, ys[i]? = some y ∧ kd H y ≠ "" ∧ isI y = z.isI := by
  induction ks generalizing ys i with
  | nil => cases hz
  | cons k ks ih =>
    cases ys with
    | nil => cases k <;> exact h.elim
    | cons y ys =>
      cases i with
      | zero =>
        obtain rfl := Option.some.inj hz
        cases k with
        | v x =>
          obtain ⟨rfl, h1, _⟩ := h
          exact ⟨_, rfl, h1, rfl⟩
        | k c =>
          obtain ⟨⟨a, rfl⟩, h1, h2, _⟩ := h
          exact ⟨_, rfl, by rw [h1]; exact h2, rfl⟩
      | succ i =>
        cases k with
        | v x => exact ih h.2.2 hz
        | k c => exact ih h.2.2.2 hz
theorem Ks.ex {H1 : Hp} {ks : List Kin} {ys : List V} (h : Ks H ks ys) (e : Ex T H H1) : Ks H1 ks ys := by
  induction ks generalizing ys with
  | nil => cases ys with | nil => trivial | cons _ _ => exact h
  | cons k ks ih =>
    cases ys with
    | nil => cases k <;> exact h.elim
    | cons y ys =>
      cases k with
      | v x => exact ⟨h.1, by rw [kd_ex e rfl h.2.1]; exact h.2.1, ih h.2.2⟩
      | k c => exact ⟨h.1, kd_ex e h.2.1 h.2.2.1, h.2.2.1, ih h.2.2.2⟩
theorem Ks.len {ks : List Kin} {ys : List V} (h : Ks H ks ys) : ys.length = ks.length := by
  induction ks generalizing ys with
  | nil => cases ys with | nil => rfl | cons _ _ => exact h.elim
  | cons k ks ih =>
    cases ys with
    | nil => cases k <;> exact h.elim
    | cons y ys =>
      cases k with
      | v x => rw [List.length_cons, List.length_cons, ih h.2.2]
      | k c => rw [List.length_cons, List.length_cons, ih h.2.2.2]
abbrev EvK (T : List (Addr × Str)) (ta : TA) (σ : L2.St) (H : Hp) (ks : List Kin) : Prop := EvAR T ta σ H fun _ vs H2 => Ks H2 ks vs
variable {σ : L2.St} {te : TE} {ta : TA}
theorem ek_nil : EvK T tNil σ H [] := fun H1 _ Q q => q [] H1 Mv.refl trivial
theorem ek_v {x : V} {ks : List Kin} (h : Ev T te σ H x) (hk : ∀ H1, Ex T H H1 → kd H1 x ≠ "") (hr : EvK T ta σ H ks) : EvK T (tCons te ta) σ H (.v x :: ks) := fun H1 e Q q =>
  h H1 e _ fun H2 e2 => hr H2 (e.trans e2) _ fun vs H3 e3 k => q _ H3 (e2.trans e3) ⟨rfl, hk H3 ((e.trans e2).trans e3), k⟩
theorem ek_k {R : Hp → V → Hp → Prop} {c : String} {ks : List Kin} (h : EvR T te σ H R) (hR : ∀ H1 v H2, R H1 v H2 → (∃ a, v = .ref a) ∧ kd H2 v = c) (hc : c ≠ "") (hr : EvK T ta σ H ks) : EvK T (tCons te ta) σ H (.k c :: ks) := fun H1 e Q q =>
  h H1 e _ fun v H2 e2 r => hr H2 (e.trans e2) _ fun vs H3 e3 k => q _ H3 (e2.trans e3) ⟨(hR _ _ _ r).1, kd_ex e3 (hR _ _ _ r).2 hc, hc, k⟩
theorem newL_kd {xs : List V} : ∀ H1 v H2, newL xs H1 v H2 → (∃ a, v = .ref a) ∧ kd H2 v = "list" := fun _ _ _ ⟨p, h1, _, h3⟩ => ⟨⟨p, h1⟩, by rw [h1]; exact kd_l h3⟩
theorem newU_kd {xs : List V} : ∀ H1 v H2, newU xs H1 v H2 → (∃ a, v = .ref a) ∧ kd H2 v = "tuple" := fun _ _ _ ⟨p, h1, _, h3⟩ => ⟨⟨p, h1⟩, by rw [h1]; exact kd_t h3⟩
def newD : Hp → V → Hp → Prop := fun H v H' => ∃ p, v = .ref p ∧ nod H p ∧ H' p = some (.dK [])
theorem er_newD : EvR T tDNewK σ H newD := fun H1 _ Q q p hp => q _ _ (Mv.new hp) ⟨p, rfl, .of hp, upd_same⟩
theorem newD_kd : ∀ H1 v H2, newD H1 v H2 → (∃ a, v = .ref a) ∧ kd H2 v = "dict" := fun _ _ _ ⟨p, h1, _, h3⟩ => ⟨⟨p, h1⟩, by rw [h1]; simp only [kd, h3]⟩
def newK (ks : List Kin) : Hp → V → Hp → Prop := fun _ v H' => ∃ p xs, v = .ref p ∧ Ks H' ks xs ∧ H' p = some (.lst xs)
theorem er_lstK {ks : List Kin} (h : EvK T ta σ H ks) (hz : ks.length ≤ 100000) : EvR T (tLst ta) σ H (newK ks) :=
  er_lst h fun H1 vs H2 _ _ k => ⟨by rw [k.len]; exact hz, fun p hp => ⟨p, vs, rfl, k.ex (T := T) (Mv.new hp), upd_same⟩⟩
end
section
variable {K : PySem.W.Frag} {T : List (Addr × Str)} {H H0 : Hp} {Q : VK} {E : XK} {vs : List V} {σ : L2.St}
theorem er_pair {t1 t2 : TE} {xs ys : List V} (h1 : EvL T t1 σ H xs) (h2 : EvL T t2 σ H ys) : EvR T (tLst (tCons t1 (tCons t2 tNil))) σ H (fun H1 v H2 => ∃ p a b, v = .ref p ∧ nod H1 p ∧ nod H1 a ∧ nod H1 b ∧ H2 p = some (.lst [.ref a, .ref b]) ∧ H2 a = some (.lst xs) ∧ H2 b = some (.lst ys)) := fun H1 e Q q =>
  h1 H1 e _ fun v H2 e2 ⟨a, ea, na, ha⟩ => by
    subst ea
    exact h2 H2 (e.trans e2) _ fun w H3 e3 ⟨b, eb, nb, hb⟩ => by
      subst eb
      exact ⟨sz (by simp), fun p hp => q _ _ ((e2.trans e3).trans (Mv.new hp)) ⟨p, a, b, rfl, (e2.trans e3).nod hp, na, e2.dm b nb, upd_same, ((e3.trans (Mv.new hp)).at ha), (Mv.new (T := T) (S := no) hp).at hb⟩⟩
theorem rv_ixP {p : Addr} {ls : List Int} {k : Nat} (h : SqL K H p (ls.map V.int)) (hk : k < ls.length) : ∃ z, z ∈ ls ∧ RV T (rIxL K) (.ref p) (.int ((k : Int) - 1)) H (.int z) := by
  cases k with
  | zero =>
    obtain ⟨ys, y, rfl⟩ : ∃ ys y, ls = ys ++ [y] := ⟨_, _, (List.dropLast_concat_getLast (List.ne_nil_of_length_pos (by omega))).symm⟩
    refine ⟨y, by simp, rv_ixL h ?_⟩
    have := atI_last (ys.map V.int) (V.int y)
    simpa using this
  | succ k => exact ⟨rk ls k, rk_at (by omega) (by omega), by
      have e : (((k + 1 : Nat) : Int) - 1) = (k : Int) := by omega
      rw [e]
      exact rv_ixI h (by omega) (by omega)⟩
theorem cutV_ints (ns : List Int) (lo hi : Option Int) : ∃ cs : List Int, cutV (ns.map V.int) lo hi = cs.map V.int ∧ cs.length ≤ HT.sIx ns.length ns.length hi - HT.sIx ns.length 0 lo := by
  refine ⟨(ns.drop (HT.sIx ns.length 0 lo)).take (HT.sIx ns.length ns.length hi - HT.sIx ns.length 0 lo), ?_, ?_⟩
  · unfold cutV
    rw [List.length_map, List.map_take, List.map_drop]
  · rw [List.length_take]
    exact Nat.min_le_left _ _
end
end Fp

namespace Fp
open PySem PySem.Spec PyProof.Rows L2 LamX
/-! ### the laws' small helpers -/
def cellAt (ns : List Int) (k : Int) : Int := if k < ns.length then rk ns k else 0
def sp_l_cell_at (K : PySem.W.Frag) (T : List (Addr × Str)) : Sp := fun vs H Q _ => ∃ p k ns, vs = [.ref p, .int k] ∧ SqL K H p (List.map V.int ns) ∧ 0 ≤ k ∧ ∀ H', Ex T H H' → Q (.int (cellAt ns k)) H'
def sp_l_whole (_K : PySem.W.Frag) (T : List (Addr × Str)) : Sp := fun vs H Q _ => ∃ x, vs = [x] ∧ kd H x ≠ "" ∧ ∀ H', Ex T H H' → Q (.bl (isI x)) H'
theorem len_l_cell_at {K : PySem.W.Frag} {T : List (Addr × Str)} : ∀ vs H Q E, sp_l_cell_at K T vs H Q E → vs.length = 2 := fun vs H Q E h => by
  obtain ⟨_, _, _, rfl, _⟩ := h
  exact rfl
theorem len_l_whole {K : PySem.W.Frag} {T : List (Addr × Str)} : ∀ vs H Q E, sp_l_whole K T vs H Q E → vs.length = 1 := fun vs H Q E h => by
  obtain ⟨_, rfl, _⟩ := h
  exact rfl
section
variable {K : PySem.W.Frag} {T : List (Addr × Str)} {H : Hp} {Q : VK} {E : XK} {vs : List V}
theorem v_cell_at {p : Addr} {k : Int} {ns : List Int} (h : SqL K H p (ns.map V.int)) (h0 : 0 ≤ k) : SpV T (sp_l_cell_at K T) [.ref p, .int k] H (.int (cellAt ns k)) := fun H1 e Q q E => ⟨p, k, ns, rfl, e.l h, h0, q⟩
theorem v_whole {x : V} (h : kd H x ≠ "") : SpV T (sp_l_whole K T) [x] H (.bl (isI x)) := fun H1 e Q q E => ⟨x, rfl, by rw [kd_ex e rfl h]; exact h, q⟩
theorem v_wholeI {i : Int} : SpV T (sp_l_whole K T) [.int i] H (.bl true) := v_whole (x := .int i) (by simp [kd])
theorem v_is_wholeI {i : Int} : SpV T (sp_is_whole K T) [.int i] H (.bl true) := v_is_whole (x := .int i) (by simp [kd])
end
def r_l_cell_at (K : PySem.W.Frag) (T : List (Addr × Str)) : TS :=
  (tSeq (tIfS (tTest (tOp oLt (tVar 1) (tCB (rLen K) (tCons (tVar 0) tNil)))) (tRet (tOp (rIxL K) (tVar 0) (tVar 1))) tNext)
  (tRet (tC (.int 0))))
def r_l_whole (K : PySem.W.Frag) (T : List (Addr × Str)) : TS :=
  (tRet (tAndV (tCB rIs (tCons (tVar 0) (tCons (tC (.ty "int")) tNil))) (tNotV (tCB rIs (tCons (tVar 0) (tCons (tC (.ty "bool")) tNil))))))
end Fp
local macro_rules | `(tactic| walk_at "sp") => `(tactic| first | exact Fp.v_wholeI | exact Fp.v_is_wholeI | exact Fp.v_whole (by assumption) | exact Fp.v_is_whole (by assumption) | exact Fp.v_before (by walk_at "fact") (by assumption) (by assumption) | exact Fp.v_cell_at (by walk_at "fact") (by decide))
namespace Fp
open PySem PySem.Spec PyProof.Rows L2 LamX
section
variable {K : PySem.W.Frag} {T : List (Addr × Str)} {H H0 : Hp} {Q : VK} {E : XK} {vs : List V}
theorem p_l_cell_at (h : sp_l_cell_at K T vs H Q E) : r_l_cell_at K T { nx := fun _ H' => Q .non H', rt := Q } (start ["_law_script", "_law_k"] vs) H := by
  obtain ⟨p, k, ns, rfl, hp, h0, q⟩ := h
  unfold r_l_cell_at
  refine q_if (Mv.of T H) (by walk_at "et") (fun hb H1 e _ => ?_) (fun hb H1 e _ => ?_)
  · have hb := of_decide_eq_true hb
    refine s_ret e (ev_is (by walk_at "ev") ?_) q
    simp only [cellAt, hb, if_true]
  · have hb := of_decide_eq_false hb
    refine nextI ?_
    dsimp only
    refine s_ret e (ev_is (by walk_at "ev") ?_) q
    simp only [cellAt, hb, if_false]
theorem p_l_whole (h : sp_l_whole K T vs H Q E) : r_l_whole K T { nx := fun _ H' => Q .non H', rt := Q } (start ["_law_found"] vs) H := by
  obtain ⟨x, rfl, hx, k⟩ := h
  have a := (rfl : kd H x = kd H x)
  exact s_ret (Mv.of T H) (ev_is (ev_and (ev_cb (by walk_at "ea") (rc_is a hx (by decide))) fun _ => ev_not (ev_cb (by walk_at "ea") (rc_is a hx (by decide)))) (by rw [isI_kd])) k
end
end Fp

namespace Fp
open PySem PySem.Spec PyProof.Rows L2 LamX
/-- ranks of a board -/
def Rks (rs : List Int) : Prop := ∀ r ∈ rs, 0 ≤ r ∧ r < 1000000000000000000000000000000000000000000000000000000000000
def newRks (n : Nat) : Hp → V → Hp → Prop := fun H v H' => ∃ rs, Rks rs ∧ rs.length = n ∧ newL (rs.map V.int) H v H'
section
variable {K : PySem.W.Frag} {T : List (Addr × Str)} {H : Hp} {Q : VK} {E : XK} {vs : List V}
theorem newRks_back {n : Nat} : ∀ H1 H2 v H3, Ex T H H1 → Ex T H1 H2 → Ex T H2 H3 → newRks n H2 v H3 → newRks n H1 v H3 := fun _ _ _ _ _ a b ⟨ls, z1, z2, z3⟩ => ⟨ls, z1, z2, newL_back _ _ _ _ (Mv.of T _) a b z3⟩
end
end Fp

namespace Fp
open PySem PySem.Spec PyProof.Rows L2 LamX
/-! ### orders, plainly -/
section
variable {rs xs ys ls : List Int} {i j a b c : Int}
theorem bef_tr (h1 : bef rs a b = true) (h2 : bef rs b c = true) : bef rs a c = true := by
  simp only [bef, decide_eq_true_eq] at *
  omega
theorem bef_irr : ¬ bef rs a a = true := by
  simp only [bef, decide_eq_true_eq]
  omega
theorem bef_tot (h : a ≠ b) : bef rs a b = true ∨ bef rs b a = true := by
  simp only [bef, decide_eq_true_eq]
  omega
theorem bef_as (h1 : bef rs a b = true) (h2 : bef rs b a = true) : False := bef_irr (bef_tr h1 h2)
abbrev Srt (rs xs : List Int) : Prop := xs.Pairwise fun x y => bef rs x y = true
theorem srt_nd (h : Srt rs xs) : xs.Nodup := h.imp fun {a b} q e => by
  subst e
  exact bef_irr q
theorem srt_eq (p : xs.Perm ys) (h1 : Srt rs xs) (h2 : Srt rs ys) : xs = ys :=
  p.eq_of_pairwise (le := fun x y => bef rs x y = true) (fun _ _ _ _ z1 z2 => (bef_as z1 z2).elim) h1 h2
theorem inOrd_eq (p : xs.Perm ls) (h : Srt rs xs) : inOrd rs ls = xs :=
  srt_eq ((inOrd_perm rs ls).trans p.symm) (inOrd_bef (p.nodup_iff.mp (srt_nd h))) h
theorem inOrd_self (h : Srt rs xs) : inOrd rs xs = xs := inOrd_eq (List.Perm.refl _) h
theorem inOrd_perm_eq (p : xs.Perm ys) (nd : xs.Nodup) : inOrd rs xs = inOrd rs ys := (inOrd_eq ((inOrd_perm rs ys).trans p.symm) (inOrd_bef (p.nodup_iff.mp nd)))
/-- put at its place -/
def putI (rs xs : List Int) (i : Int) : List Int := xs.takeWhile (fun x => bef rs x i) ++ [i] ++ xs.dropWhile (fun x => bef rs x i)
theorem putI_perm : (putI rs xs i).Perm (xs ++ [i]) := by
  unfold putI
  rw [List.append_assoc]
  refine (List.Perm.append_left _ List.perm_append_comm).trans ?_
  rw [← List.append_assoc, List.takeWhile_append_dropWhile]
theorem putI_srt (h : Srt rs xs) (hi : i ∉ xs) : Srt rs (putI rs xs i) := by
  unfold putI
  induction xs with
  | nil => exact List.pairwise_singleton _ _
  | cons x xs ih =>
    have hp := List.pairwise_cons.mp h
    have hxi : x ≠ i := fun e => hi (e ▸ List.mem_cons_self)
    have ih := ih hp.2 (fun z => hi (List.mem_cons_of_mem _ z))
    by_cases e : bef rs x i = true
    · rw [List.takeWhile_cons_of_pos (p := fun x => bef rs x i) e, List.dropWhile_cons_of_pos (p := fun x => bef rs x i) e]
      refine List.pairwise_cons.mpr ⟨fun y hy => ?_, ih⟩
      have hy : y ∈ putI rs xs i := hy
      rcases List.mem_append.mp (putI_perm.mem_iff.mp hy) with z | z
      · exact hp.1 y z
      · rw [List.mem_singleton.mp z]; exact e
    · rw [List.takeWhile_cons_of_neg (p := fun x => bef rs x i) e, List.dropWhile_cons_of_neg (p := fun x => bef rs x i) e]
      have hix := (bef_tot hxi).resolve_left e
      refine List.pairwise_cons.mpr ⟨fun y hy => ?_, h⟩
      rcases List.mem_cons.mp hy with z | z
      · rw [z]; exact hix
      · exact bef_tr hix (hp.1 y z)
theorem putI_eq (h : Srt rs xs) (hi : i ∉ xs) : putI rs xs i = inOrd rs (xs ++ [i]) := (inOrd_eq putI_perm (putI_srt h hi)).symm
theorem putI_ord (nd : (ls ++ [i]).Nodup) : putI rs (inOrd rs ls) i = inOrd rs (ls ++ [i]) := by
  have nl : ls.Nodup := (List.nodup_append.mp nd).1
  have hi : i ∉ inOrd rs ls := fun z => by
    have := (List.nodup_append.mp nd).2.2 i (inOrd_mem.mp z) i (List.mem_singleton.mpr rfl)
    exact this rfl
  exact (inOrd_eq (putI_perm.trans ((inOrd_perm rs ls).append_right _)) (putI_srt (inOrd_bef nl) hi)).symm
theorem erase_ord (nd : ls.Nodup) : (inOrd rs ls).erase i = inOrd rs (ls.erase i) :=
  (inOrd_eq ((inOrd_perm rs ls).erase i) ((inOrd_bef nd).sublist List.erase_sublist)).symm
end
/-! ### what holds of pegs from deed to deed -/
structure POk (s : PSt) : Prop where
  m0 : 1 ≤ s.many
  m1 : s.many ≤ 16
  nr : s.ranks.length ≤ 60
  le : (s.hung.length : Int) ≤ s.many
  so : Srt s.ranks s.hung
  ns : Lns s.ranks.length (s.hung ++ s.book)
  fr : ∀ x ∈ s.hung, ∀ y ∈ s.book, bef s.ranks x y = true
  ne : s.hung = [] → s.book = []
section
variable {s : PSt} {i : Int}
theorem POk.len (o : POk s) : s.hung.length + s.book.length ≤ 60 := by
  have := o.ns.len
  have := o.nr
  rw [List.length_append] at *
  omega
theorem POk.wf (o : POk s) : PWf s := by
  have := o.len
  exact ⟨o.m0, o.m1, o.nr, fun i h => o.ns.2 i (List.mem_append_left _ h), fun i h => o.ns.2 i (List.mem_append_right _ h), by omega, by omega⟩
theorem POk.nb (o : POk s) : s.book.Nodup := (List.nodup_append.mp o.ns.1).2.1
theorem take_drop_bef {rs ls : List Int} {n : Nat} (h : Srt rs ls) : ∀ x ∈ ls.take n, ∀ y ∈ ls.drop n, bef rs x y = true := by
  have h' := h
  rw [← List.take_append_drop n ls] at h'
  exact (List.pairwise_append.mp h').2.2
theorem POk.make {rs ls : List Int} {m : Int} (h1 : 1 ≤ m) (h2 : m ≤ 16) (hr : rs.length ≤ 60) (hl : Lns rs.length ls) : POk (.make rs m ls) := by
  have hp := inOrd_perm rs ls
  refine ⟨h1, h2, hr, ?_, (inOrd_bef hl.1).take, ?_, take_drop_bef (inOrd_bef hl.1), fun z => ?_⟩
  · show (((inOrd rs ls).take m.toNat).length : Int) ≤ m
    rw [List.length_take]
    omega
  · show Lns _ ((inOrd rs ls).take m.toNat ++ (inOrd rs ls).drop m.toNat)
    rw [List.take_append_drop]
    exact ⟨hp.nodup_iff.mpr hl.1, fun x hx => hl.2 x (hp.mem_iff.mp hx)⟩
  · have z : (inOrd rs ls).take m.toNat = [] := z
    show (inOrd rs ls).drop m.toNat = []
    rcases List.take_eq_nil_iff.mp z with q | q
    · omega
    · rw [q]; exact List.drop_nil
theorem POk.call (o : POk { s with hung := [] } ∨ (s.hung = [] ∧ 1 ≤ s.many ∧ s.many ≤ 16 ∧ s.ranks.length ≤ 60 ∧ Lns s.ranks.length s.book)) : POk s.call := by
  have hh : 1 ≤ s.many ∧ s.many ≤ 16 ∧ s.ranks.length ≤ 60 ∧ Lns s.ranks.length s.book := by
    rcases o with o | o
    · exact ⟨o.m0, o.m1, o.nr, o.ns⟩
    · exact o.2
  obtain ⟨h1, h2, h3, h4⟩ := hh
  have q := POk.make h1 h2 h3 h4
  exact ⟨q.m0, q.m1, q.nr, q.le, q.so, q.ns, q.fr, q.ne⟩
theorem POk.go (o : POk s) (hi : i ∈ s.hung ∨ i ∈ s.book) : POk (s.go i) ∧ ((s.go i).hung ++ (s.go i).book).Perm ((s.hung ++ s.book).erase i) := by
  have nd := List.nodup_append.mp o.ns.1
  have key : (s.drop i).ranks = s.ranks ∧ (s.drop i).many = s.many ∧ (s.drop i).hung.length ≤ s.hung.length ∧ (s.drop i).hung.Sublist s.hung ∧ (s.drop i).book.Sublist s.book ∧ (s.drop i).hung ++ (s.drop i).book = (s.hung ++ s.book).erase i := by
    unfold PSt.drop
    by_cases h : i ∈ s.hung
    · rw [if_pos h]
      exact ⟨rfl, rfl, List.length_erase_le, List.erase_sublist, List.Sublist.refl _, (List.erase_append_left _ h).symm⟩
    · rw [if_neg h]
      exact ⟨rfl, rfl, Nat.le_refl _, List.Sublist.refl _, List.erase_sublist, (List.erase_append_right _ h).symm⟩
  obtain ⟨k1, k2, k3, k4, k5, k6⟩ := key
  have ns : Lns s.ranks.length ((s.drop i).hung ++ (s.drop i).book) := by
    rw [k6]
    exact ⟨o.ns.1.sublist List.erase_sublist, fun x hx => o.ns.2 x (List.mem_of_mem_erase hx)⟩
  unfold PSt.go
  split
  · rename_i h
    have e : (s.drop i).hung ++ (s.drop i).book = (s.drop i).book := by rw [h.1]; rfl
    rw [e] at ns
    refine ⟨POk.call (.inr ⟨h.1, by rw [k2]; exact o.m0, by rw [k2]; exact o.m1, by rw [k1]; exact o.nr, by rw [k1]; exact ns⟩), ?_⟩
    rw [← k6, e]
    show ((inOrd _ _).take _ ++ (inOrd _ _).drop _).Perm _
    rw [List.take_append_drop]
    exact inOrd_perm _ _
  · rename_i h
    refine ⟨⟨by rw [k2]; exact o.m0, by rw [k2]; exact o.m1, by rw [k1]; exact o.nr, by rw [k2]; have := o.le; omega, by rw [k1]; exact o.so.sublist k4, by rw [k1]; exact ns, by rw [k1]; exact fun x hx y hy => o.fr x (k4.subset hx) y (k5.subset hy), fun z => ?_⟩, by rw [k6]⟩
    exact Classical.byContradiction fun w => h ⟨z, w⟩
theorem srt_last {rs hs : List Int} {j : Int} (h : Srt rs hs) (hj : hs.getLast? = some j) : ∀ x ∈ hs, x = j ∨ bef rs x j = true := by
  obtain ⟨ys, rfl⟩ := List.getLast?_eq_some_iff.mp hj
  intro x hx
  rcases List.mem_append.mp hx with z | z
  · exact .inr ((List.pairwise_append.mp h).2.2 x z j (List.mem_singleton.mpr rfl))
  · exact .inl (List.mem_singleton.mp z)
theorem POk.come (o : POk s) (hi : inR s.ranks i) (hn : i ∉ s.hung ++ s.book) : POk (s.come i) ∧ ((s.come i).hung ++ (s.come i).book).Perm (i :: (s.hung ++ s.book)) := by
  have nih : i ∉ s.hung := fun z => hn (List.mem_append_left _ z)
  have nib : i ∉ s.book := fun z => hn (List.mem_append_right _ z)
  have cns : ∀ {l : List Int}, l.Perm (i :: (s.hung ++ s.book)) → Lns s.ranks.length l := fun p =>
    ⟨p.nodup_iff.mpr (List.nodup_cons.mpr ⟨hn, o.ns.1⟩), fun x hx => (List.mem_cons.mp (p.mem_iff.mp hx)).elim (fun z => z ▸ hi) (o.ns.2 x)⟩
  unfold PSt.come
  by_cases hp : s.press i = true
  · rw [if_pos hp]
    unfold PSt.press at hp
    by_cases hm : (s.hung.length : Int) = s.many
    · have hne : s.hung ≠ [] := fun z => by
        rw [z] at hm
        have := o.m0
        simp at hm
        omega
      obtain ⟨j, hj, mj⟩ := last_of hne
      obtain ⟨hs, eh⟩ := List.getLast?_eq_some_iff.mp hj
      have hl : bef s.ranks i j = true := by
        have h2 : decide ((s.hung.length : Int) < s.many) = false := decide_eq_false (by omega)
        rw [h2, Bool.and_false, Bool.or_false] at hp
        unfold lastBef at hp
        rwa [hj] at hp
      have ey : s.tick.yield = { s.tick with hung := hs, book := s.book ++ [j] } := by
        unfold PSt.yield
        rw [if_pos (show (s.tick.hung.length : Int) = s.tick.many from hm)]
        show { s.tick with hung := s.hung.dropLast, book := s.book ++ s.hung.getLast?.toList } = _
        rw [hj, eh, List.dropLast_concat]
        rfl
      rw [ey]
      have nis : i ∉ hs := fun z => nih (eh ▸ List.mem_append_left _ z)
      have pm : (inOrd s.ranks (hs ++ [i]) ++ (s.book ++ [j])).Perm (i :: (s.hung ++ s.book)) := by
        refine ((inOrd_perm _ _).append_right _).trans ?_
        rw [eh]
        refine List.perm_iff_count.mpr fun a => ?_
        simp only [List.count_append, List.count_cons, List.count_nil]
        omega
      have so : Srt s.ranks hs := (eh ▸ o.so : Srt s.ranks (hs ++ [j])).sublist (List.sublist_append_left _ _)
      have hsj : ∀ x ∈ hs, bef s.ranks x j = true := fun x hx => (List.pairwise_append.mp (eh ▸ o.so : Srt s.ranks (hs ++ [j]))).2.2 x hx j (List.mem_singleton.mpr rfl)
      refine ⟨⟨o.m0, o.m1, o.nr, ?_, inOrd_bef ?_, cns pm, fun x hx y hy => ?_, fun z => ?_⟩, pm⟩
      · show ((inOrd s.ranks (hs ++ [i])).length : Int) ≤ s.many
        rw [inOrd_len]
        rw [eh] at hm
        simp only [List.length_append, List.length_singleton] at *
        omega
      · exact List.nodup_append.mpr ⟨srt_nd so, by simp, fun x hx y hy e => nis (by rw [← List.mem_singleton.mp hy, ← e]; exact hx)⟩
      · have xj : bef s.ranks x j = true := by
          rcases List.mem_append.mp (inOrd_mem.mp hx) with z | z
          · exact hsj x z
          · rw [List.mem_singleton.mp z]; exact hl
        rcases List.mem_append.mp hy with z | z
        · exact bef_tr xj (o.fr j mj y z)
        · rw [List.mem_singleton.mp z]; exact xj
      · have : (inOrd s.ranks (hs ++ [i])).length = 0 := congrArg List.length z
        rw [inOrd_len, List.length_append, List.length_singleton] at this
        omega
    · have ey : s.tick.yield = s.tick := by
        unfold PSt.yield
        rw [if_neg (show ¬ (s.tick.hung.length : Int) = s.tick.many from hm)]
      rw [ey]
      have pm : (inOrd s.ranks (s.hung ++ [i]) ++ s.book).Perm (i :: (s.hung ++ s.book)) := by
        refine ((inOrd_perm _ _).append_right _).trans (List.perm_iff_count.mpr fun a => ?_)
        simp only [List.count_append, List.count_cons, List.count_nil]
        omega
      refine ⟨⟨o.m0, o.m1, o.nr, ?_, inOrd_bef ?_, cns pm, fun x hx y hy => ?_, fun z => ?_⟩, pm⟩
      · show ((inOrd s.ranks (s.hung ++ [i])).length : Int) ≤ s.many
        have := o.le
        rw [inOrd_len, List.length_append, List.length_singleton]
        omega
      · exact List.nodup_append.mpr ⟨srt_nd o.so, by simp, fun x hx y hy e => nih (by rw [← List.mem_singleton.mp hy, ← e]; exact hx)⟩
      · have hy : y ∈ s.book := hy
        rcases List.mem_append.mp (inOrd_mem.mp hx) with z | z
        · exact o.fr x z y hy
        · rw [List.mem_singleton.mp z]
          rcases Bool.or_eq_true_iff.mp hp with w | w
          · unfold lastBef at w
            cases hj : s.hung.getLast? with
            | none => rw [hj] at w; cases w
            | some j =>
              rw [hj] at w
              exact bef_tr w (o.fr j (List.mem_of_getLast? hj) y hy)
          · have := of_decide_eq_true (Bool.and_eq_true_iff.mp w).1
            rw [this] at hy
            cases hy
      · have : (inOrd s.ranks (s.hung ++ [i])).length = 0 := congrArg List.length z
        rw [inOrd_len, List.length_append, List.length_singleton] at this
        omega
  · rw [if_neg hp]
    unfold PSt.press at hp
    have hp := Bool.or_eq_false_iff.mp (by simpa using hp : (lastBef s.ranks s.hung i || (decide (s.book = []) && decide ((s.hung.length : Int) < s.many))) = false)
    have hne : s.hung ≠ [] := fun z => by
      have b0 := o.ne z
      have := o.m0
      rw [z, b0] at hp
      have q := hp.2
      simp at q
      omega
    obtain ⟨j, hj, mj⟩ := last_of hne
    have hji : bef s.ranks j i = true := by
      have w := hp.1
      unfold lastBef at w
      rw [hj] at w
      refine (bef_tot (fun e : j = i => nih (e ▸ mj))).resolve_right fun z => ?_
      have w : bef s.ranks i j = false := w
      rw [z] at w
      cases w
    have pm : (s.hung ++ (s.book ++ [i])).Perm (i :: (s.hung ++ s.book)) := List.perm_iff_count.mpr fun a => by
      simp only [List.count_append, List.count_cons, List.count_nil]
      omega
    refine ⟨⟨o.m0, o.m1, o.nr, o.le, o.so, cns pm, fun x hx y hy => ?_, fun z => (hne z).elim⟩, pm⟩
    have hx : x ∈ s.hung := hx
    rcases List.mem_append.mp hy with z | z
    · exact o.fr x hx y z
    · rw [List.mem_singleton.mp z]
      rcases srt_last o.so hj x hx with w | w
      · rw [w]; exact hji
      · exact bef_tr w hji
theorem go_rm : (s.go i).ranks = s.ranks ∧ (s.go i).many = s.many := by
  have key : (s.drop i).ranks = s.ranks ∧ (s.drop i).many = s.many := by unfold PSt.drop; split <;> exact ⟨rfl, rfl⟩
  unfold PSt.go
  split
  · exact key
  · exact key
theorem come_rm : (s.come i).ranks = s.ranks ∧ (s.come i).many = s.many := by
  unfold PSt.come
  split
  · show s.tick.yield.ranks = s.ranks ∧ s.tick.yield.many = s.many
    unfold PSt.yield
    split <;> exact ⟨rfl, rfl⟩
  · exact ⟨rfl, rfl⟩
end
end Fp

namespace Fp
open PySem PySem.Spec PyProof.Rows L2 LamX
theorem nameI {i : Nat} {x : V} {σ : L2.St} {H : Hp} {k : L2.St → Hp → Prop} (h : k (σ.set i (some x)) H) : gName i x σ H k := h
/-! ### parts of a heap, and who owns them -/
open Classical in
/-- the heap at the places of S alone -/
noncomputable def res (H : Hp) (S : Addr → Prop) : Hp := fun x => if S x then H x else none
section
variable {T : List (Addr × Str)} {K : PySem.W.Frag} {H H' H0 H1 : Hp} {S S' S1 : Addr → Prop} {a x : Addr} {o : HO} {xs : List V} {v : V} {d : PyData} {s : PSt}
theorem res_at (h : S x) : res H S x = H x := if_pos h
theorem res_of (h : res H S x = some o) : S x ∧ H x = some o := by
  unfold res at h
  split at h
  · exact ⟨‹_›, h⟩
  · cases h
/-- each datum of H stands in H' -/
def Sub (H H' : Hp) : Prop := ∀ x o, H x = some o → dat o = true → H' x = some o
theorem Sub.rd (m : Sub H H') (h : Rd H a o) (e : dat o = true) : Rd H' a o := by
  rcases h with h | ⟨w, h⟩
  · exact .inl (m a _ h e)
  · exact .inr ⟨w, m a _ h rfl⟩
theorem Sub.l (m : Sub H H') (h : SqL K H a xs) : SqL K H' a xs := h.elim (fun h => .inl (m.rd h rfl)) .inr
theorem Sub.t (m : Sub H H') (h : SqT K H a xs) : SqT K H' a xs := h.elim (fun h => .inl (m.rd h rfl)) .inr
theorem Sub.dp (m : Sub H H') (h : Dp K H v d) : Dp K H' v d := Dp.mv (fun _ _ => m.l) (fun _ _ => m.t) h
theorem Sub.dps {vs : List V} {ds : List PyData} (m : Sub H H') (h : DpAll K H vs ds) : DpAll K H' vs ds := DpAll.mv (fun _ _ => m.l) (fun _ _ => m.t) h
theorem Sub.refl : Sub H H := fun _ _ h _ => h
theorem res_sub : Sub (res H S) H := fun _ _ h _ => (res_of h).2
theorem Mv.sub (m : Mv T no H H') : Sub H H' := fun _ _ h e => m.at h e
theorem nod.not (h : H x = some o) (e : dat o = true) : ¬ nod H x := fun n => by
  rw [n o h] at e
  cases e
/-- what S owned is S''s, behind a change of S1 -/
theorem Mv.sub2 (m : Mv T S1 H H') (h1 : ∀ x, S x → ¬ S1 x) (h2 : ∀ x, S x → ¬ Fp.nod H x → S' x) : Sub (res H S) (res H' S') := fun y o h e => by
  obtain ⟨sy, hy⟩ := res_of h
  rw [res_at (h2 y sy (nod.not hy e))]
  exact m.kp y o hy e (h1 y sy)
/-- data wholly at places that were free of data in H0 -/
def FrD (K : PySem.W.Frag) (H0 H : Hp) (v : V) (d : PyData) : Prop := Dp K (res H (nod H0)) v d
theorem FrD.dp (h : FrD K H0 H v d) : Dp K H v d := res_sub.dp h
theorem FrD.ex (h : FrD K H0 H v d) (e : Ex T H H') : FrD K H0 H' v d := Sub.dp (fun y o h z => by
  obtain ⟨sy, hy⟩ := res_of h
  rw [res_at sy]
  exact e.at hy z) h
theorem FrD.back (h : FrD K H1 H v d) (e : Mv T S H0 H1) : FrD K H0 H v d := Sub.dp (fun y o h z => by
  obtain ⟨sy, hy⟩ := res_of h
  rw [res_at (e.dm y sy)]
  exact hy) h
/-- kept behind a change of what is not fresh -/
theorem FrD.mv (h : FrD K H0 H v d) (m : Mv T S H H') (n : ∀ x, nod H0 x → ¬ S x) : FrD K H0 H' v d := Sub.dp (fun y o h z => by
  obtain ⟨sy, hy⟩ := res_of h
  rw [res_at sy]
  exact m.kp y o hy z (n y sy)) h
theorem newL.fr {ns : List Int} (h : newL (ns.map V.int) H v H') : FrD K H H' v (dI ns) := by
  obtain ⟨p, rfl, np, hp⟩ := h
  exact dp_n (by rw [res_at np]; exact hp)
/-- pegs behind a change of another owner's -/
theorem PegO.go (O : PegO K H a s S) (m : Mv T S1 H H') (h1 : ∀ x, S x → ¬ S1 x) (h2 : ∀ x, S x → ¬ nod H x → S' x) : PegO K H' a s S' := by
  obtain ⟨⟨dx, r, h, b, A, sa, sr, sh, sb⟩, pc, wf⟩ := O
  exact ⟨⟨dx, r, h, b, A.mv m (h1 _ sa) (h1 _ sr) (h1 _ sh) (h1 _ sb), h2 _ sa (nod.not A.at_ rfl), h2 _ sr (nod.not A.rk rfl), h2 _ sh (nod.not A.hg rfl), h2 _ sb (nod.not A.bk rfl)⟩, pc, wf⟩
end
section
variable {T : List (Addr × Str)} {K : PySem.W.Frag} {σ : L2.St} {H H0 : Hp} {te ta tb t1 t2 t3 : TE} {v z : V} {R : Hp → V → Hp → Prop} {D : Ends} {u : TS} {sp : Sp} {E : XK}
theorem q_setL {l : Addr} {xs : List V} {i : Int} {j : Nat} (e : Ex T H0 H) (hl : H l = some (.lst xs)) (h : Ev T te σ H0 v) (ho : Ev T ta σ H0 (.ref l)) (hi : Ev T tb σ H0 (.int i)) (hj : ixN xs.length i = some j) (k : ∀ H1, Ex T H0 H1 → Ex T H H1 → u D σ (upd H1 l (.lst (xs.set j v)))) :
    tSeq (tAsg te (gSub ta tb rSetL)) u D σ H := s_setL (D := { D with nx := u D }) e hl h ho hi hj k
/-- xs[i] = e, e told by a relation -/
theorem q_setLR {l : Addr} {xs : List V} {i : Int} {j : Nat} (e : Ex T H0 H) (hl : H l = some (.lst xs)) (h : EvR T te σ H0 R) (ho : Ev T ta σ H0 (.ref l)) (hi : Ev T tb σ H0 (.int i)) (hj : ixN xs.length i = some j) (k : ∀ w H1 H2, Ex T H0 H1 → Ex T H H1 → R H w H1 → Ex T H1 H2 → u D σ (upd H2 l (.lst (xs.set j w)))) :
    tSeq (tAsg te (gSub ta tb rSetL)) u D σ H := h H e _ fun w H1 e1 r => ho H1 (e.trans e1) _ fun H2 e2 => hi H2 ((e.trans e1).trans e2) _ fun H3 e3 =>
  ⟨l, xs, i, j, rfl, rfl, e3.at (e2.at (e1.at hl)), hj, k w H1 H3 (e.trans e1) e1 r (e2.trans e3)⟩
/-- f(a, b, xs.pop()), as a statement -/
theorem s_callPop {x y : V} {l2 : Addr} {ys : List V} (e : Ex T H0 H) (h1 : Ev T t1 σ H0 x) (h2 : Ev T t2 σ H0 y) (hb : Ev T tb σ H0 (.ref l2)) (hl : H l2 = some (.lst ys)) (hz : ys.getLast? = some z) (k : ∀ H1, Ex T H H1 → sp [x, y, z] (upd H1 l2 (.lst ys.dropLast)) (fun _ H' => D.nx σ H') E) :
    tDrop (tCall sp [] E (tCons t1 (tCons t2 (tCons (tBM0 K "list" rPop tb) tNil)))) D σ H := h1 H e _ fun H1 e1 => h2 H1 (e.trans e1) _ fun H2 e2 => hb H2 ((e.trans e1).trans e2) _ fun H3 e3 =>
  have e13 := (e1.trans e2).trans e3
  ⟨.inl ⟨rfl, ys, .inl (.inl (e13.at hl))⟩, l2, ys, z, rfl, rfl, e13.at hl, by rw [← List.getLast?_eq_getElem?]; exact hz, by
    show sp ([x, y, z] ++ []) _ _ _
    rw [List.append_nil]
    exact k H3 e13⟩
/-- three new lists in a new list -/
theorem er_trip {xs ys zs : List V} (h1 : EvL T t1 σ H xs) (h2 : EvL T t2 σ H ys) (h3 : EvL T t3 σ H zs) : EvR T (tLst (tCons t1 (tCons t2 (tCons t3 tNil)))) σ H (fun H1 v H2 => ∃ p a b c, v = .ref p ∧ nod H1 p ∧ nod H1 a ∧ nod H1 b ∧ nod H1 c ∧ H2 p = some (.lst [.ref a, .ref b, .ref c]) ∧ H2 a = some (.lst xs) ∧ H2 b = some (.lst ys) ∧ H2 c = some (.lst zs) ∧
    a ≠ p ∧ b ≠ p ∧ c ≠ p ∧ a ≠ b ∧ a ≠ c ∧ b ≠ c) := fun H1 e Q q =>
  h1 H1 e _ fun v H2 e2 ⟨a, ea, na, ha⟩ => by
    subst ea
    exact h2 H2 (e.trans e2) _ fun w H3 e3 ⟨b, eb, nb, hb⟩ => by
      subst eb
      exact h3 H3 ((e.trans e2).trans e3) _ fun w H4 e4 ⟨c, ec, nc, hc⟩ => by
        subst ec
        refine ⟨sz (by simp), fun p hp => ?_⟩
        have e5 : Ex T H4 (upd H4 p (.lst [.ref a, .ref b, .ref c])) := Mv.new hp
        have np : nod H4 p := .of hp
        exact q _ _ (((e2.trans e3).trans e4).trans e5) ⟨p, a, b, c, rfl, ((e2.trans e3).trans e4).nod hp, na, e2.dm b nb, (e2.trans e3).dm c nc, upd_same, e5.at (e4.at (e3.at ha)), e5.at (e4.at hb), e5.at hc,
          np.ne (e4.at (e3.at ha)), np.ne (e4.at hb), np.ne hc, nb.ne ha, nc.ne (e3.at ha), nc.ne hb⟩
theorem er_pair2 {xs ys : List V} (h1 : EvL T t1 σ H xs) (h2 : EvL T t2 σ H ys) : EvR T (tLst (tCons t1 (tCons t2 tNil))) σ H (fun H1 v H2 => ∃ p a b, v = .ref p ∧ nod H1 p ∧ nod H1 a ∧ nod H1 b ∧ H2 p = some (.lst [.ref a, .ref b]) ∧ H2 a = some (.lst xs) ∧ H2 b = some (.lst ys) ∧ a ≠ p ∧ b ≠ p ∧ a ≠ b) := fun H1 e Q q =>
  h1 H1 e _ fun v H2 e2 ⟨a, ea, na, ha⟩ => by
    subst ea
    exact h2 H2 (e.trans e2) _ fun w H3 e3 ⟨b, eb, nb, hb⟩ => by
      subst eb
      refine ⟨sz (by simp), fun p hp => ?_⟩
      have e4 : Ex T H3 (upd H3 p (.lst [.ref a, .ref b])) := Mv.new hp
      have np : nod H3 p := .of hp
      exact q _ _ ((e2.trans e3).trans e4) ⟨p, a, b, rfl, (e2.trans e3).nod hp, na, e2.dm b nb, upd_same, e4.at (e3.at ha), e4.at hb, np.ne (e3.at ha), np.ne hb, nb.ne ha⟩
theorem rc_min2 {i j : Int} : RC T rMin2 [.int i, .int j] H (.int (if j < i then j else i)) := fun H1 _ _ q => ⟨i, j, rfl, q H1 Mv.refl⟩
theorem q_call {t : TA} {vs : List V} (e : Ex T H0 H) (h : EvA T t σ H0 vs) (k : ∀ H1, Ex T H0 H1 → Ex T H H1 → sp vs H1 (fun _ H' => u D σ H') E) : tSeq (tDrop (tCall sp [] E t)) u D σ H := s_call (D := { D with nx := u D }) e h k
/-- if not f(..): where f changes things -/
theorem q_ifCall {t : TA} {vs : List V} {tu tw : TS} (e : Ex T H0 H) (h : EvA T t σ H0 vs) (k : ∀ H1, Ex T H0 H1 → Ex T H H1 → sp vs H1 (fun v H' => ∃ b, v = .bl b ∧ if (!b) = true then tu { D with nx := u D } σ H' else tw { D with nx := u D } σ H') E) : tSeq (tIfS (tNot (tB (tCall sp [] E t))) tu tw) u D σ H := h H e _ fun H2 e2 => by
  rw [List.append_nil]
  exact k H2 (e.trans e2) e2
theorem q_ifOrCall {t : TA} {vs : List V} {tu tw : TS} {tc : TT} (e : Ex T H0 H) (hc : EvT T tc σ H0 false) (h : EvA T t σ H0 vs) (k : ∀ H1, Ex T H0 H1 → Ex T H H1 → sp vs H1 (fun v H' => ∃ b, v = .bl b ∧ if (!b) = true then tu { D with nx := u D } σ H' else tw { D with nx := u D } σ H') E) : tSeq (tIfS (tOr tc (tNot (tB (tCall sp [] E t)))) tu tw) u D σ H := hc H e _ fun H1 e1 => h H1 (e.trans e1) _ fun H2 e2 => by
  rw [List.append_nil]
  exact k H2 ((e.trans e1).trans e2) (e1.trans e2)
theorem q_clear {p : Addr} {xs : List V} (e : Ex T H0 H) (hl : H p = some (.lst xs)) (ha : Ev T te σ H0 (.ref p)) (k : ∀ H1, Ex T H0 H1 → Ex T H H1 → u D σ (upd H1 p (.lst []))) : tSeq (tDrop (tBM0 K "list" rClear te)) u D σ H := ha H e _ fun H1 e1 =>
  ⟨.inl ⟨rfl, xs, .inl (.inl (e1.at hl))⟩, p, xs, rfl, rfl, e1.at hl, k H1 (e.trans e1) e1⟩
end
end Fp

namespace Fp
open PySem PySem.Spec PyProof.Rows L2 LamX
/-! ### a method taken from its class: C.m(..) -/
section
variable {prog : Program} {w : World} {A : Around} {E : Value → Shared → Prop} {s : Shared} {K : PySem.W.Frag} {C : Addr} {name : Str} {v : Value}
theorem method_cref {pl : Sem Bool} {Q : Value × List Value → Shared → Prop} (X : K.In s.heap) (hs : PySem.W.nsIn K cStatics "thirdparty.any" = some none) (ht : PySem.W.typeIn K (.ref C) = some (.type "type"))
    (e : PySem.W.findCls K (.ref C) (.type "type") name = some (.val v)) (hh : PySem.W.handedIn v = true) (q : Q (v, []) { s with toks := s.toks + 1 }) : wpAny (model prog w) A (getMethod (.ref C) name pl) Q E s := by
  have k1 : PySem.W.Looks (model prog w) s.heap (opaqueClassAbove (.ref C)) none := PySem.W.looks_opaque X hs
  have k0 := PySem.W.looks_typeIn (M := model prog w) X ht
  have kg : PySem.W.findIn K (.type "type") "__getattribute__" = some (some (.builtin "type.__getattribute__")) := PySem.W.type_tga
  unfold getMethod specialOf
  refine wpAny_bind (wpAny_bind (k0.here ((PySem.W.looks_findIn X kg).here ?_)))
  dsimp only
  rw [if_pos PySem.W.canon_tga]
  refine wpAny_bind (wpAny_mono (Q := fun u => Q (u, [])) (E := E) (PySem.W.cls_open X k1 k0 kg (PySem.W.looks_hook X (r := none) (by rfl)) (by show PySem.W.subIn K _ _ = _; rfl) e
    (wpAny_pure (by show wpAny _ _ (handedOut v) _ _ _; rw [PySem.W.handedOut_of hh]; exact wpAny_pure q))) (fun _ _ z => wpAny_pure z) fun _ _ z => z)
end
/-- what the head must tell of a class whose methods are taken from it -/
structure Cm (K : PySem.W.Frag) (mg : Str → Option Value) (c m : Str) (v : Value) : Prop where
  g : mg c = some (.ref (He.ga K c))
  st : PySem.W.nsIn K cStatics "thirdparty.any" = some none
  ty : PySem.W.typeIn K (.ref (He.ga K c)) = some (.type "type")
  at_ : PySem.W.findCls K (.ref (He.ga K c)) (.type "type") m = some (.val v)
def isVal (o : Option PySem.W.CFound) (v : Value) : Bool := match o with
  | some (.val u) => u == v
  | _ => false
theorem isVal_ok {o : Option PySem.W.CFound} {v : Value} (h : isVal o v = true) : o = some (.val v) := by
  unfold isVal at h
  split at h
  · rw [beq_iff_eq.mp h]
  · cases h
def cmB (K : PySem.W.Frag) (c m : Str) (v : Value) : Bool := decide (PySem.W.nsIn K cStatics "thirdparty.any" = some none) && (decide (PySem.W.typeIn K (.ref (He.ga K c)) = some (.type "type")) && isVal (PySem.W.findCls K (.ref (He.ga K c)) (.type "type") m) v)
theorem cmB_ok {K : PySem.W.Frag} {mg : Str → Option Value} {c m : Str} {v : Value} (g : mg c = some (.ref (He.ga K c))) (h : cmB K c m v = true) : Cm K mg c m v := by
  unfold cmB at h
  simp only [Bool.and_eq_true, decide_eq_true_eq] at h
  exact ⟨g, h.1, h.2.1, isVal_ok h.2.2⟩
section
variable {X : Cx} {CX : CXT} {k : Nat} {c c2 m : Str} {f : Addr} {fd : FuncData} {ps : List Str} {dvs : List V} {ds : List Value} {sp : Sp} {E : XK} {p1 p2 pos : Pos} {e : Expr} {es : List Expr} {t : TA} {pl : Sem Bool}
/-- C.m(self, ..), m a def -/
theorem pe_cm (R : Cm X.K X.mg c m (.ref f)) (F : FnOk X.prog X.w X.K X.mg X.base CX k f fd ps sp) (kp : PySem.W.keepIn X.K (.ref f) = true) (hr : Room k X.A) (b : L2.Binds X.K fd ps ds) (hd : Vals dvs ds) (hg : Gl X c) (hx : Passes CX X E) (ha : PA X (e :: es) t)
    (h3 : eval (.Call (.Attribute (.Name c p1) m p2) (e :: es) [] pos) X.env = (do
      let a ← eval (.Name c p1) X.env
      standAt p2.atName
      let (g, b) ← holding [a] (getMethod a m pl)
      callWith pos g b (backTo pos (starEach (e :: es) X.env)) (backToKw pos (keywordEach [] X.env))) := by rfl)
    (h0 : (c == ("__debug__" : Str)) = false := by decide) (h1 : starEach (e :: es) X.env = (false, eval e X.env) :: starEach es X.env := by rfl) (h2 : (backTo pos (starEach es X.env)).any (·.1) = false := by rfl) :
    PE X (.Call (.Attribute (.Name c p1) m p2) (e :: es) [] pos) (tCall sp dvs E t) := by
  refine ⟨fun pins s σ H Q I h => PySem.W.methodCall_KW (ld_glob I hg R.g ?_ h0) h3⟩
  refine method_cref I.kIn R.st R.ty R.at_ rfl ?_
  refine PySem.W.callWith_K (h₀ := X.base) (first := []) I.ok.mod.kin kp (thn (ha.run pos pins _ σ H _ (I.tok _) h) fun us s1 ⟨vs, H1, I1, r, q⟩ => ⟨I1.kIn, ?_⟩) h1 h2
  exact run_fn F hr b hd hx I1 r q
/-- BoardError.__init__(self, ..), a built-in -/
theorem pe_cmV (R : Cm X.K X.mg c "__init__" (.builtin "ValueError.__init__")) (hg : Gl X c) (ha : PA X (e :: es) t)
    (h3 : eval (.Call (.Attribute (.Name c p1) "__init__" p2) (e :: es) [] pos) X.env = (do
      let a ← eval (.Name c p1) X.env
      standAt p2.atName
      let (g, b) ← holding [a] (getMethod a "__init__" pl)
      callWith pos g b (backTo pos (starEach (e :: es) X.env)) (backToKw pos (keywordEach [] X.env))) := by rfl)
    (h0 : (c == ("__debug__" : Str)) = false := by decide) (h1 : starEach (e :: es) X.env = (false, eval e X.env) :: starEach es X.env := by rfl) (h2 : (backTo pos (starEach es X.env)).any (·.1) = false := by rfl) :
    PE X (.Call (.Attribute (.Name c p1) "__init__" p2) (e :: es) [] pos) (tVeI X.K t) := by
  refine ⟨fun pins s σ H Q I h => PySem.W.methodCall_KW (ld_glob I hg R.g ?_ h0) h3⟩
  refine method_cref I.kIn R.st R.ty R.at_ (by decide +kernel) ?_
  show wpAny _ _ (callWith pos (Value.builtin "ValueError.__init__") [] (backTo pos (starEach (e :: es) X.env)) []) _ _ _
  refine PyProof.Rows.callWith_method1 (thn (ha.run pos pins _ σ H _ (I.tok _) h) fun us s1 ⟨vs, H1, I1, r1, a, C, ws, ev, hl, T, ea, q⟩ => ?_) h1 h2
  subst ev
  match r1 with
  | @Paired.cons _ _ _ _ u0 _ ur ra rw' =>
    obtain rfl : u0 = Value.ref a := ra
    refine oinit_ok T I1 ea ?_ fun s' J => ⟨.non, H1, J, rfl, q⟩
    have := Paired.length rw'
    rw [sizeLine_eq]
    omega
end
end Fp

namespace Fp
open PySem PySem.Spec PyProof.Rows L2 LamX
/-! ### refusals with an __init__ of their own -/
def oexB (K : PySem.W.Frag) (C : Addr) : Bool := match K.lookup C with
  | some ⟨.type "type", _, .cls cd, sl⟩ => (match cd.mro, sl.toList with
    | .ref D :: bm, [_, _, _, _, some (.builtin n), _] => decide (D = C) && (decide (n = "ValueError.__new__") && (!cd.hasDel && (cd.hasDict && PySem.HandSPX.refsVE bm)))
    | _, _ => false)
  | _ => false
theorem oexB_ok {K : PySem.W.Frag} {C : Addr} (h : oexB K C = true) : ∃ nm q N bs bm sn sub ab col dd k0 k1 k2 k3 k5, K.lookup C = some (excClassObj nm q C N bs bm true sn sub ab col dd k0 k1 k2 k3 k5 "ValueError.__new__") ∧ PySem.HandSPX.refsVE bm = true := by
  unfold oexB at h
  split at h
  · rename_i dd cd sl ho
    split at h
    · rename_i D bm k0 k1 k2 k3 n k5 hm hs
      simp only [Bool.and_eq_true, decide_eq_true_eq, Bool.not_eq_true'] at h
      obtain ⟨rfl, rfl, hdel, hdct, hbm⟩ := h
      obtain ⟨nm, bs, mro, ns, qn, hd, sn, sub, ab, col, del⟩ := cd
      dsimp only at hm hdel hdct
      subst hm hdel hdct
      have e : sl = #[k0, k1, k2, k3, some (.builtin "ValueError.__new__"), k5] := by
        obtain ⟨l⟩ := sl
        simp only at hs
        rw [hs]
      subst e
      exact ⟨nm, qn, ns, bs, bm, sn, sub, ab, col, dd, k0, k1, k2, k3, k5, ho, hbm⟩
    · cases h
  · cases h
/-- the class c, with these fields -/
structure Xo (K : PySem.W.Frag) (mg : Str → Option Value) (c : Str) (fs : List Str) : Prop where
  g : mg c = some (.ref (He.ga K c))
  ox : OexC K (He.ga K c)
  it : PySem.W.findIn K (.ref (He.ga K c)) "__init__" = some (some (.ref (He.ma K (He.ga K c) "__init__")))
  ti : PySem.W.typeIn K (.ref (He.ma K (He.ga K c) "__init__")) = some (.type "function")
  no : ∀ f ∈ fs, PySem.W.findIn K (.ref (He.ga K c)) f = some none
def xoB (K : PySem.W.Frag) (c : Str) (fs : List Str) : Bool := oexB K (He.ga K c) && (decide (PySem.W.findIn K (.ref (He.ga K c)) "__setattr__" = some (some (.builtin "object.__setattr__"))) && (decide (PySem.W.subIn K (.ref (He.ga K c)) (.type "BaseException") = some true) && (decide (PySem.W.typeIn K (.ref (He.ga K c)) = some (.type "type")) && (PySem.W.keepIn K (.ref (He.ga K c)) &&
  (decide (PySem.W.findIn K (.ref (He.ga K c)) "__init__" = some (some (.ref (He.ma K (He.ga K c) "__init__")))) && (decide (PySem.W.typeIn K (.ref (He.ma K (He.ga K c) "__init__")) = some (.type "function")) && fs.all fun f => decide (PySem.W.findIn K (.ref (He.ga K c)) f = some none)))))))
theorem xoB_ok {K : PySem.W.Frag} {mg : Str → Option Value} {c : Str} {fs : List Str} (g : mg c = some (.ref (He.ga K c))) (h : xoB K c fs = true) : Xo K mg c fs := by
  unfold xoB at h
  simp only [Bool.and_eq_true, decide_eq_true_eq, List.all_eq_true] at h
  obtain ⟨h1, h2, h3, h4, h5, h6, h7, h8⟩ := h
  exact ⟨g, ⟨oexB_ok h1, h2, h3, h4, h5⟩, h6, h7, h8⟩
/-- what the making of an error leaves -/
def XI (K : PySem.W.Frag) (c : Str) (fs : List (Str × V)) (a : Addr) (H : Hp) (Q : VK) : Prop := ∀ d, H d = none → d ≠ a → ∀ H2 : Hp, H2 a = some (exo a (He.ga K c) (some d)) → H2 d = some (exd d fs) → (∀ b, b ≠ a → b ≠ d → H2 b = H b) → Q .non H2
def sp_NotTop_init (K : PySem.W.Frag) (_T : List (Addr × Str)) : Sp := fun vs H Q _ => ∃ a x y, vs = [.ref a, x, y] ∧ H a = some (exo a (He.ga K "NotTop") none) ∧ OexC K (He.ga K "NotTop") ∧ (∀ f ∈ (["line", "top"] : List Str), PySem.W.findIn K (.ref (He.ga K "NotTop")) f = some none) ∧ XI K "NotTop" [("top", y), ("line", x)] a H Q
def sp_NoDeed_init (K : PySem.W.Frag) (_T : List (Addr × Str)) : Sp := fun vs H Q _ => ∃ a x, vs = [.ref a, x] ∧ H a = some (exo a (He.ga K "NoDeed") none) ∧ OexC K (He.ga K "NoDeed") ∧ (∀ f ∈ (["place"] : List Str), PySem.W.findIn K (.ref (He.ga K "NoDeed")) f = some none) ∧ XI K "NoDeed" [("place", x)] a H Q
def r_NotTop_init (K : PySem.W.Frag) (T : List (Addr × Str)) : TS :=
  (tSeq (tDrop (tVeI K (tCons (tVar 0) (tCons (tC (.str "the line is not the top of the pile")) tNil))))
  (tSeq (tOst K "line" (tVar 0) (tVar 1))
  (tOst K "top" (tVar 0) (tVar 2))))
def r_NoDeed_init (K : PySem.W.Frag) (T : List (Addr × Str)) : TS :=
  (tSeq (tDrop (tVeI K (tCons (tVar 0) (tCons (tC (.str "the row has a thing that is no deed")) tNil))))
  (tOst K "place" (tVar 0) (tVar 1)))
theorem len_NotTop_init {K : PySem.W.Frag} {T : List (Addr × Str)} : ∀ vs H Q E, sp_NotTop_init K T vs H Q E → vs.length = 3 := fun vs H Q E h => by
  obtain ⟨_, _, _, rfl, _⟩ := h
  exact rfl
theorem len_NoDeed_init {K : PySem.W.Frag} {T : List (Addr × Str)} : ∀ vs H Q E, sp_NoDeed_init K T vs H Q E → vs.length = 2 := fun vs H Q E h => by
  obtain ⟨_, _, rfl, _⟩ := h
  exact rfl
section
variable {K : PySem.W.Frag} {T : List (Addr × Str)} {H : Hp} {Q : VK} {E : XK} {vs : List V}
theorem p_NotTop_init (h : sp_NotTop_init K T vs H Q E) : r_NotTop_init K T { nx := fun _ H' => Q .non H', rt := Q } (start ["self", "line", "top"] vs) H := by
  obtain ⟨a, x, y, rfl, ha, ox, no, k⟩ := h
  refine ⟨.ref a, rfl, a, He.ga K "NotTop", [_], rfl, by simp, ox, ha, ?_⟩
  refine ⟨x, rfl, .ref a, rfl, a, _, rfl, ox, no "line" (by simp), .inl ⟨ha, fun d hd ne => ?_⟩⟩
  refine ⟨y, rfl, .ref a, rfl, a, _, rfl, ox, no "top" (by simp), .inr ⟨d, [("line", x)], upd_same, by rw [upd_ne ne, upd_same], by simp, ?_⟩⟩
  exact k d hd ne _ (by rw [upd_ne (Ne.symm ne), upd_same]) upd_same fun b n1 n2 => by rw [upd_ne n2, upd_ne n1, upd_ne n2]
theorem p_NoDeed_init (h : sp_NoDeed_init K T vs H Q E) : r_NoDeed_init K T { nx := fun _ H' => Q .non H', rt := Q } (start ["self", "place"] vs) H := by
  obtain ⟨a, x, rfl, ha, ox, no, k⟩ := h
  refine ⟨.ref a, rfl, a, He.ga K "NoDeed", [_], rfl, by simp, ox, ha, ?_⟩
  refine ⟨x, rfl, .ref a, rfl, a, _, rfl, ox, no "place" (by simp), .inl ⟨ha, fun d hd ne => ?_⟩⟩
  exact k d hd ne _ upd_same (by rw [upd_ne ne, upd_same]) fun b n1 n2 => by rw [upd_ne n1, upd_ne n2]
end
/-- where an error's __init__ stands -/
structure De (K : PySem.W.Frag) (mg : Str → Option Value) (c qual : Str) (st : Stmt) (fs : List Str) : Prop where
  xo : Xo K mg c fs
  ex : ∃ fd, FunD K "__init__" qual (defArgs st) (defBody st) (defScope st) [] [] (He.ma K (He.ga K c) "__init__") fd
/-- an error's __init__ keeps a promise -/
structure Ge (P : Program) (w : World) (K : PySem.W.Frag) (mg : Str → Option Value) (base : Heap) (k : Nat) (c : Str) (ps : List Str) (fs : List Str) (sp : Sp) : Prop where
  xo : Xo K mg c fs
  ex : ∃ fd, FnOk P w K mg base CX0 k (He.ma K (He.ga K c) "__init__") fd ps sp ∧ L2.Binds K fd ps []
theorem De.ge {P : Program} {w : World} {K : PySem.W.Frag} {mg : Str → Option Value} {base : Heap} {c qual : Str} {st : Stmt} {N ps fs : List Str} {k : Nat} {sp : Sp} (D : De K mg c qual st fs) (S : FnScope N ps (defScope st)) (len : ∀ vs H Q E, sp vs H Q E → vs.length = ps.length)
    (hb : ∀ (kV doc pm : Value) (an : Option Addr) (cdv ct : Value) (us : List Value), us.length = ps.length → bindArgs (PySem.W.fnOf "__init__" qual (defArgs st) (defBody st) (defScope st) .none kV doc pm an cdv ct) ⟨us, []⟩ = pure (ps.zip us))
    (hbody : ∀ (f : Addr) (cdv : Value) (A : Around) (outer : List Env) (s : Shared) (H : Hp) (vs : List V) (Q : VK) (E : XK), Room k (A.deeper (envOfC qual (defScope st) s.heap.objs.size f cdv)) → sp vs H Q E →
      ∃ t, PSs (cxOf CX0 P w K mg base N qual (defScope st) f cdv A outer s H E).nox (defBody st) t ∧ t { nx := fun _ H' => Q .non H', rt := Q } (start N vs) H) : Ge P w K mg base (k + 1) c ps fs sp := by
  obtain ⟨fd, F⟩ := D.ex
  refine ⟨D.xo, fd, F.ok S len (fun cdv A outer s H vs Q E hr h => ?_), F.bindsN hb⟩
  obtain ⟨t, h1, h2⟩ := hbody _ cdv A outer s H vs Q E hr h
  exact ⟨t, h1.nox, h2⟩
/-- raise c(..) -/
def tRaiseI (K : PySem.W.Frag) (E : XK) (c : Str) (sp : Sp) (ta : TA) : TS := fun _ σ H => tMkO (He.ga K c) sp [] ta σ H fun cls d H' => E cls d H'
theorem ps_noI {X : Cx} {E : XK} {c : Str} {k : Nat} {ps fs : List Str} {sp : Sp} {e : Expr} {es : List Expr} {ta : TA} {p pos pos' : Pos} (G : Ge X.prog X.w X.K X.mg X.base k c ps fs sp) (hc : X.calm = true) (hr : Room (k + 1) X.A) (tk : Takes X (fun c d _ H => E c d H)) (hg : Gl X c) (ha : PA X (e :: es) ta)
    (h0 : (c == ("__debug__" : Str)) = false := by decide) (h1 : starEach (e :: es) X.env = (false, eval e X.env) :: starEach es X.env := by rfl) (h2 : (backTo pos (starEach es X.env)).any (·.1) = false := by rfl) :
    PS X (.Raise (some (.Call (.Name c p) (e :: es) [] pos)) none pos') (tRaiseI X.K E c sp ta) := by
  obtain ⟨fd, F, b⟩ := G.ex
  exact ps_raise hc tk (pmk_oex G.xo.ox G.xo.it G.xo.ti F hr b .nil pass0 hg G.xo.g ha h0 h1 h2)
section
variable {K : PySem.W.Frag} {T : List (Addr × Str)} {σ : L2.St} {H H0 : Hp} {D : Ends} {E : XK} {ta : TA} {x y : V}
theorem s_notTop (e : Ex T H0 H) (h : EvA T ta σ H0 [x, y]) (ox : OexC K (He.ga K "NotTop")) (no : ∀ f ∈ (["line", "top"] : List Str), PySem.W.findIn K (.ref (He.ga K "NotTop")) f = some none) (k : ∀ H1 d, Ex T H0 H1 → H1 d = none → E (.ref (He.ga K "NotTop")) (some d) (upd H1 d (.xd [("top", y), ("line", x)]))) : tRaiseI K E "NotTop" (sp_NotTop_init K T) ta D σ H := h H e _ fun H1 e1 =>
  ⟨by simp, fun a ha => ⟨a, x, y, rfl, upd_same, ox, no, fun d hd ne H2 h1 h2 h3 => by
    rw [upd_ne ne] at hd
    refine ⟨rfl, d, _, h1, h2, hd, ?_⟩
    rw [show upd (del H2 a) d (.xd [("top", y), ("line", x)]) = upd H1 d (.xd [("top", y), ("line", x)]) by
      funext b
      by_cases z : b = d
      · rw [z, upd_same, upd_same]
      · rw [upd_ne z, upd_ne z]
        by_cases w : b = a
        · rw [w, del_same, ha]
        · rw [del_ne w, h3 b w z, upd_ne w]]
    exact k H1 d (e.trans e1) hd⟩⟩
theorem s_noDeed (e : Ex T H0 H) (h : EvA T ta σ H0 [x]) (ox : OexC K (He.ga K "NoDeed")) (no : ∀ f ∈ (["place"] : List Str), PySem.W.findIn K (.ref (He.ga K "NoDeed")) f = some none) (k : ∀ H1 d, Ex T H0 H1 → H1 d = none → E (.ref (He.ga K "NoDeed")) (some d) (upd H1 d (.xd [("place", x)]))) : tRaiseI K E "NoDeed" (sp_NoDeed_init K T) ta D σ H := h H e _ fun H1 e1 =>
  ⟨by simp, fun a ha => ⟨a, x, rfl, upd_same, ox, no, fun d hd ne H2 h1 h2 h3 => by
    rw [upd_ne ne] at hd
    refine ⟨rfl, d, _, h1, h2, hd, ?_⟩
    rw [show upd (del H2 a) d (.xd [("place", x)]) = upd H1 d (.xd [("place", x)]) by
      funext b
      by_cases z : b = d
      · rw [z, upd_same, upd_same]
      · rw [upd_ne z, upd_ne z]
        by_cases w : b = a
        · rw [w, del_same, ha]
        · rw [del_ne w, h3 b w z, upd_ne w]]
    exact k H1 d (e.trans e1) hd⟩⟩
end
end Fp

namespace Fp
open PySem PySem.Spec PyProof.Rows L2 LamX
/-! ### boards: what is meant -/
structure BSt where
  ranks : List Int
  asking : List Bool
  quiet : List Bool
  pile : List Int
  edge : Option Int
  pegs : Option PSt
/-- a flag of a line -/
def fl (bs : List Bool) (i : Int) : Bool := bs.getD i.toNat false
/-- lines below n that have a thing, rising -/
def linesW (n : Nat) (b : Int → Bool) : List Int := ((List.range n).filter fun z : Nat => b (z : Int)).map fun z : Nat => (z : Int)
def BSt.here (s : BSt) : List Int := linesW s.ranks.length fun z => fl s.asking z && !fl s.quiet z
/-- below a rank, where there is one -/
def ltO (r : Int) : Option Int → Bool
  | none => true
  | some e => decide (r < e)
def BSt.open_ (s : BSt) (i : Int) : Bool := ltO (rk s.ranks i) s.edge && ltO (rk s.ranks i) (s.pile.getLast?.map (rk s.ranks))
def BSt.ready (s : BSt) (i : Int) : Bool := fl s.asking i && (!fl s.quiet i && s.open_ i)
def BSt.best (s : BSt) : Option Int := match s.pegs with
  | none => fstOf s.ranks (linesW s.ranks.length s.ready)
  | some p => match p.hung.head? with
    | none => none
    | some i => if s.open_ i = true then some i else none
def BSt.enters (s : BSt) (i : Int) : BSt := { s with pegs := s.pegs.map (·.come i) }
def BSt.leaves (s : BSt) (i : Int) : BSt := { s with pegs := s.pegs.map (·.go i) }
def BSt.ask (s : BSt) (i : Int) (b : Bool) : BSt := { s with asking := s.asking.set i.toNat b }
def BSt.hush (s : BSt) (i : Int) (b : Bool) : BSt := { s with quiet := s.quiet.set i.toNat b }
def BSt.ring (s : BSt) (i : Int) : BSt := if fl s.asking i = true then s else if fl s.quiet i = true then s.ask i true else (s.ask i true).enters i
def BSt.calm (s : BSt) (i : Int) : BSt := if fl s.asking i = true then (if fl s.quiet i = true then s.ask i false else (s.ask i false).leaves i) else s
def BSt.mute (s : BSt) (i : Int) : BSt := if fl s.quiet i = true then s else if fl s.asking i = true then (s.hush i true).leaves i else s.hush i true
def BSt.free (s : BSt) (i : Int) : BSt := if fl s.quiet i = true then (if fl s.asking i = true then (s.hush i false).enters i else s.hush i false) else s
def BSt.bar (s : BSt) (e : Option Int) : BSt := { s with edge := e }
def BSt.take (s : BSt) : BSt := match s.best with
  | none => s
  | some i => let t := (s.ask i false).leaves i; { t with pile := t.pile ++ [i] }
def BSt.up (s : BSt) : Option Int := s.pile.getLast?
def BSt.pop (s : BSt) : BSt := { s with pile := s.pile.dropLast }
/-- a bar -/
def okBar (e : Option Int) : Prop := ∀ i, e = some i → 0 ≤ i ∧ i ≤ 1000000000000000000000000000000000000000000000000000000000000
/-- the pile is nested -/
abbrev Nst (rs ls : List Int) : Prop := ls.Pairwise fun x y => rk rs y < rk rs x
/-- what holds of a board from deed to deed -/
structure BWf (s : BSt) : Prop where
  n1 : 1 ≤ s.ranks.length
  n60 : s.ranks.length ≤ 60
  rk : Rks s.ranks
  la : s.asking.length = s.ranks.length
  lq : s.quiet.length = s.ranks.length
  pl : ∀ i ∈ s.pile, inR s.ranks i
  pn : Nst s.ranks s.pile
  ed : okBar s.edge
  pg : ∀ p, s.pegs = some p → POk p ∧ p.ranks = s.ranks ∧ (p.hung ++ p.book).Perm s.here
/-! ### how they lie in the heap -/
structure BdC (K : PySem.W.Frag) (c : Str) : Prop where
  cls : Cls K (He.ga K c)
  na : ∀ f ∈ (["ranks", "asking", "quiet", "pile", "edge", "pegs"] : List Str), NoAttr K (He.ga K c) f
abbrev brdF (r a q p e : V) (tl : List (Str × V)) : List (Str × V) := ("ranks", r) :: ("asking", a) :: ("quiet", q) :: ("pile", p) :: ("edge", e) :: tl
def TlK (tl : List (Str × V)) : Prop := tl = [] ∨ ∃ g : Addr, tl = [(("pegs" : Str), V.ref g)]
def TlO (K : PySem.W.Frag) (c : Str) (H : Hp) (tl : List (Str × V)) (S U : Addr → Prop) : Option PSt → Prop
  | none => tl = [] ∧ c = "Wide"
  | some p => c = "Few" ∧ ∃ (g : Addr) (Sg : Addr → Prop), tl = [(("pegs" : Str), V.ref g)] ∧ PegO K H g p Sg ∧ (∀ x, Sg x → S x) ∧ ∀ x, U x → ¬ Sg x
structure BrdA (K : PySem.W.Frag) (c : Str) (H : Hp) (a dx r as qs pl : Addr) (tl : List (Str × V)) (s : BSt) : Prop where
  at_ : H a = some (.ins (He.ga K c) dx (brdF (.ref r) (.ref as) (.ref qs) (.ref pl) (oI s.edge) tl))
  hr : H r = some (.lst (s.ranks.map V.int))
  ha : H as = some (.lst (s.asking.map V.bl))
  hq : H qs = some (.lst (s.quiet.map V.bl))
  hp : H pl = some (.lst (s.pile.map V.int))
  ra : r ≠ as
  rq : r ≠ qs
  rp : r ≠ pl
  aq : as ≠ qs
  ap : as ≠ pl
  qp : qs ≠ pl
  tk : TlK tl
/-- a board's own places, the pegs' out of them -/
def OwnP (a r as qs pl : Addr) : Addr → Prop := fun x => x = a ∨ x = r ∨ x = as ∨ x = qs ∨ x = pl
structure BrdP (K : PySem.W.Frag) (c : Str) (H : Hp) (a dx r as qs pl : Addr) (tl : List (Str × V)) (s : BSt) (S : Addr → Prop) : Prop where
  A : BrdA K c H a dx r as qs pl tl s
  own : ∀ x, OwnP a r as qs pl x → S x
  tl : TlO K c H tl S (OwnP a r as qs pl) s.pegs
structure BrdO (K : PySem.W.Frag) (c : Str) (H : Hp) (a : Addr) (s : BSt) (S : Addr → Prop) : Prop where
  ex : ∃ dx r as qs pl tl, BrdP K c H a dx r as qs pl tl s S
  bc : BdC K c
section
variable {T : List (Addr × Str)} {K : PySem.W.Frag} {c : Str} {H H' H1 : Hp} {a dx r as qs pl : Addr} {tl : List (Str × V)} {s : BSt} {S S' S1 U : Addr → Prop} {σ : L2.St} {ta : TE} {p : Option PSt}
theorem BrdA.mv (A : BrdA K c H a dx r as qs pl tl s) (m : Mv T S H H') (h : ∀ x, OwnP a r as qs pl x → ¬ S x) : BrdA K c H' a dx r as qs pl tl s :=
  ⟨m.kp _ _ A.at_ rfl (h _ (.inl rfl)), m.kp _ _ A.hr rfl (h _ (.inr (.inl rfl))), m.kp _ _ A.ha rfl (h _ (.inr (.inr (.inl rfl)))), m.kp _ _ A.hq rfl (h _ (.inr (.inr (.inr (.inl rfl))))), m.kp _ _ A.hp rfl (h _ (.inr (.inr (.inr (.inr rfl))))), A.ra, A.rq, A.rp, A.aq, A.ap, A.qp, A.tk⟩
theorem TlO.go (O : TlO K c H tl S U p) (m : Mv T S1 H H') (h1 : ∀ x, S x → ¬ U x → ¬ S1 x) (h2 : ∀ x, S x → ¬ nod H x → S' x) : TlO K c H' tl S' U p := by
  cases p with
  | none => exact O
  | some p =>
    obtain ⟨e, g, Sg, e2, P, z1, z2⟩ := O
    exact ⟨e, g, fun x => Sg x ∧ ¬ nod H x, e2, P.go m (fun x h => h1 x (z1 x h) fun w => z2 x w h) (fun x h n => ⟨h, n⟩), fun x h => h2 x (z1 x h.1) h.2, fun x w h => z2 x w h.1⟩
theorem BrdP.go (B : BrdP K c H a dx r as qs pl tl s S) (m : Mv T S1 H H') (h1 : ∀ x, S x → ¬ S1 x) (h2 : ∀ x, S x → ¬ nod H x → S' x) : BrdP K c H' a dx r as qs pl tl s S' :=
  ⟨B.A.mv m (fun x h => h1 x (B.own x h)), fun x h => h2 x (B.own x h) (by
    rcases h with rfl | rfl | rfl | rfl | rfl
    · exact nod.not B.A.at_ rfl
    · exact nod.not B.A.hr rfl
    · exact nod.not B.A.ha rfl
    · exact nod.not B.A.hq rfl
    · exact nod.not B.A.hp rfl), B.tl.go m (fun x h _ => h1 x h) h2⟩
theorem BrdO.go (O : BrdO K c H a s S) (m : Mv T S1 H H') (h1 : ∀ x, S x → ¬ S1 x) (h2 : ∀ x, S x → ¬ nod H x → S' x) : BrdO K c H' a s S' := by
  obtain ⟨⟨dx, r, as, qs, pl, tl, B⟩, bc⟩ := O
  exact ⟨⟨dx, r, as, qs, pl, tl, B.go m h1 h2⟩, bc⟩
theorem BrdP.ex' (B : BrdP K c H a dx r as qs pl tl s S) (e : Ex T H H') : BrdP K c H' a dx r as qs pl tl s S := B.go e (fun _ _ h => h) fun _ h _ => h
theorem BrdO.ex' (O : BrdO K c H a s S) (e : Ex T H H') : BrdO K c H' a s S := O.go e (fun _ _ h => h) fun _ h _ => h
theorem BrdO.wk (O : BrdO K c H a s S) (h : ∀ x, S x → S' x) : BrdO K c H a s S' := O.go (Mv.refl (T := []) (S := no)) (fun _ _ h => h) fun x z _ => h x z
theorem BrdA.lr (A : BrdA K c H a dx r as qs pl tl s) : SqL K H r (s.ranks.map V.int) := .inl (.inl A.hr)
theorem BrdA.la (A : BrdA K c H a dx r as qs pl tl s) : SqL K H as (s.asking.map V.bl) := .inl (.inl A.ha)
theorem BrdA.lq (A : BrdA K c H a dx r as qs pl tl s) : SqL K H qs (s.quiet.map V.bl) := .inl (.inl A.hq)
theorem BrdA.lp (A : BrdA K c H a dx r as qs pl tl s) : SqL K H pl (s.pile.map V.int) := .inl (.inl A.hp)
theorem BrdA.na (A : BrdA K c H a dx r as qs pl tl s) : r ≠ a ∧ as ≠ a ∧ qs ≠ a ∧ pl ≠ a := ⟨ne_of A.hr A.at_ (fun z => nomatch z), ne_of A.ha A.at_ (fun z => nomatch z), ne_of A.hq A.at_ (fun z => nomatch z), ne_of A.hp A.at_ (fun z => nomatch z)⟩
/-- the tail stays where a board's own place is changed -/
theorem TlO.own (O : TlO K c H tl S U p) {x : Addr} {o u : HO} (hx : U x) (h : H x = some u) (d1 : dat u = true := by rfl) (d2 : dat o = true := by rfl) : TlO K c (upd H x o) tl S U p :=
  O.go (T := []) (S1 := fun b => b = x) (Mv.set1 h d1 d2) (fun y _ nu z => nu (z ▸ hx)) fun _ h _ => h
theorem BrdP.putA (B : BrdP K c H a dx r as qs pl tl s S) (bs : List Bool) : BrdP K c (upd H as (.lst (bs.map V.bl))) a dx r as qs pl tl { s with asking := bs } S :=
  have n := B.A.na
  ⟨⟨by rw [upd_ne (Ne.symm n.2.1)]; exact B.A.at_, by rw [upd_ne B.A.ra]; exact B.A.hr, upd_same, by rw [upd_ne (Ne.symm B.A.aq)]; exact B.A.hq, by rw [upd_ne (Ne.symm B.A.ap)]; exact B.A.hp, B.A.ra, B.A.rq, B.A.rp, B.A.aq, B.A.ap, B.A.qp, B.A.tk⟩, B.own, B.tl.own (.inr (.inr (.inl rfl))) B.A.ha⟩
theorem BrdP.putQ (B : BrdP K c H a dx r as qs pl tl s S) (bs : List Bool) : BrdP K c (upd H qs (.lst (bs.map V.bl))) a dx r as qs pl tl { s with quiet := bs } S :=
  have n := B.A.na
  ⟨⟨by rw [upd_ne (Ne.symm n.2.2.1)]; exact B.A.at_, by rw [upd_ne B.A.rq]; exact B.A.hr, by rw [upd_ne B.A.aq]; exact B.A.ha, upd_same, by rw [upd_ne (Ne.symm B.A.qp)]; exact B.A.hp, B.A.ra, B.A.rq, B.A.rp, B.A.aq, B.A.ap, B.A.qp, B.A.tk⟩, B.own, B.tl.own (.inr (.inr (.inr (.inl rfl)))) B.A.hq⟩
theorem BrdP.putP (B : BrdP K c H a dx r as qs pl tl s S) (xs : List Int) : BrdP K c (upd H pl (.lst (xs.map V.int))) a dx r as qs pl tl { s with pile := xs } S :=
  have n := B.A.na
  ⟨⟨by rw [upd_ne (Ne.symm n.2.2.2)]; exact B.A.at_, by rw [upd_ne B.A.rp]; exact B.A.hr, by rw [upd_ne B.A.ap]; exact B.A.ha, by rw [upd_ne B.A.qp]; exact B.A.hq, upd_same, B.A.ra, B.A.rq, B.A.rp, B.A.aq, B.A.ap, B.A.qp, B.A.tk⟩, B.own, B.tl.own (.inr (.inr (.inr (.inr rfl)))) B.A.hp⟩
theorem BrdP.setE (B : BrdP K c H a dx r as qs pl tl s S) (e : Option Int) : BrdP K c (upd H a (.ins (He.ga K c) dx (brdF (.ref r) (.ref as) (.ref qs) (.ref pl) (oI e) tl))) a dx r as qs pl tl { s with edge := e } S :=
  have n := B.A.na
  ⟨⟨upd_same, by rw [upd_ne n.1]; exact B.A.hr, by rw [upd_ne n.2.1]; exact B.A.ha, by rw [upd_ne n.2.2.1]; exact B.A.hq, by rw [upd_ne n.2.2.2]; exact B.A.hp, B.A.ra, B.A.rq, B.A.rp, B.A.aq, B.A.ap, B.A.qp, B.A.tk⟩, B.own, B.tl.own (.inl rfl) B.A.at_⟩
/-! its fields -/
theorem BdC.no (bc : BdC K c) {f : Str} (h : f ∈ (["ranks", "asking", "quiet", "pile", "edge", "pegs"] : List Str) := by simp) : NoAttr K (He.ga K c) f := bc.na f h
theorem eb_ranks (A : BrdA K c H a dx r as qs pl tl s) (bc : BdC K c) (ho : Ev T ta σ H (.ref a)) : Ev T (tFld K ta "ranks") σ H (.ref r) := ev_fld ho A.at_ bc.cls bc.no rfl
theorem eb_asking (A : BrdA K c H a dx r as qs pl tl s) (bc : BdC K c) (ho : Ev T ta σ H (.ref a)) : Ev T (tFld K ta "asking") σ H (.ref as) := ev_fld ho A.at_ bc.cls bc.no rfl
theorem eb_quiet (A : BrdA K c H a dx r as qs pl tl s) (bc : BdC K c) (ho : Ev T ta σ H (.ref a)) : Ev T (tFld K ta "quiet") σ H (.ref qs) := ev_fld ho A.at_ bc.cls bc.no rfl
theorem eb_pile (A : BrdA K c H a dx r as qs pl tl s) (bc : BdC K c) (ho : Ev T ta σ H (.ref a)) : Ev T (tFld K ta "pile") σ H (.ref pl) := ev_fld ho A.at_ bc.cls bc.no rfl
theorem eb_edge (A : BrdA K c H a dx r as qs pl tl s) (bc : BdC K c) (ho : Ev T ta σ H (.ref a)) : Ev T (tFld K ta "edge") σ H (oI s.edge) := ev_fld ho A.at_ bc.cls bc.no rfl
/-! flags -/
theorem ixN_in {n : Nat} {i : Int} (h0 : 0 ≤ i) (h1 : i < n) : ixN n i = some i.toNat := by
  unfold ixN
  rw [if_pos h0, if_pos h1]
theorem rv_ixB {p : Addr} {bs : List Bool} {i : Int} (h : SqL K H p (bs.map V.bl)) (h0 : 0 ≤ i) (h1 : i < bs.length) : RV T (rIxL K) (.ref p) (.int i) H (.bl (fl bs i)) := rv_ixL h (by
  unfold atI
  rw [List.length_map, ixN_in h0 h1]
  show (bs.map V.bl)[i.toNat]? = _
  rw [List.getElem?_map]
  unfold fl
  rw [List.getD_eq_getElem?_getD, List.getElem?_eq_getElem (by omega)]
  rfl)
end
end Fp

namespace Fp
open PySem PySem.Spec PyProof.Rows L2 LamX
/-! ### things looked at -/
def isRk : V → Bool
  | .int i => decide (0 ≤ i) && decide (i < 1000000000000000000000000000000000000000000000000000000000000)
  | _ => false
def isLn (n : Nat) : V → Bool
  | .int i => decide (0 ≤ i) && decide (i < (n : Int))
  | _ => false
def isBr : V → Bool
  | .non => true
  | .int i => decide (0 ≤ i) && decide (i ≤ 1000000000000000000000000000000000000000000000000000000000000)
  | _ => false
/-- neighbours stand so -/
def adjB (f : Int → Int → Bool) (ns : List Int) : Bool := (List.range (ns.length - 1)).all fun i => f (rk ns (i : Int)) (rk ns ((i : Int) + 1))
/-- what the list at x says of a board's ranks -/
def BrdV (K : PySem.W.Frag) (H : Hp) (x : V) (b : Bool) : Prop := kd H x ≠ "" ∧ ((kd H x ≠ "list" ∧ b = false) ∨ ∃ a xs, x = .ref a ∧ kd H x = "list" ∧ SqL K H a xs ∧ (∀ y ∈ xs, kd H y ≠ "") ∧ List.length xs ≤ 1000 ∧ b = (decide (1 ≤ List.length xs) && decide (List.length xs ≤ 60) && xs.all isRk))
def LnsV (K : PySem.W.Frag) (H : Hp) (n : Nat) (x : V) (b : Bool) : Prop := kd H x ≠ "" ∧ ((kd H x ≠ "list" ∧ b = false) ∨ ∃ a xs, x = .ref a ∧ kd H x = "list" ∧ SqL K H a xs ∧ (∀ y ∈ xs, kd H y ≠ "") ∧ List.length xs ≤ 1000 ∧ b = xs.all (isLn n))
/-- a list of lines -/
def LsO (K : PySem.W.Frag) (H : Hp) (n : Nat) (x : V) (ns : List Int) : Prop := ∃ a, x = .ref a ∧ kd H x = "list" ∧ SqL K H a (ns.map V.int) ∧ (∀ i ∈ ns, 0 ≤ i ∧ i < (n : Int)) ∧ ns.length ≤ 1000
def AdjV (K : PySem.W.Frag) (H : Hp) (n : Nat) (f : Int → Int → Bool) (x : V) (b : Bool) : Prop := (LnsV K H n x false ∧ b = false) ∨ ∃ ns, LsO K H n x ns ∧ b = adjB f ns
abbrev upF : Int → Int → Bool := fun i j => decide (i < j)
abbrev dnF (rs : List Int) : Int → Int → Bool := fun i j => decide (rk rs j < rk rs i)
def PicV (K : PySem.W.Frag) (H : Hp) (rs : List Int) (z : V) (b : Bool) : Prop := kd H z ≠ "" ∧ ((kd H z ≠ "tuple" ∧ b = false) ∨ ∃ t xs, z = .ref t ∧ kd H z = "tuple" ∧ SqT K H t xs ∧ ((List.length xs ≠ 4 ∧ b = false) ∨
  ∃ x0 x1 x2 x3 b0 b1 b2, xs = [x0, x1, x2, x3] ∧ AdjV K H rs.length upF x0 b0 ∧ AdjV K H rs.length upF x1 b1 ∧ AdjV K H rs.length (dnF rs) x2 b2 ∧ kd H x3 ≠ "" ∧ b = (b0 && b1 && b2 && isBr x3)))
/-- marks at lines -/
def marks (n : Nat) (ls : List Int) : List Bool := ls.foldl (fun bs i => bs.set i.toNat true) (List.replicate n false)
def sp_is_rank (_K : PySem.W.Frag) (T : List (Addr × Str)) : Sp := fun vs H Q _ => ∃ x, vs = [x] ∧ kd H x ≠ "" ∧ ∀ H', Ex T H H' → Q (.bl (isRk x)) H'
def sp_is_line (K : PySem.W.Frag) (T : List (Addr × Str)) : Sp := fun vs H Q _ => ∃ r x rs, vs = [.ref r, x] ∧ SqL K H r (List.map V.int rs) ∧ kd H x ≠ "" ∧ ∀ H', Ex T H H' → Q (.bl (isLn (List.length rs) x)) H'
def sp_is_bar (_K : PySem.W.Frag) (T : List (Addr × Str)) : Sp := fun vs H Q _ => ∃ x, vs = [x] ∧ kd H x ≠ "" ∧ ∀ H', Ex T H H' → Q (.bl (isBr x)) H'
def sp_is_board (K : PySem.W.Frag) (T : List (Addr × Str)) : Sp := fun vs H Q _ => ∃ x b, vs = [x] ∧ BrdV K H x b ∧ ∀ H', Ex T H H' → Q (.bl b) H'
def sp_are_lines (K : PySem.W.Frag) (T : List (Addr × Str)) : Sp := fun vs H Q _ => ∃ r x rs b, vs = [.ref r, x] ∧ SqL K H r (List.map V.int rs) ∧ LnsV K H (List.length rs) x b ∧ ∀ H', Ex T H H' → Q (.bl b) H'
def sp_are_rising (K : PySem.W.Frag) (T : List (Addr × Str)) : Sp := fun vs H Q _ => ∃ r x rs b, vs = [.ref r, x] ∧ SqL K H r (List.map V.int rs) ∧ AdjV K H (List.length rs) upF x b ∧ ∀ H', Ex T H H' → Q (.bl b) H'
def sp_are_nested (K : PySem.W.Frag) (T : List (Addr × Str)) : Sp := fun vs H Q _ => ∃ r x rs b, vs = [.ref r, x] ∧ SqL K H r (List.map V.int rs) ∧ AdjV K H (List.length rs) (dnF rs) x b ∧ ∀ H', Ex T H H' → Q (.bl b) H'
def sp_is_picture (K : PySem.W.Frag) (T : List (Addr × Str)) : Sp := fun vs H Q _ => ∃ r x rs b, vs = [.ref r, x] ∧ SqL K H r (List.map V.int rs) ∧ PicV K H rs x b ∧ ∀ H', Ex T H H' → Q (.bl b) H'
def sp_marked (K : PySem.W.Frag) (T : List (Addr × Str)) : Sp := fun vs H Q _ => ∃ l ls, ∃ n : Nat, vs = [.int n, .ref l] ∧ n ≤ 60 ∧ SqL K H l (List.map V.int ls) ∧ (∀ i ∈ ls, 0 ≤ i ∧ i < (n : Int)) ∧ List.length ls ≤ 1000 ∧ ∀ v H', Ex T H H' → newL (List.map V.bl (marks n ls)) H v H' → Q v H'
theorem len_is_rank {K : PySem.W.Frag} {T : List (Addr × Str)} : ∀ vs H Q E, sp_is_rank K T vs H Q E → vs.length = 1 := fun vs H Q E h => by
  obtain ⟨_, rfl, _⟩ := h
  exact rfl
theorem len_is_line {K : PySem.W.Frag} {T : List (Addr × Str)} : ∀ vs H Q E, sp_is_line K T vs H Q E → vs.length = 2 := fun vs H Q E h => by
  obtain ⟨_, _, _, rfl, _⟩ := h
  exact rfl
theorem len_is_bar {K : PySem.W.Frag} {T : List (Addr × Str)} : ∀ vs H Q E, sp_is_bar K T vs H Q E → vs.length = 1 := fun vs H Q E h => by
  obtain ⟨_, rfl, _⟩ := h
  exact rfl
theorem len_is_board {K : PySem.W.Frag} {T : List (Addr × Str)} : ∀ vs H Q E, sp_is_board K T vs H Q E → vs.length = 1 := fun vs H Q E h => by
  obtain ⟨_, _, rfl, _⟩ := h
  exact rfl
theorem len_are_lines {K : PySem.W.Frag} {T : List (Addr × Str)} : ∀ vs H Q E, sp_are_lines K T vs H Q E → vs.length = 2 := fun vs H Q E h => by
  obtain ⟨_, _, _, _, rfl, _⟩ := h
  exact rfl
theorem len_are_rising {K : PySem.W.Frag} {T : List (Addr × Str)} : ∀ vs H Q E, sp_are_rising K T vs H Q E → vs.length = 2 := fun vs H Q E h => by
  obtain ⟨_, _, _, _, rfl, _⟩ := h
  exact rfl
theorem len_are_nested {K : PySem.W.Frag} {T : List (Addr × Str)} : ∀ vs H Q E, sp_are_nested K T vs H Q E → vs.length = 2 := fun vs H Q E h => by
  obtain ⟨_, _, _, _, rfl, _⟩ := h
  exact rfl
theorem len_is_picture {K : PySem.W.Frag} {T : List (Addr × Str)} : ∀ vs H Q E, sp_is_picture K T vs H Q E → vs.length = 2 := fun vs H Q E h => by
  obtain ⟨_, _, _, _, rfl, _⟩ := h
  exact rfl
theorem len_marked {K : PySem.W.Frag} {T : List (Addr × Str)} : ∀ vs H Q E, sp_marked K T vs H Q E → vs.length = 2 := fun vs H Q E h => by
  obtain ⟨_, _, _, rfl, _⟩ := h
  exact rfl
def r_is_rank (K : PySem.W.Frag) (T : List (Addr × Str)) : TS :=
  (tRet (tAndV (tCall (sp_is_whole K T) [] E0 (tCons (tVar 0) tNil)) (tChain oLe oLt (tC (.int 0)) (tVar 0) (tOp oPow (tC (.int 10)) (tC (.int 60))))))
def r_is_line (K : PySem.W.Frag) (T : List (Addr × Str)) : TS :=
  (tRet (tAndV (tCall (sp_is_whole K T) [] E0 (tCons (tVar 1) tNil)) (tChain oLe oLt (tC (.int 0)) (tVar 1) (tCB (rLen K) (tCons (tVar 0) tNil)))))
def r_is_bar (K : PySem.W.Frag) (T : List (Addr × Str)) : TS :=
  (tRet (tOrV (tOp oIsN (tVar 0) (tC .non)) (tAndV (tCall (sp_is_whole K T) [] E0 (tCons (tVar 0) tNil)) (tChain oLe oLe (tC (.int 0)) (tVar 0) (tOp oPow (tC (.int 10)) (tC (.int 60)))))))
def r_is_board (K : PySem.W.Frag) (T : List (Addr × Str)) : TS :=
  (tSeq (tIfS (tOr (tNot (tB (tCB rIs (tCons (tVar 0) (tCons (tC (.ty "list")) tNil))))) (tOr (tTest (tOp oLt (tCB (rLen K) (tCons (tVar 0) tNil)) (tC (.int 1)))) (tTest (tOp oGt (tCB (rLen K) (tCons (tVar 0) tNil)) (tC (.int 60)))))) (tRet (tC (.bl false))) tNext)
  (tRet (tCB (rAll K) (tCons (tLc (iList K (tVar 0)) (gName 1) tYes (tCall (sp_is_rank K T) [] E0 (tCons (tVar 1) tNil)) [1]) tNil))))
def r_are_lines (K : PySem.W.Frag) (T : List (Addr × Str)) : TS :=
  (tRet (tAndV (tCB rIs (tCons (tVar 1) (tCons (tC (.ty "list")) tNil))) (tCB (rAll K) (tCons (tLc (iList K (tVar 1)) (gName 2) tYes (tCall (sp_is_line K T) [] E0 (tCons (tVar 0) (tCons (tVar 2) tNil))) [2]) tNil))))
def r_are_rising (K : PySem.W.Frag) (T : List (Addr × Str)) : TS :=
  (tSeq (tIfS (tNot (tB (tCall (sp_are_lines K T) [] E0 (tCons (tVar 0) (tCons (tVar 1) tNil))))) (tRet (tC (.bl false))) tNext)
  (tSeq (tFor (iZip K (tCons (tSl (rSlL K) (tVar 1) tNoPart (tPart (tUn (rU fun i => .int (-i)) (tC (.int 1))))) (tCons (tSl (rSlL K) (tVar 1) (tPart (tC (.int 1))) tNoPart) tNil))) (gTup K 2 (gCons (gName 2) (gCons (gName 3) gNil))) (tIfS (tTest (tOp oGe (tVar 2) (tVar 3))) (tRet (tC (.bl false))) tNext))
  (tRet (tC (.bl true)))))
def r_are_nested (K : PySem.W.Frag) (T : List (Addr × Str)) : TS :=
  (tSeq (tIfS (tNot (tB (tCall (sp_are_lines K T) [] E0 (tCons (tVar 0) (tCons (tVar 1) tNil))))) (tRet (tC (.bl false))) tNext)
  (tSeq (tFor (iZip K (tCons (tSl (rSlL K) (tVar 1) tNoPart (tPart (tUn (rU fun i => .int (-i)) (tC (.int 1))))) (tCons (tSl (rSlL K) (tVar 1) (tPart (tC (.int 1))) tNoPart) tNil))) (gTup K 2 (gCons (gName 2) (gCons (gName 3) gNil))) (tIfS (tTest (tOp oLe (tOp (rIxL K) (tVar 0) (tVar 2)) (tOp (rIxL K) (tVar 0) (tVar 3)))) (tRet (tC (.bl false))) tNext))
  (tRet (tC (.bl true)))))
def r_is_picture (K : PySem.W.Frag) (T : List (Addr × Str)) : TS :=
  (tSeq (tIfS (tOr (tNot (tB (tCB rIs (tCons (tVar 1) (tCons (tC (.ty "tuple")) tNil))))) (tTest (tOp rNe (tCB (rLen K) (tCons (tVar 1) tNil)) (tC (.int 4))))) (tRet (tC (.bl false))) tNext)
  (tSeq (tIfS (tOr (tNot (tB (tCall (sp_are_rising K T) [] E0 (tCons (tVar 0) (tCons (tOp (rIxT K) (tVar 1) (tC (.int 0))) tNil))))) (tNot (tB (tCall (sp_are_rising K T) [] E0 (tCons (tVar 0) (tCons (tOp (rIxT K) (tVar 1) (tC (.int 1))) tNil)))))) (tRet (tC (.bl false))) tNext)
  (tRet (tAndV (tCall (sp_are_nested K T) [] E0 (tCons (tVar 0) (tCons (tOp (rIxT K) (tVar 1) (tC (.int 2))) tNil))) (tCall (sp_is_bar K T) [] E0 (tCons (tOp (rIxT K) (tVar 1) (tC (.int 3))) tNil))))))
def r_marked (K : PySem.W.Frag) (T : List (Addr × Str)) : TS :=
  (tSeq (tAsg (tOp rRep (tLst (tCons (tC (.bl false)) tNil)) (tVar 0)) (gName 2))
  (tSeq (tFor (iList K (tVar 1)) (gName 3) (tAsg (tC (.bl true)) (gSub (tVar 2) (tVar 3) rSetL)))
  (tRet (tVar 2))))
section
variable {T : List (Addr × Str)} {K : PySem.W.Frag} {H H' : Hp} {x : V} {n : Nat} {ns rs : List Int} {f : Int → Int → Bool} {b : Bool}
theorem kd_exn (e : Ex T H H') (h : kd H x ≠ "") : kd H' x = kd H x := kd_ex e rfl h
theorem LnsV.ex (e : Ex T H H') (h : LnsV K H n x b) : LnsV K H' n x b := by
  refine ⟨by rw [kd_exn e h.1]; exact h.1, ?_⟩
  rcases h.2 with ⟨h1, h2⟩ | ⟨a, xs, h1, h2, h3, h4, h5, h6⟩
  · exact .inl ⟨by rw [kd_exn e h.1]; exact h1, h2⟩
  · exact .inr ⟨a, xs, h1, by rw [kd_exn e h.1]; exact h2, e.l h3, fun y hy => by rw [kd_exn e (h4 y hy)]; exact h4 y hy, h5, h6⟩
theorem BrdV.ex (e : Ex T H H') (h : BrdV K H x b) : BrdV K H' x b := by
  refine ⟨by rw [kd_exn e h.1]; exact h.1, ?_⟩
  rcases h.2 with ⟨h1, h2⟩ | ⟨a, xs, h1, h2, h3, h4, h5, h6⟩
  · exact .inl ⟨by rw [kd_exn e h.1]; exact h1, h2⟩
  · exact .inr ⟨a, xs, h1, by rw [kd_exn e h.1]; exact h2, e.l h3, fun y hy => by rw [kd_exn e (h4 y hy)]; exact h4 y hy, h5, h6⟩
theorem LsO.ex (e : Ex T H H') (h : LsO K H n x ns) : LsO K H' n x ns := by
  obtain ⟨a, h1, h2, h3, h4, h5⟩ := h
  exact ⟨a, h1, by rw [kd_exn e (by rw [h2]; decide)]; exact h2, e.l h3, h4, h5⟩
theorem AdjV.ex (e : Ex T H H') (h : AdjV K H n f x b) : AdjV K H' n f x b := h.imp (fun h => ⟨h.1.ex e, h.2⟩) fun ⟨ns, h1, h2⟩ => ⟨ns, h1.ex e, h2⟩
theorem PicV.ex (e : Ex T H H') (h : PicV K H rs x b) : PicV K H' rs x b := by
  refine ⟨by rw [kd_exn e h.1]; exact h.1, ?_⟩
  rcases h.2 with ⟨h1, h2⟩ | ⟨t, xs, h1, h2, h3, h4⟩
  · exact .inl ⟨by rw [kd_exn e h.1]; exact h1, h2⟩
  · refine .inr ⟨t, xs, h1, by rw [kd_exn e h.1]; exact h2, e.t h3, h4.imp id ?_⟩
    rintro ⟨x0, x1, x2, x3, b0, b1, b2, z1, z2, z3, z4, z5, z6⟩
    exact ⟨x0, x1, x2, x3, b0, b1, b2, z1, z2.ex e, z3.ex e, z4.ex e, by rw [kd_exn e z5]; exact z5, z6⟩
theorem LsO.lns (h : LsO K H n x ns) : LnsV K H n x true := by
  obtain ⟨a, h1, h2, h3, h4, h5⟩ := h
  refine ⟨by rw [h2]; decide, .inr ⟨a, _, h1, h2, h3, fun y hy => ?_, by rw [List.length_map]; exact h5, ?_⟩⟩
  · obtain ⟨i, _, rfl⟩ := List.mem_map.mp hy
    simp [kd]
  · symm
    rw [List.all_eq_true]
    intro y hy
    obtain ⟨i, hi, rfl⟩ := List.mem_map.mp hy
    have := h4 i hi
    simp [isLn, this.1, this.2]
variable {σ : L2.St} {te : TE}
theorem ev_all {bs : List Bool} (h : EvL T te σ H (bs.map V.bl)) : Ev T (tCB (rAll K) (tCons te tNil)) σ H (.bl (bs.all id)) := fun H1 e Q q =>
  h H1 e _ fun _ H2 e2 ⟨p, ep, _, hp⟩ => by
    subst ep
    exact ⟨p, bs, rfl, .inl (.inl hp), q H2 e2⟩
theorem v_is_rank (h : kd H x ≠ "") : SpV T (sp_is_rank K T) [x] H (.bl (isRk x)) := fun H1 e Q q E => ⟨x, rfl, by rw [kd_exn e h]; exact h, q⟩
theorem v_is_line {r : Addr} (hr : SqL K H r (rs.map V.int)) (h : kd H x ≠ "") : SpV T (sp_is_line K T) [.ref r, x] H (.bl (isLn rs.length x)) := fun H1 e Q q E => ⟨r, x, rs, rfl, e.l hr, by rw [kd_exn e h]; exact h, q⟩
theorem v_is_bar (h : kd H x ≠ "") : SpV T (sp_is_bar K T) [x] H (.bl (isBr x)) := fun H1 e Q q E => ⟨x, rfl, by rw [kd_exn e h]; exact h, q⟩
theorem v_is_board (h : BrdV K H x b) : SpV T (sp_is_board K T) [x] H (.bl b) := fun H1 e Q q E => ⟨x, b, rfl, h.ex e, q⟩
theorem v_are_lines {r : Addr} (hr : SqL K H r (rs.map V.int)) (h : LnsV K H rs.length x b) : SpV T (sp_are_lines K T) [.ref r, x] H (.bl b) := fun H1 e Q q E => ⟨r, x, rs, b, rfl, e.l hr, h.ex e, q⟩
theorem v_are_rising {r : Addr} (hr : SqL K H r (rs.map V.int)) (h : AdjV K H rs.length upF x b) : SpV T (sp_are_rising K T) [.ref r, x] H (.bl b) := fun H1 e Q q E => ⟨r, x, rs, b, rfl, e.l hr, h.ex e, q⟩
theorem v_are_nested {r : Addr} (hr : SqL K H r (rs.map V.int)) (h : AdjV K H rs.length (dnF rs) x b) : SpV T (sp_are_nested K T) [.ref r, x] H (.bl b) := fun H1 e Q q E => ⟨r, x, rs, b, rfl, e.l hr, h.ex e, q⟩
theorem v_is_picture {r : Addr} (hr : SqL K H r (rs.map V.int)) (h : PicV K H rs x b) : SpV T (sp_is_picture K T) [.ref r, x] H (.bl b) := fun H1 e Q q E => ⟨r, x, rs, b, rfl, e.l hr, h.ex e, q⟩
theorem v_marked {l : Addr} {ls : List Int} (hn : n ≤ 60) (hl : SqL K H l (ls.map V.int)) (hi : ∀ i ∈ ls, 0 ≤ i ∧ i < (n : Int)) (hz : ls.length ≤ 1000) : SpR T (sp_marked K T) [.int n, .ref l] H (newL ((marks n ls).map V.bl)) := fun H1 e Q q E => ⟨l, ls, n, rfl, hn, e.l hl, hi, hz, q⟩
end
/-! ### zip of two new lists -/
section
variable {T : List (Addr × Str)} {K : PySem.W.Frag} {σ : L2.St} {H H0 : Hp} {t1 t2 : TE} {g : TG} {tb : TS} {D : Ends} {xs ys : List V} {n : Nat}
theorem s_forZip (e : Ex T H0 H) (h1 : EvL T t1 σ H0 xs) (h2 : EvL T t2 σ H0 ys) (hn : n = min xs.length ys.length) (Pv : Nat → L2.St → Hp → Prop) (h0 : ∀ H1, Ex T H0 H1 → Pv 0 σ H1)
    (hx : ∀ i σ' H' H'', Pv i σ' H' → Ex T H' H'' → Pv i σ' H'') (hs : ∀ B i x y t σ' H', Ex T H0 B → xs[i]? = some x → ys[i]? = some y → Pv i σ' H' → Ex T B H' → H' t = some (.tup [x, y]) → g (.ref t) σ' H' fun σ2 H2 => tb { D with nx := fun σ3 H3 => Pv (i + 1) σ3 H3 ∧ Ex T B H3, ct := fun σ3 H3 => Pv (i + 1) σ3 H3 ∧ Ex T B H3, bk := D.nx } σ2 H2) (hd : ∀ σ' H', Pv n σ' H' → D.nx σ' H') :
    tFor (iZip K (tCons t1 (tCons t2 tNil))) g tb D σ H := h1 H e _ fun _ H1 e1 ⟨a, ea, na, ha⟩ => by
  subst ea
  exact h2 H1 (e.trans e1) _ fun _ H2 e2 ⟨b, eb, nb, hb⟩ => by
    subst eb
    have ha2 := e2.at ha
    refine ⟨a, b, xs, ys, rfl, .inl (.inl ha2), .inl (.inl hb), for_it (walk_zip hn) (fun i σ' H' => Pv i σ' H' ∧ Ex T H2 H') ⟨h0 H2 ((e.trans e1).trans e2), Mv.refl⟩ (fun i σ' H' _ p => ⟨.inl (.inl (p.2.at ha2)), .inl (.inl (p.2.at hb))⟩) (fun i x σ' H' H'' hi p y => ?_) fun σ' H' p => hd σ' H' p.1⟩
    obtain ⟨t, u, v, rfl, ht, rfl, hu, hv⟩ := y
    have e3 : Ex T H' (upd H' t (.tup [u, v])) := Mv.new ht
    exact hs H2 i u v t σ' _ ((e.trans e1).trans e2) hu hv (hx i σ' H' _ p.1 e3) (p.2.trans e3) upd_same
theorem cut_init (xs : List V) : cutV xs none (some (-1)) = xs.dropLast := by
  unfold cutV
  rw [HT.sIx_none, List.drop_zero, Nat.sub_zero, List.dropLast_eq_take]
  congr 1
  unfold HT.sIx
  dsimp only
  rw [if_pos (by decide)]
  omega
end
end Fp

local macro_rules | `(tactic| walk_at "ev") => `(tactic| with_reducible first | (apply Fp.eb_ranks; (· assumption); (· assumption); (· walk_at "ev")) | (apply Fp.eb_asking; (· assumption); (· assumption); (· walk_at "ev")) | (apply Fp.eb_quiet; (· assumption); (· assumption); (· walk_at "ev")) | (apply Fp.eb_pile; (· assumption); (· assumption); (· walk_at "ev")) | (apply Fp.eb_edge; (· assumption); (· assumption); (· walk_at "ev")))
namespace Fp
open PySem PySem.Spec PyProof.Rows L2 LamX
section
variable {K : PySem.W.Frag} {T : List (Addr × Str)} {H H0 : Hp} {Q : VK} {E : XK} {vs : List V}
/-- is_whole(x) and lo <= x < hi -/
theorem ev_within {te ta : TE} {σ : L2.St} {x : V} {lo hi : Int} (hx : kd H x ≠ "") (h1 : Ev T te σ H x) (h2 : Ev T ta σ H (.int hi)) : Ev T (tAndV (tCall (sp_is_whole K T) [] E0 (tCons te tNil)) (tChain oLe oLt (tC (.int lo)) te ta)) σ H (.bl (match x with | .int i => decide (lo ≤ i) && decide (i < hi) | _ => false)) := by
  cases x with
  | int i => exact ev_is (ev_and (ev_call0 (ea_cons h1 ea_nil) (v_is_whole hx)) fun _ => ev_chain ev_c h1 fun _ => h2) (by simp [isI])
  | _ => exact ev_is (ev_and (b := true) (ev_call0 (ea_cons h1 ea_nil) (v_is_whole hx)) fun z => nomatch z) rfl
theorem p_is_rank (h : sp_is_rank K T vs H Q E) : r_is_rank K T { nx := fun _ H' => Q .non H', rt := Q } (start ["thing"] vs) H := by
  obtain ⟨x, rfl, hx, k⟩ := h
  unfold r_is_rank
  exact s_ret (Mv.of T H) (ev_is (ev_within hx (by walk_at "ev") ev_p60) (by cases x <;> rfl)) k
theorem p_is_line (h : sp_is_line K T vs H Q E) : r_is_line K T { nx := fun _ H' => Q .non H', rt := Q } (start ["ranks", "thing"] vs) H := by
  obtain ⟨r, x, rs, rfl, hr, hx, k⟩ := h
  unfold r_is_line
  exact s_ret (Mv.of T H) (ev_is (ev_within hx (by walk_at "ev") (ev_cb (by walk_at "ea") (rc_lenI hr))) (by cases x <;> rfl)) k
theorem p_is_bar (h : sp_is_bar K T vs H Q E) : r_is_bar K T { nx := fun _ H' => Q .non H', rt := Q } (start ["thing"] vs) H := by
  obtain ⟨x, rfl, hx, k⟩ := h
  unfold r_is_bar
  cases x with
  | non => exact s_ret (Mv.of T H) (ev_is (ev_or (b := true) (by walk_at "ev") fun z => by simp at z) (by simp [isBr])) k
  | int i => exact s_ret (Mv.of T H) (ev_is (ev_or (by walk_at "ev") fun _ => ev_and (ev_call0 (ea_cons (x := .int i) (by walk_at "ev") ea_nil) (v_is_whole hx)) fun _ => ev_chain ev_c (by walk_at "ev") fun _ => ev_p60) (by simp [isBr, isI])) k
  | _ => exact s_ret (Mv.of T H) (ev_is (ev_or (b := false) (by walk_at "ev") fun _ => ev_is (ev_and (b := true) (ev_call0 (by walk_at "ea") (v_is_whole hx)) fun z => nomatch z) rfl) (by simp [isBr])) k
theorem p_is_board (h : sp_is_board K T vs H Q E) : r_is_board K T { nx := fun _ H' => Q .non H', rt := Q } (start ["thing", "rank"] vs) H := by
  obtain ⟨x, b, rfl, ⟨hk, hb⟩, k⟩ := h
  unfold r_is_board
  rcases hb with ⟨h1, rfl⟩ | ⟨a, xs, rfl, h2, h3, h4, h5, rfl⟩
  · refine q_if (b := true) (Mv.of T H) (et_orT (et_is (et_not (et_B (ev_cb (by walk_at "ea") (rc_is rfl hk (by decide))))) ?_)) (fun _ H1 e _ => s_ret e ev_c k) (fun z => nomatch z)
    simp only [isK, Bool.not_eq_true', Bool.or_eq_false_iff, Bool.and_eq_false_iff]
    exact ⟨beq_eq_false_iff_ne.mpr h1, .inr (by decide)⟩
  · have el := el_lcA (T := T) (K := K) (H := H) (σ := [some (.ref a), none]) (tl := tVar 0) (vs := [1]) (j := 1) (te := tCall (sp_is_rank K T) [] E0 (tCons (tVar 1) tNil)) (as := xs) (g := id) (f := fun z => V.bl (isRk z)) (by walk_at "ev") (by rw [List.map_id]; exact h3) (by omega) (fun x => rfl) (fun z hz => ev_call0 (by walk_at "ea") (v_is_rank (h4 z hz)))
    rw [show xs.map (fun z => V.bl (isRk z)) = (xs.map isRk).map V.bl by rw [List.map_map]; rfl] at el
    refine q_if (b := !(decide (1 ≤ xs.length) && decide (xs.length ≤ 60))) (Mv.of T H) (et_is (et_or (et_not (et_B (ev_cb (by walk_at "ea") (rc_is h2 (by decide) (by decide))))) fun _ => et_or (et_test (ev_op (ev_cb (by walk_at "ea") (rc_len (.inl h3))) ev_c rv_i0)) fun _ => et_test (ev_op (ev_cb (by walk_at "ea") (rc_len (.inl h3))) ev_c rv_i0)) ?_) (fun hb H1 e _ => s_ret e (ev_is ev_c ?_) k) (fun hb H1 e _ => nextI ?_)
    · rw [show isK "list" "list" = true from by decide, Bool.eq_iff_iff]
      simp only [Bool.not_true, Bool.false_or, Bool.or_eq_true, decide_eq_true_eq, Bool.not_eq_true', Bool.and_eq_false_iff, decide_eq_false_iff_not]
      omega
    · have hb : (decide (1 ≤ xs.length) && decide (xs.length ≤ 60)) = false := by rw [Bool.not_eq_true'] at hb; exact hb
      rw [hb]
      rfl
    · have hb : (decide (1 ≤ xs.length) && decide (xs.length ≤ 60)) = true := by rw [Bool.not_eq_false'] at hb; exact hb
      dsimp only
      refine s_ret e (ev_is (ev_all el) ?_) k
      rw [hb, Bool.true_and, List.all_map]
      rfl
theorem p_are_lines (h : sp_are_lines K T vs H Q E) : r_are_lines K T { nx := fun _ H' => Q .non H', rt := Q } (start ["ranks", "thing", "line"] vs) H := by
  obtain ⟨r, x, rs, b, rfl, hr, ⟨hk, hb⟩, k⟩ := h
  unfold r_are_lines
  rcases hb with ⟨h1, rfl⟩ | ⟨a, xs, rfl, h2, h3, h4, h5, rfl⟩
  · refine s_ret (Mv.of T H) (ev_is (ev_and (a := false) (b := true) (ev_is (ev_cb (by walk_at "ea") (rc_is rfl hk (by decide))) ?_) fun z => nomatch z) rfl) k
    congr 1
    simp only [isK, Bool.or_eq_false_iff, Bool.and_eq_false_iff]
    exact ⟨beq_eq_false_iff_ne.mpr h1, .inr (by decide)⟩
  · have el := el_lcA (T := T) (K := K) (H := H) (σ := [some (.ref r), some (.ref a), none]) (tl := tVar 1) (vs := [2]) (j := 2) (te := tCall (sp_is_line K T) [] E0 (tCons (tVar 0) (tCons (tVar 2) tNil))) (as := xs) (g := id) (f := fun z => V.bl (isLn rs.length z)) (by walk_at "ev") (by rw [List.map_id]; exact h3) (by omega) (fun x => rfl) (fun z hz => ev_call0 (by walk_at "ea") (v_is_line hr (h4 z hz)))
    rw [show xs.map (fun z => V.bl (isLn rs.length z)) = (xs.map (isLn rs.length)).map V.bl by rw [List.map_map]; rfl] at el
    refine s_ret (Mv.of T H) (ev_is (ev_and (ev_cb (by walk_at "ea") (rc_is h2 (by decide) (by decide))) fun _ => ev_all el) ?_) k
    rw [List.all_map]
    rfl
theorem adj_false {f : Int → Int → Bool} {ns : List Int} {i : Nat} (hi : i + 1 < ns.length) (h : f (rk ns i) (rk ns ((i : Int) + 1)) = false) : adjB f ns = false := by
  unfold adjB
  rw [List.all_eq_false]
  exact ⟨i, List.mem_range.mpr (by omega), by rw [h]; simp⟩
theorem adj_true {f : Int → Int → Bool} {ns : List Int} (h : ∀ i : Nat, i + 1 < ns.length → f (rk ns i) (rk ns ((i : Int) + 1)) = true) : adjB f ns = true := by
  unfold adjB
  rw [List.all_eq_true]
  exact fun i hi => h i (by have := List.mem_range.mp hi; omega)
/-- the walk over neighbours, for both -/
theorem p_adj {tt : TT} {r a : Addr} {ns : List Int} {n : Nat} {f : Int → Int → Bool} (o : LsO K H n (.ref a) ns) (e0 : Ex T H0 H)
    (ht : ∀ (H' : Hp) (i : Nat), i + 1 < ns.length → Ex T H H' → EvT T tt [some (.ref r), some (.ref a), some (.int (rk ns i)), some (.int (rk ns ((i : Int) + 1)))] H' (!f (rk ns i) (rk ns ((i : Int) + 1)))) (k : ∀ H', Ex T H H' → Q (.bl (adjB f ns)) H') :
    tSeq (tFor (iZip K (tCons (tSl (rSlL K) (tVar 1) tNoPart (tPart (tUn (rU fun i => .int (-i)) (tC (.int 1))))) (tCons (tSl (rSlL K) (tVar 1) (tPart (tC (.int 1))) tNoPart) tNil))) (gTup K 2 (gCons (gName 2) (gCons (gName 3) gNil))) (tIfS tt (tRet (tC (.bl false))) tNext)) (tRet (tC (.bl true))) { nx := fun _ H' => Q .non H', rt := Q } [some (.ref r), some (.ref a), none, none] H := by
  obtain ⟨_, h1, h2, h3, h4, h5⟩ := o
  cases h1
  have l1 := el_sl (T := T) (ta := tVar 1) (tl := tNoPart) (th := tPart (tUn (rU fun i => .int (-i)) (tC (.int 1)))) (σ := [some (.ref r), some (.ref a), none, none]) (by walk_at "ev") eo_no (eo_part (i := -1) (ev_neg ev_c)) h3
  have l2 := el_sl (T := T) (ta := tVar 1) (tl := tPart (tC (.int 1))) (th := tNoPart) (σ := [some (.ref r), some (.ref a), none, none]) (by walk_at "ev") (eo_part (i := 1) ev_c) eo_no h3
  rw [cut_init] at l1
  rw [cut_hi (by decide)] at l2
  refine s_forZip (n := ns.length - 1) (Mv.of T H) l1 l2 (by simp) (fun i σ' H' => ∃ v w, σ' = [some (.ref r), some (.ref a), v, w] ∧ Ex T H H' ∧ ∀ j : Nat, j < i → j + 1 < ns.length → f (rk ns j) (rk ns ((j : Int) + 1)) = true) (fun H1 e1 => ⟨none, none, rfl, e1, fun j z => absurd z (Nat.not_lt_zero _)⟩) (fun i σ' H' H'' ⟨v, w, p1, p2, p3⟩ e => ⟨v, w, p1, p2.trans e, p3⟩) ?_ ?_
  · rintro B i x y t σ' H' eB hx hy ⟨v, w, rfl, e, hj⟩ eb ht'
    have hi : i + 1 < ns.length := by
      have := (List.getElem?_eq_some_iff.mp hx).1
      simp at this
      omega
    have ex : x = .int (rk ns i) := by
      rw [List.getElem?_dropLast, if_pos (by simp; omega)] at hx
      obtain ⟨z, hz, rfl⟩ := item_int hx
      rw [rk_el (by omega) (by omega)]
      congr 1
      simp [List.getElem?_eq_some_iff] at hz
      exact hz.2.symm
    have ey : y = .int (rk ns ((i : Int) + 1)) := by
      rw [show ((1 : Int).toNat) = 1 from rfl, List.getElem?_drop] at hy
      obtain ⟨z, hz, rfl⟩ := item_int hy
      rw [rk_el (by omega) (by omega)]
      congr 1
      have := (List.getElem?_eq_some_iff.mp hz).2
      rw [← this]
      congr 1
      omega
    subst ex ey
    refine ⟨t, _, rfl, .inl (.inl ht'), rfl, _, _, rfl, _, _, rfl, rfl, ?_⟩
    refine s_if (Mv.of T H') (ht H' i hi e) (fun hb H2 e2 _ => ?_) (fun hb H2 e2 _ => nextI ⟨⟨_, _, rfl, e.trans e2, fun j hj' hj2 => ?_⟩, eb.trans e2⟩)
    · have hb : f (rk ns i) (rk ns ((i : Int) + 1)) = false := by simpa using hb
      rw [adj_false hi hb] at k
      exact s_ret (Mv.of T H2) ev_c fun H3 e3 => k H3 ((e.trans e2).trans e3)
    · have hb : f (rk ns i) (rk ns ((i : Int) + 1)) = true := by simpa using hb
      by_cases z : j = i
      · subst z; exact hb
      · exact hj j (by omega) hj2
  · rintro σ' H' ⟨v, w, rfl, e, hj⟩
    dsimp only
    rw [adj_true (fun i hi => hj i (by omega) hi)] at k
    exact s_ret (Mv.of T H') ev_c fun H3 e3 => k H3 (e.trans e3)
theorem p_are_rising (h : sp_are_rising K T vs H Q E) : r_are_rising K T { nx := fun _ H' => Q .non H', rt := Q } (start ["ranks", "thing", "one", "other"] vs) H := by
  obtain ⟨r, x, rs, b, rfl, hr, hb, k⟩ := h
  unfold r_are_rising
  rcases hb with ⟨h1, rfl⟩ | ⟨ns, o, rfl⟩
  · exact q_if (b := true) (Mv.of T H) (et_not (et_B (ev_call0 (by walk_at "ea") (v_are_lines hr h1)))) (fun _ H1 e _ => s_ret e ev_c k) (fun z => nomatch z)
  · obtain ⟨a, rfl, o2, o3, o4, o5⟩ := o
    refine q_if (b := false) (Mv.of T H) (et_not (et_B (ev_call0 (by walk_at "ea") (v_are_lines hr (LsO.lns ⟨a, rfl, o2, o3, o4, o5⟩))))) (fun z => nomatch z) (fun _ H1 e _ => nextI ?_)
    dsimp only
    exact p_adj (H0 := H) (n := rs.length) ⟨a, rfl, by rw [kd_exn e (by rw [o2]; decide)]; exact o2, e.l o3, o4, o5⟩ e (fun H' i hi e' => et_is (et_test (ev_op (by walk_at "ev") (by walk_at "ev") rv_i0)) (by simp only [upF]; rw [Bool.eq_iff_iff]; simp)) fun H' e' => k H' (e.trans e')
theorem p_are_nested (h : sp_are_nested K T vs H Q E) : r_are_nested K T { nx := fun _ H' => Q .non H', rt := Q } (start ["ranks", "thing", "one", "other"] vs) H := by
  obtain ⟨r, x, rs, b, rfl, hr, hb, k⟩ := h
  unfold r_are_nested
  rcases hb with ⟨h1, rfl⟩ | ⟨ns, o, rfl⟩
  · exact q_if (b := true) (Mv.of T H) (et_not (et_B (ev_call0 (by walk_at "ea") (v_are_lines hr h1)))) (fun _ H1 e _ => s_ret e ev_c k) (fun z => nomatch z)
  · obtain ⟨a, rfl, o2, o3, o4, o5⟩ := o
    refine q_if (b := false) (Mv.of T H) (et_not (et_B (ev_call0 (by walk_at "ea") (v_are_lines hr (LsO.lns ⟨a, rfl, o2, o3, o4, o5⟩))))) (fun z => nomatch z) (fun _ H1 e _ => nextI ?_)
    dsimp only
    refine p_adj (H0 := H) (n := rs.length) ⟨a, rfl, by rw [kd_exn e (by rw [o2]; decide)]; exact o2, e.l o3, o4, o5⟩ e (fun H' i hi e' => ?_) fun H' e' => k H' (e.trans e')
    have hr' := (e.trans e').l hr
    have i1 := o4 _ (rk_at (ls := ns) (i := i) (by omega) (by omega))
    have i2 := o4 _ (rk_at (ls := ns) (i := (i : Int) + 1) (by omega) (by omega))
    exact et_is (et_test (ev_op (ev_op (by walk_at "ev") (by walk_at "ev") (rv_ixI hr' i1.1 i1.2)) (ev_op (by walk_at "ev") (by walk_at "ev") (rv_ixI hr' i2.1 i2.2)) rv_i0)) (by simp only [dnF]; rw [Bool.eq_iff_iff]; simp)
theorem p_is_picture (h : sp_is_picture K T vs H Q E) : r_is_picture K T { nx := fun _ H' => Q .non H', rt := Q } (start ["ranks", "thing"] vs) H := by
  obtain ⟨r, x, rs, b, rfl, hr, ⟨hk, hb⟩, k⟩ := h
  unfold r_is_picture
  rcases hb with ⟨h1, rfl⟩ | ⟨t, xs, rfl, h2, h3, h4⟩
  · refine q_if (b := true) (Mv.of T H) (et_orT (et_is (et_not (et_B (ev_cb (by walk_at "ea") (rc_is rfl hk (by decide))))) ?_)) (fun _ H1 e _ => s_ret e ev_c k) (fun z => nomatch z)
    simp only [isK, Bool.not_eq_true', Bool.or_eq_false_iff, Bool.and_eq_false_iff]
    exact ⟨beq_eq_false_iff_ne.mpr h1, .inr (by decide)⟩
  · rcases h4 with ⟨h4, rfl⟩ | ⟨x0, x1, x2, x3, b0, b1, b2, rfl, h5, h6, h7, h8, rfl⟩
    · refine q_if (b := true) (Mv.of T H) (et_is (et_or (et_not (et_B (ev_cb (by walk_at "ea") (rc_is h2 (by decide) (by decide))))) fun _ => et_test (ev_op (ev_cb (by walk_at "ea") (rc_len (.inr h3))) ev_c rv_neI)) ?_) (fun _ H1 e _ => s_ret e ev_c k) (fun z => nomatch z)
      rw [show isK "tuple" "tuple" = true from by decide, decide_eq_false (by omega)]
      rfl
    · have c0 : atI [x0, x1, x2, x3] 0 = some x0 := rfl
      have c1 : atI [x0, x1, x2, x3] 1 = some x1 := rfl
      have c2 : atI [x0, x1, x2, x3] 2 = some x2 := rfl
      have c3 : atI [x0, x1, x2, x3] 3 = some x3 := rfl
      refine q_if (b := false) (Mv.of T H) (et_is (et_or (et_not (et_B (ev_cb (by walk_at "ea") (rc_is h2 (by decide) (by decide))))) fun _ => et_test (ev_op (ev_cb (by walk_at "ea") (rc_len (.inr h3))) ev_c rv_neI)) (by simp [isK])) (fun z => nomatch z) (fun _ H1 e _ => nextI ?_)
      dsimp only
      refine q_if (b := !b0 || !b1) e (et_or (et_not (et_B (ev_call0 (ea_cons (by walk_at "ev") (ea_cons (ev_op (by walk_at "ev") ev_c (rv_ixT h3 c0)) ea_nil)) (v_are_rising hr h5)))) fun _ => et_not (et_B (ev_call0 (ea_cons (by walk_at "ev") (ea_cons (ev_op (by walk_at "ev") ev_c (rv_ixT h3 c1)) ea_nil)) (v_are_rising hr h6)))) (fun hb H2 e2 _ => s_ret e2 (ev_is ev_c ?_) k) (fun hb H2 e2 _ => nextI ?_)
      · cases b0 <;> cases b1 <;> first | rfl | cases hb
      · dsimp only
        refine s_ret e2 (ev_is (ev_and (ev_call0 (ea_cons (by walk_at "ev") (ea_cons (ev_op (by walk_at "ev") ev_c (rv_ixT h3 c2)) ea_nil)) (v_are_nested hr h7)) fun _ => ev_call0 (ea_cons (ev_op (by walk_at "ev") ev_c (rv_ixT h3 c3)) ea_nil) (v_is_bar h8)) ?_) k
        cases b0 <;> cases b1 <;> first | rfl | cases hb
theorem marks_len {n : Nat} {ls : List Int} : (marks n ls).length = n := by
  unfold marks
  have : ∀ (ls : List Int) (bs : List Bool), (ls.foldl (fun bs i => bs.set i.toNat true) bs).length = bs.length := fun ls => by
    induction ls with
    | nil => exact fun _ => rfl
    | cons a ls ih => intro bs; rw [List.foldl_cons, ih, List.length_set]
  rw [this, List.length_replicate]
theorem marks_snoc {n : Nat} {ls : List Int} {i : Int} : marks n (ls ++ [i]) = (marks n ls).set i.toNat true := by
  unfold marks
  rw [List.foldl_append]
  rfl
theorem p_marked (h : sp_marked K T vs H Q E) : r_marked K T { nx := fun _ H' => Q .non H', rt := Q } (start ["many", "lines", "found", "line"] vs) H := by
  obtain ⟨l, ls, n, rfl, hn, hl, hi, hz, q⟩ := h
  unfold r_marked
  refine q_asgR (Mv.of T H) (ev_rep (k := n) (xs := [.bl false]) (ys := (marks n []).map V.bl) (el_lst (ea_cons ev_c ea_nil) (by decide)) (by walk_at "ev") (by omega) (by simp) (by simp [marks])) fun v H1 σ2 hs e1 _ hv => ?_
  obtain ⟨p, rfl, np, hp⟩ := hv
  subst hs
  refine s_forL (xs := ls.map V.int) e1 (by walk_at "ev") hl (fun i σ' H' => ∃ v, σ' = [some (.int n), some (.ref l), some (.ref p), v] ∧ Ex T H H' ∧ H' p = some (.lst (List.map V.bl (marks n (ls.take i))))) (fun H2 e2 e3 => ⟨none, rfl, e2, by rw [List.take_zero]; exact e3.at hp⟩) (fun i σ' H' _ ⟨_, _, e, _⟩ => e.l hl) ?_ ?_
  · rintro i x σ' H' hi' ⟨v, rfl, e, hp⟩
    obtain ⟨z, hz', rfl⟩ := item_int hi'
    have hzi := hi z (List.mem_of_getElem? hz')
    refine nameI ?_
    refine s_setL (v := .bl true) (l := p) (i := z) (j := z.toNat) (Mv.of T H') hp ev_c (by walk_at "ev") (by walk_at "ev") (by rw [List.length_map, marks_len]; exact ixN_in hzi.1 hzi.2) fun H2 e2 _ => ⟨_, rfl, (e.trans e2).set (.inr np) (e2.at hp), ?_⟩
    rw [upd_same, take_snoc hz', marks_snoc, List.map_set]
  · rintro σ' H' ⟨v, rfl, e, hp⟩
    rw [List.length_map, List.take_length] at hp
    dsimp only
    exact s_ret (Mv.of T H') (by walk_at "ev") fun H2 e2 => q _ _ (e.trans e2) ⟨p, rfl, np, e2.at hp⟩
end
end Fp

namespace Fp
open PySem PySem.Spec PyProof.Rows L2 LamX
/-! ### what a board's methods tell -/
def MutB (K : PySem.W.Frag) (T : List (Addr × Str)) (c : Str) (H : Hp) (a : Addr) (S : Addr → Prop) (s' : BSt) (v : V) (Q : VK) : Prop := ∀ H' S', Mv T S H H' → BrdO K c H' a s' S' → (∀ x, S' x → S x ∨ nod H x) → Q v H'
/-- what raising NotTop wants -/
structure NtC (K : PySem.W.Frag) : Prop where
  ox : OexC K (He.ga K "NotTop")
  no : ∀ f ∈ (["line", "top"] : List Str), PySem.W.findIn K (.ref (He.ga K "NotTop")) f = some none
def sp_B_enters (K : PySem.W.Frag) (T : List (Addr × Str)) (c : Str) : Sp := fun vs H Q _ => ∃ a i s S, vs = [.ref a, .int i] ∧ BrdO K c H a s S ∧ Tabs T H ∧ (∀ p, s.pegs = some p → POk p ∧ inR p.ranks i ∧ i ∉ p.hung ++ p.book) ∧ MutB K T c H a S (s.enters i) .non Q
def sp_B_leaves (K : PySem.W.Frag) (T : List (Addr × Str)) (c : Str) : Sp := fun vs H Q _ => ∃ a i s S, vs = [.ref a, .int i] ∧ BrdO K c H a s S ∧ Tabs T H ∧ (∀ p, s.pegs = some p → POk p ∧ (i ∈ p.hung ∨ i ∈ p.book)) ∧ MutB K T c H a S (s.leaves i) .non Q
def sp_B_look_at (K : PySem.W.Frag) (T : List (Addr × Str)) (c : Str) : Sp := fun vs H Q E => ∃ a y s S, vs = [.ref a, y] ∧ BrdO K c H a s S ∧ kd H y ≠ "" ∧ ((isLn s.ranks.length y = false ∧ ∀ H', Ex T H H' → E (.ref (He.ga K "NoLine")) none H') ∨ (isLn s.ranks.length y = true ∧ ∀ H', Ex T H H' → Q .non H'))
def spFlag (K : PySem.W.Frag) (T : List (Addr × Str)) (c : Str) (f : BSt → Int → BSt) (g : BSt → Int → Bool) : Sp := fun vs H Q E => ∃ a y s S, vs = [.ref a, y] ∧ BrdO K c H a s S ∧ BWf s ∧ Tabs T H ∧ kd H y ≠ "" ∧ ((isLn s.ranks.length y = false ∧ ∀ H', Ex T H H' → E (.ref (He.ga K "NoLine")) none H') ∨ ∃ i, y = .int i ∧ inR s.ranks i ∧ MutB K T c H a S (f s i) (.bl (g s i)) Q)
def sp_B_ring (K : PySem.W.Frag) (T : List (Addr × Str)) (c : Str) : Sp := spFlag K T c BSt.ring fun s i => !fl s.asking i
def sp_B_calm (K : PySem.W.Frag) (T : List (Addr × Str)) (c : Str) : Sp := spFlag K T c BSt.calm fun s i => fl s.asking i
def sp_B_mute (K : PySem.W.Frag) (T : List (Addr × Str)) (c : Str) : Sp := spFlag K T c BSt.mute fun s i => !fl s.quiet i
def sp_B_free (K : PySem.W.Frag) (T : List (Addr × Str)) (c : Str) : Sp := spFlag K T c BSt.free fun s i => fl s.quiet i
def sp_B_bar (K : PySem.W.Frag) (T : List (Addr × Str)) (c : Str) : Sp := fun vs H Q E => ∃ a y s S, vs = [.ref a, y] ∧ BrdO K c H a s S ∧ kd H y ≠ "" ∧ ((isBr y = false ∧ ∀ H', Ex T H H' → E (.ref (He.ga K "NoBar")) none H') ∨ ∃ e, y = oI e ∧ isBr y = true ∧ MutB K T c H a S (s.bar e) (oI s.edge) Q)
def sp_B_upmost (K : PySem.W.Frag) (T : List (Addr × Str)) (c : Str) : Sp := fun vs H Q _ => ∃ a s S, vs = [.ref a] ∧ BrdO K c H a s S ∧ ∀ H', Ex T H H' → Q (oI s.up) H'
def sp_B_is_open (K : PySem.W.Frag) (T : List (Addr × Str)) (c : Str) : Sp := fun vs H Q _ => ∃ a i s S, vs = [.ref a, .int i] ∧ BrdO K c H a s S ∧ (∀ j ∈ s.pile, inR s.ranks j) ∧ inR s.ranks i ∧ ∀ H', Ex T H H' → Q (.bl (s.open_ i)) H'
def sp_B_best (K : PySem.W.Frag) (T : List (Addr × Str)) (c : Str) : Sp := fun vs H Q _ => ∃ a s S, vs = [.ref a] ∧ BrdO K c H a s S ∧ BWf s ∧ ∀ H', Ex T H H' → Q (oI s.best) H'
def sp_B_take (K : PySem.W.Frag) (T : List (Addr × Str)) (c : Str) : Sp := fun vs H Q _ => ∃ a s S, vs = [.ref a] ∧ BrdO K c H a s S ∧ BWf s ∧ Tabs T H ∧ MutB K T c H a S s.take (oI s.best) Q
def sp_B_end (K : PySem.W.Frag) (T : List (Addr × Str)) (c : Str) : Sp := fun vs H Q E => ∃ a y s S, vs = [.ref a, y] ∧ BrdO K c H a s S ∧ kd H y ≠ "" ∧ NtC K ∧ ((isLn s.ranks.length y = false ∧ ∀ H', Ex T H H' → E (.ref (He.ga K "NoLine")) none H') ∨ ∃ i, y = .int i ∧ inR s.ranks i ∧
  ((s.up ≠ some i ∧ ∀ H' d, Ex T H H' → H' d = none → E (.ref (He.ga K "NotTop")) (some d) (upd H' d (.xd [("top", oI s.up), ("line", .int i)]))) ∨ (s.up = some i ∧ MutB K T c H a S s.pop (oI s.pop.up) Q)))
/-- a new picture -/
def newPic (s : BSt) : Hp → V → Hp → Prop := fun H v H' => ∃ t x y z, v = .ref t ∧ nod H t ∧ nod H x ∧ nod H y ∧ nod H z ∧ H' t = some (.tup [.ref x, .ref y, .ref z, oI s.edge]) ∧ H' x = some (.lst (List.map V.int (linesW s.ranks.length (fl s.asking)))) ∧ H' y = some (.lst (List.map V.int (linesW s.ranks.length (fl s.quiet)))) ∧ H' z = some (.lst (List.map V.int s.pile)) ∧ x ≠ y ∧ x ≠ z ∧ y ≠ z
def sp_B_told (K : PySem.W.Frag) (T : List (Addr × Str)) (c : Str) : Sp := fun vs H Q _ => ∃ a s S, vs = [.ref a] ∧ BrdO K c H a s S ∧ BWf s ∧ ∀ v H', Ex T H H' → newPic s H v H' → Q v H'
def sp_Wide_is_ready (K : PySem.W.Frag) (T : List (Addr × Str)) : Sp := fun vs H Q _ => ∃ a i s S, vs = [.ref a, .int i] ∧ BrdO K "Wide" H a s S ∧ BWf s ∧ inR s.ranks i ∧ ∀ H', Ex T H H' → Q (.bl (s.ready i)) H'
theorem len_B_enters {K : PySem.W.Frag} {T : List (Addr × Str)} {c : Str} : ∀ vs H Q E, sp_B_enters K T c vs H Q E → vs.length = 2 := fun vs H Q E h => by obtain ⟨_, _, _, _, rfl, _⟩ := h; rfl
theorem len_B_leaves {K : PySem.W.Frag} {T : List (Addr × Str)} {c : Str} : ∀ vs H Q E, sp_B_leaves K T c vs H Q E → vs.length = 2 := fun vs H Q E h => by obtain ⟨_, _, _, _, rfl, _⟩ := h; rfl
theorem len_B_look_at {K : PySem.W.Frag} {T : List (Addr × Str)} {c : Str} : ∀ vs H Q E, sp_B_look_at K T c vs H Q E → vs.length = 2 := fun vs H Q E h => by obtain ⟨_, _, _, _, rfl, _⟩ := h; rfl
theorem len_flag {K : PySem.W.Frag} {T : List (Addr × Str)} {c : Str} {f : BSt → Int → BSt} {g : BSt → Int → Bool} : ∀ vs H Q E, spFlag K T c f g vs H Q E → vs.length = 2 := fun vs H Q E h => by obtain ⟨_, _, _, _, rfl, _⟩ := h; rfl
theorem len_B_ring {K : PySem.W.Frag} {T : List (Addr × Str)} {c : Str} : ∀ vs H Q E, sp_B_ring K T c vs H Q E → vs.length = 2 := len_flag
theorem len_B_calm {K : PySem.W.Frag} {T : List (Addr × Str)} {c : Str} : ∀ vs H Q E, sp_B_calm K T c vs H Q E → vs.length = 2 := len_flag
theorem len_B_mute {K : PySem.W.Frag} {T : List (Addr × Str)} {c : Str} : ∀ vs H Q E, sp_B_mute K T c vs H Q E → vs.length = 2 := len_flag
theorem len_B_free {K : PySem.W.Frag} {T : List (Addr × Str)} {c : Str} : ∀ vs H Q E, sp_B_free K T c vs H Q E → vs.length = 2 := len_flag
theorem len_B_bar {K : PySem.W.Frag} {T : List (Addr × Str)} {c : Str} : ∀ vs H Q E, sp_B_bar K T c vs H Q E → vs.length = 2 := fun vs H Q E h => by obtain ⟨_, _, _, _, rfl, _⟩ := h; rfl
theorem len_B_upmost {K : PySem.W.Frag} {T : List (Addr × Str)} {c : Str} : ∀ vs H Q E, sp_B_upmost K T c vs H Q E → vs.length = 1 := fun vs H Q E h => by obtain ⟨_, _, _, rfl, _⟩ := h; rfl
theorem len_B_is_open {K : PySem.W.Frag} {T : List (Addr × Str)} {c : Str} : ∀ vs H Q E, sp_B_is_open K T c vs H Q E → vs.length = 2 := fun vs H Q E h => by obtain ⟨_, _, _, _, rfl, _⟩ := h; rfl
theorem len_B_best {K : PySem.W.Frag} {T : List (Addr × Str)} {c : Str} : ∀ vs H Q E, sp_B_best K T c vs H Q E → vs.length = 1 := fun vs H Q E h => by obtain ⟨_, _, _, rfl, _⟩ := h; rfl
theorem len_B_take {K : PySem.W.Frag} {T : List (Addr × Str)} {c : Str} : ∀ vs H Q E, sp_B_take K T c vs H Q E → vs.length = 1 := fun vs H Q E h => by obtain ⟨_, _, _, rfl, _⟩ := h; rfl
theorem len_B_end {K : PySem.W.Frag} {T : List (Addr × Str)} {c : Str} : ∀ vs H Q E, sp_B_end K T c vs H Q E → vs.length = 2 := fun vs H Q E h => by obtain ⟨_, _, _, _, rfl, _⟩ := h; rfl
theorem len_B_told {K : PySem.W.Frag} {T : List (Addr × Str)} {c : Str} : ∀ vs H Q E, sp_B_told K T c vs H Q E → vs.length = 1 := fun vs H Q E h => by obtain ⟨_, _, _, rfl, _⟩ := h; rfl
theorem len_Wide_is_ready {K : PySem.W.Frag} {T : List (Addr × Str)} : ∀ vs H Q E, sp_Wide_is_ready K T vs H Q E → vs.length = 2 := fun vs H Q E h => by
  obtain ⟨_, _, _, _, rfl, _⟩ := h
  exact rfl
def r_Board_enters (K : PySem.W.Frag) (T : List (Addr × Str)) (c : Str) : TS :=
  tNext
def r_Board_leaves (K : PySem.W.Frag) (T : List (Addr × Str)) (c : Str) : TS :=
  tNext
def r_Board_look_at (K : PySem.W.Frag) (T : List (Addr × Str)) (c : Str) (E : XK) : TS :=
  (tIfS (tNot (tB (tCall (sp_is_line K T) [] E0 (tCons (tFld K (tVar 0) "ranks") (tCons (tVar 1) tNil))))) (tRaise E (.ref (He.ga K "NoLine"))) tNext)
def r_Board_ring (K : PySem.W.Frag) (T : List (Addr × Str)) (c : Str) (E : XK) : TS :=
  (tSeq (tDrop (tMeth (He.ga K c) "look_at" (sp_B_look_at K T c) [] E (tVar 0) (tCons (tVar 1) tNil)))
  (tSeq (tIfS (tB (tOp (rIxL K) (tFld K (tVar 0) "asking") (tVar 1))) (tRet (tC (.bl false))) tNext)
  (tSeq (tAsg (tC (.bl true)) (gSub (tFld K (tVar 0) "asking") (tVar 1) rSetL))
  (Evl.tCut (tIfS (tNot (tB (tOp (rIxL K) (tFld K (tVar 0) "quiet") (tVar 1)))) (tDrop (tMeth (He.ga K c) "enters" (sp_B_enters K T c) [] E0 (tVar 0) (tCons (tVar 1) tNil))) tNext)
  (tRet (tC (.bl true)))))))
def r_Board_calm (K : PySem.W.Frag) (T : List (Addr × Str)) (c : Str) (E : XK) : TS :=
  (tSeq (tDrop (tMeth (He.ga K c) "look_at" (sp_B_look_at K T c) [] E (tVar 0) (tCons (tVar 1) tNil)))
  (tSeq (tIfS (tNot (tB (tOp (rIxL K) (tFld K (tVar 0) "asking") (tVar 1)))) (tRet (tC (.bl false))) tNext)
  (tSeq (tAsg (tC (.bl false)) (gSub (tFld K (tVar 0) "asking") (tVar 1) rSetL))
  (Evl.tCut (tIfS (tNot (tB (tOp (rIxL K) (tFld K (tVar 0) "quiet") (tVar 1)))) (tDrop (tMeth (He.ga K c) "leaves" (sp_B_leaves K T c) [] E0 (tVar 0) (tCons (tVar 1) tNil))) tNext)
  (tRet (tC (.bl true)))))))
def r_Board_mute (K : PySem.W.Frag) (T : List (Addr × Str)) (c : Str) (E : XK) : TS :=
  (tSeq (tDrop (tMeth (He.ga K c) "look_at" (sp_B_look_at K T c) [] E (tVar 0) (tCons (tVar 1) tNil)))
  (tSeq (tIfS (tB (tOp (rIxL K) (tFld K (tVar 0) "quiet") (tVar 1))) (tRet (tC (.bl false))) tNext)
  (tSeq (tAsg (tC (.bl true)) (gSub (tFld K (tVar 0) "quiet") (tVar 1) rSetL))
  (Evl.tCut (tIfS (tB (tOp (rIxL K) (tFld K (tVar 0) "asking") (tVar 1))) (tDrop (tMeth (He.ga K c) "leaves" (sp_B_leaves K T c) [] E0 (tVar 0) (tCons (tVar 1) tNil))) tNext)
  (tRet (tC (.bl true)))))))
def r_Board_free (K : PySem.W.Frag) (T : List (Addr × Str)) (c : Str) (E : XK) : TS :=
  (tSeq (tDrop (tMeth (He.ga K c) "look_at" (sp_B_look_at K T c) [] E (tVar 0) (tCons (tVar 1) tNil)))
  (tSeq (tIfS (tNot (tB (tOp (rIxL K) (tFld K (tVar 0) "quiet") (tVar 1)))) (tRet (tC (.bl false))) tNext)
  (tSeq (tAsg (tC (.bl false)) (gSub (tFld K (tVar 0) "quiet") (tVar 1) rSetL))
  (Evl.tCut (tIfS (tB (tOp (rIxL K) (tFld K (tVar 0) "asking") (tVar 1))) (tDrop (tMeth (He.ga K c) "enters" (sp_B_enters K T c) [] E0 (tVar 0) (tCons (tVar 1) tNil))) tNext)
  (tRet (tC (.bl true)))))))
def r_Board_bar (K : PySem.W.Frag) (T : List (Addr × Str)) (c : Str) (E : XK) : TS :=
  (tSeq (tIfS (tNot (tB (tCall (sp_is_bar K T) [] E0 (tCons (tVar 1) tNil)))) (tRaise E (.ref (He.ga K "NoBar"))) tNext)
  (tSeq (tAsg (tFld K (tVar 0) "edge") (gName 2))
  (tSeq (sFld K (tVar 0) (tVar 1) "edge")
  (tRet (tVar 2)))))
def r_Board_upmost (K : PySem.W.Frag) (T : List (Addr × Str)) (c : Str) : TS :=
  (tSeq (tIfS (tTest (tOp (rEqD K) (tFld K (tVar 0) "pile") (tLst tNil))) (tRet (tC .non)) tNext)
  (tRet (tOp (rIxL K) (tFld K (tVar 0) "pile") (tUn (rU fun i => .int (-i)) (tC (.int 1))))))
def r_Board_is_open (K : PySem.W.Frag) (T : List (Addr × Str)) (c : Str) : TS :=
  (tSeq (tAsg (tOp (rIxL K) (tFld K (tVar 0) "ranks") (tVar 1)) (gName 2))
  (tSeq (tIfS (tAnd (tTest (tOp oNotN (tFld K (tVar 0) "edge") (tC .non))) (tTest (tOp oGe (tVar 2) (tFld K (tVar 0) "edge")))) (tRet (tC (.bl false))) tNext)
  (tRet (tOrV (tOp (rEqD K) (tFld K (tVar 0) "pile") (tLst tNil)) (tOp oLt (tVar 2) (tOp (rIxL K) (tFld K (tVar 0) "ranks") (tOp (rIxL K) (tFld K (tVar 0) "pile") (tUn (rU fun i => .int (-i)) (tC (.int 1))))))))))
def r_Board_take (K : PySem.W.Frag) (T : List (Addr × Str)) (c : Str) : TS :=
  (tSeq (tAsg (tMeth (He.ga K c) "best" (sp_B_best K T c) [] E0 (tVar 0) tNil) (gName 1))
  (Evl.tCut (tIfS (tTest (tOp oNotN (tVar 1) (tC .non))) (tSeq (tAsg (tC (.bl false)) (gSub (tFld K (tVar 0) "asking") (tVar 1) rSetL))
  (tSeq (tDrop (tMeth (He.ga K c) "leaves" (sp_B_leaves K T c) [] E0 (tVar 0) (tCons (tVar 1) tNil)))
  (tDrop (tBM K "list" rAppend (tFld K (tVar 0) "pile") (tCons (tVar 1) tNil))))) tNext)
  (tRet (tVar 1))))
def r_Board_end (K : PySem.W.Frag) (T : List (Addr × Str)) (c : Str) (E : XK) : TS :=
  (tSeq (tDrop (tMeth (He.ga K c) "look_at" (sp_B_look_at K T c) [] E (tVar 0) (tCons (tVar 1) tNil)))
  (tSeq (tIfS (tOr (tTest (tOp (rEqD K) (tFld K (tVar 0) "pile") (tLst tNil))) (tTest (tOp rNe (tVar 1) (tOp (rIxL K) (tFld K (tVar 0) "pile") (tUn (rU fun i => .int (-i)) (tC (.int 1))))))) (tRaiseI K E "NotTop" (sp_NotTop_init K T) (tCons (tVar 1) (tCons (tMeth (He.ga K c) "upmost" (sp_B_upmost K T c) [] E0 (tVar 0) tNil) tNil))) tNext)
  (tSeq (tDrop (tBM0 K "list" rPop (tFld K (tVar 0) "pile")))
  (tRet (tMeth (He.ga K c) "upmost" (sp_B_upmost K T c) [] E0 (tVar 0) tNil)))))
def r_Board_told (K : PySem.W.Frag) (T : List (Addr × Str)) (c : Str) : TS :=
  (tSeq (tAsg (tLc (iRng1 (tCons (tCB (rLen K) (tCons (tFld K (tVar 0) "ranks") tNil)) tNil)) (gName 3) (tB (tOp (rIxL K) (tFld K (tVar 0) "asking") (tVar 3))) (tVar 3) [3]) (gName 1))
  (tSeq (tAsg (tLc (iRng1 (tCons (tCB (rLen K) (tCons (tFld K (tVar 0) "ranks") tNil)) tNil)) (gName 3) (tB (tOp (rIxL K) (tFld K (tVar 0) "quiet") (tVar 3))) (tVar 3) [3]) (gName 2))
  (tRet (tTup (tCons (tVar 1) (tCons (tVar 2) (tCons (tCB (rLst K) (tCons (tFld K (tVar 0) "pile") tNil)) (tCons (tFld K (tVar 0) "edge") tNil))))))))
def r_Wide_is_ready (K : PySem.W.Frag) (T : List (Addr × Str)) : TS :=
  (tRet (tAndV (tOp (rIxL K) (tFld K (tVar 0) "asking") (tVar 1)) (tAndV (tNotV (tOp (rIxL K) (tFld K (tVar 0) "quiet") (tVar 1))) (tMeth (He.ga K "Wide") "is_open" (sp_B_is_open K T "Wide") [] E0 (tVar 0) (tCons (tVar 1) tNil)))))
def r_Wide_best (K : PySem.W.Frag) (T : List (Addr × Str)) : TS :=
  (tRet (tCall (sp_first_of K T) [] E0 (tCons (tFld K (tVar 0) "ranks") (tCons (tLc (iRng1 (tCons (tCB (rLen K) (tCons (tFld K (tVar 0) "ranks") tNil)) tNil)) (gName 1) (tB (tMeth (He.ga K "Wide") "is_ready" (sp_Wide_is_ready K T) [] E0 (tVar 0) (tCons (tVar 1) tNil))) (tVar 1) [1]) tNil))))
section
variable {K : PySem.W.Frag} {T : List (Addr × Str)} {c : Str} {H H' : Hp} {s : BSt} {S : Addr → Prop} {a : Addr} {i : Int} {n : Nat} {b : Int → Bool}
theorem mem_linesW : i ∈ linesW n b ↔ (0 ≤ i ∧ i < (n : Int)) ∧ b i = true := by
  unfold linesW
  rw [List.mem_map]
  constructor
  · rintro ⟨z, hz, rfl⟩
    have := List.mem_filter.mp hz
    have h1 := List.mem_range.mp this.1
    exact ⟨⟨by omega, by omega⟩, this.2⟩
  · rintro ⟨⟨h0, h1⟩, h2⟩
    obtain ⟨z, rfl⟩ := Int.eq_ofNat_of_zero_le h0
    exact ⟨z, List.mem_filter.mpr ⟨List.mem_range.mpr (by omega), h2⟩, rfl⟩
theorem linesW_nd : (linesW n b).Nodup := by
  unfold linesW
  refine List.pairwise_map.mpr ((List.nodup_range.sublist List.filter_sublist).imp fun h e => h (by omega))
theorem linesW_len : (linesW n b).length ≤ n := by
  unfold linesW
  rw [List.length_map]
  exact Nat.le_trans (List.length_filter_le _ _) (by rw [List.length_range]; exact Nat.le_refl _)
theorem v_B_upmost (O : BrdO K c H a s S) : SpV T (sp_B_upmost K T c) [.ref a] H (oI s.up) := fun H1 e Q q E => ⟨a, s, S, rfl, O.ex' e, q⟩
theorem v_B_is_open (O : BrdO K c H a s S) (hp : ∀ j ∈ s.pile, inR s.ranks j) (hi : inR s.ranks i) : SpV T (sp_B_is_open K T c) [.ref a, .int i] H (.bl (s.open_ i)) := fun H1 e Q q E => ⟨a, i, s, S, rfl, O.ex' e, hp, hi, q⟩
theorem v_B_best (O : BrdO K c H a s S) (w : BWf s) : SpV T (sp_B_best K T c) [.ref a] H (oI s.best) := fun H1 e Q q E => ⟨a, s, S, rfl, O.ex' e, w, q⟩
theorem v_B_told (O : BrdO K c H a s S) (w : BWf s) : SpR T (sp_B_told K T c) [.ref a] H (newPic s) := fun H1 e Q q E => ⟨a, s, S, rfl, O.ex' e, w, q⟩
theorem v_ready (O : BrdO K "Wide" H a s S) (w : BWf s) (hi : inR s.ranks i) : SpV T (sp_Wide_is_ready K T) [.ref a, .int i] H (.bl (s.ready i)) := fun H1 e Q q E => ⟨a, i, s, S, rfl, O.ex' e, w, hi, q⟩
theorem newPic_back : ∀ H1 H2 v H3, Ex T H H1 → Ex T H1 H2 → Ex T H2 H3 → newPic s H2 v H3 → newPic s H1 v H3 := fun _ _ _ _ _ e _ ⟨t, x, y, z, h1, h2, h3, h4, h5, h6⟩ => ⟨t, x, y, z, h1, e.dm _ h2, e.dm _ h3, e.dm _ h4, e.dm _ h5, h6⟩
end
end Fp
local macro_rules | `(tactic| walk_at "ev") => `(tactic| with_reducible first | (apply Fp.eb_ranks; (· assumption); (· assumption); (· walk_at "ev")) | (apply Fp.eb_asking; (· assumption); (· assumption); (· walk_at "ev")) | (apply Fp.eb_quiet; (· assumption); (· assumption); (· walk_at "ev")) | (apply Fp.eb_pile; (· assumption); (· assumption); (· walk_at "ev")) | (apply Fp.eb_edge; (· assumption); (· assumption); (· walk_at "ev")))
namespace Fp
open PySem PySem.Spec PyProof.Rows L2 LamX
section
variable {K : PySem.W.Frag} {T : List (Addr × Str)} {c : Str} {H H0 : Hp} {Q : VK} {E : XK} {vs : List V}
theorem p_Wide_enters (h : sp_B_enters K T "Wide" vs H Q E) : r_Board_enters K T "Wide" { nx := fun _ H' => Q .non H', rt := Q } (start ["self", "line"] vs) H := by
  obtain ⟨a, i, s, S, rfl, O, tb, _, k⟩ := h
  have hp : s.pegs = none := by
    obtain ⟨dx, r, as, qs, pl, tl, B⟩ := O.ex
    have := B.tl
    cases hs : s.pegs with
    | none => rfl
    | some p => rw [hs] at this; exact absurd this.1 (by decide)
  have e : s.enters i = s := by unfold BSt.enters; rw [hp]; cases s; cases hp; rfl
  rw [e] at k
  exact k H S Mv.refl O fun x h => .inl h
theorem p_Wide_leaves (h : sp_B_leaves K T "Wide" vs H Q E) : r_Board_leaves K T "Wide" { nx := fun _ H' => Q .non H', rt := Q } (start ["self", "line"] vs) H := by
  obtain ⟨a, i, s, S, rfl, O, tb, _, k⟩ := h
  have hp : s.pegs = none := by
    obtain ⟨dx, r, as, qs, pl, tl, B⟩ := O.ex
    have := B.tl
    cases hs : s.pegs with
    | none => rfl
    | some p => rw [hs] at this; exact absurd this.1 (by decide)
  have e : s.leaves i = s := by unfold BSt.leaves; rw [hp]; cases s; cases hp; rfl
  rw [e] at k
  exact k H S Mv.refl O fun x h => .inl h
theorem p_B_look_at (h : sp_B_look_at K T c vs H Q E) : r_Board_look_at K T c E { nx := fun _ H' => Q .non H', rt := Q } (start ["self", "line"] vs) H := by
  obtain ⟨a, y, s, S, rfl, ⟨⟨dx, r, as, qs, pl, tl, B⟩, bc⟩, hy, h⟩ := h
  unfold r_Board_look_at
  have A := B.A
  have lr := A.lr
  refine s_if (b := !isLn s.ranks.length y) (Mv.of T H) (et_not (et_B (ev_call0 (by walk_at "ea") (v_is_line lr hy)))) (fun hb H1 e _ => ?_) (fun hb H1 e _ => nextI ?_)
  · rcases h with ⟨_, z⟩ | ⟨z, _⟩
    · exact z H1 e
    · rw [z] at hb; cases hb
  · rcases h with ⟨z, _⟩ | ⟨_, z⟩
    · rw [z] at hb; cases hb
    · exact z H1 e
theorem p_B_upmost (h : sp_B_upmost K T c vs H Q E) : r_Board_upmost K T c { nx := fun _ H' => Q .non H', rt := Q } (start ["self"] vs) H := by
  obtain ⟨a, s, S, rfl, ⟨⟨dx, r, as, qs, pl, tl, B⟩, bc⟩, k⟩ := h
  unfold r_Board_upmost
  have A := B.A
  have lp := A.lp
  refine q_if (b := decide (s.pile = [])) (Mv.of T H) (et_test (ev_opVL (by walk_at "ev") (el_lst ea_nil (by decide)) fun q H1 hq e => rv_eqDI (dp_n (e.at A.hp)) (dp_n (ns := []) hq))) (fun hb H1 e _ => ?_) (fun hb H1 e _ => nextI ?_)
  · have z := of_decide_eq_true hb
    unfold BSt.up at k
    rw [z] at k
    exact s_ret e (ev_is (by walk_at "ev") (by rfl)) k
  · have z := of_decide_eq_false hb
    dsimp only
    obtain ⟨j, hj, _⟩ := last_of z
    unfold BSt.up at k
    rw [hj] at k
    exact s_ret e (ev_op (by walk_at "ev") (ev_neg ev_c) (rv_ixL lp (ix_neg (by rw [List.getLast?_map, hj]; rfl)))) k
theorem p_B_is_open (h : sp_B_is_open K T c vs H Q E) : r_Board_is_open K T c { nx := fun _ H' => Q .non H', rt := Q } (start ["self", "line", "rank"] vs) H := by
  obtain ⟨a, i, s, S, rfl, ⟨⟨dx, r, as, qs, pl, tl, B⟩, bc⟩, hp, ⟨i0, i1⟩, k⟩ := h
  unfold r_Board_is_open
  have A := B.A
  have lr := A.lr
  have lp := A.lp
  refine q_asg (v := .int (rk s.ranks i)) (Mv.of T H) (ev_op (by walk_at "ev") (by walk_at "ev") (rv_ixI lr i0 i1)) rfl fun H1 e1 _ => ?_
  have eg : ∀ (x : V) (H' : Hp), oI s.edge = x → Ev T (tFld K (tVar 0) "edge") [some (.ref a), some (.int i), some (.int (rk s.ranks i))] H x := fun x H' z => z ▸ eb_edge A bc (by walk_at "ev")
  refine q_if (b := !ltO (rk s.ranks i) s.edge) e1 ?_ (fun hb H2 e2 _ => ?_) (fun hb H2 e2 _ => nextI ?_)
  · cases he : s.edge with
    | none => exact et_andF (et_is (et_test (ev_op (eg .non H (by rw [he]; rfl)) ev_c rv_notN)) (by decide))
    | some e => exact et_andT (et_is (et_test (ev_op (eg (.int e) H (by rw [he]; rfl)) ev_c rv_notN)) (by simp)) (et_is (et_test (ev_op (by walk_at "ev") (eg (.int e) H (by rw [he]; rfl)) rv_i0)) (by rw [Bool.eq_iff_iff]; simp [ltO]))
  · refine s_ret e2 (ev_is ev_c ?_) k
    have hb : ltO (rk s.ranks i) s.edge = false := by simpa using hb
    unfold BSt.open_
    rw [hb]
    rfl
  · dsimp only
    have e3 : ltO (rk s.ranks i) s.edge = true := by simpa using hb
    refine s_ret e2 (ev_is (ev_or (a := decide (s.pile = [])) (b := ltO (rk s.ranks i) (s.pile.getLast?.map (rk s.ranks))) (ev_opVL (by walk_at "ev") (el_lst ea_nil (by decide)) fun q H1 hq e => rv_eqDI (dp_n (e.at A.hp)) (dp_n (ns := []) hq)) fun hn => ?_) ?_) k
    · have hn := of_decide_eq_false hn
      obtain ⟨j, hj, mj⟩ := last_of hn
      rw [hj]
      have jr := hp j mj
      exact ev_op (by walk_at "ev") (ev_op (by walk_at "ev") (ev_op (by walk_at "ev") (ev_neg ev_c) (rv_ixL lp (ix_neg (by rw [List.getLast?_map, hj]; rfl)))) (rv_ixI lr jr.1 jr.2)) rv_i0
    · unfold BSt.open_
      rw [e3, Bool.true_and]
      cases hh : s.pile with
      | nil => rfl
      | cons x xs => rfl
theorem lk_none {tl : List (Str × V)} (h : TlK tl) {r as qs pl e : V} {m : Str} (h1 : (brdF r as qs pl e []).lookup m = none) (h2 : ∀ g : Addr, (brdF r as qs pl e [(("pegs" : Str), V.ref g)]).lookup m = none) : (brdF r as qs pl e tl).lookup m = none := by
  rcases h with rfl | ⟨g, rfl⟩
  · exact h1
  · exact h2 g
/-- a flag's list set -/
theorem q_setB {σ : L2.St} {D : Ends} {u : TS} {ta tb te : TE} {l : Addr} {bs : List Bool} {i : Int} {b : Bool} (e : Ex T H0 H) (hl : H l = some (.lst (bs.map V.bl))) (h : Ev T te σ H0 (.bl b)) (ho : Ev T ta σ H0 (.ref l)) (hi : Ev T tb σ H0 (.int i)) (h0 : 0 ≤ i) (h1 : i < bs.length)
    (k : ∀ H1, Ex T H0 H1 → Ex T H H1 → u D σ (upd H1 l (.lst ((bs.set i.toNat b).map V.bl)))) : tSeq (tAsg te (gSub ta tb rSetL)) u D σ H :=
  q_setL (j := i.toNat) e hl h ho hi (by rw [List.length_map]; exact ixN_in h0 h1) fun H1 z1 z2 => by
    rw [← List.map_set]
    exact k H1 z1 z2
theorem fl_set {bs : List Bool} {i j : Int} {b : Bool} (h0 : 0 ≤ i) (h1 : i < bs.length) (hj : 0 ≤ j) : fl (bs.set i.toNat b) j = if j = i then b else fl bs j := by
  unfold fl
  rw [List.getD_eq_getElem?_getD, List.getD_eq_getElem?_getD, List.getElem?_set]
  by_cases e : j = i
  · subst e
    rw [if_pos rfl, if_pos (by omega), if_pos rfl]
    rfl
  · rw [if_neg (by omega), if_neg e]
theorem p_flag {r_ : TS} (f : BSt → Int → BSt) (g : BSt → Int → Bool) (h : spFlag K T c f g vs H Q E) {u : TS} (hr : r_ = tSeq (tDrop (tMeth (He.ga K c) "look_at" (sp_B_look_at K T c) [] E (tVar 0) (tCons (tVar 1) tNil))) u)
    (hu : ∀ (a : Addr) (i : Int) (s : BSt) (S : Addr → Prop) (H1 : Hp) (dx r as qs pl : Addr) (tl : List (Str × V)), vs = [.ref a, .int i] → Ex T H H1 → BrdP K c H1 a dx r as qs pl tl s S → BdC K c → BWf s → Tabs T H1 → inR s.ranks i → (∀ H' S', Mv T S H1 H' → BrdO K c H' a (f s i) S' → (∀ x, S' x → S x ∨ nod H1 x) → Q (.bl (g s i)) H') → u { nx := fun _ H' => Q .non H', rt := Q } [some (.ref a), some (.int i)] H1) : r_ { nx := fun _ H' => Q .non H', rt := Q } (start ["self", "line"] vs) H := by
  subst hr
  obtain ⟨a, y, s, S, rfl, ⟨⟨dx, r, as, qs, pl, tl, B⟩, bc⟩, w, tb, hy, h⟩ := h
  refine q_meth (sp := sp_B_look_at K T c) (ws := [.ref a, y]) (Mv.of T H) (by walk_at "ev") B.A.at_ (lk_none B.A.tk rfl fun _ => rfl) (by walk_at "ea") rfl fun H1 e1 _ => ⟨a, y, s, S, rfl, (⟨⟨dx, r, as, qs, pl, tl, B⟩, bc⟩ : BrdO K c H a s S).ex' e1, by rw [kd_exn e1 hy]; exact hy, ?_⟩
  rcases h with ⟨h1, h2⟩ | ⟨i, rfl, hi, k⟩
  · exact .inl ⟨h1, fun H' e => h2 H' (e1.trans e)⟩
  · refine .inr ⟨by simp [isLn, hi.1, hi.2], fun H2 e2 => ?_⟩
    have e := e1.trans e2
    exact hu a i s S H2 dx r as qs pl tl rfl e (B.ex' e) bc w (e.tb tb) hi fun H' S' m O n => k H' S' (e.mv.trans m) O fun x hx => (n x hx).imp id (e.dm x)
theorem BWf.pin {s : BSt} (w : BWf s) {i : Int} (hi : inR s.ranks i) (h : (fl s.asking i && !fl s.quiet i) = false) : ∀ p, s.pegs = some p → POk p ∧ inR p.ranks i ∧ i ∉ p.hung ++ p.book := fun p hp => by
  obtain ⟨o, e, pm⟩ := w.pg p hp
  refine ⟨o, by rw [e]; exact hi, fun z => ?_⟩
  have := (mem_linesW.mp (pm.mem_iff.mp z)).2
  rw [h] at this
  cases this
theorem BWf.pout {s : BSt} (w : BWf s) {i : Int} (hi : inR s.ranks i) (h : (fl s.asking i && !fl s.quiet i) = true) : ∀ p, s.pegs = some p → POk p ∧ (i ∈ p.hung ∨ i ∈ p.book) := fun p hp => by
  obtain ⟨o, e, pm⟩ := w.pg p hp
  exact ⟨o, List.mem_append.mp (pm.mem_iff.mpr (mem_linesW.mpr ⟨hi, h⟩))⟩
/-- enters or leaves behind a change of flags, and then True -/
theorem q_tell {s : BSt} {a : Addr} {i : Int} {S : Addr → Prop} {H1 : Hp} {sp : Sp} {m : Str} {tt : TT} {b : Bool} {s2 : BSt} (hS : Mv T S H H1) (O : BrdO K c H1 a s S) (hb : EvT T tt [some (.ref a), some (.int i)] H1 b) (hm : ∀ r as qs pl e tl, TlK tl → (brdF r as qs pl e tl).lookup m = none)
    (h1 : b = true → ∀ H2, Ex T H1 H2 → ∀ Q' : VK, (∀ H' S', Mv T S H2 H' → BrdO K c H' a s2 S' → (∀ x, S' x → S x ∨ nod H2 x) → Q' .non H') → sp [.ref a, .int i] H2 Q' E0) (h2 : b = false → s = s2)
    (k : ∀ H' S', Mv T S H H' → BrdO K c H' a s2 S' → (∀ x, S' x → S x ∨ nod H x) → Q (.bl true) H') :
    Evl.tCut (tIfS tt (tDrop (tMeth (He.ga K c) m sp [] E0 (tVar 0) (tCons (tVar 1) tNil))) tNext) (tRet (tC (.bl true))) { nx := fun _ H' => Q .non H', rt := Q } [some (.ref a), some (.int i)] H1 := by
  refine q_cut (fun σ' H' => σ' = [some (.ref a), some (.int i)] ∧ ∃ S', Mv T S H H' ∧ BrdO K c H' a s2 S' ∧ ∀ x, S' x → S x ∨ nod H x) ?_ ?_
  · refine s_if (Mv.of T H1) hb (fun z H2 e2 _ => ?_) (fun z H2 e2 _ => nextI ⟨rfl, S, hS.trans e2.mv, (h2 z) ▸ O.ex' e2, fun x hx => .inl hx⟩)
    obtain ⟨⟨dx, r, as, qs, pl, tl, B⟩, bc⟩ := O.ex' e2
    refine s_meth (Mv.of T H2) (by walk_at "ev") B.A.at_ (hm _ _ _ _ _ _ B.A.tk) (by walk_at "ea") rfl fun H3 e3 _ => h1 z H3 (e2.trans e3) _ fun H4 S4 m4 O4 n4 => ?_
    exact ⟨rfl, S4, ((hS.trans e2.mv).trans e3.mv).trans m4, O4, fun x hx => (n4 x hx).imp id fun z => hS.dm x ((e2.trans e3).dm x z)⟩
  · rintro σ' H2 ⟨rfl, S', m2, O2, n2⟩
    exact s_ret (Mv.of T H2) ev_c fun H3 e3 => k H3 S' (m2.trans e3.mv) (O2.ex' e3) n2
theorem p_B_ring (h : sp_B_ring K T c vs H Q E) : r_Board_ring K T c E { nx := fun _ H' => Q .non H', rt := Q } (start ["self", "line"] vs) H := by
  refine p_flag BSt.ring (fun s i => !fl s.asking i) h rfl fun a i s S H1 dx r as qs pl tl _ _ B bc w tb hi k => ?_
  have A := B.A
  have la := A.la
  have lq := A.lq
  have ia : i < s.asking.length := by rw [w.la]; exact hi.2
  have iq : i < s.quiet.length := by rw [w.lq]; exact hi.2
  refine q_if (Mv.of T H1) (et_B (ev_op (by walk_at "ev") (by walk_at "ev") (rv_ixB la hi.1 ia))) (fun hb H2 e2 _ => ?_) (fun hb H2 e2 _ => nextI ?_)
  · have es : s.ring i = s := by unfold BSt.ring; rw [if_pos hb]
    simp only [es, hb] at k
    exact s_ret e2 ev_c fun H3 e3 => k H3 S e3.mv (BrdO.ex' ⟨⟨dx, r, as, qs, pl, tl, B⟩, bc⟩ e3) fun x hx => .inl hx
  · dsimp only
    have A2 := (B.ex' e2).A
    refine q_setB (bs := s.asking) (b := true) (i := i) (Mv.of T H2) A2.ha ev_c (by walk_at "ev") (by walk_at "ev") hi.1 ia fun H3 e3 _ => ?_
    have B4 := ((B.ex' e2).ex' e3).putA (s.asking.set i.toNat true)
    have M4 := ((e2.trans e3).mv (S := S)).set (o := .lst ((s.asking.set i.toNat true).map V.bl)) (.inl (B.own _ (.inr (.inr (.inl rfl))))) ((B.ex' e2).ex' e3).A.ha
    generalize (upd H3 as (.lst ((s.asking.set i.toNat true).map V.bl))) = H4 at B4 M4
    have A4 := B4.A
    have lq4 : SqL K H4 qs (s.quiet.map V.bl) := A4.lq
    simp only [hb, Bool.not_false] at k
    refine q_tell (b := !fl s.quiet i) (s := s.ask i true) (s2 := s.ring i) M4 ⟨⟨dx, r, as, qs, pl, tl, B4⟩, bc⟩ (et_not (et_B (ev_op (by walk_at "ev") (by walk_at "ev") (rv_ixB lq4 hi.1 iq)))) (fun _ _ _ _ _ _ t => lk_none t rfl fun _ => rfl) (fun hq H5 e5 Q' q' => ?_) (fun hq => ?_) k
    · have hq : fl s.quiet i = false := by simpa using hq
      have es : s.ring i = (s.ask i true).enters i := by unfold BSt.ring; rw [if_neg (by rw [hb]; simp), if_neg (by rw [hq]; simp)]
      rw [es] at q'
      exact ⟨a, i, s.ask i true, S, rfl, BrdO.ex' ⟨⟨dx, r, as, qs, pl, tl, B4⟩, bc⟩ e5, (M4.trans e5.mv).tb tb, w.pin hi (by rw [hb]; rfl), q'⟩
    · have hq : fl s.quiet i = true := by simpa using hq
      unfold BSt.ring
      rw [if_neg (by rw [hb]; simp), if_pos hq]
theorem p_B_calm (h : sp_B_calm K T c vs H Q E) : r_Board_calm K T c E { nx := fun _ H' => Q .non H', rt := Q } (start ["self", "line"] vs) H := by
  refine p_flag BSt.calm (fun s i => fl s.asking i) h rfl fun a i s S H1 dx r as qs pl tl _ _ B bc w tb hi k => ?_
  have A := B.A
  have la := A.la
  have lq := A.lq
  have ia : i < s.asking.length := by rw [w.la]; exact hi.2
  have iq : i < s.quiet.length := by rw [w.lq]; exact hi.2
  refine q_if (Mv.of T H1) (et_not (et_B (ev_op (by walk_at "ev") (by walk_at "ev") (rv_ixB la hi.1 ia)))) (fun hb H2 e2 _ => ?_) (fun hb H2 e2 _ => nextI ?_)
  · have hb : fl s.asking i = false := by simpa using hb
    have es : s.calm i = s := by unfold BSt.calm; rw [if_neg (by rw [hb]; simp)]
    simp only [es, hb] at k
    exact s_ret e2 ev_c fun H3 e3 => k H3 S e3.mv (BrdO.ex' ⟨⟨dx, r, as, qs, pl, tl, B⟩, bc⟩ e3) fun x hx => .inl hx
  · dsimp only
    have hb : fl s.asking i = true := by simpa using hb
    have A2 := (B.ex' e2).A
    refine q_setB (bs := s.asking) (b := false) (i := i) (Mv.of T H2) A2.ha ev_c (by walk_at "ev") (by walk_at "ev") hi.1 ia fun H3 e3 _ => ?_
    have B4 := ((B.ex' e2).ex' e3).putA (s.asking.set i.toNat false)
    have M4 := ((e2.trans e3).mv (S := S)).set (o := .lst ((s.asking.set i.toNat false).map V.bl)) (.inl (B.own _ (.inr (.inr (.inl rfl))))) ((B.ex' e2).ex' e3).A.ha
    generalize (upd H3 as (.lst ((s.asking.set i.toNat false).map V.bl))) = H4 at B4 M4
    have A4 := B4.A
    have l4 : SqL K H4 qs (s.quiet.map V.bl) := A4.lq
    simp only [hb] at k
    refine q_tell (b := !fl s.quiet i) (s := s.ask i false) (s2 := s.calm i) M4 ⟨⟨dx, r, as, qs, pl, tl, B4⟩, bc⟩ (et_not (et_B (ev_op (by walk_at "ev") (by walk_at "ev") (rv_ixB l4 hi.1 iq)))) (fun _ _ _ _ _ _ t => lk_none t rfl fun _ => rfl) (fun hq H5 e5 Q' q' => ?_) (fun hq => ?_) k
    · have hq : fl s.quiet i = false := by simpa using hq
      have es : s.calm i = (s.ask i false).leaves i := by unfold BSt.calm; rw [if_pos hb, if_neg (by rw [hq]; simp)]
      rw [es] at q'
      exact ⟨a, i, s.ask i false, S, rfl, BrdO.ex' ⟨⟨dx, r, as, qs, pl, tl, B4⟩, bc⟩ e5, (M4.trans e5.mv).tb tb, w.pout hi (by rw [hb, hq]; rfl), q'⟩
    · have hq : fl s.quiet i = true := by simpa using hq
      unfold BSt.calm
      rw [if_pos hb, if_pos hq]
theorem p_B_mute (h : sp_B_mute K T c vs H Q E) : r_Board_mute K T c E { nx := fun _ H' => Q .non H', rt := Q } (start ["self", "line"] vs) H := by
  refine p_flag BSt.mute (fun s i => !fl s.quiet i) h rfl fun a i s S H1 dx r as qs pl tl _ _ B bc w tb hi k => ?_
  have A := B.A
  have la := A.la
  have lq := A.lq
  have ia : i < s.asking.length := by rw [w.la]; exact hi.2
  have iq : i < s.quiet.length := by rw [w.lq]; exact hi.2
  refine q_if (Mv.of T H1) (et_B (ev_op (by walk_at "ev") (by walk_at "ev") (rv_ixB lq hi.1 iq))) (fun hb H2 e2 _ => ?_) (fun hb H2 e2 _ => nextI ?_)
  · have es : s.mute i = s := by unfold BSt.mute; rw [if_pos hb]
    simp only [es, hb] at k
    exact s_ret e2 ev_c fun H3 e3 => k H3 S e3.mv (BrdO.ex' ⟨⟨dx, r, as, qs, pl, tl, B⟩, bc⟩ e3) fun x hx => .inl hx
  · dsimp only
    have A2 := (B.ex' e2).A
    refine q_setB (bs := s.quiet) (b := true) (i := i) (Mv.of T H2) A2.hq ev_c (by walk_at "ev") (by walk_at "ev") hi.1 iq fun H3 e3 _ => ?_
    have B4 := ((B.ex' e2).ex' e3).putQ (s.quiet.set i.toNat true)
    have M4 := ((e2.trans e3).mv (S := S)).set (o := .lst ((s.quiet.set i.toNat true).map V.bl)) (.inl (B.own _ (.inr (.inr (.inr (.inl rfl)))))) ((B.ex' e2).ex' e3).A.hq
    generalize (upd H3 qs (.lst ((s.quiet.set i.toNat true).map V.bl))) = H4 at B4 M4
    have A4 := B4.A
    have l4 : SqL K H4 as (s.asking.map V.bl) := A4.la
    simp only [hb, Bool.not_false] at k
    refine q_tell (b := fl s.asking i) (s := s.hush i true) (s2 := s.mute i) M4 ⟨⟨dx, r, as, qs, pl, tl, B4⟩, bc⟩ (et_B (ev_op (by walk_at "ev") (by walk_at "ev") (rv_ixB l4 hi.1 ia))) (fun _ _ _ _ _ _ t => lk_none t rfl fun _ => rfl) (fun hq H5 e5 Q' q' => ?_) (fun hq => ?_) k
    · have hq : fl s.asking i = true := by simpa using hq
      have es : s.mute i = (s.hush i true).leaves i := by unfold BSt.mute; rw [if_neg (by rw [hb]; simp), if_pos hq]
      rw [es] at q'
      exact ⟨a, i, s.hush i true, S, rfl, BrdO.ex' ⟨⟨dx, r, as, qs, pl, tl, B4⟩, bc⟩ e5, (M4.trans e5.mv).tb tb, w.pout hi (by rw [hb, hq]; rfl), q'⟩
    · have hq : fl s.asking i = false := by simpa using hq
      unfold BSt.mute
      rw [if_neg (by rw [hb]; simp), if_neg (by rw [hq]; simp)]
theorem p_B_free (h : sp_B_free K T c vs H Q E) : r_Board_free K T c E { nx := fun _ H' => Q .non H', rt := Q } (start ["self", "line"] vs) H := by
  refine p_flag BSt.free (fun s i => fl s.quiet i) h rfl fun a i s S H1 dx r as qs pl tl _ _ B bc w tb hi k => ?_
  have A := B.A
  have la := A.la
  have lq := A.lq
  have ia : i < s.asking.length := by rw [w.la]; exact hi.2
  have iq : i < s.quiet.length := by rw [w.lq]; exact hi.2
  refine q_if (Mv.of T H1) (et_not (et_B (ev_op (by walk_at "ev") (by walk_at "ev") (rv_ixB lq hi.1 iq)))) (fun hb H2 e2 _ => ?_) (fun hb H2 e2 _ => nextI ?_)
  · have hb : fl s.quiet i = false := by simpa using hb
    have es : s.free i = s := by unfold BSt.free; rw [if_neg (by rw [hb]; simp)]
    simp only [es, hb] at k
    exact s_ret e2 ev_c fun H3 e3 => k H3 S e3.mv (BrdO.ex' ⟨⟨dx, r, as, qs, pl, tl, B⟩, bc⟩ e3) fun x hx => .inl hx
  · dsimp only
    have hb : fl s.quiet i = true := by simpa using hb
    have A2 := (B.ex' e2).A
    refine q_setB (bs := s.quiet) (b := false) (i := i) (Mv.of T H2) A2.hq ev_c (by walk_at "ev") (by walk_at "ev") hi.1 iq fun H3 e3 _ => ?_
    have B4 := ((B.ex' e2).ex' e3).putQ (s.quiet.set i.toNat false)
    have M4 := ((e2.trans e3).mv (S := S)).set (o := .lst ((s.quiet.set i.toNat false).map V.bl)) (.inl (B.own _ (.inr (.inr (.inr (.inl rfl)))))) ((B.ex' e2).ex' e3).A.hq
    generalize (upd H3 qs (.lst ((s.quiet.set i.toNat false).map V.bl))) = H4 at B4 M4
    have A4 := B4.A
    have l4 : SqL K H4 as (s.asking.map V.bl) := A4.la
    simp only [hb] at k
    refine q_tell (b := fl s.asking i) (s := s.hush i false) (s2 := s.free i) M4 ⟨⟨dx, r, as, qs, pl, tl, B4⟩, bc⟩ (et_B (ev_op (by walk_at "ev") (by walk_at "ev") (rv_ixB l4 hi.1 ia))) (fun _ _ _ _ _ _ t => lk_none t rfl fun _ => rfl) (fun hq H5 e5 Q' q' => ?_) (fun hq => ?_) k
    · have hq : fl s.asking i = true := by simpa using hq
      have es : s.free i = (s.hush i false).enters i := by unfold BSt.free; rw [if_pos hb, if_pos hq]
      rw [es] at q'
      exact ⟨a, i, s.hush i false, S, rfl, BrdO.ex' ⟨⟨dx, r, as, qs, pl, tl, B4⟩, bc⟩ e5, (M4.trans e5.mv).tb tb, w.pin hi (by rw [hb, hq]; rfl), q'⟩
    · have hq : fl s.asking i = false := by simpa using hq
      unfold BSt.free
      rw [if_pos hb, if_neg (by rw [hq]; simp)]
end
end Fp

local macro_rules | `(tactic| walk_at "ev") => `(tactic| with_reducible first | (apply Fp.eb_ranks; (· assumption); (· assumption); (· walk_at "ev")) | (apply Fp.eb_asking; (· assumption); (· assumption); (· walk_at "ev")) | (apply Fp.eb_quiet; (· assumption); (· assumption); (· walk_at "ev")) | (apply Fp.eb_pile; (· assumption); (· assumption); (· walk_at "ev")) | (apply Fp.eb_edge; (· assumption); (· assumption); (· walk_at "ev")))
namespace Fp
open PySem PySem.Spec PyProof.Rows L2 LamX
section
variable {K : PySem.W.Frag} {T : List (Addr × Str)} {c : Str} {H H0 : Hp} {Q : VK} {E : XK} {vs : List V}
theorem p_B_bar (h : sp_B_bar K T c vs H Q E) : r_Board_bar K T c E { nx := fun _ H' => Q .non H', rt := Q } (start ["self", "rank", "old"] vs) H := by
  obtain ⟨a, y, s, S, rfl, ⟨⟨dx, r, as, qs, pl, tl, B⟩, bc⟩, hy, h⟩ := h
  unfold r_Board_bar
  refine q_if (b := !isBr y) (Mv.of T H) (et_not (et_B (ev_call0 (by walk_at "ea") (v_is_bar hy)))) (fun hb H1 e _ => ?_) (fun hb H1 e _ => nextI ?_)
  · rcases h with ⟨_, z⟩ | ⟨_, _, z, _⟩
    · exact z H1 e
    · rw [z] at hb; cases hb
  · rcases h with ⟨z, _⟩ | ⟨e', rfl, z, k⟩
    · rw [z] at hb; cases hb
    · dsimp only
      have A := B.A
      refine q_asg (v := oI s.edge) e (by walk_at "ev") rfl fun H2 e2 _ => ?_
      refine q_fld (v := oI e') (fun w => brdF (.ref r) (.ref as) (.ref qs) (.ref pl) w tl) e2 (by walk_at "ev") (by walk_at "ev") (e2.at A.at_) bc.cls bc.no (by rcases A.tk with rfl | ⟨g, rfl⟩ <;> simp) (fun _ => rfl) fun H3 e3 _ => ?_
      have B3 := (B.ex' e3).setE e'
      have M3 := (e3.mv (S := S)).set (o := .ins (He.ga K c) dx (brdF (.ref r) (.ref as) (.ref qs) (.ref pl) (oI e') tl)) (.inl (B.own _ (.inl rfl))) (B.ex' e3).A.at_
      exact s_ret (v := oI s.edge) (Mv.of T _) (by walk_at "ev") fun H4 e4 => k H4 S (M3.trans e4.mv) (BrdO.ex' ⟨⟨dx, r, as, qs, pl, tl, B3⟩, bc⟩ e4) fun x hx => .inl hx
theorem p_Wide_is_ready (h : sp_Wide_is_ready K T vs H Q E) : r_Wide_is_ready K T { nx := fun _ H' => Q .non H', rt := Q } (start ["self", "line"] vs) H := by
  obtain ⟨a, i, s, S, rfl, O, w, hi, k⟩ := h
  obtain ⟨⟨dx, r, as, qs, pl, tl, B⟩, bc⟩ := id O
  unfold r_Wide_is_ready
  have A := B.A
  have la := A.la
  have lq := A.lq
  have ia : i < s.asking.length := by rw [w.la]; exact hi.2
  have iq : i < s.quiet.length := by rw [w.lq]; exact hi.2
  exact s_ret (Mv.of T H) (ev_is (ev_and (ev_op (by walk_at "ev") (by walk_at "ev") (rv_ixB la hi.1 ia)) fun _ => ev_and (ev_not (ev_op (by walk_at "ev") (by walk_at "ev") (rv_ixB lq hi.1 iq))) fun _ => ev_meth (by walk_at "ev") A.at_ (lk_none A.tk rfl fun _ => rfl) (by walk_at "ea") rfl (v_B_is_open O w.pl hi)) rfl) k
/-- a test may be asked of a value that is found by a def -/
theorem et_is' {tt : TT} {σ : L2.St} {a b : Bool} (h : EvT T tt σ H a) (e : a = b) : EvT T tt σ H b := e ▸ h
theorem p_Wide_best (h : sp_B_best K T "Wide" vs H Q E) : r_Wide_best K T { nx := fun _ H' => Q .non H', rt := Q } (start ["self", "line"] vs) H := by
  obtain ⟨a, s, S, rfl, O, w, k⟩ := h
  obtain ⟨⟨dx, r, as, qs, pl, tl, B⟩, bc⟩ := id O
  unfold r_Wide_best
  have A := B.A
  have lr := A.lr
  have hp : s.pegs = none := by
    have := B.tl
    cases hs : s.pegs with
    | none => rfl
    | some p => rw [hs] at this; exact absurd this.1 (by decide)
  have eb : s.best = fstOf s.ranks (linesW s.ranks.length s.ready) := by unfold BSt.best; rw [hp]
  rw [eb] at k
  have el := el_lcR (T := T) (σ := [some (.ref a), none]) (H := H) (n := s.ranks.length) (f := fun z => V.int (z : Int)) (b := fun z => s.ready (z : Int)) (ta := tCons (tCB (rLen K) (tCons (tFld K (tVar 0) "ranks") tNil)) tNil) (t := tB (tMeth (He.ga K "Wide") "is_ready" (sp_Wide_is_ready K T) [] E0 (tVar 0) (tCons (tVar 1) tNil))) (te := tVar 1) (vs := [1]) (j := 1)
    (ea_cons (ev_cb (by walk_at "ea") (rc_lenI lr)) ea_nil) (by have := w.n60; omega) (fun x => rfl) (fun z hz => et_B (ev_meth (by walk_at "ev") A.at_ (lk_none A.tk rfl fun _ => rfl) (by walk_at "ea") rfl (v_ready (i := (z : Int)) O w ⟨by omega, by omega⟩))) (fun z hz _ => by walk_at "ev")
  rw [show ((List.range s.ranks.length).filter fun z : Nat => s.ready (z : Int)).map (fun z : Nat => V.int (z : Int)) = (linesW s.ranks.length s.ready).map V.int by unfold linesW; rw [List.map_map]; rfl] at el
  refine s_retR (Mv.of T H) (er_callVL (R := fun _ v _ => v = oI (fstOf s.ranks (linesW s.ranks.length s.ready))) (by walk_at "ev") el (fun q H1 hq e => SpR.ofV (v_first_of ⟨.inl (.inl hq), e.l lr, fun i hi => (mem_linesW.mp hi).1⟩)) (fun _ _ _ _ _ _ _ h => h)) fun v H1 e _ hv => ?_
  subst hv
  exact k H1 e
theorem er_tup4 {σ : L2.St} {t1 t2 t3 t4 : TE} {v1 v2 v4 : V} {xs : List V} (h1 : Ev T t1 σ H v1) (h2 : Ev T t2 σ H v2) (h3 : EvL T t3 σ H xs) (h4 : Ev T t4 σ H v4) : EvR T (tTup (tCons t1 (tCons t2 (tCons t3 (tCons t4 tNil))))) σ H (fun H1 v H2 => ∃ t z, v = .ref t ∧ nod H1 t ∧ nod H1 z ∧ H2 t = some (.tup [v1, v2, .ref z, v4]) ∧ H2 z = some (.lst xs)) := fun H1 e Q q =>
  h1 H1 e _ fun H2 e2 => h2 H2 (e.trans e2) _ fun H3 e3 => h3 H3 ((e.trans e2).trans e3) _ fun w H4 e4 ⟨z, ez, nz, hz⟩ => by
    subst ez
    exact h4 H4 (((e.trans e2).trans e3).trans e4) _ fun H5 e5 => ⟨sz (by simp), fun t ht => q _ _ ((((e2.trans e3).trans e4).trans e5).trans (Mv.new ht)) ⟨t, z, rfl, (((e2.trans e3).trans e4).trans e5).nod ht, (e2.trans e3).dm _ nz, upd_same, (Mv.new (T := T) (S := no) ht).at (e5.at hz)⟩⟩
theorem p_B_told (h : sp_B_told K T c vs H Q E) : r_Board_told K T c { nx := fun _ H' => Q .non H', rt := Q } (start ["self", "asking", "quiet", "line"] vs) H := by
  obtain ⟨a, s, S, rfl, ⟨⟨dx, r, as, qs, pl, tl, B⟩, bc⟩, w, k⟩ := h
  unfold r_Board_told
  have A := B.A
  have lr := A.lr
  have la := A.la
  have lq := A.lq
  have hn := w.n60
  have e1 := el_lcR (T := T) (σ := [some (.ref a), none, none, none]) (H := H) (n := s.ranks.length) (f := fun z => V.int (z : Int)) (b := fun z => fl s.asking (z : Int)) (ta := tCons (tCB (rLen K) (tCons (tFld K (tVar 0) "ranks") tNil)) tNil) (t := tB (tOp (rIxL K) (tFld K (tVar 0) "asking") (tVar 3))) (te := tVar 3) (vs := [3]) (j := 3)
    (ea_cons (ev_cb (by walk_at "ea") (rc_lenI lr)) ea_nil) (by omega) (fun x => rfl) (fun z hz => et_B (ev_op (by walk_at "ev") (by walk_at "ev") (rv_ixB (i := (z : Int)) la (by omega) (by rw [w.la]; omega)))) (fun z hz _ => by walk_at "ev")
  rw [show ((List.range s.ranks.length).filter fun z : Nat => fl s.asking (z : Int)).map (fun z : Nat => V.int (z : Int)) = (linesW s.ranks.length (fl s.asking)).map V.int by unfold linesW; rw [List.map_map]; rfl] at e1
  refine q_asgR (Mv.of T H) e1 fun v H1 σ2 hs x1 _ hv => ?_
  obtain ⟨x, rfl, nx, hx⟩ := hv
  subst hs
  have A1 := (B.ex' x1).A
  have lr1 := A1.lr
  have lq1 := A1.lq
  have e2 := el_lcR (T := T) (σ := [some (.ref a), some (.ref x), none, none]) (H := H1) (n := s.ranks.length) (f := fun z => V.int (z : Int)) (b := fun z => fl s.quiet (z : Int)) (ta := tCons (tCB (rLen K) (tCons (tFld K (tVar 0) "ranks") tNil)) tNil) (t := tB (tOp (rIxL K) (tFld K (tVar 0) "quiet") (tVar 3))) (te := tVar 3) (vs := [3]) (j := 3)
    (ea_cons (ev_cb (by walk_at "ea") (rc_lenI lr1)) ea_nil) (by omega) (fun x => rfl) (fun z hz => et_B (ev_op (by walk_at "ev") (by walk_at "ev") (rv_ixB (i := (z : Int)) lq1 (by omega) (by rw [w.lq]; omega)))) (fun z hz _ => by walk_at "ev")
  rw [show ((List.range s.ranks.length).filter fun z : Nat => fl s.quiet (z : Int)).map (fun z : Nat => V.int (z : Int)) = (linesW s.ranks.length (fl s.quiet)).map V.int by unfold linesW; rw [List.map_map]; rfl] at e2
  refine q_asgR (Mv.of T H1) e2 fun v H2 σ2 hs x2 _ hv => ?_
  obtain ⟨y, rfl, ny, hy⟩ := hv
  subst hs
  have A2 := ((B.ex' x1).ex' x2).A
  have lp2 := A2.lp
  have el := el_list (T := T) (σ := [some (.ref a), some (.ref x), some (.ref y), none]) (ta := tFld K (tVar 0) "pile") (by walk_at "ev") (.inl lp2)
  refine s_retR (Mv.of T H2) (er_tup4 (v1 := .ref x) (v2 := .ref y) (v4 := oI s.edge) (by walk_at "ev") (by walk_at "ev") el (ev_is (eb_edge A2 bc (by walk_at "ev")) rfl)) fun v H3 x3 _ hv => ?_
  obtain ⟨t, z, rfl, nt, nz, ht, hz⟩ := hv
  have x12 := x1.trans x2
  exact k _ H3 (x12.trans x3) ⟨t, x, y, z, rfl, x12.dm _ nt, nx, x1.dm _ ny, x12.dm _ nz, ht, (x2.trans x3).at hx, x3.at hy, hz, ny.ne hx, nz.ne (x2.at hx), nz.ne hy⟩
theorem BWf.best_in {s : BSt} (w : BWf s) {i : Int} (h : s.best = some i) : inR s.ranks i ∧ fl s.asking i = true ∧ fl s.quiet i = false ∧ s.open_ i = true := by
  unfold BSt.best at h
  cases hp : s.pegs with
  | none =>
    rw [hp] at h
    have m := mem_linesW.mp (fstOf_least h).1
    unfold BSt.ready at m
    have q := m.2
    simp only [Bool.and_eq_true, Bool.not_eq_true'] at q
    exact ⟨m.1, q.1, q.2.1, q.2.2⟩
  | some p =>
    rw [hp] at h
    dsimp only at h
    cases hh : p.hung.head? with
    | none => rw [hh] at h; cases h
    | some j =>
      rw [hh] at h
      dsimp only at h
      split at h
      · rename_i ho
        cases h
        obtain ⟨_, e, pm⟩ := w.pg p hp
        have m := mem_linesW.mp (pm.mem_iff.mp (List.mem_append_left _ (List.mem_of_head? hh)))
        have q := m.2
        simp only [Bool.and_eq_true, Bool.not_eq_true'] at q
        exact ⟨m.1, q.1, q.2, ho⟩
      · cases h
theorem p_B_take (h : sp_B_take K T c vs H Q E) : r_Board_take K T c { nx := fun _ H' => Q .non H', rt := Q } (start ["self", "line"] vs) H := by
  obtain ⟨a, s, S, rfl, O, w, tb, k⟩ := h
  obtain ⟨⟨dx, r, as, qs, pl, tl, B⟩, bc⟩ := id O
  unfold r_Board_take
  refine q_asg (v := oI s.best) (Mv.of T H) (ev_meth (by walk_at "ev") B.A.at_ (lk_none B.A.tk rfl fun _ => rfl) ea_nil rfl (v_B_best O w)) rfl fun H1 e1 _ => ?_
  refine q_cut (fun σ' H' => σ' = [some (.ref a), some (oI s.best)] ∧ ∃ S', Mv T S H H' ∧ BrdO K c H' a s.take S' ∧ ∀ x, S' x → S x ∨ nod H x) ?_ ?_
  · cases hb : s.best with
    | none =>
      have et : s.take = s := by unfold BSt.take; rw [hb]
      rw [et]
      exact s_if (b := false) (Mv.of T H1) (et_is (et_test (ev_op (ev_is (by walk_at "ev") (by rfl)) ev_c rv_notN)) (by simp [oI])) (fun z => nomatch z) (fun _ H2 e2 _ => nextI ⟨rfl, S, (e1.trans e2).mv, O.ex' (e1.trans e2), fun x hx => .inl hx⟩)
    | some i =>
      obtain ⟨hi, ha, hq, ho⟩ := w.best_in hb
      have ia : i < s.asking.length := by rw [w.la]; exact hi.2
      have et : s.take = { (s.ask i false).leaves i with pile := ((s.ask i false).leaves i).pile ++ [i] } := by unfold BSt.take; rw [hb]
      refine s_if (b := true) (Mv.of T H1) (et_is (et_test (ev_op (ev_is (by walk_at "ev") (by rfl)) ev_c rv_notN)) (by simp [oI])) (fun _ H2 e2 _ => ?_) (fun z => nomatch z)
      have B2 := (B.ex' e1).ex' e2
      have A2 := B2.A
      refine q_setB (bs := s.asking) (b := false) (i := i) (Mv.of T H2) A2.ha ev_c (by walk_at "ev") (ev_var rfl) hi.1 ia fun H3 e3 _ => ?_
      have B4 := (B2.ex' e3).putA (s.asking.set i.toNat false)
      have M4 := (((e1.trans e2).trans e3).mv (S := S)).set (o := .lst ((s.asking.set i.toNat false).map V.bl)) (.inl (B.own _ (.inr (.inr (.inl rfl))))) (B2.ex' e3).A.ha
      generalize (upd H3 as (.lst ((s.asking.set i.toNat false).map V.bl))) = H4 at B4 M4
      refine q_meth (sp := sp_B_leaves K T c) (ws := [.ref a, .int i]) (Mv.of T H4) (by walk_at "ev") B4.A.at_ (lk_none B4.A.tk rfl fun _ => rfl) (ea_cons (x := .int i) (ev_var rfl) ea_nil) rfl fun H5 e5 _ => ⟨a, i, s.ask i false, S, rfl, BrdO.ex' ⟨⟨dx, r, as, qs, pl, tl, B4⟩, bc⟩ e5, (M4.trans e5.mv).tb tb, w.pout hi (by rw [ha, hq]; rfl), fun H6 S6 m6 O6 n6 => ?_⟩
      obtain ⟨⟨dx', r', as', qs', pl', tl', B6⟩, _⟩ := id O6
      have A6 := B6.A
      have hz : (s.pile.map V.int).length < 100000 := by
        have : s.pile.Nodup := w.pn.imp fun {x y} h e => by subst e; omega
        have l := Lns.len (n := s.ranks.length) (ls := s.pile) ⟨this, w.pl⟩
        have := w.n60
        rw [List.length_map]
        omega
      refine s_app (v := .int i) (xs := s.pile.map V.int) (l := pl') (Mv.of T H6) A6.hp (eb_pile A6 bc (by walk_at "ev")) (ev_var rfl) hz fun H7 e7 _ => ?_
      have B8 := (B6.ex' e7).putP (s.pile ++ [i])
      rw [et]
      refine ⟨rfl, S6, ?_, ⟨⟨dx', r', as', qs', pl', tl', ?_⟩, bc⟩, fun x hx => (n6 x hx).imp id fun z => M4.dm x (e5.dm x z)⟩
      · refine (M4.trans e5.mv).trans ?_
        exact (m6.trans e7.mv).seq (T := T) (S2 := fun b => b = pl') (Mv.set1 (B6.ex' e7).A.hp) fun x hx => hx ▸ n6 _ (B6.own _ (.inr (.inr (.inr (.inr rfl)))))
      · rw [List.map_append] at B8
        exact B8
  · rintro σ' H2 ⟨rfl, S', m2, O2, n2⟩
    exact s_ret (v := oI s.best) (Mv.of T H2) (by walk_at "ev") fun H3 e3 => k H3 S' (m2.trans e3.mv) (O2.ex' e3) n2
theorem p_B_end (h : sp_B_end K T c vs H Q E) : r_Board_end K T c E { nx := fun _ H' => Q .non H', rt := Q } (start ["self", "line"] vs) H := by
  obtain ⟨a, y, s, S, rfl, O, hy, nt, h⟩ := h
  obtain ⟨⟨dx, r, as, qs, pl, tl, B⟩, bc⟩ := id O
  unfold r_Board_end
  refine q_meth (sp := sp_B_look_at K T c) (ws := [.ref a, y]) (Mv.of T H) (by walk_at "ev") B.A.at_ (lk_none B.A.tk rfl fun _ => rfl) (by walk_at "ea") rfl fun H1 e1 _ => ⟨a, y, s, S, rfl, O.ex' e1, by rw [kd_exn e1 hy]; exact hy, ?_⟩
  rcases h with ⟨h1, h2⟩ | ⟨i, rfl, hi, k⟩
  · exact .inl ⟨h1, fun H' e => h2 H' (e1.trans e)⟩
  refine .inr ⟨by simp [isLn, hi.1, hi.2], fun H2 e2 => ?_⟩
  have e02 := e1.trans e2
  have O2 := O.ex' e02
  have A2 := (B.ex' e02).A
  have lp2 := A2.lp
  refine q_if (b := !decide (s.up = some i)) (Mv.of T H2) ?_ (fun hb H3 e3 _ => ?_) (fun hb H3 e3 _ => nextI ?_)
  · refine et_is (et_or (a := decide (s.pile = [])) (b := !decide (s.up = some i)) (et_test (ev_opVL (by walk_at "ev") (el_lst ea_nil (by decide)) fun q H1 hq e => rv_eqDI (dp_n (e.at A2.hp)) (dp_n (ns := []) hq))) (fun hn => ?_)) ?_
    · have hn := of_decide_eq_false hn
      obtain ⟨j, hj, _⟩ := last_of hn
      refine et_is (et_test (ev_op (by walk_at "ev") (ev_op (by walk_at "ev") (ev_neg ev_c) (rv_ixL lp2 (ix_neg (by rw [List.getLast?_map, hj]; rfl)))) rv_neI)) ?_
      unfold BSt.up
      rw [hj]
      by_cases z : i = j
      · subst z; simp
      · rw [decide_eq_false z, decide_eq_false (fun w => z (Option.some.inj w).symm)]
    · unfold BSt.up
      cases hs : s.pile with
      | nil => simp
      | cons x xs => simp
  · rcases k with ⟨k1, k2⟩ | ⟨k1, _⟩
    · have A3 := A2.mv (T := T) (S := no) e3 (fun _ _ z => z)
      refine s_notTop (x := .int i) (y := oI s.up) (Mv.of T H3) (ea_cons (by walk_at "ev") (ea_cons (ev_meth (by walk_at "ev") A3.at_ (lk_none A3.tk rfl fun _ => rfl) ea_nil rfl (v_B_upmost (O2.ex' e3))) ea_nil)) nt.ox nt.no fun H4 d e4 hd => k2 H4 d ((e02.trans e3).trans e4) hd
    · rw [k1] at hb; simp at hb
  · rcases k with ⟨k1, _⟩ | ⟨k1, k⟩
    · simp [k1] at hb
    · dsimp only
      have B3 := (B.ex' e02).ex' e3
      have A3 := B3.A
      have ne : s.pile ≠ [] := fun z => by unfold BSt.up at k1; rw [z] at k1; cases k1
      have hl : (s.pile.map V.int).getLast? = some (.int i) := by
        unfold BSt.up at k1
        rw [List.getLast?_map, k1]
        rfl
      refine q_pop (l := pl) (xs := s.pile.map V.int) (y := .int i) (Mv.of T H3) A3.hp (by walk_at "ev") hl fun H4 e4 _ => ?_
      have B5 := (B3.ex' e4).putP s.pile.dropLast
      rw [List.map_dropLast] at B5
      have M5 := ((((e02.trans e3).trans e4).mv (S := S))).set (o := .lst (s.pile.map V.int).dropLast) (.inl (B.own _ (.inr (.inr (.inr (.inr rfl)))))) (B3.ex' e4).A.hp
      have O5 : BrdO K c _ a s.pop S := ⟨⟨dx, r, as, qs, pl, tl, B5⟩, bc⟩
      exact s_ret (v := oI s.pop.up) (Mv.of T _) (ev_meth (by walk_at "ev") B5.A.at_ (lk_none B5.A.tk rfl fun _ => rfl) ea_nil rfl (v_B_upmost O5)) fun H6 e6 => k H6 S (M5.trans e6.mv) (O5.ex' e6) fun x hx => .inl hx
end
end Fp

namespace Fp
open PySem PySem.Spec PyProof.Rows L2 LamX
/-! ### making a board -/
def BSt.mk0 (rs as qs ps : List Int) (e : Option Int) : BSt := ⟨rs, marks rs.length as, marks rs.length qs, ps, e, none⟩
/-- a picture's tuple -/
def PicT (K : PySem.W.Frag) (H : Hp) (rs : List Int) (z : V) (as qs ps : List Int) (e : Option Int) : Prop := ∃ t x0 x1 x2, z = .ref t ∧ kd H z = "tuple" ∧ SqT K H t [x0, x1, x2, oI e] ∧ LsO K H rs.length x0 as ∧ LsO K H rs.length x1 qs ∧ LsO K H rs.length x2 ps ∧ adjB upF as = true ∧ adjB upF qs = true ∧ adjB (dnF rs) ps = true ∧ isBr (oI e) = true
def PicO (K : PySem.W.Frag) (H : Hp) (rs : List Int) (z : V) (as qs ps : List Int) (e : Option Int) : Prop := (z = .non ∧ as = [] ∧ qs = [] ∧ ps = [] ∧ e = none) ∨ PicT K H rs z as qs ps e
def sp_B_init (K : PySem.W.Frag) (T : List (Addr × Str)) (c : Str) : Sp := fun vs H Q E => ∃ x y z, vs = [.ref x, y, z] ∧ ((BrdV K H y false ∧ ∀ H', Ex T H H' → E (.ref (He.ga K "NoBoard")) none H') ∨ ∃ r rs, y = .ref r ∧ kd H y = "list" ∧ SqL K H r (List.map V.int rs) ∧ 1 ≤ List.length rs ∧ List.length rs ≤ 60 ∧ Rks rs ∧
  ((z ≠ .non ∧ PicV K H rs z false ∧ ∀ H', Ex T H H' → E (.ref (He.ga K "NoPicture")) none H') ∨ ∃ as qs ps e dx, PicO K H rs z as qs ps e ∧ H x = some (.ins (He.ga K c) dx []) ∧ BdC K c ∧
    ∀ H' r' a' q' p', Mv T (fun b => b = x) H H' → BrdA K c H' x dx r' a' q' p' [] (.mk0 rs as qs ps e) → (∀ b, OwnP x r' a' q' p' b → b = x ∨ nod H b) → Q .non H'))
theorem len_B_init {K : PySem.W.Frag} {T : List (Addr × Str)} {c : Str} : ∀ vs H Q E, sp_B_init K T c vs H Q E → vs.length = 3 := fun vs H Q E h => by obtain ⟨_, _, _, rfl, _⟩ := h; rfl
def r_Board_init (K : PySem.W.Frag) (T : List (Addr × Str)) (c : Str) (E : XK) : TS :=
  (tSeq (tIfS (tNot (tB (tCall (sp_is_board K T) [] E0 (tCons (tVar 1) tNil)))) (tRaise E (.ref (He.ga K "NoBoard"))) tNext)
  (Evl.tCut (tIfS (tTest (tOp oIsN (tVar 2) (tC .non))) (tAsg (tTup (tCons (tLst tNil) (tCons (tLst tNil) (tCons (tLst tNil) (tCons (tC .non) tNil))))) (gName 2)) tNext)
  (tSeq (tIfS (tNot (tB (tCall (sp_is_picture K T) [] E0 (tCons (tVar 1) (tCons (tVar 2) tNil))))) (tRaise E (.ref (He.ga K "NoPicture"))) tNext)
  (tSeq (sFld K (tVar 0) (tCB (rLst K) (tCons (tVar 1) tNil)) "ranks")
  (tSeq (sFld K (tVar 0) (tCall (sp_marked K T) [] E0 (tCons (tCB (rLen K) (tCons (tVar 1) tNil)) (tCons (tOp (rIxT K) (tVar 2) (tC (.int 0))) tNil))) "asking")
  (tSeq (sFld K (tVar 0) (tCall (sp_marked K T) [] E0 (tCons (tCB (rLen K) (tCons (tVar 1) tNil)) (tCons (tOp (rIxT K) (tVar 2) (tC (.int 1))) tNil))) "quiet")
  (tSeq (sFld K (tVar 0) (tCB (rLst K) (tCons (tOp (rIxT K) (tVar 2) (tC (.int 2))) tNil)) "pile")
  (sFld K (tVar 0) (tOp (rIxT K) (tVar 2) (tC (.int 3))) "edge"))))))))
section
variable {K : PySem.W.Frag} {T : List (Addr × Str)} {c : Str} {H H0 H1 : Hp} {Q : VK} {E : XK} {vs : List V} {rs as qs ps : List Int} {e : Option Int} {z : V}
theorem isRk_all (h : Rks rs) : (rs.map V.int).all isRk = true := by
  rw [List.all_eq_true]
  intro y hy
  obtain ⟨i, hi, rfl⟩ := List.mem_map.mp hy
  have := h i hi
  simp [isRk, this.1, this.2]
theorem brdV_true {r : Addr} (hk : kd H (.ref r) = "list") (hr : SqL K H r (rs.map V.int)) (h1 : 1 ≤ rs.length) (h2 : rs.length ≤ 60) (h : Rks rs) : BrdV K H (.ref r) true := by
  refine ⟨by rw [hk]; decide, .inr ⟨r, _, rfl, hk, hr, fun y hy => ?_, by rw [List.length_map]; omega, ?_⟩⟩
  · obtain ⟨i, _, rfl⟩ := List.mem_map.mp hy
    simp [kd]
  · rw [List.length_map, decide_eq_true h1, decide_eq_true h2, isRk_all h]
    rfl
theorem oI_kd {H : Hp} {e : Option Int} : kd H (oI e) ≠ "" := by cases e <;> simp [oI, kd]
theorem PicT.picV (h : PicT K H rs z as qs ps e) : PicV K H rs z true := by
  obtain ⟨t, x0, x1, x2, rfl, hk, ht, l0, l1, l2, a0, a1, a2, hb⟩ := h
  exact ⟨by rw [hk]; decide, .inr ⟨t, _, rfl, hk, ht, .inr ⟨x0, x1, x2, oI e, true, true, true, rfl, .inr ⟨as, l0, a0.symm⟩, .inr ⟨qs, l1, a1.symm⟩, .inr ⟨ps, l2, a2.symm⟩, oI_kd, by rw [hb]; rfl⟩⟩⟩
theorem PicT.ex (m : Ex T H H1) (h : PicT K H rs z as qs ps e) : PicT K H1 rs z as qs ps e := by
  obtain ⟨t, x0, x1, x2, rfl, hk, ht, l0, l1, l2, a⟩ := h
  exact ⟨t, x0, x1, x2, rfl, by rw [kd_exn m (by rw [hk]; decide)]; exact hk, m.t ht, l0.ex m, l1.ex m, l2.ex m, a⟩
theorem er_pic1 {σ : L2.St} {t1 t2 t3 t4 : TE} (h0 : EvL T t1 σ H []) (h1 : EvL T t2 σ H []) (h2 : EvL T t3 σ H []) (hc : Ev T t4 σ H .non) : EvR T (tTup (tCons t1 (tCons t2 (tCons t3 (tCons t4 tNil))))) σ H (fun _ v H2 => PicT K H2 rs v [] [] [] none) := fun H1 e Q q =>
  h0 H1 e _ fun _ H2 e2 ⟨a, ea, _, ha⟩ => h1 H2 (e.trans e2) _ fun _ H3 e3 ⟨b, eb, _, hb⟩ => h2 H3 ((e.trans e2).trans e3) _ fun _ H4 e4 ⟨d, ed, _, hd⟩ => hc H4 (((e.trans e2).trans e3).trans e4) _ fun H5 e5 => by
    subst ea eb ed
    refine ⟨sz (by simp), fun t ht => q _ _ ((((e2.trans e3).trans e4).trans e5).trans (Mv.new ht)) ?_⟩
    have e6 : Ex T H5 (upd H5 t (.tup [.ref a, .ref b, .ref d, .non])) := Mv.new ht
    have g : ∀ {w : Addr}, upd H5 t (.tup [.ref a, .ref b, .ref d, .non]) w = some (.lst []) → LsO K (upd H5 t (.tup [.ref a, .ref b, .ref d, .non])) rs.length (.ref w) [] := fun {w} h => ⟨w, rfl, kd_l h, .inl (.inl h), (fun i z => by cases z), by decide⟩
    exact ⟨t, .ref a, .ref b, .ref d, rfl, kd_t upd_same, .inl (.inl upd_same), g (e6.at (((e3.trans e4).trans e5).at ha)), g (e6.at ((e4.trans e5).at hb)), g (e6.at (e5.at hd)), rfl, rfl, rfl, rfl⟩
theorem er_pic0 {σ : L2.St} : EvR T (tTup (tCons (tLst tNil) (tCons (tLst tNil) (tCons (tLst tNil) (tCons (tC .non) tNil))))) σ H (fun _ v H2 => PicT K H2 rs v [] [] [] none) := er_pic1 (el_lst ea_nil (by decide)) (el_lst ea_nil (by decide)) (el_lst ea_nil (by decide)) ev_c
theorem p_B_init (h : sp_B_init K T c vs H Q E) : r_Board_init K T c E { nx := fun _ H' => Q .non H', rt := Q } (start ["self", "ranks", "picture"] vs) H := by
  obtain ⟨x, y, z, rfl, h⟩ := h
  unfold r_Board_init
  rcases h with ⟨h1, h2⟩ | ⟨r, rs, rfl, hk, hr, n1, n60, hrk, h⟩
  · exact q_if (b := true) (Mv.of T H) (et_not (et_B (ev_call0 (by walk_at "ea") (v_is_board h1)))) (fun _ H1 e _ => h2 H1 e) (fun z => nomatch z)
  refine q_if (b := false) (Mv.of T H) (et_not (et_B (ev_call0 (by walk_at "ea") (v_is_board (brdV_true hk hr n1 n60 hrk))))) (fun z => nomatch z) (fun _ H1 e1 _ => nextI ?_)
  dsimp only
  refine q_cut (fun σ' H' => ∃ z', σ' = [some (.ref x), some (.ref r), some z'] ∧ Ex T H H' ∧ ((PicV K H' rs z' false ∧ ∀ H2, Ex T H H2 → E (.ref (He.ga K "NoPicture")) none H2) ∨ ∃ as qs ps e dx, PicT K H' rs z' as qs ps e ∧ H x = some (.ins (He.ga K c) dx []) ∧ BdC K c ∧
    ∀ H2 r' a' q' p', Mv T (fun b => b = x) H H2 → BrdA K c H2 x dx r' a' q' p' [] (.mk0 rs as qs ps e) → (∀ b, OwnP x r' a' q' p' b → b = x ∨ nod H b) → Q .non H2)) ?_ ?_
  · by_cases hz : z = .non
    · subst hz
      refine s_if (b := true) e1 (et_is (et_test (ev_op (by walk_at "ev") ev_c rv_isN)) (by simp)) (fun _ H2 e2 _ => ?_) (fun z => nomatch z)
      rcases h with ⟨w, _⟩ | ⟨as, qs, ps, e, dx, hp, hx, bc, k⟩
      · exact absurd rfl w
      · rcases hp with ⟨_, rfl, rfl, rfl, rfl⟩ | ⟨t, _, _, _, w, _⟩
        · exact s_asgR (Mv.of T H2) (er_pic0 (K := K) (rs := rs)) fun v H3 e3 _ hv => ⟨v, rfl, e2.trans e3, .inr ⟨[], [], [], none, dx, hv, hx, bc, k⟩⟩
        · cases w
    · refine s_if (b := false) e1 (et_is (et_test (ev_op (by walk_at "ev") ev_c rv_isN)) (by simp [hz])) (fun z => nomatch z) (fun _ H2 e2 _ => nextI ?_)
      rcases h with ⟨_, w, k⟩ | ⟨as, qs, ps, e, dx, hp, hx, bc, k⟩
      · exact ⟨z, rfl, e2, .inl ⟨w.ex e2, k⟩⟩
      · rcases hp with ⟨w, _⟩ | hp
        · exact absurd w hz
        · exact ⟨z, rfl, e2, .inr ⟨as, qs, ps, e, dx, hp.ex e2, hx, bc, k⟩⟩
  rintro σ' H2 ⟨z', rfl, e2, h⟩
  have lr2 := e2.l hr
  rcases h with ⟨h1, h2⟩ | ⟨as, qs, ps, e, dx, hp, hx, bc, k⟩
  · exact q_if (b := true) (Mv.of T H2) (et_not (et_B (ev_call0 (by walk_at "ea") (v_is_picture lr2 h1)))) (fun _ H3 e3 _ => h2 H3 (e2.trans e3)) (fun z => nomatch z)
  refine q_if (b := false) (Mv.of T H2) (et_not (et_B (ev_call0 (by walk_at "ea") (v_is_picture lr2 hp.picV)))) (fun z => nomatch z) (fun _ H3 e3 _ => nextI ?_)
  dsimp only
  have e03 := e2.trans e3
  have lr3 := e3.l lr2
  obtain ⟨t, x0, x1, x2, rfl, _, ht, ⟨a0, rfl, _, l0, i0, z0⟩, ⟨a1, rfl, _, l1, i1, z1⟩, ⟨a2, rfl, _, l2, i2, z2⟩, _⟩ := hp.ex e3
  have c0 : atI [.ref a0, .ref a1, .ref a2, oI e] 0 = some (V.ref a0) := rfl
  have c1 : atI [.ref a0, .ref a1, .ref a2, oI e] 1 = some (V.ref a1) := rfl
  have c2 : atI [.ref a0, .ref a1, .ref a2, oI e] 2 = some (V.ref a2) := rfl
  have c3 : atI [.ref a0, .ref a1, .ref a2, oI e] 3 = some (oI e) := rfl
  have hx3 := e03.at hx
  refine q_fldR (fun w => [("ranks", w)]) (Mv.of T H3) (el_list (by walk_at "ev") (.inl lr3)) (by walk_at "ev") hx3 bc.cls bc.no (by simp) (fun _ => rfl) fun v H4 H5 e4 _ hv e5 => ?_
  obtain ⟨r', rfl, nr, hr'⟩ := hv
  have e45 := e4.trans e5
  have xr : r' ≠ x := Ne.symm (nr.ne hx3)
  -- what is kept over a store into the board
  have kL : ∀ {Ha Hb : Hp} {fs gs : List (Str × V)}, Ha x = some (.ins (He.ga K c) dx fs) → Ex T Ha Hb → ∀ {q : Addr} {xs : List V}, SqL K Ha q xs → SqL K (upd Hb x (.ins (He.ga K c) dx gs)) q xs := fun {Ha Hb fs gs} hu eab {q xs} hh => by
    rcases hh with hh | hh
    · have ne : q ≠ x := fun zz => by
        rw [zz] at hh
        rcases hh with hh | ⟨w, hh⟩
        · rw [hu] at hh; cases hh
        · rw [hu] at hh; cases hh
      exact (Mv.set1 (T := T) (eab.at hu)).lS (eab.l (.inl hh)) ne
    · exact .inr hh
  have kT : ∀ {Ha Hb : Hp} {fs gs : List (Str × V)}, Ha x = some (.ins (He.ga K c) dx fs) → Ex T Ha Hb → ∀ {q : Addr} {xs : List V}, SqT K Ha q xs → SqT K (upd Hb x (.ins (He.ga K c) dx gs)) q xs := fun {Ha Hb fs gs} hu eab {q xs} hh => by
    rcases hh with hh | hh
    · have ne : q ≠ x := fun zz => by
        rw [zz] at hh
        rcases hh with hh | ⟨w, hh⟩
        · rw [hu] at hh; cases hh
        · rw [hu] at hh; cases hh
      exact (Mv.set1 (T := T) (eab.at hu)).tS (eab.t (.inl hh)) ne
    · exact .inr hh
  have kH : ∀ {Ha Hb : Hp} {fs gs : List (Str × V)}, Ha x = some (.ins (He.ga K c) dx fs) → Ex T Ha Hb → ∀ {q : Addr} {xs : List V}, Ha q = some (.lst xs) → upd Hb x (.ins (He.ga K c) dx gs) q = some (.lst xs) := fun {Ha Hb fs gs} hu eab {q xs} h => by
    rw [upd_ne (ne_of h hu (fun z => nomatch z))]
    exact eab.at h
  have M6 := (e03.trans e45).mv.set (S := fun b => b = x) (o := .ins (He.ga K c) dx [("ranks", .ref r')]) (.inl rfl) (e45.at hx3)
  have hx6 : upd H5 x (.ins (He.ga K c) dx [("ranks", .ref r')]) x = some (.ins (He.ga K c) dx [("ranks", .ref r')]) := upd_same
  have hr6 : upd H5 x (.ins (He.ga K c) dx [("ranks", .ref r')]) r' = some (.lst (rs.map V.int)) := by rw [upd_ne xr]; exact e5.at hr'
  have lr6 := kL (gs := [("ranks", .ref r')]) hx3 e45 lr3
  have t6 := kT (gs := [("ranks", .ref r')]) hx3 e45 ht
  have l06 := kL (gs := [("ranks", .ref r')]) hx3 e45 l0
  have l16 := kL (gs := [("ranks", .ref r')]) hx3 e45 l1
  have l26 := kL (gs := [("ranks", .ref r')]) hx3 e45 l2
  generalize upd H5 x (.ins (He.ga K c) dx [("ranks", .ref r')]) = H6 at M6 hx6 hr6 lr6 t6 l06 l16 l26
  refine q_fldR (fun w => [("ranks", .ref r'), ("asking", w)]) (Mv.of T H6) (er_call0 (R := newL ((marks rs.length as).map V.bl)) (ea_cons (ev_cb (by walk_at "ea") (rc_lenI lr6)) (ea_cons (ev_op (by walk_at "ev") ev_c (rv_ixT t6 c0)) ea_nil)) (v_marked n60 l06 i0 z0) newL_back) (by walk_at "ev") hx6 bc.cls bc.no (by simp) (fun _ => rfl) fun v H7 H8 e7 _ hv e8 => ?_
  obtain ⟨as', rfl, na, ha'⟩ := hv
  have e78 := e7.trans e8
  have M9 := (M6.trans e78.mv).set (o := .ins (He.ga K c) dx [("ranks", .ref r'), ("asking", .ref as')]) (.inl rfl) (e78.at hx6)
  have hx9 : upd H8 x (.ins (He.ga K c) dx [("ranks", .ref r'), ("asking", .ref as')]) x = some (.ins (He.ga K c) dx [("ranks", .ref r'), ("asking", .ref as')]) := upd_same
  have ha9 : upd H8 x (.ins (He.ga K c) dx [("ranks", .ref r'), ("asking", .ref as')]) as' = some (.lst ((marks rs.length as).map V.bl)) := by rw [upd_ne (Ne.symm (na.ne hx6))]; exact e8.at ha'
  have hr9 := kH (gs := [("ranks", .ref r'), ("asking", .ref as')]) hx6 e78 hr6
  have lr9 := kL (gs := [("ranks", .ref r'), ("asking", .ref as')]) hx6 e78 lr6
  have t9 := kT (gs := [("ranks", .ref r'), ("asking", .ref as')]) hx6 e78 t6
  have l19 := kL (gs := [("ranks", .ref r'), ("asking", .ref as')]) hx6 e78 l16
  have l29 := kL (gs := [("ranks", .ref r'), ("asking", .ref as')]) hx6 e78 l26
  generalize upd H8 x (.ins (He.ga K c) dx [("ranks", .ref r'), ("asking", .ref as')]) = H9 at M9 hx9 ha9 hr9 lr9 t9 l19 l29
  refine q_fldR (fun w => [("ranks", .ref r'), ("asking", .ref as'), ("quiet", w)]) (Mv.of T H9) (er_call0 (R := newL ((marks rs.length qs).map V.bl)) (ea_cons (ev_cb (by walk_at "ea") (rc_lenI lr9)) (ea_cons (ev_op (by walk_at "ev") ev_c (rv_ixT t9 c1)) ea_nil)) (v_marked n60 l19 i1 z1) newL_back) (by walk_at "ev") hx9 bc.cls bc.no (by simp) (fun _ => rfl) fun v H10 H11 e10 _ hv e11 => ?_
  obtain ⟨qs', rfl, nq, hq'⟩ := hv
  have e101 := e10.trans e11
  have M12 := (M9.trans e101.mv).set (o := .ins (He.ga K c) dx [("ranks", .ref r'), ("asking", .ref as'), ("quiet", .ref qs')]) (.inl rfl) (e101.at hx9)
  have hx12 : upd H11 x (.ins (He.ga K c) dx [("ranks", .ref r'), ("asking", .ref as'), ("quiet", .ref qs')]) x = some (.ins (He.ga K c) dx [("ranks", .ref r'), ("asking", .ref as'), ("quiet", .ref qs')]) := upd_same
  have hq12 : upd H11 x (.ins (He.ga K c) dx [("ranks", .ref r'), ("asking", .ref as'), ("quiet", .ref qs')]) qs' = some (.lst ((marks rs.length qs).map V.bl)) := by rw [upd_ne (Ne.symm (nq.ne hx9))]; exact e11.at hq'
  have hr12 := kH (gs := [("ranks", .ref r'), ("asking", .ref as'), ("quiet", .ref qs')]) hx9 e101 hr9
  have ha12 := kH (gs := [("ranks", .ref r'), ("asking", .ref as'), ("quiet", .ref qs')]) hx9 e101 ha9
  have t12 := kT (gs := [("ranks", .ref r'), ("asking", .ref as'), ("quiet", .ref qs')]) hx9 e101 t9
  have l212 := kL (gs := [("ranks", .ref r'), ("asking", .ref as'), ("quiet", .ref qs')]) hx9 e101 l29
  generalize upd H11 x (.ins (He.ga K c) dx [("ranks", .ref r'), ("asking", .ref as'), ("quiet", .ref qs')]) = H12 at M12 hx12 hq12 hr12 ha12 t12 l212
  refine q_fldR (fun w => [("ranks", .ref r'), ("asking", .ref as'), ("quiet", .ref qs'), ("pile", w)]) (Mv.of T H12) (el_list (ev_op (by walk_at "ev") ev_c (rv_ixT t12 c2)) (.inl l212)) (by walk_at "ev") hx12 bc.cls bc.no (by simp) (fun _ => rfl) fun v H13 H14 e13 _ hv e14 => ?_
  obtain ⟨pl', rfl, np, hp'⟩ := hv
  have e134 := e13.trans e14
  have M15 := (M12.trans e134.mv).set (o := .ins (He.ga K c) dx [("ranks", .ref r'), ("asking", .ref as'), ("quiet", .ref qs'), ("pile", .ref pl')]) (.inl rfl) (e134.at hx12)
  have hx15 : upd H14 x (.ins (He.ga K c) dx [("ranks", .ref r'), ("asking", .ref as'), ("quiet", .ref qs'), ("pile", .ref pl')]) x = some (.ins (He.ga K c) dx [("ranks", .ref r'), ("asking", .ref as'), ("quiet", .ref qs'), ("pile", .ref pl')]) := upd_same
  have hp15 : upd H14 x (.ins (He.ga K c) dx [("ranks", .ref r'), ("asking", .ref as'), ("quiet", .ref qs'), ("pile", .ref pl')]) pl' = some (.lst (ps.map V.int)) := by rw [upd_ne (Ne.symm (np.ne hx12))]; exact e14.at hp'
  have hr15 := kH (gs := [("ranks", .ref r'), ("asking", .ref as'), ("quiet", .ref qs'), ("pile", .ref pl')]) hx12 e134 hr12
  have ha15 := kH (gs := [("ranks", .ref r'), ("asking", .ref as'), ("quiet", .ref qs'), ("pile", .ref pl')]) hx12 e134 ha12
  have hq15 := kH (gs := [("ranks", .ref r'), ("asking", .ref as'), ("quiet", .ref qs'), ("pile", .ref pl')]) hx12 e134 hq12
  have t15 := kT (gs := [("ranks", .ref r'), ("asking", .ref as'), ("quiet", .ref qs'), ("pile", .ref pl')]) hx12 e134 t12
  generalize upd H14 x (.ins (He.ga K c) dx [("ranks", .ref r'), ("asking", .ref as'), ("quiet", .ref qs'), ("pile", .ref pl')]) = H15 at M15 hx15 hp15 hr15 ha15 hq15 t15
  refine t_fld (v := oI e) (fun w => brdF (.ref r') (.ref as') (.ref qs') (.ref pl') w []) (Mv.of T H15) (ev_op (by walk_at "ev") ev_c (rv_ixT t15 c3)) (by walk_at "ev") hx15 bc.cls bc.no (by simp) (fun _ => rfl) fun H16 e16 _ => ?_
  refine k _ r' as' qs' pl' ((M15.trans e16.mv).set (.inl rfl) (e16.at hx15)) ⟨upd_same, kH hx15 e16 hr15, kH hx15 e16 ha15, kH hx15 e16 hq15, kH hx15 e16 hp15, na.ne hr6, nq.ne hr9, np.ne hr12, nq.ne ha9, np.ne ha12, np.ne hq12, .inl rfl⟩ fun b hb => ?_
  rcases hb with rfl | rfl | rfl | rfl | rfl
  · exact .inl rfl
  · exact .inr (e03.dm _ nr)
  · exact .inr (M6.dm _ na)
  · exact .inr (M9.dm _ nq)
  · exact .inr (M12.dm _ np)
end
end Fp

namespace Fp
open PySem PySem.Spec PyProof.Rows L2 LamX
/-! ### what holds of a board from deed to deed -/
section
variable {s : BSt} {n : Nat} {b b' : Int → Bool} {i : Int}
theorem lines_ext (h : ∀ j, 0 ≤ j ∧ j < (n : Int) → b j = b' j) : (linesW n b).Perm (linesW n b') :=
  (List.perm_ext_iff_of_nodup linesW_nd linesW_nd).mpr fun j => by
    rw [mem_linesW, mem_linesW]
    exact ⟨fun z => ⟨z.1, (h j z.1) ▸ z.2⟩, fun z => ⟨z.1, (h j z.1).symm ▸ z.2⟩⟩
theorem lines_in (hi : 0 ≤ i ∧ i < (n : Int)) (h1 : b i = false) (h2 : b' i = true) (h : ∀ j, 0 ≤ j ∧ j < (n : Int) → j ≠ i → b j = b' j) : (i :: linesW n b).Perm (linesW n b') := by
  refine (List.perm_ext_iff_of_nodup (List.nodup_cons.mpr ⟨fun z => ?_, linesW_nd⟩) linesW_nd).mpr fun j => ?_
  · have := (mem_linesW.mp z).2
    rw [h1] at this
    cases this
  · rw [List.mem_cons, mem_linesW, mem_linesW]
    by_cases e : j = i
    · subst e
      exact ⟨fun _ => ⟨hi, h2⟩, fun _ => .inl rfl⟩
    · exact ⟨fun z => z.elim (fun w => absurd w e) fun z => ⟨z.1, (h j z.1 e) ▸ z.2⟩, fun z => .inr ⟨z.1, (h j z.1 e).symm ▸ z.2⟩⟩
theorem lines_out (hi : 0 ≤ i ∧ i < (n : Int)) (h1 : b i = true) (h2 : b' i = false) (h : ∀ j, 0 ≤ j ∧ j < (n : Int) → j ≠ i → b j = b' j) : ((linesW n b).erase i).Perm (linesW n b') := by
  refine (List.perm_ext_iff_of_nodup (linesW_nd.sublist List.erase_sublist) linesW_nd).mpr fun j => ?_
  rw [linesW_nd.mem_erase_iff, mem_linesW, mem_linesW]
  by_cases e : j = i
  · subst e
    exact ⟨fun z => absurd rfl z.1, fun z => by rw [h2] at z; exact absurd z.2 (by simp)⟩
  · exact ⟨fun z => ⟨z.2.1, (h j z.2.1 e) ▸ z.2.2⟩, fun z => ⟨e, z.1, (h j z.1 e).symm ▸ z.2⟩⟩
/-- new flags, and pegs that fit -/
theorem BWf.flags (w : BWf s) {as qs : List Bool} {pg : Option PSt} (la : as.length = s.ranks.length) (lq : qs.length = s.ranks.length)
    (hp : ∀ p, pg = some p → POk p ∧ p.ranks = s.ranks ∧ (p.hung ++ p.book).Perm (linesW s.ranks.length fun z => fl as z && !fl qs z)) : BWf { s with asking := as, quiet := qs, pegs := pg } := ⟨w.n1, w.n60, w.rk, la, lq, w.pl, w.pn, w.ed, hp⟩
theorem BWf.in_ (w : BWf s) (hi : inR s.ranks i) {as qs : List Bool} (la : as.length = s.ranks.length) (lq : qs.length = s.ranks.length) (h1 : (fl s.asking i && !fl s.quiet i) = false) (h2 : (fl as i && !fl qs i) = true) (h : ∀ j, inR s.ranks j → j ≠ i → (fl s.asking j && !fl s.quiet j) = (fl as j && !fl qs j)) :
    BWf { s with asking := as, quiet := qs, pegs := s.pegs.map (·.come i) } := w.flags la lq fun p hp => by
  cases hs : s.pegs with
  | none => rw [hs] at hp; cases hp
  | some p0 =>
    rw [hs] at hp
    cases hp
    obtain ⟨o, e, pm⟩ := w.pg p0 hs
    have pin := w.pin hi h1 p0 hs
    have c := o.come pin.2.1 pin.2.2
    exact ⟨c.1, come_rm.1.trans e, c.2.trans ((pm.cons i).trans (lines_in hi h1 h2 h))⟩
theorem BWf.out_ (w : BWf s) (hi : inR s.ranks i) {as qs : List Bool} (la : as.length = s.ranks.length) (lq : qs.length = s.ranks.length) (h1 : (fl s.asking i && !fl s.quiet i) = true) (h2 : (fl as i && !fl qs i) = false) (h : ∀ j, inR s.ranks j → j ≠ i → (fl s.asking j && !fl s.quiet j) = (fl as j && !fl qs j)) :
    BWf { s with asking := as, quiet := qs, pegs := s.pegs.map (·.go i) } := w.flags la lq fun p hp => by
  cases hs : s.pegs with
  | none => rw [hs] at hp; cases hp
  | some p0 =>
    rw [hs] at hp
    cases hp
    obtain ⟨o, e, pm⟩ := w.pg p0 hs
    have c := o.go (w.pout hi h1 p0 hs).2
    exact ⟨c.1, go_rm.1.trans e, c.2.trans ((pm.erase i).trans (lines_out hi h1 h2 h))⟩
theorem BWf.same_ (w : BWf s) {as qs : List Bool} (la : as.length = s.ranks.length) (lq : qs.length = s.ranks.length) (h : ∀ j, inR s.ranks j → (fl s.asking j && !fl s.quiet j) = (fl as j && !fl qs j)) :
    BWf { s with asking := as, quiet := qs } := w.flags la lq fun p hp => by
  obtain ⟨o, e, pm⟩ := w.pg p hp
  exact ⟨o, e, pm.trans (lines_ext h)⟩
theorem BWf.ring (w : BWf s) (hi : inR s.ranks i) : BWf (s.ring i) := by
  have ia : i < s.asking.length := by rw [w.la]; exact hi.2
  have la : (s.asking.set i.toNat true).length = s.ranks.length := by rw [List.length_set]; exact w.la
  unfold BSt.ring
  by_cases ha : fl s.asking i = true
  · rw [if_pos ha]; exact w
  · rw [if_neg ha]
    have ha : fl s.asking i = false := by simpa using ha
    by_cases hq : fl s.quiet i = true
    · rw [if_pos hq]
      refine w.same_ (as := s.asking.set i.toNat true) (qs := s.quiet) la w.lq fun j hj => ?_
      rw [fl_set hi.1 ia hj.1]
      split
      · rename_i e; subst e; rw [ha, hq]; rfl
      · rfl
    · rw [if_neg hq]
      have hq : fl s.quiet i = false := by simpa using hq
      refine w.in_ hi (as := s.asking.set i.toNat true) (qs := s.quiet) la w.lq (by rw [ha]; rfl) (by rw [fl_set hi.1 ia hi.1, if_pos rfl, hq]; rfl) fun j hj ne => ?_
      rw [fl_set hi.1 ia hj.1, if_neg ne]
theorem BWf.calm (w : BWf s) (hi : inR s.ranks i) : BWf (s.calm i) := by
  have ia : i < s.asking.length := by rw [w.la]; exact hi.2
  have la : (s.asking.set i.toNat false).length = s.ranks.length := by rw [List.length_set]; exact w.la
  unfold BSt.calm
  by_cases ha : fl s.asking i = true
  · rw [if_pos ha]
    by_cases hq : fl s.quiet i = true
    · rw [if_pos hq]
      refine w.same_ (as := s.asking.set i.toNat false) (qs := s.quiet) la w.lq fun j hj => ?_
      rw [fl_set hi.1 ia hj.1]
      split
      · rename_i e; subst e; rw [ha, hq]; rfl
      · rfl
    · rw [if_neg hq]
      have hq : fl s.quiet i = false := by simpa using hq
      refine w.out_ hi (as := s.asking.set i.toNat false) (qs := s.quiet) la w.lq (by rw [ha, hq]; rfl) (by rw [fl_set hi.1 ia hi.1, if_pos rfl]; rfl) fun j hj ne => ?_
      rw [fl_set hi.1 ia hj.1, if_neg ne]
  · rw [if_neg ha]; exact w
theorem BWf.mute (w : BWf s) (hi : inR s.ranks i) : BWf (s.mute i) := by
  have iq : i < s.quiet.length := by rw [w.lq]; exact hi.2
  have lq : (s.quiet.set i.toNat true).length = s.ranks.length := by rw [List.length_set]; exact w.lq
  unfold BSt.mute
  by_cases hq : fl s.quiet i = true
  · rw [if_pos hq]; exact w
  · rw [if_neg hq]
    have hq : fl s.quiet i = false := by simpa using hq
    by_cases ha : fl s.asking i = true
    · rw [if_pos ha]
      refine w.out_ hi (as := s.asking) (qs := s.quiet.set i.toNat true) w.la lq (by rw [ha, hq]; rfl) (by rw [fl_set hi.1 iq hi.1, if_pos rfl]; simp) fun j hj ne => ?_
      rw [fl_set hi.1 iq hj.1, if_neg ne]
    · rw [if_neg ha]
      have ha : fl s.asking i = false := by simpa using ha
      refine w.same_ (as := s.asking) (qs := s.quiet.set i.toNat true) w.la lq fun j hj => ?_
      rw [fl_set hi.1 iq hj.1]
      split
      · rename_i e; subst e; rw [ha]; rfl
      · rfl
theorem BWf.free (w : BWf s) (hi : inR s.ranks i) : BWf (s.free i) := by
  have iq : i < s.quiet.length := by rw [w.lq]; exact hi.2
  have lq : (s.quiet.set i.toNat false).length = s.ranks.length := by rw [List.length_set]; exact w.lq
  unfold BSt.free
  by_cases hq : fl s.quiet i = true
  · rw [if_pos hq]
    by_cases ha : fl s.asking i = true
    · rw [if_pos ha]
      refine w.in_ hi (as := s.asking) (qs := s.quiet.set i.toNat false) w.la lq (by rw [hq]; simp) (by rw [fl_set hi.1 iq hi.1, if_pos rfl, ha]; rfl) fun j hj ne => ?_
      rw [fl_set hi.1 iq hj.1, if_neg ne]
    · rw [if_neg ha]
      have ha : fl s.asking i = false := by simpa using ha
      refine w.same_ (as := s.asking) (qs := s.quiet.set i.toNat false) w.la lq fun j hj => ?_
      rw [fl_set hi.1 iq hj.1]
      split
      · rename_i e; subst e; rw [ha]; rfl
      · rfl
  · rw [if_neg hq]; exact w
theorem BWf.bar (w : BWf s) {e : Option Int} (h : okBar e) : BWf (s.bar e) := ⟨w.n1, w.n60, w.rk, w.la, w.lq, w.pl, w.pn, h, w.pg⟩
theorem BWf.pop (w : BWf s) : BWf s.pop := ⟨w.n1, w.n60, w.rk, w.la, w.lq, fun i hi => w.pl i ((List.dropLast_sublist _).subset hi), w.pn.sublist (List.dropLast_sublist _), w.ed, w.pg⟩
theorem BWf.take (w : BWf s) : BWf s.take := by
  unfold BSt.take
  cases hb : s.best with
  | none => exact w
  | some i =>
    obtain ⟨hi, ha, hq, ho⟩ := w.best_in hb
    have ia : i < s.asking.length := by rw [w.la]; exact hi.2
    have la : (s.asking.set i.toNat false).length = s.ranks.length := by rw [List.length_set]; exact w.la
    have w2 : BWf ((s.ask i false).leaves i) := w.out_ hi (as := s.asking.set i.toNat false) (qs := s.quiet) la w.lq (by rw [ha, hq]; rfl) (by rw [fl_set hi.1 ia hi.1, if_pos rfl]; rfl) fun j hj ne => by rw [fl_set hi.1 ia hj.1, if_neg ne]
    refine ⟨w2.n1, w2.n60, w2.rk, w2.la, w2.lq, fun j hj => ?_, ?_, w2.ed, w2.pg⟩
    · rcases List.mem_append.mp hj with z | z
      · exact w.pl j z
      · rw [List.mem_singleton.mp z]; exact hi
    · refine List.pairwise_append.mpr ⟨w.pn, List.pairwise_singleton _ _, fun x hx y hy => ?_⟩
      rw [List.mem_singleton.mp hy]
      show Fp.rk s.ranks i < Fp.rk s.ranks x
      unfold BSt.open_ at ho
      have ho := (Bool.and_eq_true_iff.mp ho).2
      have hx : x ∈ s.pile := hx
      obtain ⟨t, ht, mt⟩ := last_of (List.ne_nil_of_mem hx)
      rw [ht] at ho
      have ho : Fp.rk s.ranks i < Fp.rk s.ranks t := of_decide_eq_true ho
      obtain ⟨ys, hy⟩ := List.getLast?_eq_some_iff.mp ht
      have pn := w.pn
      rw [hy] at hx pn
      rcases List.mem_append.mp hx with z | z
      · have := (List.pairwise_append.mp pn).2.2 x z t (List.mem_singleton.mpr rfl)
        omega
      · rw [List.mem_singleton.mp z]; exact ho
end
end Fp

namespace Fp
open PySem PySem.Spec PyProof.Rows L2 LamX
/-! ### who owns what, by tags -/
/-- a claim on a part of a heap, kept where the part is kept -/
structure HS (T : List (Addr × Str)) where
  P : Hp → (Addr → Prop) → Prop
  st : ∀ {H H' : Hp} {S S' S1 : Addr → Prop}, P H S → Mv T S1 H H' → (∀ x, S x → ¬ S1 x) → (∀ x, S x → ¬ nod H x → S' x) → P H' S'
structure Ow (T : List (Addr × Str)) (H0 H : Hp) (own : Addr → Nat) : Prop where
  ex : Ex T H0 H
  fr : ∀ x, own x ≠ 0 → nod H0 x ∧ ¬ nod H x
structure Hd (T : List (Addr × Str)) (H0 H : Hp) (own : Addr → Nat) (L : List (Nat × HS T)) : Prop where
  ow : Ow T H0 H own
  al : ∀ q ∈ L, q.2.P H fun x => own x = q.1
section
variable {T : List (Addr × Str)} {K : PySem.W.Frag} {H H0 H1 : Hp} {own : Addr → Nat} {L L' : List (Nat × HS T)} {n : Nat} {P P0 : HS T} {S' : Addr → Prop} {a p : Addr} {xs : List V}
open Classical in
/-- the new places of S' are given to the owner n -/
noncomputable def giv (own : Addr → Nat) (H1 : Hp) (S' : Addr → Prop) (n : Nat) : Addr → Nat := fun x => if S' x ∧ ¬ nod H1 x then n else own x
theorem Hd.of : Hd T H0 H0 (fun _ => 0) [] := ⟨⟨Mv.refl, fun _ h => absurd rfl h⟩, fun _ h => nomatch h⟩
theorem Hd.get (h : Hd T H0 H own L) (m : (n, P) ∈ L := by simp) : P.P H fun x => own x = n := h.al _ m
theorem Hd.ex' (h : Hd T H0 H own L) (e : Ex T H H1) : Hd T H0 H1 own L := ⟨⟨h.ow.ex.trans e, fun x z => ⟨(h.ow.fr x z).1, fun w => (h.ow.fr x z).2 (e.dm x w)⟩⟩, fun q m => q.2.st (h.al q m) e (fun _ _ z => z) fun _ z _ => z⟩
/-- a part Sm, owned, is changed; S' and what is new in it is k's -/
theorem Hd.mutK {k : Nat} {Sm : Addr → Prop} (h : Hd T H0 H own L) (hm : ∀ x, Sm x → own x ≠ 0 ∨ nod H x) (hk : k ≠ 0) (m : Mv T Sm H H1) (hS : ∀ x, S' x → own x = k ∨ nod H x) (hL : ∀ own' : Addr → Nat, (∀ x, S' x → ¬ nod H1 x → own' x = k) → (∀ x, ¬ nod H x → own' x = own x) → ∀ q ∈ L', (q ∈ L ∧ ∀ x, Sm x → own x ≠ q.1) ∨ q.2.P H1 fun x => own' x = q.1) : ∃ own' : Addr → Nat, Hd T H0 H1 own' L' ∧ (∀ x, S' x → ¬ nod H1 x → own' x = k) ∧ ∀ x, ¬ nod H x → own' x = own x := by
  have g : ∀ x, ¬ nod H x → giv own H1 S' k x = own x := fun x hx => by
    unfold giv
    split
    · rename_i z
      exact ((hS x z.1).resolve_right hx).symm
    · rfl
  have g1 : ∀ x, S' x → ¬ nod H1 x → giv own H1 S' k x = k := fun x a b => if_pos ⟨a, b⟩
  refine ⟨giv own H1 S' k, ⟨⟨h.ow.ex.seq m fun x z => .inr ((hm x z).elim (fun w => (h.ow.fr x w).1) (h.ow.ex.dm x)), fun x z => ?_⟩, fun q hq => ?_⟩, g1, g⟩
  · by_cases w : S' x ∧ ¬ nod H1 x
    · refine ⟨?_, w.2⟩
      rcases hS x w.1 with u | u
      · exact (h.ow.fr x (by rw [u]; exact hk)).1
      · exact h.ow.ex.dm x u
    · rw [show giv own H1 S' k x = own x from if_neg w] at z
      exact ⟨(h.ow.fr x z).1, fun u => (h.ow.fr x z).2 (m.dm x u)⟩
  · rcases hL _ g1 g q hq with ⟨w1, w2⟩ | w
    · exact q.2.st (h.al q w1) m (fun x z u => w2 x u z) fun x z u => by rw [g x u]; exact z
    · exact w
/-- what owner n had is changed -/
theorem Hd.mut (h : Hd T H0 H own L) (hn : n ≠ 0) (m : Mv T (fun x => own x = n) H H1) (hP : P.P H1 S') (hS : ∀ x, S' x → own x = n ∨ nod H x) (hL : ∀ q ∈ L', (q ∈ L ∧ q.1 ≠ n) ∨ q = (n, P)) : ∃ own', Hd T H0 H1 own' L' := by
  obtain ⟨o, z, _⟩ := h.mutK (L' := L') (fun x w => .inl (by rw [w]; exact hn)) hn m hS fun own' h1 _ q hq => (hL q hq).imp (fun w => ⟨w.1, fun x a b => w.2 (b.symm.trans a)⟩) fun w => by
    subst w
    exact P.st hP (Mv.refl (T := T) (S := no)) (fun _ _ z => z) h1
  exact ⟨o, z⟩
/-- new places for n -/
theorem Hd.new (h : Hd T H0 H own L) (n : Nat) (hn : n ≠ 0) (e : Ex T H H1) (hP : P.P H1 (nod H)) : ∃ own', Hd T H0 H1 own' ((n, P) :: L) := by
  obtain ⟨o, z, _⟩ := h.mutK (H1 := H1) (L' := (n, P) :: L) (k := n) (S' := nod H) (Sm := no) (fun _ w => w.elim) hn e (fun x w => .inr w) fun own' h1 _ q hq => by
    rcases List.mem_cons.mp hq with rfl | hq
    · exact .inr (P.st hP (Mv.refl (T := T) (S := no)) (fun _ _ z => z) h1)
    · exact .inl ⟨hq, fun _ w => w.elim⟩
  exact ⟨o, z⟩
/-- a claim in another form -/
theorem Hd.wk (h : Hd T H0 H own L) (hL : ∀ q ∈ L', q ∈ L ∨ q.2.P H fun x => own x = q.1) : Hd T H0 H own L' := ⟨h.ow, fun q m => (hL q m).elim (h.al q) id⟩
/-! ### claims -/
def atH (T : List (Addr × Str)) (p : Addr) (xs : List V) : HS T := ⟨fun H S => S p ∧ H p = some (.lst xs), fun h m h1 h2 => ⟨h2 _ h.1 (nod.not h.2 rfl), m.kp _ _ h.2 rfl (h1 _ h.1)⟩⟩
def brdH (T : List (Addr × Str)) (K : PySem.W.Frag) (c : Str) (a : Addr) (s : BSt) : HS T := ⟨fun H S => BrdO K c H a s S, fun h m h1 h2 => h.go m h1 h2⟩
def pegH (T : List (Addr × Str)) (K : PySem.W.Frag) (a : Addr) (s : PSt) : HS T := ⟨fun H S => PegO K H a s S, fun h m h1 h2 => h.go m h1 h2⟩
def dpH (T : List (Addr × Str)) (K : PySem.W.Frag) (v : V) (d : PyData) : HS T := ⟨fun H S => Dp K (res H S) v d, fun h m h1 h2 => (m.sub2 h1 h2).dp h⟩
def dpsH (T : List (Addr × Str)) (K : PySem.W.Frag) (vs : List V) (ds : List PyData) : HS T := ⟨fun H S => DpAll K (res H S) vs ds, fun h m h1 h2 => (m.sub2 h1 h2).dps h⟩
theorem Hd.lst (h : Hd T H0 H own L) (p : Addr) {n : Nat} {xs : List V} (m : (n, atH T p xs) ∈ L := by repeat (first | exact List.Mem.head _ | apply List.Mem.tail)) : H p = some (.lst xs) := (h.al _ m).2
theorem Hd.is (h : Hd T H0 H own L) (p : Addr) {n : Nat} {xs : List V} (m : (n, atH T p xs) ∈ L := by repeat (first | exact List.Mem.head _ | apply List.Mem.tail)) : own p = n := (h.al _ m).1
theorem Hd.brd (h : Hd T H0 H own L) (a : Addr) {n : Nat} {c : Str} {s : BSt} (m : (n, brdH T K c a s) ∈ L := by repeat (first | exact List.Mem.head _ | apply List.Mem.tail)) : BrdO K c H a s fun x => own x = n := h.al _ m
theorem Hd.dps (h : Hd T H0 H own L) (vs : List V) {n : Nat} {ds : List PyData} (m : (n, dpsH T K vs ds) ∈ L := by repeat (first | exact List.Mem.head _ | apply List.Mem.tail)) : DpAll K (res H fun x => own x = n) vs ds := h.al _ m
theorem Hd.live (h : Hd T H0 H own L) {n : Nat} (hn : n ≠ 0) : ∀ x, own x = n → ¬ nod H x := fun x e => (h.ow.fr x (by rw [e]; exact hn)).2
theorem DpAll.sn {H : Hp} {v : V} {d : PyData} : ∀ {vs : List V} {ds : List PyData}, DpAll K H vs ds → Dp K H v d → DpAll K H (vs ++ [v]) (ds ++ [d])
  | _, _, .nil, h => .cons h .nil
  | _, _, .cons h1 h2, h => .cons h1 (Fp.DpAll.sn h2 h)
theorem frd_own {own' : Addr → Nat} {k : Nat} {v : V} {d : PyData} (h1 : ∀ x, nod H x → ¬ nod H1 x → own' x = k) (f : FrD K H H1 v d) : Dp K (res H1 fun x => own' x = k) v d := Sub.dp (fun y o h e => by
  obtain ⟨sy, hy⟩ := res_of h
  rw [res_at (S := fun x => own' x = k) (h1 y sy (nod.not hy e))]
  exact hy) f
/-- a list of j's gets an item, all of it k's -/
theorem Hd.app {j k : Nat} {rs : List V} {ds : List PyData} {x : V} {d : PyData} (h : Hd T H0 H own L) (hj : j ≠ 0) (hk : k ≠ 0) (m1 : (j, atH T p rs) ∈ L) (m2 : (k, dpsH T K rs ds) ∈ L) (hjk : j ≠ k) (m : Mv T (fun b => b = p) H H1) (e : H1 p = some (.lst (rs ++ [x]))) (f : FrD K H H1 x d)
    (hL : ∀ q ∈ L', (q ∈ L ∧ q.1 ≠ j) ∨ q = (j, atH T p (rs ++ [x])) ∨ q = (k, dpsH T K (rs ++ [x]) (ds ++ [d]))) : ∃ own', Hd T H0 H1 own' L' := by
  have o := h.al _ m1
  have o1 : own p = j := o.1
  have o2 : H p = some (.lst rs) := o.2
  obtain ⟨o, z, _⟩ := h.mutK (L' := L') (k := k) (S' := nod H) (fun y w => .inl (by rw [w, o1]; exact hj)) hk m (fun x w => .inr w) fun own' h1 g q hq => by
    rcases hL q hq with w | w | w
    · exact .inl ⟨w.1, fun y a b => w.2 (by rw [← b, a, o1])⟩
    · subst w
      exact .inr ⟨(g _ (nod.not o2 rfl)).trans o1, e⟩
    · subst w
      exact .inr (Fp.DpAll.sn ((m.sub2 (fun y (a : own y = k) b => hjk (by rw [← a, b, o1])) fun y a b => (g y b).trans a).dps (h.al _ m2)) (frd_own h1 f))
  exact ⟨o, z⟩
end
end Fp

namespace Fp
open PySem PySem.Spec PyProof.Rows L2 LamX
/-! ### steps that change things, one by one -/
section
variable {T : List (Addr × Str)} {K : PySem.W.Frag} {σ : L2.St} {H H0 H1 : Hp} {te ta tb tl : TE} {v z : V} {R : Hp → V → Hp → Prop} {D : Ends} {u tu tw : TS} {t : TA} {sp : Sp} {E : XK} {a dx C : Addr} {vs ws dvs : List V} {j : Nat} {Q : VK} {m : Str} {fs : List (Str × V)}
theorem w_call (h : EvA T t σ H vs) (k : ∀ H1, Ex T H H1 → sp vs H1 Q E) : tCall sp [] E t σ H Q := h H Mv.refl _ fun H2 e2 => by
  rw [List.append_nil]
  exact k H2 e2
theorem w_meth (ho : Ev T ta σ H (.ref a)) (ha : H a = some (.ins C dx fs)) (l : fs.lookup m = none) (h : EvA T t σ H vs) (hw : .ref a :: (vs ++ dvs) = ws) (k : ∀ H1, Ex T H H1 → sp ws H1 Q E) : tMeth C m sp dvs E ta t σ H Q :=
  ho H Mv.refl _ fun H2 e2 => ⟨a, dx, fs, rfl, e2.at ha, l, h H2 e2 _ fun H3 e3 => by
    rw [hw]
    exact k H3 (e2.trans e3)⟩
theorem w_ev (h : Ev T te σ H v) (k : ∀ H1, Ex T H H1 → Q v H1) : te σ H Q := h H Mv.refl _ k
theorem w_notCall {Q : Bool → Hp → Prop} (h : EvA T t σ H vs) (k : ∀ H1, Ex T H H1 → sp vs H1 (fun v H' => ∃ b, v = .bl b ∧ Q (!b) H') E) : tNot (tB (tCall sp [] E t)) σ H Q := h H Mv.refl _ fun H2 e2 => by
  rw [List.append_nil]
  exact k H2 e2
theorem q_ifOrCalls {t2 : TA} {sp2 : Sp} {E2 : XK} (h : EvA T t σ H vs) (k : ∀ H1, Ex T H H1 → sp vs H1 (fun v H' => ∃ b, v = .bl b ∧ if (!b) = true then tu { D with nx := u D } σ H' else tNot (tB (tCall sp2 [] E2 t2)) σ H' fun c H2 => if c = true then tu { D with nx := u D } σ H2 else tw { D with nx := u D } σ H2) E) : tSeq (tIfS (tOr (tNot (tB (tCall sp [] E t))) (tNot (tB (tCall sp2 [] E2 t2)))) tu tw) u D σ H := h H Mv.refl _ fun H2 e2 => by
  rw [List.append_nil]
  exact k H2 e2
theorem q_forNL {g : TG} (e : Ex T H0 H) (h : EvL T tl σ H0 vs) (Pv : Addr → Nat → L2.St → Hp → Prop) (h0 : ∀ p H1, nod H p → Ex T H0 H1 → Ex T H H1 → H1 p = some (.lst vs) → Pv p 0 σ H1) (hl : ∀ p i σ' H', i ≤ vs.length → Pv p i σ' H' → SqL K H' p vs)
    (hs : ∀ p i x σ' H', vs[i]? = some x → Pv p i σ' H' → g x σ' H' fun σ2 H2 => tu { D with nx := Pv p (i + 1), ct := Pv p (i + 1), bk := u D } σ2 H2) (hd : ∀ p σ' H', Pv p vs.length σ' H' → u D σ' H') : tSeq (tFor (iList K tl) g tu) u D σ H := s_forNL (D := { D with nx := u D }) e h Pv h0 hl hs hd
theorem s_retAnd (h : Ev T ta σ H (.bl true)) (k : ∀ H1, Ex T H H1 → tb σ H1 D.rt) : tRet (tAndV ta tb) D σ H := h H Mv.refl _ fun H1 e1 => ⟨true, rfl, k H1 e1⟩
theorem ifT {A B : Prop} (h : A) : if true = true then A else B := h
theorem ifF {A B : Prop} (h : B) : if false = true then A else B := by rw [if_neg (by decide)]; exact h
theorem ifN {A B : Prop} (h : B) : if (!true) = true then A else B := by rw [if_neg (by decide)]; exact h
theorem ifNT {A B : Prop} (h : A) : if (!false) = true then A else B := h
end
section
variable {T : List (Addr × Str)} {K : PySem.W.Frag} {H H0 H1 : Hp} {own : Addr → Nat} {L L' : List (Nat × HS T)} {n i j : Nat} {P P2 P0 : HS T} {S' : Addr → Prop} {a p : Addr} {xs : List V}
/-- what i had and what j had is changed; only i gets new places -/
theorem Hd.mut2 (h : Hd T H0 H own L) (hi : i ≠ 0) (hj : j ≠ 0) (hij : i ≠ j) (m : Mv T (fun x => own x = i ∨ own x = j) H H1) (hP : P.P H1 S') (hS : ∀ x, S' x → own x = i ∨ nod H x) (hQ : P2.P H1 fun x => own x = j)
    (hL : ∀ q ∈ L', (q ∈ L ∧ q.1 ≠ i ∧ q.1 ≠ j) ∨ q = (i, P) ∨ q = (j, P2)) : ∃ own', Hd T H0 H1 own' L' := by
  obtain ⟨o, z, _⟩ := h.mutK (L' := L') (fun x w => .inl (w.elim (fun w => by rw [w]; exact hi) fun w => by rw [w]; exact hj)) hi m hS fun own' h1 g q hq => by
    rcases hL q hq with w | w | w
    · exact .inl ⟨w.1, fun x a b => a.elim (fun a => w.2.1 (b.symm.trans a)) fun a => w.2.2 (b.symm.trans a)⟩
    · subst w
      exact .inr (P.st hP (Mv.refl (T := T) (S := no)) (fun _ _ z => z) h1)
    · subst w
      exact .inr (P2.st hQ (Mv.refl (T := T) (S := no)) (fun _ _ z => z) fun x hx _ => (g x (h.ow.fr x (by rw [hx]; exact hj)).2).trans hx)
  exact ⟨o, z⟩
/-- a list that an owner has alone is changed -/
theorem Hd.put {ys : List V} (h : Hd T H0 H own L) (hn : n ≠ 0) (ma : (n, atH T p xs) ∈ L) (m : Mv T (fun b => b = p) H H1) (e : H1 p = some (.lst ys)) (hL : ∀ q ∈ L', (q ∈ L ∧ q.1 ≠ n) ∨ q = (n, atH T p ys)) : ∃ own', Hd T H0 H1 own' L' := by
  have o := h.al _ ma
  have o1 : own p = n := o.1
  exact h.mut (P := atH T p ys) (S' := fun x => x = p) hn (m.wk fun x w => by rw [w]; exact o1) ⟨rfl, e⟩ (fun x w => .inl (by rw [w]; exact o1)) hL
theorem Hd.tb (h : Hd T H0 H own L) (t : Tabs T H0) : Tabs T H := h.ow.ex.tb t
end
/-! ### lists made of fresh data -/
section
variable {α : Type} {T : List (Addr × Str)} {K : PySem.W.Frag} {σ : L2.St} {H H0 : Hp} {tl te : TE} {t : TT} {a : Addr} {vs : List Nat} {j : Nat}
theorem er_lcD {as : List α} {g : α → V} {f : α → PyData} {b : α → Bool} (ha : Ev T tl σ H (.ref a)) (hx : SqL K H a (as.map g)) (hz : as.length ≤ 100000) (hw : ∀ x, wipe ((wipe σ vs).set j (some x)) vs = wipe σ vs)
    (ht : ∀ z ∈ as, EvT T t ((wipe σ vs).set j (some (g z))) H (b z)) (he : ∀ z ∈ as, b z = true → EvR T te ((wipe σ vs).set j (some (g z))) H fun H1 v H2 => FrD K H1 H2 v (f z)) :
    EvR T (tLc (iList K tl) (gName j) t te vs) σ H (fun H1 v H2 => ∃ p rs, v = .ref p ∧ nod H1 p ∧ H2 p = some (.lst rs) ∧ FrD K H1 H2 (.ref p) (.list ((as.filter b).map f))) := fun H1 e Q q =>
  ha H1 e _ fun H2 e2 => ⟨a, rfl, ⟨as.map g, (e.trans e2).l hx⟩, fun D hD => by
    have e3 : Ex T H2 (upd H2 D (.lst [])) := Mv.new hD
    refine lc_list (fun i H' => Ex T H2 H' ∧ ∃ rs, H' D = some (.lst rs) ∧ rs.length ≤ i ∧ DpAll K (res H' fun x => nod H2 x ∧ x ≠ D) rs (((as.take i).filter b).map f)) ⟨e3, [], upd_same, Nat.zero_le _, .nil⟩ (fun i H' _ p => ((e.trans e2).trans p.1).l hx) (fun i x H' hi p => ?_) (fun H' p => ?_)
    · rw [List.getElem?_map] at hi
      cases hj : as[i]? with
      | none => rw [hj] at hi; cases hi
      | some z =>
        rw [hj] at hi
        obtain rfl := Option.some.inj hi
        have hm := List.mem_of_getElem? hj
        obtain ⟨p1, rs, p2, p3, p4⟩ := p
        have ts : (as.take (i + 1)).filter b = (as.take i).filter b ++ (if b z = true then [z] else []) := by
          rw [List.take_add_one, hj, List.filter_append]
          congr 1
          cases bz : b z <;> simp [bz]
        refine ⟨hw _, ht z hm H' ((e.trans e2).trans p1) _ fun H3 e3' => ?_⟩
        cases bz : b z with
        | false =>
          rw [bz] at ts
          refine ⟨p1.trans e3', rs, e3'.at p2, by omega, ?_⟩
          rw [ts]
          simp only [Bool.false_eq_true, if_false, List.append_nil]
          exact (e3'.sub2 (S' := fun x => nod H2 x ∧ x ≠ D) (fun _ _ h => h) fun _ h _ => h).dps p4
        | true =>
          rw [bz] at ts
          refine he z hm bz H3 (((e.trans e2).trans p1).trans e3') _ fun v H4 e4 hv => ?_
          have k4 := (e3'.trans e4).at p2
          have mu : Mv T (fun x => x = D) H4 (upd H4 D (.lst (rs ++ [v]))) := Mv.set1 k4
          refine ⟨rs, k4, ?_, ((p1.trans e3').trans e4).set (.inr (.of hD)) k4, rs ++ [v], upd_same, by rw [List.length_append]; simp; omega, ?_⟩
          · have := (List.getElem?_eq_some_iff.mp hj).1
            exact Nat.lt_of_le_of_lt (Nat.le_trans p3 (show i ≤ 100000 by omega)) (by decide)
          · rw [ts, List.map_append]
            refine Fp.DpAll.sn ?_ ?_
            · exact ((mu.sub2 (S := fun x => nod H2 x ∧ x ≠ D) (S' := fun x => nod H2 x ∧ x ≠ D) (fun x h => h.2) fun _ h _ => h)).dps (((e3'.trans e4).sub2 (S' := fun x => nod H2 x ∧ x ≠ D) (fun _ _ h => h) fun _ h _ => h).dps p4)
            · refine Sub.dp (fun y o h w => ?_) hv
              obtain ⟨sy, hy⟩ := res_of h
              have ny : y ≠ D := fun z => nod.not (e3'.at p2) rfl (z ▸ sy)
              rw [res_at (S := fun x => nod H2 x ∧ x ≠ D) ⟨p1.dm _ (e3'.dm _ sy), ny⟩, upd_ne ny]
              exact hy
    · rw [List.length_map, List.take_length] at p
      obtain ⟨p1, rs, p2, p3, p4⟩ := p
      refine q _ H' (e2.trans p1) ⟨D, rs, rfl, e2.dm D (.of hD), p2, .lst (xs := rs) (.inl (.inl ?_)) ?_⟩
      · rw [res_at (e2.dm D (.of hD))]; exact p2
      · exact Sub.dps (fun y o h w => by
          obtain ⟨sy, hy⟩ := res_of h
          rw [res_at (e2.dm y sy.1)]
          exact hy) p4⟩
theorem er_lcDA {as : List α} {g : α → V} {f : α → PyData} (ha : Ev T tl σ H (.ref a)) (hx : SqL K H a (as.map g)) (hz : as.length ≤ 100000) (hw : ∀ x, wipe ((wipe σ vs).set j (some x)) vs = wipe σ vs)
    (he : ∀ z ∈ as, EvR T te ((wipe σ vs).set j (some (g z))) H fun H1 v H2 => FrD K H1 H2 v (f z)) :
    EvR T (tLc (iList K tl) (gName j) tYes te vs) σ H (fun H1 v H2 => ∃ p rs, v = .ref p ∧ nod H1 p ∧ H2 p = some (.lst rs) ∧ FrD K H1 H2 (.ref p) (.list (as.map f))) := by
  have q := er_lcD (b := fun _ => true) (t := tYes) (te := te) (f := f) ha hx hz hw (fun _ _ => et_yes) (fun z hm _ => he z hm)
  rwa [List.filter_eq_self.mpr (fun _ _ => rfl)] at q
theorem EvR.frd {xs : List Int} (h : EvL T te σ H (xs.map V.int)) : EvR T te σ H fun H1 v H2 => FrD K H1 H2 v (dI xs) := h.imp fun _ _ _ _ _ hv => newL.fr hv
end
/-! ### making a board -/
def newBrd (K : PySem.W.Frag) (c : Str) (s : BSt) : Hp → V → Hp → Prop := fun H v H' => ∃ a, v = .ref a ∧ BrdO K c H' a s (nod H)
section
variable {T : List (Addr × Str)} {K : PySem.W.Frag} {σ : L2.St} {H H0 : Hp} {ta : TA} {te : TE} {E : XK} {r : Addr} {rs as qs ps : List Int} {e : Option Int} {z : V} {vs dvs : List V} {c : Str} {s : BSt} {D : Ends} {u : TS}
theorem newBrd_back : ∀ H1 H2 v H3, Ex T H H1 → Ex T H1 H2 → Ex T H2 H3 → newBrd K c s H2 v H3 → newBrd K c s H1 v H3 := fun _ _ _ _ _ a b ⟨p, z, O⟩ => ⟨p, z, O.wk fun x h => a.dm x h⟩
theorem PicO.ex {H1 : Hp} (m : Ex T H H1) (h : PicO K H rs z as qs ps e) : PicO K H1 rs z as qs ps e := h.imp id fun h => h.ex m
theorem er_brdW (h : EvA T ta σ H vs) (hw : vs ++ dvs = [.ref r, z]) (hk : kd H (.ref r) = "list") (lr : SqL K H r (rs.map V.int)) (n1 : 1 ≤ rs.length) (n60 : rs.length ≤ 60) (hr : Rks rs) (hp : PicO K H rs z as qs ps e) (bc : BdC K "Wide") : EvR T (tMake (He.ga K "Wide") (sp_B_init K T "Wide") dvs E ta) σ H (newBrd K "Wide" (.mk0 rs as qs ps e)) := fun H1 x1 Q q =>
  h H1 x1 _ fun H2 e2 => fun x dx hx hdx ne => by
    have e6 : Ex T H2 (upd (upd H2 dx (.own x)) x (.ins (He.ga K "Wide") dx [])) := (Mv.new hdx).trans (Mv.new (by rw [upd_ne (Ne.symm ne)]; exact hx))
    have e26 := e2.trans e6
    have ee := x1.trans e26
    rw [hw]
    refine ⟨x, .ref r, z, rfl, .inr ⟨r, rs, rfl, kd_ex ee hk (by decide), ee.l lr, n1, n60, hr, .inr ⟨as, qs, ps, e, dx, hp.ex ee, upd_same, bc, fun H' r' a' q' p' M A hS => ⟨rfl, q _ _ (e26.seq M fun y hy => by subst hy; exact .inr (e2.nod hx)) ⟨x, rfl, ⟨dx, r', a', q', p', [], A, fun b hb => ?_, rfl, rfl⟩, bc⟩⟩⟩⟩⟩
    rcases hS b hb with w | w
    · subst w; exact e2.nod hx
    · exact e26.dm b w
/-- a new board of a list made on the way -/
theorem er_brdN {tl : TE} (h : EvL T tl σ H (rs.map V.int)) (n1 : 1 ≤ rs.length) (n60 : rs.length ≤ 60) (hr : Rks rs) (bc : BdC K "Wide") : EvR T (tMake (He.ga K "Wide") (sp_B_init K T "Wide") [.non] E (tCons tl tNil)) σ H (newBrd K "Wide" (.mk0 rs [] [] [] none)) := fun H1 x1 Q q =>
  h H1 x1 _ fun v H2 e2 ⟨l, el, _, hl⟩ => by
    subst el
    intro x dx hx hdx ne
    have e6 : Ex T H2 (upd (upd H2 dx (.own x)) x (.ins (He.ga K "Wide") dx [])) := (Mv.new hdx).trans (Mv.new (by rw [upd_ne (Ne.symm ne)]; exact hx))
    have e26 := e2.trans e6
    refine ⟨x, .ref l, .non, rfl, .inr ⟨l, rs, rfl, kd_l (e6.at hl), .inl (.inl (e6.at hl)), n1, n60, hr, .inr ⟨[], [], [], none, dx, .inl ⟨rfl, rfl, rfl, rfl, rfl⟩, upd_same, bc, fun H' r' a' q' p' M A hS => ⟨rfl, q _ _ (e26.seq M fun y hy => by subst hy; exact .inr (e2.nod hx)) ⟨x, rfl, ⟨dx, r', a', q', p', [], A, fun b hb => ?_, rfl, rfl⟩, bc⟩⟩⟩⟩⟩
    rcases hS b hb with w | w
    · subst w; exact e2.nod hx
    · exact e26.dm b w
theorem q_rev {p : Addr} {xs : List V} (e : Ex T H0 H) (hl : H p = some (.lst xs)) (ha : Ev T te σ H0 (.ref p)) (k : ∀ H1, Ex T H0 H1 → Ex T H H1 → u D σ (upd H1 p (.lst xs.reverse))) : tSeq (tDrop (tBM0 K "list" rReverse te)) u D σ H := ha H e _ fun H1 e1 =>
  ⟨.inl ⟨rfl, xs, .inl (.inl (e1.at hl))⟩, p, xs, rfl, rfl, e1.at hl, k H1 (e.trans e1) e1⟩
theorem BWf.mk0 (n1 : 1 ≤ rs.length) (n60 : rs.length ≤ 60) (hr : Rks rs) (hp : ∀ i ∈ ps, inR rs i) (hn : Nst rs ps) (he : okBar e) : BWf (.mk0 rs as qs ps e) := ⟨n1, n60, hr, marks_len, marks_len, hp, hn, he, fun p h => by cases h⟩
end
end Fp

namespace Fp
open PySem PySem.Spec PyProof.Rows L2 LamX
def sp_l_drawn (_K : PySem.W.Frag) (T : List (Addr × Str)) : Sp := fun vs H Q _ => ∃ c, ∃ n : Nat, vs = [.int c, .int n] ∧ 1 ≤ n ∧ ∀ i H', Ex T H H' → 0 ≤ i ∧ i < (n : Int) → Q (.int i) H'
def sp_l_top (K : PySem.W.Frag) (T : List (Addr × Str)) : Sp := fun vs H Q _ => ∃ p ns, vs = [.ref p] ∧ SqL K H p (List.map V.int ns) ∧ (H p = some (.lst (List.map V.int ns))) ∧ ∀ H', Ex T H H' → Q (oI (List.getLast? ns)) H'
def sp_l_same (_K : PySem.W.Frag) (T : List (Addr × Str)) : Sp := fun vs H Q _ => ∃ a b : Option Int, vs = [oI a, oI b] ∧ ∀ H', Ex T H H' → Q (.bl (decide (a = b))) H'
theorem len_l_drawn {K : PySem.W.Frag} {T : List (Addr × Str)} : ∀ vs H Q E, sp_l_drawn K T vs H Q E → vs.length = 2 := fun vs H Q E h => by
  obtain ⟨_, _, rfl, _⟩ := h
  exact rfl
theorem len_l_top {K : PySem.W.Frag} {T : List (Addr × Str)} : ∀ vs H Q E, sp_l_top K T vs H Q E → vs.length = 1 := fun vs H Q E h => by
  obtain ⟨_, _, rfl, _⟩ := h
  exact rfl
theorem len_l_same {K : PySem.W.Frag} {T : List (Addr × Str)} : ∀ vs H Q E, sp_l_same K T vs H Q E → vs.length = 2 := fun vs H Q E h => by
  obtain ⟨_, _, rfl, _⟩ := h
  exact rfl
section
variable {K : PySem.W.Frag} {T : List (Addr × Str)} {H : Hp} {Q : VK} {E : XK} {vs : List V}
theorem v_drawn {c : Int} {n : Nat} (hn : 1 ≤ n) : SpR T (sp_l_drawn K T) [.int c, .int n] H (fun _ v _ => ∃ i : Int, v = .int i ∧ 0 ≤ i ∧ i < (n : Int)) := fun H1 e Q q E => ⟨c, n, rfl, hn, fun i H' e' hi => q _ H' e' ⟨i, rfl, hi⟩⟩
theorem v_top {p : Addr} {ns : List Int} (hp : H p = some (.lst (ns.map V.int))) : SpV T (sp_l_top K T) [.ref p] H (oI ns.getLast?) := fun H1 e Q q E => ⟨p, ns, rfl, .inl (.inl (e.at hp)), e.at hp, q⟩
theorem v_same {a b : Option Int} : SpV T (sp_l_same K T) [oI a, oI b] H (.bl (decide (a = b))) := fun H1 e Q q E => ⟨a, b, rfl, q⟩
end
def r_l_drawn (K : PySem.W.Frag) (T : List (Addr × Str)) : TS :=
  (tSeq (tAsg (tOp oMod (tOp oMul (tOp oAdd (tOp oMod (tVar 0) (tC (.int 1000003))) (tC (.int 1))) (tC (.int 48271))) (tC (.int 2147483629))) (gName 2))
  (tRet (tOp oMod (tOp oMod (tOp oMul (tVar 2) (tVar 2)) (tC (.int 2147483587))) (tVar 1))))
def r_l_top (K : PySem.W.Frag) (T : List (Addr × Str)) : TS :=
  (tSeq (tIfS (tTest (tOp (rEqD K) (tVar 0) (tLst tNil))) (tRet (tC .non)) tNext)
  (tRet (tOp (rIxL K) (tVar 0) (tUn (rU fun i => .int (-i)) (tC (.int 1))))))
def r_l_same (K : PySem.W.Frag) (T : List (Addr × Str)) : TS :=
  (tSeq (tIfS (tTest (tOp oIsN (tVar 1) (tC .non))) (tRet (tOp oIsN (tVar 0) (tC .non))) tNext)
  (tRet (tAndV (tCall (sp_l_whole K T) [] E0 (tCons (tVar 0) tNil)) (tOp rEq (tVar 0) (tVar 1)))))
section
variable {K : PySem.W.Frag} {T : List (Addr × Str)} {H H0 : Hp} {Q : VK} {E : XK} {vs : List V}
theorem p_l_drawn (h : sp_l_drawn K T vs H Q E) : r_l_drawn K T { nx := fun _ H' => Q .non H', rt := Q } (start ["_law_cell", "_law_many", "_law_number"] vs) H := by
  obtain ⟨c, n, rfl, hn, q⟩ := h
  unfold r_l_drawn
  refine q_asg (Mv.of T H) (by walk_at "ev") rfl fun H2 e2 _ => ?_
  generalize hm : (c % 1000003 + 1) * 48271 % 2147483629 = m
  have hb : 0 ≤ m ∧ m < 2147483629 := by rw [← hm]; exact ⟨Int.emod_nonneg _ (by decide), Int.emod_lt_of_pos _ (by decide)⟩
  have hn' : (0 : Int) < n := by omega
  exact s_ret e2 (by walk_at "ev") fun H3 e3 => q _ H3 e3 ⟨Int.emod_nonneg _ (Int.ne_of_gt hn'), Int.emod_lt_of_pos _ hn'⟩
theorem p_l_top (h : sp_l_top K T vs H Q E) : r_l_top K T { nx := fun _ H' => Q .non H', rt := Q } (start ["_law_pile"] vs) H := by
  obtain ⟨p, ns, rfl, hp, hp', k⟩ := h
  unfold r_l_top
  refine q_if (b := decide (ns = [])) (Mv.of T H) (et_test (ev_opVL (by walk_at "ev") (el_lst ea_nil (by decide)) fun q H1 hq e => rv_eqDI (dp_n (e.at hp')) (dp_n (ns := []) hq))) (fun hb H1 e _ => ?_) (fun hb H1 e _ => nextI ?_)
  · have z := of_decide_eq_true hb
    rw [z] at k
    exact s_ret e (ev_is (by walk_at "ev") (by rfl)) k
  · have z := of_decide_eq_false hb
    dsimp only
    obtain ⟨j, hj, _⟩ := last_of z
    rw [hj] at k
    exact s_ret e (ev_op (by walk_at "ev") (ev_neg ev_c) (rv_ixL hp (ix_neg (by rw [List.getLast?_map, hj]; rfl)))) k
theorem p_l_same (h : sp_l_same K T vs H Q E) : r_l_same K T { nx := fun _ H' => Q .non H', rt := Q } (start ["_law_found", "_law_due"] vs) H := by
  obtain ⟨a, b, rfl, k⟩ := h
  unfold r_l_same
  cases b with
  | none =>
    refine q_if (b := true) (Mv.of T H) (et_is (et_test (ev_op (ev_var (v := .non) rfl) ev_c rv_isN)) (by simp)) (fun _ H1 e _ => ?_) (fun z => nomatch z)
    exact s_ret e (ev_is (ev_op (ev_var (v := oI a) rfl) ev_c rv_isN) (by cases a <;> simp [oI])) k
  | some j =>
    refine q_if (b := false) (Mv.of T H) (et_is (et_test (ev_op (ev_var (v := .int j) rfl) ev_c rv_isN)) (by simp)) (fun z => nomatch z) (fun _ H1 e _ => nextI ?_)
    dsimp only
    cases a with
    | none => exact s_ret e (ev_is (ev_and (a := false) (b := true) (ev_call0 (ea_cons (ev_var (v := .non) rfl) ea_nil) (v_whole (x := .non) (by simp [kd]))) fun z => nomatch z) (by simp)) k
    | some i => exact s_ret e (ev_is (ev_and (ev_call0 (ea_cons (ev_var (v := .int i) rfl) ea_nil) (v_wholeI (i := i))) fun _ => ev_op (ev_var (v := .int i) rfl) (ev_var (v := .int j) rfl) rv_eqI) (by simp)) k
end
end Fp

namespace Fp
open PySem PySem.Spec PyProof.Rows L2 LamX
/-! ### boards and rows: what the laws' walks share -/
/-- the best line of a wide board -/
def BSt.bestW (s : BSt) : Option Int := fstOf s.ranks (linesW s.ranks.length s.ready)
def BSt.flag (s : BSt) (w : Int) (i : Int) : BSt := if w = 0 then s.ring i else if w = 1 then s.calm i else if w = 2 then s.mute i else s.free i
def BSt.rows (s : BSt) (w i : Int) : BSt := if w > 1 then s.hush i (decide (w % 2 = 0)) else s.ask i (decide (w % 2 = 0))
section
variable {T : List (Addr × Str)} {K : PySem.W.Frag} {H H0 : Hp} {n : Nat} {b : Int → Bool} {s : BSt} {i w : Int}
theorem linesW_succ {n : Nat} {b : Int → Bool} : linesW (n + 1) b = linesW n b ++ if b (n : Int) = true then [(n : Int)] else [] := by
  unfold linesW
  rw [List.range_succ, List.filter_append, List.map_append]
  congr 1
  cases h : b (n : Int) <;> simp [h]
theorem fst_last {rs ls : List Int} {z : Int} : fstOf rs (ls ++ [z]) = fstStep rs (fstOf rs ls) z := by
  unfold fstOf
  rw [List.foldl_append]
  rfl
theorem rc_int1 {b : Bool} : RC T rInt1 [.bl b] H (.int (if b then 1 else 0)) := fun H1 _ _ q => .inr ⟨b, rfl, q H1 Mv.refl⟩
theorem set_same {bs : List Bool} {i : Int} {b : Bool} (h0 : 0 ≤ i) (h1 : i < bs.length) (h : fl bs i = b) : bs.set i.toNat b = bs := by
  unfold fl at h
  rw [List.getD_eq_getElem?_getD, List.getElem?_eq_getElem (by omega)] at h
  have h : bs[i.toNat] = b := h
  rw [← h, List.set_getElem_self]
theorem ask_same {s : BSt} {i : Int} {b : Bool} (h0 : 0 ≤ i) (h1 : i < s.asking.length) (h : fl s.asking i = b) : s.ask i b = s := by unfold BSt.ask; rw [set_same h0 h1 h]
theorem hush_same {s : BSt} {i : Int} {b : Bool} (h0 : 0 ≤ i) (h1 : i < s.quiet.length) (h : fl s.quiet i = b) : s.hush i b = s := by unfold BSt.hush; rw [set_same h0 h1 h]
theorem enters_none {s : BSt} {i : Int} (h : s.pegs = none) : s.enters i = s := by unfold BSt.enters; rw [h]; cases s; cases h; rfl
theorem leaves_none {s : BSt} {i : Int} (h : s.pegs = none) : s.leaves i = s := by unfold BSt.leaves; rw [h]; cases s; cases h; rfl
theorem flag_rows {s : BSt} (wf : BWf s) (hp : s.pegs = none) {w i : Int} (hi : inR s.ranks i) (h0 : 0 ≤ w) (h3 : w ≤ 3) : s.flag w i = s.rows w i := by
  have ia : i < s.asking.length := by rw [wf.la]; exact hi.2
  have iq : i < s.quiet.length := by rw [wf.lq]; exact hi.2
  have pa : ∀ b, (s.ask i b).pegs = none := fun _ => hp
  have ph : ∀ b, (s.hush i b).pegs = none := fun _ => hp
  have : w = 0 ∨ w = 1 ∨ w = 2 ∨ w = 3 := by omega
  rcases this with rfl | rfl | rfl | rfl
  · show s.ring i = s.ask i true
    unfold BSt.ring
    split
    · rename_i h; exact (ask_same hi.1 ia h).symm
    · split
      · rfl
      · exact enters_none (pa _)
  · show s.calm i = s.ask i false
    unfold BSt.calm
    split
    · split
      · rfl
      · exact leaves_none (pa _)
    · rename_i h; exact (ask_same hi.1 ia (by simpa using h)).symm
  · show s.mute i = s.hush i true
    unfold BSt.mute
    split
    · rename_i h; exact (hush_same hi.1 iq h).symm
    · split
      · exact leaves_none (ph _)
      · rfl
  · show s.free i = s.hush i false
    unfold BSt.free
    split
    · split
      · exact enters_none (ph _)
      · rfl
    · rename_i h; exact (hush_same hi.1 iq (by simpa using h)).symm
theorem BWf.flag {s : BSt} (wf : BWf s) {w i : Int} (hi : inR s.ranks i) : BWf (s.flag w i) := by
  unfold BSt.flag
  split
  · exact wf.ring hi
  · split
    · exact wf.calm hi
    · split
      · exact wf.mute hi
      · exact wf.free hi
/-- return f(o.m(..), e), where m changes things -/
theorem s_retMeth2 {σ : L2.St} {D : Ends} {ta t2 : TE} {t : TA} {sp sp1 : Sp} {E E1 : XK} {C a dx : Addr} {m : Str} {fs : List (Str × V)} {vs ws dvs : List V} (e : Ex T H0 H) (ho : Ev T ta σ H0 (.ref a)) (ha : H a = some (.ins C dx fs)) (l : fs.lookup m = none) (h : EvA T t σ H0 vs) (hw : .ref a :: (vs ++ dvs) = ws)
    (k : ∀ H1, Ex T H0 H1 → Ex T H H1 → sp1 ws H1 (fun v H' => t2 σ H' fun y H'' => sp [v, y] H'' D.rt E) E1) : tRet (tCall sp [] E (tCons (tMeth C m sp1 dvs E1 ta t) (tCons t2 tNil))) D σ H :=
  ho H e _ fun H2 e2 => ⟨a, dx, fs, rfl, e2.at ha, l, h H2 (e.trans e2) _ fun H3 e3 => by
    rw [hw]
    exact k H3 ((e.trans e2).trans e3) (e2.trans e3)⟩
theorem best_none {s : BSt} (h : s.pegs = none) : s.best = s.bestW := by unfold BSt.best BSt.bestW; rw [h]
theorem take_rp : s.take.ranks = s.ranks ∧ (s.pegs = none → s.take.pegs = none) := by
  unfold BSt.take
  cases s.best with
  | none => exact ⟨rfl, id⟩
  | some j => exact ⟨rfl, fun h => by show (s.pegs.map _) = none; rw [h]; rfl⟩
theorem flag_rp : (s.flag w i).ranks = s.ranks ∧ (s.pegs = none → (s.flag w i).pegs = none) := by
  have en : ∀ (t : BSt) (j : Int), (t.enters j).ranks = t.ranks ∧ (t.pegs = none → (t.enters j).pegs = none) := fun t j => ⟨rfl, fun h => by show (t.pegs.map _) = none; rw [h]; rfl⟩
  have lv : ∀ (t : BSt) (j : Int), (t.leaves j).ranks = t.ranks ∧ (t.pegs = none → (t.leaves j).pegs = none) := fun t j => ⟨rfl, fun h => by show (t.pegs.map _) = none; rw [h]; rfl⟩
  unfold BSt.flag BSt.ring BSt.calm BSt.mute BSt.free
  repeat' split
  all_goals first | exact ⟨rfl, id⟩ | exact en _ _ | exact lv _ _
theorem s_retCall {σ : L2.St} {D : Ends} {t : TA} {sp : Sp} {E : XK} {vs : List V} (e : Ex T H0 H) (h : EvA T t σ H0 vs) (k : ∀ H1, Ex T H0 H1 → Ex T H H1 → sp vs H1 D.rt E) : tRet (tCall sp [] E t) D σ H := h H e _ fun H2 e2 => by
  rw [List.append_nil]
  exact k H2 (e.trans e2) e2
theorem q_asgPop {σ : L2.St} {D : Ends} {u : TS} {ta : TE} {l : Addr} {xs : List V} {y : V} {j : Nat} (e : Ex T H0 H) (hl : H l = some (.lst xs)) (ha : Ev T ta σ H0 (.ref l)) (hy : xs.getLast? = some y) (k : ∀ H1, Ex T H0 H1 → Ex T H H1 → u D (σ.set j (some y)) (upd H1 l (.lst xs.dropLast))) : tSeq (tAsg (tBM0 K "list" rPop ta) (gName j)) u D σ H := ha H e _ fun H1 e1 =>
  ⟨.inl ⟨rfl, xs, .inl (.inl (e1.at hl))⟩, l, xs, y, rfl, rfl, e1.at hl, by rw [← List.getLast?_eq_getElem?]; exact hy, k H1 (e.trans e1) e1⟩
theorem okBar_isBr {e : Option Int} (h : okBar e) : isBr (oI e) = true := by
  cases e with
  | none => rfl
  | some j =>
    have := h j rfl
    simp [oI, isBr, this.1, this.2]
theorem linesW_map : ((List.range n).filter fun z : Nat => b (z : Int)).map (fun z : Nat => V.int (z : Int)) = (linesW n b).map V.int := by unfold linesW; rw [List.map_map]; rfl
theorem q_appR {σ : L2.St} {D : Ends} {u : TS} {ta te : TE} {R : Hp → V → Hp → Prop} {l : Addr} {xs : List V} (e : Ex T H0 H) (hl : H l = some (.lst xs)) (ha : Ev T ta σ H0 (.ref l)) (h : EvR T te σ H0 R) (hz : xs.length < 100000) (k : ∀ w H1 H2, Ex T H0 H1 → Ex T H H1 → Ex T H1 H2 → R H1 w H2 → u D σ (upd H2 l (.lst (xs ++ [w])))) : tSeq (tDrop (tBM K "list" rAppend ta (tCons te tNil))) u D σ H := s_appR (D := { D with nx := u D }) e hl ha h hz k
theorem q_forR {σ : L2.St} {D : Ends} {u tu : TS} {ta : TA} {j : Nat} {n : Int} (e : Ex T H0 H) (h : EvA T ta σ H0 [.int n]) (hn : -100000 ≤ n ∧ n ≤ 100000) (Pv : Nat → L2.St → Hp → Prop) (h0 : ∀ H1, Ex T H0 H1 → Ex T H H1 → Pv 0 σ H1)
    (hs : ∀ (i : Nat) σ' H', (i : Int) < n → Pv i σ' H' → tu { D with nx := Pv (i + 1), ct := Pv (i + 1), bk := u D } (σ'.set j (some (.int (i : Int)))) H') (hd : ∀ σ' H', Pv n.toNat σ' H' → u D σ' H') : tSeq (tFor (iRng1 ta) (gName j) tu) u D σ H := s_forR (D := { D with nx := u D }) e h hn Pv h0 hs hd
theorem BWf.pile_len {s : BSt} (wf : BWf s) : s.pile.length ≤ 60 := by
  have nd : s.pile.Nodup := wf.pn.imp fun {x y} h e => by subst e; omega
  have l := Lns.len (n := s.ranks.length) (ls := s.pile) ⟨nd, wf.pl⟩
  have := wf.n60
  omega
theorem rep_flags {n : Nat} : (List.replicate ((n : Int).toNat) [V.bl false]).flatten = (List.replicate n false).map V.bl := by
  rw [Int.toNat_natCast, List.map_replicate]
  induction n with
  | zero => rfl
  | succ n ih => rw [List.replicate_succ, List.flatten_cons, ih, List.replicate_succ]; rfl
theorem cellsOf (ns : List Int) : ∃ cs : List Int, cutV (ns.map V.int) (some 2) (some 62) = cs.map V.int ∧ cs.length ≤ 60 := by
  obtain ⟨cs, hcs, hcl⟩ := cutV_ints ns (some 2) (some 62)
  refine ⟨cs, hcs, Nat.le_trans hcl ?_⟩
  rw [show HT.sIx ns.length ns.length (some 62) = min 62 ns.length from HT.sIx_nat _ _ 62, show HT.sIx ns.length 0 (some 2) = min 2 ns.length from HT.sIx_nat _ _ 2]
  omega
end
end Fp

namespace Fp
open PySem PySem.Spec PyProof.Rows L2 LamX
/-! ### a board and one more claim, carried on from H to H' -/
structure Gw (T : List (Addr × Str)) (K : PySem.W.Frag) (c : Str) (H H' : Hp) (a : Addr) (s : BSt) (S S' : Addr → Prop) (P : HS T) (S2 : Addr → Prop) : Prop where
  m : Mv T (fun x => S x ∨ S2 x) H H'
  O : BrdO K c H' a s S'
  n : ∀ x, S' x → S x ∨ nod H x
  R : P.P H' S2
  dj : ∀ x, S x → ¬ S2 x
  lv : ∀ x, S2 x → ¬ nod H x
section
variable {T : List (Addr × Str)} {K : PySem.W.Frag} {c : Str} {H H' H2 : Hp} {a : Addr} {s s2 : BSt} {S S' S3 S2 : Addr → Prop} {P P2 : HS T}
theorem Gw.of (O : BrdO K c H a s S) (R : P.P H S2) (dj : ∀ x, S x → ¬ S2 x) (lv : ∀ x, S2 x → ¬ nod H x) : Gw T K c H H a s S S P S2 := ⟨Mv.refl, O, fun _ h => .inl h, R, dj, lv⟩
theorem Gw.dj' (g : Gw T K c H H' a s S S' P S2) : ∀ x, S' x → ¬ S2 x := fun x h => (g.n x h).elim (g.dj x) fun w z => g.lv x z w
theorem Gw.lv' (g : Gw T K c H H' a s S S' P S2) : ∀ x, S2 x → ¬ nod H' x := fun x h w => g.lv x h (g.m.dm x w)
theorem Gw.tb (g : Gw T K c H H' a s S S' P S2) (t : Tabs T H) : Tabs T H' := g.m.tb t
theorem Gw.ex (g : Gw T K c H H' a s S S' P S2) (e : Ex T H' H2) : Gw T K c H H2 a s S S' P S2 := ⟨g.m.trans e.mv, g.O.ex' e, g.n, P.st g.R e (fun _ _ z => z) fun _ h _ => h, g.dj, g.lv⟩
/-- both may change -/
theorem Gw.both (g : Gw T K c H H' a s S S' P S2) (m : Mv T (fun x => S' x ∨ S2 x) H' H2) (O : BrdO K c H2 a s2 S3) (n : ∀ x, S3 x → S' x ∨ nod H' x) (R : P2.P H2 S2) : Gw T K c H H2 a s2 S S3 P2 S2 :=
  ⟨g.m.seq m fun x h => h.elim (fun h => (g.n x h).imp .inl id) fun h => .inl (.inr h), O, fun x h => (n x h).elim (g.n x) fun w => .inr (g.m.dm x w), R, g.dj, g.lv⟩
/-- the board is changed -/
theorem Gw.brd (g : Gw T K c H H' a s S S' P S2) (m : Mv T S' H' H2) (O : BrdO K c H2 a s2 S3) (n : ∀ x, S3 x → S' x ∨ nod H' x) : Gw T K c H H2 a s2 S S3 P S2 :=
  g.both (m.wk fun _ h => .inl h) O n (P.st g.R m (fun x h z => g.dj' x z h) fun _ h _ => h)
/-- the other claim is changed, in its own places -/
theorem Gw.row (g : Gw T K c H H' a s S S' P S2) (m : Mv T S2 H' H2) (R : P2.P H2 S2) : Gw T K c H H2 a s S S' P2 S2 :=
  g.both (m.wk fun _ h => .inr h) (g.O.go m (fun x h z => g.dj' x h z) fun _ h _ => h) (fun _ h => .inl h) R
theorem Gw.row1 {p : Addr} {o u : HO} (g : Gw T K c H H' a s S S' P S2) (hp : S2 p) (h : H' p = some u) (R : P2.P (upd H' p o) S2) (du : dat u = true := by rfl) (dn : dat o = true := by rfl) : Gw T K c H (upd H' p o) a s S S' P2 S2 :=
  g.row ((Mv.set1 h du dn).wk fun x e => by rw [e]; exact hp) R
/-- a board's methods, as statements and in what is returned -/
theorem Gw.trans {S4 : Addr → Prop} (g : Gw T K c H H' a s S S' P S2) (g2 : Gw T K c H' H2 a s2 S' S4 P2 S2) : Gw T K c H H2 a s2 S S4 P2 S2 := g.both g2.m g2.O g2.n g2.R
end
section
variable {T : List (Addr × Str)} {σ : L2.St} {H : Hp} {t : TA} {sp : Sp} {E : L2.St → XK} {vs : List V} {Q : VK}
theorem w_callS (h : EvA T t σ H vs) (k : ∀ H1, Ex T H H1 → sp vs H1 Q (E σ)) : tCallS sp E t σ H Q := h H Mv.refl _ k
variable {H0 : Hp} {C a dx : Addr} {m : Str} {fs : List (Str × V)} {dvs ws : List V} {E1 : XK} {ta : TE} {D : Ends} {u : TS}
theorem q_asgMeth {i : Nat} (e : Ex T H0 H) (ho : Ev T ta σ H0 (.ref a)) (ha : H a = some (.ins C dx fs)) (l : fs.lookup m = none) (h : EvA T t σ H0 vs) (hw : .ref a :: (vs ++ dvs) = ws) (k : ∀ H1, Ex T H0 H1 → Ex T H H1 → sp ws H1 (fun v H' => u D (σ.set i (some v)) H') E1) : tSeq (tAsg (tMeth C m sp dvs E1 ta t) (gName i)) u D σ H := s_asgMeth (D := { D with nx := u D }) e ho ha l h hw k
theorem q_asgCall {i : Nat} (e : Ex T H0 H) (h : EvA T t σ H0 vs) (k : ∀ H1, Ex T H0 H1 → Ex T H H1 → sp vs H1 (fun v H' => u D (σ.set i (some v)) H') E1) : tSeq (tAsg (tCall sp [] E1 t) (gName i)) u D σ H := h H e _ fun H2 e2 => by
  rw [List.append_nil]
  exact k H2 (e.trans e2) e2
theorem q_ifAndCall {tc : TT} {tu tw : TS} (hc : EvT T tc σ H true) (h : EvA T t σ H vs) (k : ∀ H1, Ex T H H1 → sp vs H1 (fun v H' => ∃ b, v = .bl b ∧ if (!b) = true then tu { D with nx := u D } σ H' else tw { D with nx := u D } σ H') E1) : tSeq (tIfS (tAnd tc (tNot (tB (tCall sp [] E1 t)))) tu tw) u D σ H := hc H Mv.refl _ fun H1 e1 => h H1 e1 _ fun H2 e2 => by
  rw [List.append_nil]
  exact k H2 (e1.trans e2)
theorem s_ifOrCall {tc : TT} {tu tw : TS} (h : EvA T t σ H vs) (k : ∀ H1, Ex T H H1 → sp vs H1 (fun v H' => ∃ b, v = .bl b ∧ if (!b) = true then tu D σ H' else tIfS tc tu tw D σ H') E1) : tIfS (tOr (tNot (tB (tCall sp [] E1 t))) tc) tu tw D σ H := h H Mv.refl _ fun H2 e2 => by
  rw [List.append_nil]
  exact k H2 e2
theorem s_ifCall {tu tw : TS} (h : EvA T t σ H vs) (k : ∀ H1, Ex T H H1 → sp vs H1 (fun v H' => ∃ b, v = .bl b ∧ if (!b) = true then tu D σ H' else tw D σ H') E1) : tIfS (tNot (tB (tCall sp [] E1 t))) tu tw D σ H := h H Mv.refl _ fun H2 e2 => by
  rw [List.append_nil]
  exact k H2 e2
theorem s_retAndCall {tb : TE} (h : EvA T t σ H vs) (k : ∀ H1, Ex T H H1 → sp vs H1 (fun v H' => ∃ b, v = .bl b ∧ if b = true then tb σ H' D.rt else D.rt (.bl false) H') E1) : tRet (tAndV (tCall sp [] E1 t) tb) D σ H := h H Mv.refl _ fun H2 e2 => by
  rw [List.append_nil]
  exact k H2 e2
theorem q_while {c : TT} {tb : TS} (Wv : Nat → L2.St → Hp → Prop) (h0 : ∃ m, Wv m σ H) (hs : ∀ m σ' H', Wv m σ' H' → ∃ b, EvT T c σ' H' b ∧ (b = true → ∀ H1, Ex T H' H1 → tb { D with nx := fun σ2 H2 => ∃ m', m' < m ∧ Wv m' σ2 H2, ct := fun σ2 H2 => ∃ m', m' < m ∧ Wv m' σ2 H2, bk := u D } σ' H1) ∧ (b = false → ∀ H1, Ex T H' H1 → u D σ' H1)) : tSeq (tWhile c tb) u D σ H :=
  ⟨Wv, h0, fun m σ' H' w => by
    obtain ⟨b, h1, h2, h3⟩ := hs m σ' H' w
    refine h1 H' Mv.refl _ fun H1 e1 => ?_
    cases b with
    | true => exact ⟨_, fun _ _ z => z, h2 rfl H1 e1⟩
    | false => exact h3 rfl H1 e1⟩
/-- two new lists and a thing in a new list -/
theorem er_trip1 {t1 t2 t3 : TE} {xs ys : List V} {z : V} (h1 : EvL T t1 σ H xs) (h2 : EvL T t2 σ H ys) (h3 : Ev T t3 σ H z) : EvR T (tLst (tCons t1 (tCons t2 (tCons t3 tNil)))) σ H (fun H1 v H2 => ∃ p a b, v = .ref p ∧ H2 p = some (.lst [.ref a, .ref b, z]) ∧ H2 a = some (.lst xs) ∧ H2 b = some (.lst ys)) := fun H1 e Q q =>
  h1 H1 e _ fun v H2 e2 ⟨a, ea, _, ha⟩ => by
    subst ea
    exact h2 H2 (e.trans e2) _ fun w H3 e3 ⟨b, eb, _, hb⟩ => by
      subst eb
      refine h3 H3 ((e.trans e2).trans e3) _ fun H4 e4 => ⟨sz (by simp), fun p hp => ?_⟩
      have e5 : Ex T H4 (upd H4 p (.lst [.ref a, .ref b, z])) := Mv.new hp
      exact q _ _ (((e2.trans e3).trans e4).trans e5) ⟨p, a, b, rfl, upd_same, e5.at (e4.at (e3.at ha)), e5.at (e4.at hb)⟩
/-- a list of two things, each told by a relation -/
theorem er_pairG {t1 t2 : TE} {R1 R2 : Hp → V → Hp → Prop} (h1 : EvR T t1 σ H R1) (h2 : ∀ H1, Ex T H H1 → EvR T t2 σ H1 R2) : EvR T (tLst (tCons t1 (tCons t2 tNil))) σ H (fun H1 v H4 => ∃ p x y H2 H3, v = .ref p ∧ Ex T H1 H2 ∧ R1 H1 x H2 ∧ Ex T H2 H3 ∧ R2 H2 y H3 ∧ Ex T H3 H4 ∧ nod H3 p ∧ H4 p = some (.lst [x, y])) := fun H1 e Q q =>
  h1 H1 e _ fun x H2 e2 r1 => h2 H2 (e.trans e2) H2 Mv.refl _ fun y H3 e3 r2 => ⟨sz (by simp), fun p hp => q _ _ ((e2.trans e3).trans (Mv.new hp)) ⟨p, x, y, H2, H3, rfl, e2, r1, e3, r2, Mv.new hp, .of hp, upd_same⟩⟩
/-- two things and one told by a relation, as arguments -/
theorem ear_3 {t1 t2 t3 : TE} {x y : V} {P : V → Hp → Prop} (h1 : Ev T t1 σ H x) (h2 : Ev T t2 σ H y) (h3 : EvR T t3 σ H fun _ v H2 => P v H2) : EvAR T (tCons t1 (tCons t2 (tCons t3 tNil))) σ H (fun _ vs H2 => ∃ v, vs = [x, y, v] ∧ P v H2) := fun H1 e Q q =>
  h1 H1 e _ fun H2 e2 => h2 H2 (e.trans e2) _ fun H3 e3 => h3 H3 ((e.trans e2).trans e3) _ fun v H4 e4 r => q _ H4 ((e2.trans e3).trans e4) ⟨v, rfl, r⟩
theorem s_ifCallR {tu tw : TS} {RA : Hp → List V → Hp → Prop} (h : EvAR T t σ H RA) (k : ∀ ws H1, Ex T H H1 → RA H ws H1 → sp ws H1 (fun v H' => ∃ b, v = .bl b ∧ if (!b) = true then tu D σ H' else tw D σ H') E1) : tIfS (tNot (tB (tCall sp [] E1 t))) tu tw D σ H := h H Mv.refl _ fun ws H2 e2 r => by
  rw [List.append_nil]
  exact k ws H2 e2 r
/-- xs.insert(i, y) -/
theorem q_ins {tl ti tv : TE} {K : PySem.W.Frag} {l : Addr} {xs : List V} {i : Int} {y : V} (hl : H l = some (.lst xs)) (ha : Ev T tl σ H (.ref l)) (hi : Ev T ti σ H (.int i)) (hv : Ev T tv σ H y) (hz : xs.length < 100000) (h0 : 0 ≤ i) (h1 : i < 2 ^ 63) (k : ∀ H1, Ex T H H1 → u D σ (upd H1 l (.lst (xs.take i.toNat ++ [y] ++ xs.drop i.toNat)))) :
    tSeq (tDrop (tBM K "list" rInsert tl (tCons ti (tCons tv tNil)))) u D σ H := ha H Mv.refl _ fun H1 e1 =>
  ⟨.inl ⟨rfl, xs, .inl (.inl (e1.at hl))⟩, hi H1 e1 _ fun H2 e2 => hv H2 (e1.trans e2) _ fun H3 e3 => ⟨l, xs, i, y, rfl, rfl, ((e1.trans e2).trans e3).at hl, szl hz, h0, h1, k H3 ((e1.trans e2).trans e3)⟩⟩
end
end Fp

namespace Fp
open PySem PySem.Spec PyProof.Rows L2 LamX
/-! ### a caught refusal asked for its class -/
def seven : List Str := ["NoPegs", "NoBoard", "NoPicture", "NoLine", "NoBar", "NotTop", "NoDeed"]
structure Xk (K : PySem.W.Frag) (d : Str) : Prop where
  exc : ExcC K (He.ga K d)
  exm : PySem.W.exmOne K (.ref (He.ga K d)) (.ref (He.ga K "BoardError")) = some true
  kit : ∀ c ∈ seven, PySem.W.kitOne K (.ref (He.ga K d)) (.ref (He.ga K c)) = some (decide (c = d))
  ve : PySem.W.kitOne K (.ref (He.ga K d)) (.type "ValueError") = some true
def excB (K : PySem.W.Frag) (D : Addr) : Bool := decide (PySem.W.findIn K (.ref D) "__getattribute__" = some (some (.builtin "BaseException.__getattribute__"))) && (decide (PySem.W.findIn K (.ref D) "__getattr__" = some none) && (decide (PySem.W.subIn K (.ref D) (.type "BaseException") = some true) && (PySem.W.hasDictIn K D && (decide (PySem.W.findIn K (.ref D) "__class__" = some (some (.builtin "object.__class__"))) && (decide (PySem.W.specialIn K (.builtin "object.__class__") "__get__" = some (some (.builtin "getset_descriptor.__get__"))) && (decide (PySem.W.takesIn K (.builtin "object.__class__") = some true) && decide (PySem.W.mroIn K D (.type "object") = some true)))))))
def xkB (K : PySem.W.Frag) (d : Str) : Bool := excB K (He.ga K d) && (decide (PySem.W.exmOne K (.ref (He.ga K d)) (.ref (He.ga K "BoardError")) = some true) && ((seven.all fun c => decide (PySem.W.kitOne K (.ref (He.ga K d)) (.ref (He.ga K c)) = some (decide (c = d)))) && decide (PySem.W.kitOne K (.ref (He.ga K d)) (.type "ValueError") = some true)))
theorem xkB_ok {K : PySem.W.Frag} {d : Str} (h : xkB K d = true) : Xk K d := by
  unfold xkB excB at h
  simp only [Bool.and_eq_true, decide_eq_true_eq, List.all_eq_true] at h
  obtain ⟨⟨h1, h2, h3, h4, h5, h6, h7, h8⟩, h9, h10, h11⟩ := h
  exact ⟨⟨h1, h2, h3, h4, h5, h6, h7, h8⟩, h9, h10, h11⟩
section
variable {T : List (Addr × Str)} {K : PySem.W.Frag} {σ : L2.St} {H H0 : Hp} {te ta tb : TE} {D : Ends} {a : Addr}
theorem rc_isE {D : Addr} {c : Addr} {b : Bool} (h : PySem.W.kitOne K (.ref D) (.ref c) = some b) : RC T (rIsE K D a) [.ref a, .ref c] H (.bl b) := fun H1 _ _ q => ⟨.ref c, .ref c, b, rfl, fun _ z => z, h, q H1 Mv.refl⟩
theorem rc_isVE {D : Addr} {b : Bool} (h : PySem.W.kitOne K (.ref D) (.type "ValueError") = some b) : RC T (rIsE K D a) [.ref a, .ty "ValueError"] H (.bl b) := fun H1 _ _ q => ⟨.ty "ValueError", .type "ValueError", b, rfl, fun _ z => z, h, q H1 Mv.refl⟩
/-- one of a list of things of all kinds -/
def KinOf : Kin → V → Prop
  | .v x, y => y = x
  | .k _, y => ∃ a, y = .ref a
theorem Ks.get2 {ks : List Kin} {ys : List V} (h : Ks H ks ys) {i : Nat} {z : Kin} (hz : ks[i]? = some z) : ∃ y, ys[i]? = some y ∧ kd H y ≠ "" ∧ KinOf z y := by
  induction ks generalizing ys i with
  | nil => cases hz
  | cons k ks ih =>
    cases ys with
    | nil => cases k <;> exact h.elim
    | cons y ys =>
      cases i with
      | zero =>
        obtain rfl := Option.some.inj hz
        cases k with
        | v x =>
          obtain ⟨rfl, h1, _⟩ := h
          exact ⟨_, rfl, h1, rfl⟩
        | k c =>
          obtain ⟨⟨a, rfl⟩, h1, h2, _⟩ := h
          exact ⟨_, rfl, by rw [h1]; exact h2, a, rfl⟩
      | succ i =>
        cases k with
        | v x => exact ih h.2.2 hz
        | k c => exact ih h.2.2.2 hz
theorem er_ixK {tl : TA} {ks : List Kin} {i : Int} {j : Nat} {z : Kin} (h : EvK T tl σ H ks) (hi : Ev T tb σ H (.int i)) (hl : ks.length ≤ 100000) (hj : i = j) (hz : ks[j]? = some z) : EvR T (tOp (rIxL K) (tLst tl) tb) σ H (fun _ v H2 => kd H2 v ≠ "" ∧ KinOf z v) := fun H1 e Q q =>
  er_lstK h hl H1 e _ fun v H2 e2 ⟨p, xs, ev, hk, hp⟩ => by
    subst ev
    refine hi H2 (e.trans e2) _ fun H3 e3 => ?_
    obtain ⟨y, hy, hky, hyz⟩ := (hk.ex e3).get2 hz
    exact ⟨p, xs, i, y, rfl, rfl, .inl (.inl (e3.at hp)), by rw [hj]; exact atI_nat hy, q y H3 (e2.trans e3) ⟨hky, hyz⟩⟩
theorem dp_bs : ∀ bs : List Bool, DpAll K H (bs.map V.bl) (bs.map PyData.bool)
  | [] => .nil
  | b :: bs => .cons (.bl b) (dp_bs bs)
end
end Fp

namespace Fp
open PySem PySem.Spec PyProof.Rows L2 LamX
/-! ### a caught refusal handed on to a def, asked for its class, read -/
/-- the own dict of an error, where it has one -/
def XdH (H : Hp) (d : Option Addr) : Prop := d = none ∨ ∃ dd fs, d = some dd ∧ H dd = some (.xd fs)
theorem XdH.ex {T : List (Addr × Str)} {H H' : Hp} {d : Option Addr} (h : XdH H d) (e : Ex T H H') : XdH H' d := h.imp id fun ⟨dd, fs, e1, e2⟩ => ⟨dd, fs, e1, e.at e2⟩
theorem inst_err {P : Program} {w : World} {H : Hp} {h : Heap} {a D : Addr} {d : Option Addr} {oe : Obj} (hok : HOk P w H h) (hget : h.get? a = some oe) (hz : Zc (.ref D) d oe) (hf : ∃ vs, oe.data = .fields vs) (hd : XdH H d) : ∃ od, PySem.W.InstAt h a oe D od := by
  obtain ⟨us, hv⟩ := hf
  obtain ⟨oc, od, oda, osl⟩ := oe
  obtain ⟨z1, z2⟩ := hz
  dsimp only at z1 z2 hv
  subst z1 z2 hv
  rcases hd with rfl | ⟨dd, fs, rfl, hdd⟩
  · exact ⟨none, hget, rfl, rfl, trivial⟩
  · obtain ⟨mA, ns, _⟩ := (show ObjOk P w H h dd (.xd fs) from hok dd _ hdd)
    obtain ⟨o, ho, _⟩ := lookIn_ns ns
    exact ⟨some o, hget, rfl, rfl, ho⟩
theorem kit_err {K : PySem.W.Frag} {D a : Addr} {oe : Obj} {od : Option Obj} (C : ExcC K D) : PySem.W.KitX K (.ref a) (.ref D) (fun h => PySem.W.InstAt h a oe D od) :=
  PySem.W.kitx_exc (by obtain ⟨cd, hc, _⟩ := PySem.W.any_some C.hd; rw [hc]; rfl) C.hg C.hk C.hs C.ha C.hn C.ht C.hm
/-- isinstance(e, c), e an error that is pinned -/
def rIsP (K : PySem.W.Frag) (D a : Addr) (d : Option Addr) : List V → Hp → VK → Prop := fun xs H Q => ∃ (c : V) (cv : Value) (b : Bool), xs = [.ref a, c] ∧ XdH H d ∧ (∀ u, RelV c u → u = cv) ∧ PySem.W.kitOne K (.ref D) cv = some b ∧ Q (.bl b) H
theorem call_isP {X : Cx} {a D : Addr} {oe : Obj} {d : Option Addr} (hp : (a, oe) ∈ X.pn) (C : ExcC X.K D) (hz : Zc (.ref D) d oe) (hf : ∃ vs, oe.data = .fields vs) : CallR X (.builtin "isinstance") (rIsP X.K D a d) := by
  intro pins s σ H xs us Q I r h
  obtain ⟨c, cv, b, rfl, xd, hcv, e, q⟩ := h
  match r with
  | .cons rx (.cons rt .nil) =>
    cases rx
    obtain rfl := hcv _ rt
    obtain ⟨od, J⟩ := inst_err I.hok (I.pin _ (List.mem_append_left _ hp)).1 hz hf xd
    exact PySem.W.kia_one (kit_err C) I.kIn J e (fun z => nomatch z) fun tk => ⟨.bl b, H, I.kept (t' := tk) fun _ _ z => z, rfl, q⟩
section
variable {P : Program} {w : World} {K : PySem.W.Frag} {mg : Str → Option Value} {base : Heap}
/-- a def called with an error that is handled around it: it keeps the promise sp p, p the error's place and object -/
structure FnE (P : Program) (w : World) (K : PySem.W.Frag) (mg : Str → Option Value) (base : Heap) (k : Nat) (f : Addr) (fd : FuncData) (ps : List Str) (sp : Addr × Obj → Sp) : Prop where
  len : ∀ p vs H Q E, sp p vs H Q E → vs.length = ps.length
  run : ∀ (p : Addr × Obj) (A : Around) (out : List Env) (s : Shared) (H : Hp) (gs : Args) (us : List Value) (vs : List V) (Q : VK) (E : XK), L2H.RoomH k A → L2H.PinOk out H s p → Env0 P w K mg base A out s H → BindsTo s fd gs (ps.zip us) → Vals vs us → sp p vs H Q E → codeAny (model P w) A (.call (.ref f) gs) (CR CX0 out P w H s Q E) s
structure GdE (P : Program) (w : World) (K : PySem.W.Frag) (mg : Str → Option Value) (base : Heap) (k : Nat) (x : Str) (ps : List Str) (sp : Addr × Obj → Sp) : Prop where
  ex : ∃ f fd, FnE P w K mg base k f fd ps sp ∧ mg x = some (.ref f) ∧ PySem.W.keepIn K (.ref f) = true ∧ L2.Binds K fd ps []
theorem Df.okE {x : Str} {st : Stmt} {N ps : List Str} {k : Nat} {sp : Addr × Obj → Sp} (D : Df K mg x st) (S : FnScope N ps (defScope st)) (ln : ∀ p vs H Q E, sp p vs H Q E → vs.length = ps.length)
    (hb : ∀ (kV doc pm : Value) (an : Option Addr) (cdv ct : Value) (us : List Value), us.length = ps.length → bindArgs (PySem.W.fnOf x x (defArgs st) (defBody st) (defScope st) .none kV doc pm an cdv ct) ⟨us, []⟩ = pure (ps.zip us))
    (hbody : ∀ (p : Addr × Obj) (f : Addr) (cdv : Value) (A : Around) (out : List Env) (s : Shared) (H : Hp) (vs : List V) (Q : VK) (E : XK), L2H.RoomH k (A.deeper (envOfC x (defScope st) s.heap.objs.size f cdv)) → sp p vs H Q E →
      ∃ t, PSs (L2H.cxH CX0 P w K mg base N x (defScope st) f cdv A out s H E p) (defBody st) t ∧ t { nx := fun _ H' => Q .non H', rt := Q } (start N vs) H) : GdE P w K mg base (k + 1) x ps sp := by
  obtain ⟨f, fd, F, hm, _⟩ := D.ex
  refine ⟨f, fd, ?_, hm, F.kp, F.bindsN hb⟩
  obtain ⟨oc, od, dV, kV, doc, pm, an, cdv, ct, osl, rfl, lk, hcd, _, _⟩ := F.ex
  refine ⟨ln, fun p A out s H gs us vs Q E hr pin e0 bd rv hsp => ?_⟩
  have kin : K.In s.heap := e0.mod.kin.keeps fun b o z => (e0.bs b o z).1
  have nolim : s.heap.NoLimit := e0.mod.nolimit.keeps fun b o z => (e0.bs b o z).1
  refine codeAny_call_function hr.depth (kin _ _ lk) rfl S.co S.gen rfl (PySem.W.codeRec_of kin hcd) (bd _ _ _ _ (wpAny_newFunctionEnv_cells S.kind (fun y hy => ?_) fun env he s1 x => ?_))
  · obtain ⟨n, v⟩ := y
    exact (S.par n (List.of_mem_zip hy).1).imp id fun q => ⟨q, PySem.W.cellsFrom_some _ _ _ (.inl q)⟩
  · subst he
    obtain ⟨t, ht, hq⟩ := hbody p f cdv A out s H vs Q E (hr.deeper _) hsp
    have I := L2H.inv_startH (CX := CX0) (E := E) (f := f) S pin e0 (ln _ _ _ _ _ hsp) rv x
    refine ⟨nolim.keeps x.toInCall.keep, codeAny_func (wpAny_mono (ht.run [] s1 _ H _ I hq) (fun fl s' hs => ?_) fun _ _ z => z)⟩
    match fl, hs with
    | .ret u, ⟨v, _, H', J, r, q⟩ => exact ⟨v, H', J.os, J.bare, J.base, J.hok, r, q⟩
    | .next, ⟨_, H', J, q⟩ => exact ⟨.non, H', J.os, J.bare, J.base, J.hok, rfl, q⟩
    | .brk, ⟨_, _, _, q⟩ => exact q.elim
    | .cont, ⟨_, _, _, q⟩ => exact q.elim
/-- f(e), e the caught error of the suite -/
def tCallE (a : Addr) (cls : Value) (d : Option Addr) (sp : Addr × Obj → Sp) (te : TE) : TE := fun σ H Q => te σ H fun v H1 => v = .ref a ∧ ∀ oe, Zc cls d oe → (∃ vs, oe.data = .fields vs) → sp (a, oe) [.ref a] H1 Q E0
theorem pe_gE {X : Cx} {k : Nat} {x : Str} {ps : List Str} {sp : Addr × Obj → Sp} {a : Addr} {oe : Obj} {cls : Value} {d : Option Addr} {pn : List (Addr × Obj)} {te : TE} {p pos : Pos} {e : Expr} (G : GdE X.prog X.w X.K X.mg X.base k x ps sp) (hr : Room k X.A) (hg : Gl X x) (hz : Zc cls d oe) (hf : ∃ vs, oe.data = .fields vs) (he : PE (X.suite a ((a, oe) :: pn)) e te) (h0 : (x == ("__debug__" : Str)) = false := by decide)
    (h1 : starEach [e] X.env = (false, eval e X.env) :: starEach [] X.env := by rfl) (h2 : (backTo pos (starEach [] X.env)).any (·.1) = false := by rfl) : PE (X.suite a ((a, oe) :: pn)) (.Call (.Name x p) [e] [] pos) (tCallE a cls d sp te) := by
  obtain ⟨f, fd, F, g1, g2, g3⟩ := G.ex
  refine ⟨fun pins s σ H Q I h => wpAny_Call_Name_kw (ld_glob I hg g1 (PySem.W.callWith_K (h₀ := X.base) I.ok.mod.kin g2 (thn ((pa_cons (hs := h1) he pa_nil).run pos pins s σ H (fun vs H1 => match vs with
    | [v] => v = .ref a ∧ ∀ oe, Zc cls d oe → (∃ vs, oe.data = .fields vs) → sp (a, oe) [.ref a] H1 Q E0
    | _ => False) I h) fun us s1 ⟨vs, H1, I1, r, q3⟩ => ⟨I1.kIn, ?_⟩) h1 h2) h0)⟩
  match vs, r, q3 with
  | [_], r, ⟨rfl, q3⟩ =>
    have q := q3 oe hz hf
    have P1 := I1.pin (a, oe) (List.mem_append_left _ List.mem_cons_self)
    have n : us.length = ps.length := r.length.symm.trans (F.len _ _ _ _ _ q)
    have bd := g3 s1 us I1.kIn (by rw [List.append_nil]; exact n)
    rw [List.append_nil] at bd
    refine wpAny_call (codeAny_mono (F.run (a, oe) _ (X.suite a ((a, oe) :: pn)).stack s1 H1 ⟨us, []⟩ us [.ref a] Q E0 ⟨hr.dp, hr.un⟩ ⟨P1.1, P1.2.1, fun hm => (List.mem_cons.mp (I1.stkSub a hm)).elim P1.2.2.1 P1.2.2.2.1, P1.2.2.2.2⟩ I1.env0 bd r q) fun g s' z => ?_)
    match g, z with
    | .ok (.ret u), z => exact I1.after z
    | .error _, z => exact z.elim
    | .ok .next, z => exact z.elim
    | .ok .brk, z => exact z.elim
    | .ok .cont, z => exact z.elim
end
/-- what is to be known of an error's class, and which names are no attributes of it -/
structure ErrC (K : PySem.W.Frag) (D : Addr) (fs : List Str) : Prop where
  exc : ExcC K D
  xf : XfC K D
  no : ∀ f ∈ fs, PySem.W.findIn K (.ref D) f = some none
def eight : List Str := ["BoardError", "NoPegs", "NoBoard", "NoPicture", "NoLine", "NoBar", "NotTop", "NoDeed"]
def kb (c d : Str) : Bool := decide (c = d ∨ c = "BoardError")
/-- the class d asked among the classes cs -/
structure Xk2 (K : PySem.W.Frag) (cs : List Str) (d : Str) : Prop where
  err : ErrC K (He.ga K d) []
  exm : ∀ c ∈ cs, PySem.W.exmOne K (.ref (He.ga K d)) (.ref (He.ga K c)) = some (decide (c = d ∨ c = "BoardError"))
  kit : ∀ c ∈ cs, PySem.W.kitOne K (.ref (He.ga K d)) (.ref (He.ga K c)) = some (decide (c = d ∨ c = "BoardError"))
  ve : PySem.W.kitOne K (.ref (He.ga K d)) (.type "ValueError") = some true
def xk2B (K : PySem.W.Frag) (cs : List Str) (d : Str) : Bool := excB K (He.ga K d) && ((cs.all fun c => decide (PySem.W.exmOne K (.ref (He.ga K d)) (.ref (He.ga K c)) = some (decide (c = d ∨ c = "BoardError")))) && ((cs.all fun c => decide (PySem.W.kitOne K (.ref (He.ga K d)) (.ref (He.ga K c)) = some (decide (c = d ∨ c = "BoardError")))) && decide (PySem.W.kitOne K (.ref (He.ga K d)) (.type "ValueError") = some true)))
theorem xk2B_ok {K : PySem.W.Frag} {cs : List Str} {d : Str} (h : xk2B K cs d = true) : Xk2 K cs d := by
  unfold xk2B excB at h
  simp only [Bool.and_eq_true, decide_eq_true_eq, List.all_eq_true] at h
  obtain ⟨⟨h1, h2, h3, h4, h5, h6, h7, h8⟩, h9, h10, h11⟩ := h
  exact ⟨⟨⟨h1, h2, h3, h4, h5, h6, h7, h8⟩, ⟨h1, h2, h3, h4⟩, fun f hf => by cases hf⟩, h9, h10, h11⟩
section
variable {T : List (Addr × Str)} {K : PySem.W.Frag} {σ : L2.St} {H H0 : Hp} {te : TE} {a D c : Addr} {d : Option Addr} {b : Bool}
theorem rc_isP (hd : XdH H d) (h : PySem.W.kitOne K (.ref D) (.ref c) = some b) : RC T (rIsP K D a d) [.ref a, .ref c] H (.bl b) := fun H1 e _ q => ⟨.ref c, .ref c, b, rfl, hd.ex e, fun _ z => z, h, q H1 Mv.refl⟩
theorem rc_isPV (hd : XdH H d) (h : PySem.W.kitOne K (.ref D) (.type "ValueError") = some b) : RC T (rIsP K D a d) [.ref a, .ty "ValueError"] H (.bl b) := fun H1 e _ q => ⟨.ty "ValueError", .type "ValueError", b, rfl, hd.ex e, fun _ z => z, h, q H1 Mv.refl⟩
theorem ev_xf {dd : Addr} {fs : List (Str × V)} {f : Str} {v : V} (h : Ev T te σ H (.ref a)) (hd : H dd = some (.xd fs)) (l : fs.lookup f = some v) : Ev T (tXf a (.ref D) (some dd) D f te) σ H v := fun H1 e Q q =>
  h H1 e _ fun H2 e2 => ⟨rfl, rfl, dd, fs, v, rfl, (e.trans e2).at hd, l, q H2 e2⟩
end
end Fp

namespace Fp
open PySem PySem.Spec PyProof.Rows L2 LamX
/-! ### one of a written list -/
theorem pickI {ns : List Int} {c : Int} {P : Int → Prop} (h0 : 0 ≤ c) (h1 : c < ns.length) (h : ∀ z ∈ ns, P z) : ∃ w, atI (ns.map V.int) c = some (.int w) ∧ P w := by
  refine ⟨rk ns c, ix_int h0 h1, h _ ?_⟩
  exact rk_at h0 h1
theorem pickO {es : List (Option Int)} {c : Int} {P : Option Int → Prop} (h0 : 0 ≤ c) (h1 : c < es.length) (h : ∀ z ∈ es, P z) : ∃ w, atI (es.map oI) c = some (oI w) ∧ P w := by
  obtain ⟨m, rfl⟩ := Int.eq_ofNat_of_zero_le h0
  have hm : m < es.length := by omega
  refine ⟨es[m], atI_nat (by rw [List.getElem?_map, List.getElem?_eq_getElem hm]; rfl), h _ (List.getElem_mem hm)⟩
theorem pickK {ks : List Kin} {c : Int} {P : V → Prop} (h0 : 0 ≤ c) (h1 : c < ks.length) (h : ∀ z ∈ ks, ∀ y, KinOf z y → P y) : ∃ (m : Nat) (z : Kin), c = m ∧ ks[m]? = some z ∧ ∀ y, KinOf z y → P y := by
  obtain ⟨m, rfl⟩ := Int.eq_ofNat_of_zero_le h0
  have hm : m < ks.length := by omega
  exact ⟨m, ks[m], rfl, List.getElem?_eq_getElem hm, h _ (List.getElem_mem hm)⟩
section
variable {T : List (Addr × Str)} {K : PySem.W.Frag} {σ : L2.St} {H H0 : Hp} {te ta tb tl : TE} {D : Ends} {u : TS}
/-- an item of a list of things of all kinds, each of which has P -/
theorem er_pick {tl : TA} {ks : List Kin} {i : Int} {P : V → Prop} (h : EvK T tl σ H ks) (hi : Ev T tb σ H (.int i)) (hl : ks.length ≤ 100000) (h0 : 0 ≤ i) (h1 : i < ks.length) (hP : ∀ z ∈ ks, ∀ y, KinOf z y → P y) : EvR T (tOp (rIxL K) (tLst tl) tb) σ H (fun _ v H2 => kd H2 v ≠ "" ∧ P v) := by
  obtain ⟨m, z, rfl, hz, hp⟩ := pickK h0 h1 hP
  exact (er_ixK h hi hl rfl hz).imp fun _ _ _ _ _ w => ⟨w.1, hp _ w.2⟩
theorem ev_pickI {tl : TA} {ns : List Int} {ws : List V} {i w : Int} (h : EvA T tl σ H ws) (hi : Ev T tb σ H (.int i)) (hl : ns.length ≤ 100000) (hw : atI (ns.map V.int) i = some (.int w)) (he : ws = ns.map V.int := by rfl) : Ev T (tOp (rIxL K) (tLst tl) tb) σ H (.int w) := by
  subst he
  exact ev_opLV (el_lst h (by rw [List.length_map]; exact hl)) hi fun q H1 hq e => rv_ixL (.inl (.inl hq)) hw
/-- x == y, x != y of lists of whole numbers at hand and new -/
theorem et_eqNil {a : Addr} {ns : List Int} (h : Ev T ta σ H (.ref a)) (ha : H a = some (.lst (ns.map V.int))) : EvT T (tTest (tOp (rEqD K) ta (tLst tNil))) σ H (decide (ns = [])) := et_test (ev_opVL h (el_lst ea_nil (by decide)) fun q H1 hq e => rv_eqDI (dp_n (e.at ha)) (dp_n (ns := []) hq))
theorem et_neNil {a : Addr} {ns : List Int} (h : Ev T ta σ H (.ref a)) (ha : H a = some (.lst (ns.map V.int))) : EvT T (tTest (tOp (rNeD K) ta (tLst tNil))) σ H (!decide (ns = [])) := et_test (ev_opVL h (el_lst ea_nil (by decide)) fun q H1 hq e => rv_neDI (dp_n (e.at ha)) (dp_n (ns := []) hq))
theorem ev_eqNil {a : Addr} {ns : List Int} (h : Ev T ta σ H (.ref a)) (ha : H a = some (.lst (ns.map V.int))) : Ev T (tOp (rEqD K) ta (tLst tNil)) σ H (.bl (decide (ns = []))) := ev_opVL h (el_lst ea_nil (by decide)) fun q H1 hq e => rv_eqDI (dp_n (e.at ha)) (dp_n (ns := []) hq)
/-- the last item -/
theorem ev_last {a : Addr} {ns : List Int} {j : Int} (h : Ev T ta σ H (.ref a)) (ha : SqL K H a (ns.map V.int)) (hj : ns.getLast? = some j) : Ev T (tOp (rIxL K) ta (tUn (rU fun i => .int (-i)) (tC (.int 1)))) σ H (.int j) := ev_op h (ev_neg ev_c) (rv_ixL ha (ix_neg (by rw [List.getLast?_map, hj]; rfl)))
end
end Fp

local macro_rules | `(tactic| walk_at "ev") => `(tactic| with_reducible first | (apply Fp.eb_ranks; (· assumption); (· assumption); (· walk_at "ev")) | (apply Fp.eb_asking; (· assumption); (· assumption); (· walk_at "ev")) | (apply Fp.eb_quiet; (· assumption); (· assumption); (· walk_at "ev")) | (apply Fp.eb_pile; (· assumption); (· assumption); (· walk_at "ev")) | (apply Fp.eb_edge; (· assumption); (· assumption); (· walk_at "ev")))
namespace Fp
open PySem PySem.Spec PyProof.Rows L2 LamX
/-! ### few boards -/
/-- C.m as a def with its defaults filled -/
structure Gc (P : Program) (w : World) (K : PySem.W.Frag) (mg : Str → Option Value) (base : Heap) (CX : CXT) (k : Nat) (c m : Str) (ps : List Str) (dvs : List V) (sp : Sp) : Prop where
  cm : Cm K mg c m (.ref (He.ma K (He.ga K c) m))
  kp : PySem.W.keepIn K (.ref (He.ma K (He.ga K c) m)) = true
  ex : ∃ fd ds, FnOk P w K mg base CX k (He.ma K (He.ga K c) m) fd ps sp ∧ L2.Binds K fd ps ds ∧ Vals dvs ds
theorem pe_cmG {X : Cx} {CX : CXT} {k : Nat} {c m : Str} {ps : List Str} {dvs : List V} {sp : Sp} {E : XK} {p1 p2 pos : Pos} {e : Expr} {es : List Expr} {t : TA} {pl : Sem Bool} (G : Gc X.prog X.w X.K X.mg X.base CX k c m ps dvs sp) (hr : Room k X.A) (hg : Gl X c) (hx : Passes CX X E) (ha : PA X (e :: es) t)
    (h3 : eval (.Call (.Attribute (.Name c p1) m p2) (e :: es) [] pos) X.env = (do
      let a ← eval (.Name c p1) X.env
      standAt p2.atName
      let (g, b) ← holding [a] (getMethod a m pl)
      callWith pos g b (backTo pos (starEach (e :: es) X.env)) (backToKw pos (keywordEach [] X.env))) := by rfl)
    (h0 : (c == ("__debug__" : Str)) = false := by decide) (h1 : starEach (e :: es) X.env = (false, eval e X.env) :: starEach es X.env := by rfl) (h2 : (backTo pos (starEach es X.env)).any (·.1) = false := by rfl) :
    PE X (.Call (.Attribute (.Name c p1) m p2) (e :: es) [] pos) (tCall sp dvs E t) := by
  obtain ⟨fd, ds, F, b, hd⟩ := G.ex
  exact pe_cm G.cm F G.kp hr b hd hg hx ha h3 h0 h1 h2
/-- a new few board -/
def BSt.mkF (rs as qs ps : List Int) (e : Option Int) (m : Int) : BSt := { BSt.mk0 rs as qs ps e with pegs := some (.make rs m (BSt.mk0 rs as qs ps e).here) }
def sp_Few_init (K : PySem.W.Frag) (T : List (Addr × Str)) : Sp := fun vs H Q E => ∃ x y m z, vs = [.ref x, y, m, z] ∧ kd H m ≠ "" ∧ ((BrdV K H y false ∧ ∀ H', Ex T H H' → E (.ref (He.ga K "NoBoard")) none H') ∨ ∃ r rs, y = .ref r ∧ kd H y = "list" ∧ SqL K H r (List.map V.int rs) ∧ 1 ≤ List.length rs ∧ List.length rs ≤ 60 ∧ Rks rs ∧
  ((z ≠ .non ∧ PicV K H rs z false ∧ ∀ H', Ex T H H' → E (.ref (He.ga K "NoPicture")) none H') ∨ ∃ as qs ps e dx, PicO K H rs z as qs ps e ∧ H x = some (.ins (He.ga K "Few") dx []) ∧ BdC K "Few" ∧ PgC K ∧ Tabs T H ∧
    ((isPg m = false ∧ ∀ H', Mv T (fun b => b = x) H H' → E (.ref (He.ga K "NoPegs")) none H') ∨ ∃ k, m = .int k ∧ 1 ≤ k ∧ k ≤ 16 ∧
      ∀ H' S', Mv T (fun b => b = x) H H' → BrdO K "Few" H' x (.mkF rs as qs ps e k) S' → (∀ b, S' b → b = x ∨ nod H b) → Q .non H')))
def sp_Few_on_pegs (K : PySem.W.Frag) (T : List (Addr × Str)) : Sp := fun vs H Q _ => ∃ a s p S, vs = [.ref a] ∧ BrdO K "Few" H a s S ∧ s.pegs = some p ∧ ∀ v H', Ex T H H' → newL (p.hung.map V.int) H v H' → Q v H'
def sp_Few_waiting (K : PySem.W.Frag) (T : List (Addr × Str)) : Sp := fun vs H Q _ => ∃ a s p S, vs = [.ref a] ∧ BrdO K "Few" H a s S ∧ s.pegs = some p ∧ Tabs T H ∧ ∀ v H', Ex T H H' → newL ((inOrd p.ranks p.book).map V.int) H v H' → Q v H'
def sp_Few_tallies (K : PySem.W.Frag) (T : List (Addr × Str)) : Sp := fun vs H Q _ => ∃ a s p S, vs = [.ref a] ∧ BrdO K "Few" H a s S ∧ s.pegs = some p ∧ ∀ v H', Ex T H H' → newU [.int p.came, .int p.laid, .int p.calls] H v H' → Q v H'
theorem len_Few_init {K : PySem.W.Frag} {T : List (Addr × Str)} : ∀ vs H Q E, sp_Few_init K T vs H Q E → vs.length = 4 := fun vs H Q E h => by
  obtain ⟨_, _, _, _, rfl, _⟩ := h
  exact rfl
theorem len_Few_on_pegs {K : PySem.W.Frag} {T : List (Addr × Str)} : ∀ vs H Q E, sp_Few_on_pegs K T vs H Q E → vs.length = 1 := fun vs H Q E h => by
  obtain ⟨_, _, _, _, rfl, _⟩ := h
  exact rfl
theorem len_Few_waiting {K : PySem.W.Frag} {T : List (Addr × Str)} : ∀ vs H Q E, sp_Few_waiting K T vs H Q E → vs.length = 1 := fun vs H Q E h => by
  obtain ⟨_, _, _, _, rfl, _⟩ := h
  exact rfl
theorem len_Few_tallies {K : PySem.W.Frag} {T : List (Addr × Str)} : ∀ vs H Q E, sp_Few_tallies K T vs H Q E → vs.length = 1 := fun vs H Q E h => by
  obtain ⟨_, _, _, _, rfl, _⟩ := h
  exact rfl
def r_Few_init (K : PySem.W.Frag) (T : List (Addr × Str)) (E : XK) : TS :=
  (tSeq (tDrop (tCall (sp_B_init K T "Few") [] E (tCons (tVar 0) (tCons (tVar 1) (tCons (tVar 3) tNil)))))
  (tSeq (tAsg (tLc (iRng1 (tCons (tCB (rLen K) (tCons (tFld K (tVar 0) "ranks") tNil)) tNil)) (gName 5) (tAnd (tB (tOp (rIxL K) (tFld K (tVar 0) "asking") (tVar 5))) (tNot (tB (tOp (rIxL K) (tFld K (tVar 0) "quiet") (tVar 5))))) (tVar 5) [5]) (gName 4))
  (sFld K (tVar 0) (tMake (He.ga K "Pegs") (sp_Pegs_init K T) [] E (tCons (tFld K (tVar 0) "ranks") (tCons (tVar 2) (tCons (tVar 4) tNil)))) "pegs")))
def r_Few_enters (K : PySem.W.Frag) (T : List (Addr × Str)) : TS :=
  (tDrop (tMeth (He.ga K "Pegs") "come" (sp_Pegs_come K T) [] E0 (tFld K (tVar 0) "pegs") (tCons (tVar 1) tNil)))
def r_Few_leaves (K : PySem.W.Frag) (T : List (Addr × Str)) : TS :=
  (tDrop (tMeth (He.ga K "Pegs") "go" (sp_Pegs_go K T) [] E0 (tFld K (tVar 0) "pegs") (tCons (tVar 1) tNil)))
def r_Few_best (K : PySem.W.Frag) (T : List (Addr × Str)) : TS :=
  (tSeq (tAsg (tMeth (He.ga K "Pegs") "first" (sp_Pegs_first K T) [] E0 (tFld K (tVar 0) "pegs") tNil) (gName 1))
  (tSeq (tIfS (tOr (tTest (tOp oIsN (tVar 1) (tC .non))) (tNot (tB (tMeth (He.ga K "Few") "is_open" (sp_B_is_open K T "Few") [] E0 (tVar 0) (tCons (tVar 1) tNil))))) (tRet (tC .non)) tNext)
  (tRet (tVar 1))))
def r_Few_on_pegs (K : PySem.W.Frag) (T : List (Addr × Str)) : TS :=
  (tRet (tMeth (He.ga K "Pegs") "on_pegs" (sp_Pegs_on_pegs K T) [] E0 (tFld K (tVar 0) "pegs") tNil))
def r_Few_waiting (K : PySem.W.Frag) (T : List (Addr × Str)) : TS :=
  (tRet (tMeth (He.ga K "Pegs") "waiting" (sp_Pegs_waiting K T) [] E0 (tFld K (tVar 0) "pegs") tNil))
def r_Few_tallies (K : PySem.W.Frag) (T : List (Addr × Str)) : TS :=
  (tRet (tMeth (He.ga K "Pegs") "tallies" (sp_Pegs_tallies K T) [] E0 (tFld K (tVar 0) "pegs") tNil))
section
variable {K : PySem.W.Frag} {T : List (Addr × Str)} {H H0 H1 H2 : Hp} {Q : VK} {E : XK} {vs : List V} {a dx r as qs pl g : Addr} {s : BSt} {S Sg Sg2 : Addr → Prop} {i : Int} {p p' : PSt} {σ : L2.St} {ta : TE}
theorem few_open (O : BrdO K "Few" H a s S) : ∃ dx r as qs pl g Sg p, BrdP K "Few" H a dx r as qs pl [(("pegs" : Str), V.ref g)] s S ∧ s.pegs = some p ∧ PegO K H g p Sg ∧ (∀ x, Sg x → S x) ∧ ∀ x, OwnP a r as qs pl x → ¬ Sg x := by
  obtain ⟨⟨dx, r, as, qs, pl, tl, B⟩, bc⟩ := O
  have z := B.tl
  cases hs : s.pegs with
  | none => rw [hs] at z; exact absurd z.2 (by decide)
  | some p =>
    rw [hs] at z
    obtain ⟨_, g, Sg, rfl, P, z1, z2⟩ := z
    exact ⟨dx, r, as, qs, pl, g, Sg, p, B, rfl, P, z1, z2⟩
theorem few_put (B : BrdP K "Few" H a dx r as qs pl [(("pegs" : Str), V.ref g)] s S) (bc : BdC K "Few") (d : ∀ x, OwnP a r as qs pl x → ¬ Sg x) (m : Mv T Sg H H2) (O : PegO K H2 g p' Sg2) (n : ∀ x, Sg2 x → Sg x ∨ nod H x) (hS : ∀ x, Sg x → S x) :
    BrdO K "Few" H2 a { s with pegs := some p' } (fun x => OwnP a r as qs pl x ∨ Sg2 x) ∧ ∀ x, (OwnP a r as qs pl x ∨ Sg2 x) → S x ∨ nod H x := by
  have A2 := B.A.mv m d
  refine ⟨⟨⟨dx, r, as, qs, pl, _, ⟨⟨A2.at_, A2.hr, A2.ha, A2.hq, A2.hp, A2.ra, A2.rq, A2.rp, A2.aq, A2.ap, A2.qp, A2.tk⟩, fun x h => .inl h, rfl, g, Sg2, rfl, O, fun x h => .inr h, fun x w h => ?_⟩⟩, bc⟩, fun x h => h.elim (fun h => .inl (B.own x h)) fun h => (n x h).imp (hS x) id⟩
  rcases n x h with z | z
  · exact d x w z
  · rcases w with rfl | rfl | rfl | rfl | rfl
    · exact nod.not B.A.at_ rfl z
    · exact nod.not B.A.hr rfl z
    · exact nod.not B.A.ha rfl z
    · exact nod.not B.A.hq rfl z
    · exact nod.not B.A.hp rfl z
theorem eb_pegs (A : BrdA K "Few" H a dx r as qs pl [(("pegs" : Str), V.ref g)] s) (bc : BdC K "Few") (ho : Ev T ta σ H (.ref a)) : Ev T (tFld K ta "pegs") σ H (.ref g) := ev_fld ho A.at_ bc.cls bc.no rfl
theorem p_Few_enters (h : sp_B_enters K T "Few" vs H Q E) : r_Few_enters K T { nx := fun _ H' => Q .non H', rt := Q } (start ["self", "line"] vs) H := by
  obtain ⟨a, i, s, S, rfl, O, tb, hp, k⟩ := h
  obtain ⟨dx, r, as, qs, pl, g, Sg, p, B, hs, P, z1, z2⟩ := few_open O
  obtain ⟨ok, ir, nin⟩ := hp p hs
  obtain ⟨⟨gdx, gr, gh, gb, GA, _⟩, _, _⟩ := id P
  have bc := O.bc
  unfold r_Few_enters
  have A := B.A
  refine s_meth (sp := sp_Pegs_come K T) (ws := [.ref g, .int i]) (Mv.of T H) (eb_pegs A bc (by walk_at "ev")) GA.at_ rfl (by walk_at "ea") rfl fun H1 e1 _ => ⟨g, i, p, Sg, rfl, P.ex' e1, ir, e1.tb tb, (ok.come ir nin).1.wf, fun H2 Sg2 m2 O2 n2 => ?_⟩
  have f := few_put (B.ex' e1) bc z2 m2 O2 n2 z1
  refine k H2 _ (e1.mv.trans (m2.wk z1)) ?_ fun x h => (f.2 x h).imp id (e1.dm x)
  have es : s.enters i = { s with pegs := some (p.come i) } := by unfold BSt.enters; rw [hs]; rfl
  rw [es]
  exact f.1
theorem p_Few_leaves (h : sp_B_leaves K T "Few" vs H Q E) : r_Few_leaves K T { nx := fun _ H' => Q .non H', rt := Q } (start ["self", "line"] vs) H := by
  obtain ⟨a, i, s, S, rfl, O, tb, hp, k⟩ := h
  obtain ⟨dx, r, as, qs, pl, g, Sg, p, B, hs, P, z1, z2⟩ := few_open O
  obtain ⟨ok, ir⟩ := hp p hs
  obtain ⟨⟨gdx, gr, gh, gb, GA, _⟩, _, _⟩ := id P
  have bc := O.bc
  unfold r_Few_leaves
  have A := B.A
  refine s_meth (sp := sp_Pegs_go K T) (ws := [.ref g, .int i]) (Mv.of T H) (eb_pegs A bc (by walk_at "ev")) GA.at_ rfl (by walk_at "ea") rfl fun H1 e1 _ => ⟨g, i, p, Sg, rfl, P.ex' e1, ir, e1.tb tb, fun H2 Sg2 m2 O2 n2 => ?_⟩
  have f := few_put (B.ex' e1) bc z2 m2 O2 n2 z1
  refine k H2 _ (e1.mv.trans (m2.wk z1)) ?_ fun x h => (f.2 x h).imp id (e1.dm x)
  have es : s.leaves i = { s with pegs := some (p.go i) } := by unfold BSt.leaves; rw [hs]; rfl
  rw [es]
  exact f.1
theorem p_Few_best (h : sp_B_best K T "Few" vs H Q E) : r_Few_best K T { nx := fun _ H' => Q .non H', rt := Q } (start ["self", "line"] vs) H := by
  obtain ⟨a, s, S, rfl, O, w, k⟩ := h
  obtain ⟨dx, r, as, qs, pl, g, Sg, p, B, hs, P, z1, z2⟩ := few_open O
  obtain ⟨⟨gdx, gr, gh, gb, GA, _⟩, _, _⟩ := id P
  have bc := O.bc
  unfold r_Few_best
  have A := B.A
  refine q_asg (v := oI p.hung.head?) (Mv.of T H) (ev_meth (eb_pegs A bc (by walk_at "ev")) GA.at_ rfl ea_nil rfl (v_first P)) rfl fun H1 e1 _ => ?_
  have A1 := (B.ex' e1).A
  have eb : s.best = match p.hung.head? with
    | none => none
    | some i => if s.open_ i = true then some i else none := by unfold BSt.best; rw [hs] <;> rfl
  cases hh : p.hung.head? with
  | none =>
    rw [eb, hh] at k
    exact q_if (b := true) (Mv.of T H1) (et_orT (et_is (et_test (ev_op (ev_var (v := .non) rfl) ev_c rv_isN)) (by simp))) (fun _ H2 e2 _ => s_ret e2 ev_c fun H3 e3 => k H3 (e1.trans e3)) (fun z => nomatch z)
  | some i =>
    rw [eb, hh] at k
    obtain ⟨_, er, pm⟩ := w.pg p hs
    have ir : inR s.ranks i := (mem_linesW.mp (pm.mem_iff.mp (List.mem_append_left _ (List.mem_of_head? hh)))).1
    have ei : ∀ H', Ev T (tVar 1) [some (.ref a), some (oI (some i))] H' (.int i) := fun H' => ev_var rfl
    refine q_if (b := !s.open_ i) (Mv.of T H1) (et_orF (et_is (et_test (ev_op (ei H1) ev_c rv_isN)) (by simp)) (et_not (et_B (ev_meth (by walk_at "ev") A1.at_ (lk_none A1.tk rfl fun _ => rfl) (ea_cons (ei H1) ea_nil) rfl (v_B_is_open (O.ex' e1) w.pl ir))))) (fun hb H2 e2 _ => ?_) (fun hb H2 e2 _ => nextI ?_)
    · have hb : s.open_ i = false := by simpa using hb
      simp only [hb, Bool.false_eq_true, if_false] at k
      exact s_ret e2 ev_c fun H3 e3 => k H3 (e1.trans e3)
    · have hb : s.open_ i = true := by simpa using hb
      simp only [hb, if_true] at k
      exact s_ret (v := oI (some i)) e2 (ev_var rfl) fun H3 e3 => k H3 (e1.trans e3)
theorem p_Few_on_pegs (h : sp_Few_on_pegs K T vs H Q E) : r_Few_on_pegs K T { nx := fun _ H' => Q .non H', rt := Q } (start ["self"] vs) H := by
  obtain ⟨a, s, p, S, rfl, O, hs, k⟩ := h
  obtain ⟨dx, r, as, qs, pl, g, Sg, p', B, hs', P, z1, z2⟩ := few_open O
  obtain rfl : p' = p := Option.some.inj (hs'.symm.trans hs)
  obtain ⟨⟨gdx, gr, gh, gb, GA, _⟩, _, _⟩ := id P
  unfold r_Few_on_pegs
  have A := B.A
  exact s_retR (Mv.of T H) (er_meth (eb_pegs A O.bc (by walk_at "ev")) GA.at_ rfl ea_nil rfl (v_on_pegs P) newL_back) fun v H1 e _ hv => k v H1 e hv
theorem p_Few_waiting (h : sp_Few_waiting K T vs H Q E) : r_Few_waiting K T { nx := fun _ H' => Q .non H', rt := Q } (start ["self"] vs) H := by
  obtain ⟨a, s, p, S, rfl, O, hs, tb, k⟩ := h
  obtain ⟨dx, r, as, qs, pl, g, Sg, p', B, hs', P, z1, z2⟩ := few_open O
  obtain rfl : p' = p := Option.some.inj (hs'.symm.trans hs)
  obtain ⟨⟨gdx, gr, gh, gb, GA, _⟩, _, _⟩ := id P
  unfold r_Few_waiting
  have A := B.A
  exact s_retR (Mv.of T H) (er_meth (eb_pegs A O.bc (by walk_at "ev")) GA.at_ rfl ea_nil rfl (v_waiting P tb) newL_back) fun v H1 e _ hv => k v H1 e hv
theorem p_Few_tallies (h : sp_Few_tallies K T vs H Q E) : r_Few_tallies K T { nx := fun _ H' => Q .non H', rt := Q } (start ["self"] vs) H := by
  obtain ⟨a, s, p, S, rfl, O, hs, k⟩ := h
  obtain ⟨dx, r, as, qs, pl, g, Sg, p', B, hs', P, z1, z2⟩ := few_open O
  obtain rfl : p' = p := Option.some.inj (hs'.symm.trans hs)
  obtain ⟨⟨gdx, gr, gh, gb, GA, _⟩, _, _⟩ := id P
  unfold r_Few_tallies
  have A := B.A
  exact s_retR (Mv.of T H) (er_meth (eb_pegs A O.bc (by walk_at "ev")) GA.at_ rfl ea_nil rfl (v_tallies P) newU_back) fun v H1 e _ hv => k v H1 e hv
theorem s_fldMk {C : Addr} {sp : Sp} {dvs ws : List V} {E1 : XK} {t : TA} {D : Ends} {f : Str} (h : EvA T t σ H ws) (k : ∀ H1, Ex T H H1 → ∀ x dx, H1 x = none → H1 dx = none → dx ≠ x → sp (.ref x :: (ws ++ dvs)) (upd (upd H1 dx (.own x)) x (.ins C dx [])) (fun v H2 => v = .non ∧ ta σ H2 fun o H3 => ∃ a C' dx fs, o = .ref a ∧ H3 a = some (.ins C' dx fs) ∧ Cls K C' ∧ NoAttr K C' f ∧ fs.length < 1000 ∧ D.nx σ (upd H3 a (.ins C' dx (putF f (.ref x) fs)))) E1) : sFld K ta (tMake C sp dvs E1 t) f D σ H := h H Mv.refl _ k
theorem p_Few_init (h : sp_Few_init K T vs H Q E) : r_Few_init K T E { nx := fun _ H' => Q .non H', rt := Q } (start ["self", "ranks", "pegs", "picture", "here", "line"] vs) H := by
  obtain ⟨x, y, m, z, rfl, hm, h⟩ := h
  unfold r_Few_init
  refine q_call (sp := sp_B_init K T "Few") (vs := [.ref x, y, z]) (Mv.of T H) (by walk_at "ea") fun H1 e1 _ => ⟨x, y, z, rfl, ?_⟩
  rcases h with ⟨h1, h2⟩ | ⟨r, rs, rfl, hk, hr, n1, n60, hrk, h⟩
  · exact .inl ⟨h1.ex e1, fun H' e => h2 H' (e1.trans e)⟩
  refine .inr ⟨r, rs, rfl, kd_ex e1 hk (by decide), e1.l hr, n1, n60, hrk, ?_⟩
  rcases h with ⟨hz, h1, h2⟩ | ⟨as, qs, ps, e, dx, hp, hx, bc, pc, tb, h⟩
  · exact .inl ⟨hz, h1.ex e1, fun H' e => h2 H' (e1.trans e)⟩
  refine .inr ⟨as, qs, ps, e, dx, hp.ex e1, e1.at hx, bc, fun H2 r' a' q' p' m2 A2 n2 => ?_⟩
  have M2 : Mv T (fun b => b = x) H H2 := e1.mv.trans m2
  have hm2 : kd H2 m = kd H m := kd_mono M2 (fun b hb z => by
    subst z
    subst hb
    simp [kd, hx] at hm) hm
  generalize hs0 : BSt.mk0 rs as qs ps e = s0 at A2
  have er : s0.ranks = rs := by rw [← hs0]; rfl
  have la : s0.asking.length = s0.ranks.length := by rw [← hs0]; exact marks_len
  have lq : s0.quiet.length = s0.ranks.length := by rw [← hs0]; exact marks_len
  have lr2 := A2.lr
  have la2 := A2.la
  have lq2 := A2.lq
  have el := el_lcR (T := T) (σ := [some (.ref x), some (.ref r), some m, some z, none, none]) (H := H2) (n := s0.ranks.length) (f := fun z => V.int (z : Int)) (b := fun z => fl s0.asking (z : Int) && !fl s0.quiet (z : Int)) (ta := tCons (tCB (rLen K) (tCons (tFld K (tVar 0) "ranks") tNil)) tNil) (t := tAnd (tB (tOp (rIxL K) (tFld K (tVar 0) "asking") (tVar 5))) (tNot (tB (tOp (rIxL K) (tFld K (tVar 0) "quiet") (tVar 5))))) (te := tVar 5) (vs := [5]) (j := 5)
    (ea_cons (ev_cb (by walk_at "ea") (rc_lenI lr2)) ea_nil) (by rw [er]; omega) (fun x => rfl) (fun z hz => et_and (et_B (ev_op (by walk_at "ev") (by walk_at "ev") (rv_ixB (i := (z : Int)) la2 (by omega) (by omega)))) fun _ => et_not (et_B (ev_op (by walk_at "ev") (by walk_at "ev") (rv_ixB (i := (z : Int)) lq2 (by omega) (by omega))))) (fun z hz _ => by walk_at "ev")
  rw [show ((List.range s0.ranks.length).filter fun z : Nat => fl s0.asking (z : Int) && !fl s0.quiet (z : Int)).map (fun z : Nat => V.int (z : Int)) = s0.here.map V.int from linesW_map (n := s0.ranks.length) (b := fun z => fl s0.asking z && !fl s0.quiet z)] at el
  refine q_asgR (Mv.of T H2) el fun v H3 σ2 hs e3 _ hv => ?_
  obtain ⟨l, rfl, nl, hl⟩ := hv
  subst hs
  have A3 := A2.mv (T := T) (S := no) e3 (fun _ _ z => z)
  have lr3 := A3.lr
  have M3 := M2.trans e3.mv
  have hargs : EvA T (tCons (tFld K (tVar 0) "ranks") (tCons (tVar 2) (tCons (tVar 4) tNil))) [some (.ref x), some (.ref r), some m, some z, some (.ref l), none] H3 [.ref r', m, .ref l] := by walk_at "ea"
  refine s_fldMk hargs fun H4 e4 x2 dx2 hx2 hdx2 ne2 => ?_
  have e5 : Ex T H4 (upd (upd H4 dx2 (.own x2)) x2 (.ins (He.ga K "Pegs") dx2 [])) := (Mv.new hdx2).trans (Mv.new (by rw [upd_ne (Ne.symm ne2)]; exact hx2))
  have hx25 : upd (upd H4 dx2 (.own x2)) x2 (.ins (He.ga K "Pegs") dx2 []) x2 = some (.ins (He.ga K "Pegs") dx2 []) := upd_same
  have nx2 : nod H4 x2 := .of hx2
  generalize upd (upd H4 dx2 (.own x2)) x2 (.ins (He.ga K "Pegs") dx2 []) = H5 at e5 hx25
  have e45 := e4.trans e5
  have A5 := A3.mv (T := T) (S := no) e45 (fun _ _ z => z)
  have M5 := M3.trans e45.mv
  have hm5 : kd H5 m ≠ "" := by rw [kd_exn (e3.trans e45) (by rw [hm2]; exact hm), hm2]; exact hm
  refine ⟨x2, r', m, l, rfl, hm5, ?_⟩
  rcases h with ⟨h1, h2⟩ | ⟨k, rfl, k1, k2, q⟩
  · exact .inl ⟨h1, fun H' e' => h2 H' (M5.trans e'.mv)⟩
  have lh : s0.here.length ≤ 60 := Nat.le_trans linesW_len (by rw [er]; exact n60)
  refine .inr ⟨k, dx2, rs, s0.here, rfl, k1, k2, hx25, ⟨.inl (.inl (e45.at hl)), by rw [← er]; exact A5.lr, fun i hi => by have := (mem_linesW.mp hi).1; rw [er] at this; exact this⟩, n60, lh, M5.tb tb, pc, fun H6 Sg m6 O6 n6 => ⟨rfl, .ref x, rfl, x, He.ga K "Few", dx, brdF (.ref r') (.ref a') (.ref q') (.ref p') (oI s0.edge) [], rfl, ?_, bc.cls, bc.no, by simp, ?_⟩⟩
  · have A4 := A3.mv (T := T) (S := no) e4 (fun _ _ z => z)
    exact m6.kp _ _ A5.at_ rfl fun z : x = x2 => by
      have h := A4.at_
      rw [z, hx2] at h
      cases h
  · have n2' : ∀ b, OwnP x r' a' q' p' b → b ≠ x2 ∧ ¬ nod H5 b := fun b hb => by
      have f : ∀ {o : HO}, H4 b = some o → dat o = true → b ≠ x2 ∧ ¬ nod H5 b := fun h d => ⟨(fun z => by rw [z, hx2] at h; cases h), nod.not (e5.at h d) d⟩
      have A4 := A3.mv (T := T) (S := no) e4 (fun _ _ z => z)
      rcases hb with rfl | rfl | rfl | rfl | rfl
      · exact f A4.at_ rfl
      · exact f A4.hr rfl
      · exact f A4.ha rfl
      · exact f A4.hq rfl
      · exact f A4.hp rfl
    have A6 := A5.mv m6 fun b hb => (n2' b hb).1
    have dS : ∀ b, OwnP x r' a' q' p' b → ¬ Sg b := fun b hb hg => (n6 b hg).elim (n2' b hb).1 (n2' b hb).2
    have m7 : Mv T (fun b => b = x) H6 (upd H6 x (.ins (He.ga K "Few") dx (brdF (.ref r') (.ref a') (.ref q') (.ref p') (oI s0.edge) [("pegs", .ref x2)]))) := Mv.set1 A6.at_
    have na := A6.na
    have nH2 : nod H x2 := M3.dm _ (e4.dm _ nx2)
    refine q _ (fun b => OwnP x r' a' q' p' b ∨ Sg b) (((M5.seq m6 fun b hb => .inr (by rw [hb]; exact nH2)).trans m7)) ⟨⟨dx, r', a', q', p', [("pegs", .ref x2)], ⟨?_, fun b hb => .inl hb, rfl, x2, Sg, rfl, ?_, fun b hb => .inr hb, dS⟩⟩, bc⟩ ?_
    · unfold BSt.mkF
      rw [hs0]
      exact ⟨upd_same, by rw [upd_ne na.1]; exact A6.hr, by rw [upd_ne na.2.1]; exact A6.ha, by rw [upd_ne na.2.2.1]; exact A6.hq, by rw [upd_ne na.2.2.2]; exact A6.hp, A6.ra, A6.rq, A6.rp, A6.aq, A6.ap, A6.qp, .inr ⟨x2, rfl⟩⟩
    · rw [hs0]
      exact O6.mv m7 fun b hb z => dS b (.inl z) hb
    · rintro b (hb | hb)
      · exact (n2 b hb).imp id (e1.dm b)
      · exact (n6 b hb).elim (fun z => .inr (by rw [z]; exact nH2)) fun z => .inr (M5.dm b z)
theorem er_brdF {vs dvs : List V} {ta : TA} {r : Addr} {rs as qs ps : List Int} {e : Option Int} {z : V} {m : Int} (h : EvA T ta σ H vs) (hw : vs ++ dvs = [.ref r, .int m, z]) (hk : kd H (.ref r) = "list") (lr : SqL K H r (rs.map V.int)) (n1 : 1 ≤ rs.length) (n60 : rs.length ≤ 60) (hr : Rks rs) (hp : PicO K H rs z as qs ps e) (m1 : 1 ≤ m) (m2 : m ≤ 16) (bc : BdC K "Few") (pc : PgC K) (tb : Tabs T H) : EvR T (tMake (He.ga K "Few") (sp_Few_init K T) dvs E ta) σ H (newBrd K "Few" (.mkF rs as qs ps e m)) := fun H1 x1 Q q =>
  h H1 x1 _ fun H2 e2 => fun x dx hx hdx ne => by
    have e6 : Ex T H2 (upd (upd H2 dx (.own x)) x (.ins (He.ga K "Few") dx [])) := (Mv.new hdx).trans (Mv.new (by rw [upd_ne (Ne.symm ne)]; exact hx))
    have e26 := e2.trans e6
    have ee := x1.trans e26
    rw [hw]
    refine ⟨x, .ref r, .int m, z, rfl, by simp [kd], .inr ⟨r, rs, rfl, kd_ex ee hk (by decide), ee.l lr, n1, n60, hr, .inr ⟨as, qs, ps, e, dx, hp.ex ee, upd_same, bc, pc, ee.tb tb, .inr ⟨m, rfl, m1, m2, fun H' S' M O hS => ⟨rfl, q _ _ (e26.seq M fun y hy => by subst hy; exact .inr (e2.nod hx)) ⟨x, rfl, O.wk fun b hb => ?_⟩⟩⟩⟩⟩⟩
    rcases hS b hb with w | w
    · subst w; exact e2.nod hx
    · exact e26.dm b w
theorem BWf.mkF {rs as qs ps : List Int} {e : Option Int} {m : Int} (n1 : 1 ≤ rs.length) (n60 : rs.length ≤ 60) (hr : Rks rs) (hp : ∀ i ∈ ps, inR rs i) (hn : Nst rs ps) (he : okBar e) (m1 : 1 ≤ m) (m2 : m ≤ 16) : BWf (.mkF rs as qs ps e m) := by
  have w : BWf (.mk0 rs as qs ps e) := .mk0 n1 n60 hr hp hn he
  refine ⟨n1, n60, hr, w.la, w.lq, hp, hn, he, fun p h => ?_⟩
  obtain rfl : PSt.make rs m (BSt.mk0 rs as qs ps e).here = p := Option.some.inj h
  have ln : Lns rs.length (BSt.mk0 rs as qs ps e).here := ⟨linesW_nd, fun i hi => (mem_linesW.mp hi).1⟩
  refine ⟨.make m1 m2 n60 ln, rfl, ?_⟩
  show ((inOrd rs _).take m.toNat ++ (inOrd rs _).drop m.toNat).Perm _
  rw [List.take_append_drop]
  exact inOrd_perm _ _
end
end Fp

namespace Fp
open PySem PySem.Spec PyProof.Rows L2 LamX
/-- three lists of lines -/
structure D3 where
  x : List Int
  y : List Int
  z : List Int
def it3 (d : D3) : PyData := .list [dI d.x, dI d.y, dI d.z]
def BSt.d3 (s : BSt) : D3 := ⟨linesW s.ranks.length (fl s.asking), linesW s.ranks.length (fl s.quiet), s.pile⟩
/-- an item told, with its three lists -/
def Hit3 (H : Hp) (x : Addr) (d : D3) : Prop := ∃ y z w, H x = some (.lst [.ref y, .ref z, .ref w]) ∧ H y = some (.lst (d.x.map V.int)) ∧ H z = some (.lst (d.y.map V.int)) ∧ H w = some (.lst (d.z.map V.int))
theorem lay_it3 : ∀ hd : List D3, PyData.canLayAll0 (hd.map it3) = true ∧ PyData.depthAll (hd.map it3) ≤ 2
  | [] => ⟨rfl, Nat.zero_le _⟩
  | d :: hd => by
    have ih := lay_it3 hd
    have a := lay_dI (ns := d.x)
    have b := lay_dI (ns := d.y)
    have c := lay_dI (ns := d.z)
    constructor
    · simp [PyData.canLayAll0, it3, PyData.canLay0, a.1, b.1, c.1, ih.1]
    · simp only [List.map_cons, PyData.depthAll, it3, PyData.depth, a.2, b.2, c.2]
      have := ih.2
      omega
theorem sh_it3 {hd : List D3} : SeqAt.shaped (.list (hd.map it3)) = true := by
  have h := lay_it3 hd
  have h2 := h.2
  unfold SeqAt.shaped
  rw [show PyData.canLay0 (.list (hd.map it3)) = true by unfold PyData.canLay0; exact h.1, show PyData.depth (.list (hd.map it3)) = PyData.depthAll (hd.map it3) + 1 by simp only [PyData.depth]]
  simp
  omega
end Fp

namespace Fp
open PySem PySem.Spec PyProof.Rows L2 LamX
def sp_l_list (K : PySem.W.Frag) (T : List (Addr × Str)) : Sp := fun vs H Q _ => ∃ p q ns, vs = [.ref p, .ref q] ∧ H p = some (.lst (List.map V.int ns)) ∧ SqL K H q (List.map V.int ns) ∧ List.length ns ≤ 1000 ∧ ∀ H', Ex T H H' → Q (.bl true) H'
theorem len_l_list {K : PySem.W.Frag} {T : List (Addr × Str)} : ∀ vs H Q E, sp_l_list K T vs H Q E → vs.length = 2 := fun vs H Q E h => by
  obtain ⟨_, _, _, rfl, _⟩ := h
  exact rfl
section
variable {K : PySem.W.Frag} {T : List (Addr × Str)} {H : Hp} {Q : VK} {E : XK} {vs : List V}
theorem v_list {p q : Addr} {ns : List Int} (hp : H p = some (.lst (ns.map V.int))) (hq : SqL K H q (ns.map V.int)) (hz : ns.length ≤ 1000) : SpV T (sp_l_list K T) [.ref p, .ref q] H (.bl true) := fun H1 e Q q' E => ⟨p, q, ns, rfl, e.at hp, e.l hq, hz, q'⟩
end
def r_l_list (K : PySem.W.Frag) (T : List (Addr × Str)) : TS :=
  (tSeq (tIfS (tOr (tNot (tB (tCB rIs (tCons (tVar 0) (tCons (tC (.ty "list")) tNil))))) (tTest (tOp rNe (tCB (rLen K) (tCons (tVar 0) tNil)) (tCB (rLen K) (tCons (tVar 1) tNil))))) (tRet (tC (.bl false))) tNext)
  (tSeq (tFor (iRng1 (tCons (tCB (rLen K) (tCons (tVar 1) tNil)) tNil)) (gName 2) (tIfS (tOr (tNot (tB (tCall (sp_l_whole K T) [] E0 (tCons (tOp (rIxL K) (tVar 0) (tVar 2)) tNil)))) (tTest (tOp rNe (tOp (rIxL K) (tVar 0) (tVar 2)) (tOp (rIxL K) (tVar 1) (tVar 2))))) (tRet (tC (.bl false))) tNext))
  (tRet (tC (.bl true)))))
end Fp
local macro_rules | `(tactic| walk_at "sp") => `(tactic| first | exact Fp.v_wholeI | exact Fp.v_is_wholeI | exact Fp.v_whole (by assumption) | exact Fp.v_is_whole (by assumption) | exact Fp.v_before (by walk_at "fact") (by assumption) (by assumption) | exact Fp.v_cell_at (by walk_at "fact") (by decide))
namespace Fp
open PySem PySem.Spec PyProof.Rows L2 LamX
section
variable {K : PySem.W.Frag} {T : List (Addr × Str)} {H H0 : Hp} {Q : VK} {E : XK} {vs : List V}
theorem p_l_list (h : sp_l_list K T vs H Q E) : r_l_list K T { nx := fun _ H' => Q .non H', rt := Q } (start ["_law_found", "_law_due", "_law_k"] vs) H := by
  obtain ⟨p, q, ns, rfl, hp, hq, hz, k⟩ := h
  unfold r_l_list
  have hp' : SqL K H p (ns.map V.int) := .inl (.inl hp)
  refine q_if (b := false) (Mv.of T H) (et_is (by walk_at "et") (by simp [isK])) (fun hb => nomatch hb) (fun _ H1 e1 _ => nextI ?_)
  dsimp only
  refine s_forR (n := ns.length) e1 (by walk_at "ea") (by omega) (fun i σ' H' => ∃ v, σ' = [some (.ref p), some (.ref q), v] ∧ Ex T H H') (fun H2 e2 _ => ⟨none, rfl, e2⟩) ?_ ?_
  · rintro i σ' H' hi ⟨v, rfl, e⟩
    exact s_if (b := false) e (et_is (by walk_at "et") (by simp)) (fun hb => nomatch hb) (fun _ H2 e2 _ => nextI ⟨_, rfl, e2⟩)
  · rintro σ' H' ⟨v, rfl, e⟩
    dsimp only
    exact s_ret e (by walk_at "ev") k
end
end Fp

namespace Fp
open PySem PySem.Spec PyProof.Rows L2 LamX
/-! ### a board of either class -/
def WoF (c : Str) : Prop := c = "Wide" ∨ c = "Few"
section
variable {K : PySem.W.Frag} {T : List (Addr × Str)} {c : Str} {H H0 H1 : Hp} {Q : VK} {E : XK} {vs : List V} {a : Addr} {s : BSt} {S : Addr → Prop} {f f' : BSt → Int → BSt} {g g' : BSt → Int → Bool} {σ : L2.St} {ta t1 t2 : TE} {t : TA} {R : Hp → V → Hp → Prop}
theorem w_or2 (sp : Str → Sp) {m : Str} (hc : WoF c) (O : BrdO K c H a s S) (ho : Ev T ta σ H (.ref a)) (lk : ∀ r as qs pl e tl, TlK tl → (brdF r as qs pl e tl).lookup m = none) (h : EvA T t σ H vs) (k : ∀ H1, Ex T H H1 → sp c (.ref a :: vs) H1 Q E) :
    tOr2 (tMeth (He.ga K "Wide") m (sp "Wide") [] E ta t) (tMeth (He.ga K "Few") m (sp "Few") [] E ta t) σ H Q := by
  obtain ⟨dx, r, as, qs, pl, tl, B⟩ := O.ex
  rcases hc with rfl | rfl
  · exact .inl (w_meth (T := T) (ws := .ref a :: vs) ho B.A.at_ (lk _ _ _ _ _ _ B.A.tk) h (by rw [List.append_nil]) k)
  · exact .inr (w_meth (T := T) (ws := .ref a :: vs) ho B.A.at_ (lk _ _ _ _ _ _ B.A.tk) h (by rw [List.append_nil]) k)
theorem er_or2 (sp : Str → Sp) {m : Str} (hc : WoF c) (O : BrdO K c H a s S) (ho : Ev T ta σ H (.ref a)) (lk : ∀ r as qs pl e tl, TlK tl → (brdF r as qs pl e tl).lookup m = none) (h : EvA T t σ H vs) (k : SpR T (sp c) (.ref a :: vs) H R) (hm : ∀ H1 H2 v H3, Ex T H H1 → Ex T H1 H2 → Ex T H2 H3 → R H2 v H3 → R H1 v H3) :
    EvR T (tOr2 (tMeth (He.ga K "Wide") m (sp "Wide") [] E ta t) (tMeth (He.ga K "Few") m (sp "Few") [] E ta t)) σ H R := by
  obtain ⟨dx, r, as, qs, pl, tl, B⟩ := O.ex
  rcases hc with rfl | rfl
  · exact fun H1 e Q q => .inl (er_meth (ws := .ref a :: vs) ho B.A.at_ (lk _ _ _ _ _ _ B.A.tk) h (by rw [List.append_nil]) k hm H1 e Q q)
  · exact fun H1 e Q q => .inr (er_meth (ws := .ref a :: vs) ho B.A.at_ (lk _ _ _ _ _ _ B.A.tk) h (by rw [List.append_nil]) k hm H1 e Q q)
theorem spFlag.ex (h : spFlag K T c f g vs H Q E) (e : Ex T H H1) : spFlag K T c f g vs H1 Q E := by
  obtain ⟨a, y, s, S, rfl, O, w, tb, hy, h⟩ := h
  refine ⟨a, y, s, S, rfl, O.ex' e, w, e.tb tb, by rw [kd_exn e hy]; exact hy, ?_⟩
  rcases h with ⟨h1, h2⟩ | ⟨i, hi, ir, k⟩
  · exact .inl ⟨h1, fun H' e' => h2 H' (e.trans e')⟩
  · exact .inr ⟨i, hi, ir, fun H' S' m O n => k H' S' (e.mv.trans m) O fun x h => (n x h).imp id (e.dm x)⟩
theorem spFlag.as (h : spFlag K T c f g vs H Q E) (hf : ∀ s i, f s i = f' s i) (hg : ∀ s i, g s i = g' s i) : spFlag K T c f' g' vs H Q E := by
  rw [show f' = f from funext fun s => funext fun i => (hf s i).symm, show g' = g from funext fun s => funext fun i => (hg s i).symm]
  exact h
end
/-- what a word on flags tells -/
def tellF (s : BSt) (w i : Int) : Bool := if w = 0 then !fl s.asking i else if w = 1 then fl s.asking i else if w = 2 then !fl s.quiet i else fl s.quiet i
end Fp

local macro_rules | `(tactic| walk_at "sp") => `(tactic| first | exact Fp.v_wholeI | exact Fp.v_is_wholeI | exact Fp.v_whole (by assumption) | exact Fp.v_is_whole (by assumption) | exact Fp.v_cell_at (by walk_at "fact") (by first | decide | omega))
namespace Fp
open PySem PySem.Spec PyProof.Rows L2 LamX
/-! ### ranks and pictures drawn from a script -/
def newRkN : Hp → V → Hp → Prop := fun H v H' => ∃ rs, Rks rs ∧ 1 ≤ rs.length ∧ rs.length ≤ 60 ∧ newL (rs.map V.int) H v H'
def sp_l_ranks (K : PySem.W.Frag) (T : List (Addr × Str)) : Sp := fun vs H Q _ => ∃ p ns, vs = [.ref p] ∧ SqL K H p (List.map V.int ns) ∧ ∀ v H', Ex T H H' → newRkN H v H' → Q v H'
theorem len_l_ranks {K : PySem.W.Frag} {T : List (Addr × Str)} : ∀ vs H Q E, sp_l_ranks K T vs H Q E → vs.length = 1 := fun vs H Q E h => by
  obtain ⟨_, _, rfl, _⟩ := h
  exact rfl
def r_l_ranks (K : PySem.W.Frag) (T : List (Addr × Str)) : TS :=
  (tSeq (tAsg (tCall (sp_l_cell_at K T) [] E0 (tCons (tVar 0) (tCons (tC (.int 0)) tNil))) (gName 1))
  (tSeq (tAsg (tOp oAdd (tC (.int 1)) (tOp oMod (tOp oMod (tOp oMul (tVar 1) (tC (.int 950706376))) (tC (.int 2147483647))) (tC (.int 12)))) (gName 2))
  (Evl.tCut (tIfS (tTest (tOp rEq (tOp oMod (tVar 1) (tC (.int 8))) (tC (.int 1)))) (tAsg (tOp oAdd (tC (.int 1)) (tOp oMod (tOp oMod (tOp oMul (tVar 1) (tC (.int 742938285))) (tC (.int 2147483647))) (tC (.int 60)))) (gName 2)) tNext)
  (tSeq (tAsg (tOp oMod (tCall (sp_l_cell_at K T) [] E0 (tCons (tVar 0) (tCons (tC (.int 1)) tNil))) (tC (.int 4))) (gName 3))
  (tSeq (tAsg (tOp oAdd (tC (.int 1)) (tOp oMod (tOp oMul (tCall (sp_l_cell_at K T) [] E0 (tCons (tVar 0) (tCons (tC (.int 1)) tNil))) (tC (.int 1226874159))) (tC (.int 2147483647)))) (gName 4))
  (tSeq (tAsg (tLst tNil) (gName 5))
  (tSeq (tFor (iRng1 (tCons (tVar 2) tNil)) (gName 6) (tSeq (tAsg (tOp oMod (tOp oAdd (tOp oMul (tVar 4) (tC (.int 48271))) (tVar 6)) (tC (.int 2147483647))) (gName 4))
  (tSeq (tAsg (tOp oMod (tVar 4) (tC (.int 4))) (gName 7))
  (Evl.tCut (tIfS (tTest (tOp rEq (tVar 3) (tC (.int 1)))) (tAsg (tOp oMod (tCall (sp_l_cell_at K T) [] E0 (tCons (tVar 0) (tCons (tOp oAdd (tC (.int 3)) (tVar 6)) tNil))) (tOp oPow (tC (.int 10)) (tC (.int 60)))) (gName 7)) tNext)
  (Evl.tCut (tIfS (tTest (tOp rEq (tVar 3) (tC (.int 2)))) (tAsg (tOp oMod (tOp oPow (tVar 4) (tC (.int 7))) (tOp oPow (tC (.int 10)) (tC (.int 60)))) (gName 7)) tNext)
  (Evl.tCut (tIfS (tAnd (tTest (tOp rEq (tVar 3) (tC (.int 2)))) (tTest (tOp rEq (tOp oMod (tVar 4) (tC (.int 9))) (tC (.int 4))))) (tAsg (tOp oSub (tOp oSub (tOp oPow (tC (.int 10)) (tC (.int 60))) (tC (.int 1))) (tOp oMod (tOp oDiv (tVar 4) (tC (.int 9))) (tC (.int 2)))) (gName 7)) tNext)
  (Evl.tCut (tIfS (tTest (tOp rEq (tVar 3) (tC (.int 3)))) (tAsg (tOp oMul (tOp oSub (tC (.int 59)) (tVar 6)) (tOp oAdd (tOp oPow (tC (.int 10)) (tC (.int 58))) (tOp oMod (tVar 4) (tC (.int 7))))) (gName 7)) tNext)
  (tDrop (tBM K "list" rAppend (tVar 5) (tCons (tVar 7) tNil))))))))))
  (tRet (tVar 5)))))))))
section
variable {K : PySem.W.Frag} {T : List (Addr × Str)} {H H0 : Hp} {Q : VK} {E : XK} {vs : List V}
theorem newRkN_back : ∀ H1 H2 v H3, Ex T H H1 → Ex T H1 H2 → Ex T H2 H3 → newRkN H2 v H3 → newRkN H1 v H3 := fun H1 H2 v H3 _ e _ ⟨rs, a, b, c, p, z, n, h⟩ => ⟨rs, a, b, c, p, z, e.dm p n, h⟩
theorem v_ranks {p : Addr} {ns : List Int} (hp : SqL K H p (ns.map V.int)) : SpR T (sp_l_ranks K T) [.ref p] H newRkN := fun H1 e Q q' E => ⟨p, ns, rfl, e.l hp, q'⟩
theorem p_l_ranks (h : sp_l_ranks K T vs H Q E) : r_l_ranks K T { nx := fun _ H' => Q .non H', rt := Q } (start ["_law_script", "_law_cell", "_law_many", "_law_way", "_law_mixed", "_law_ranks_here", "_law_k", "_law_rank"] vs) H := by
  obtain ⟨p, ns, rfl, hp, q⟩ := h
  unfold r_l_ranks
  refine q_asg (v := .int (cellAt ns 0)) (Mv.of T H) (by walk_at "ev") rfl fun H1 e1 _ => ?_
  generalize cellAt ns 0 = c
  have g0 := Int.emod_nonneg (c * 950706376 % 2147483647) (show (12 : Int) ≠ 0 by decide)
  have g1 := Int.emod_lt_of_pos (c * 950706376 % 2147483647) (show (0 : Int) < 12 by decide)
  refine q_asg e1 (by walk_at "ev") rfl fun H2 e2 _ => ?_
  refine q_cut (fun σ' H' => ∃ n : Nat, 1 ≤ n ∧ n ≤ 60 ∧ σ' = [some (.ref p), some (.int c), some (.int n), none, none, none, none, none] ∧ Ex T H H') ?_ ?_
  · refine s_if e2 (by walk_at "et") (fun hb H3 e3 _ => ?_) (fun hb H3 e3 _ => nextI ?_)
    · have f0 := Int.emod_nonneg (c * 742938285 % 2147483647) (show (60 : Int) ≠ 0 by decide)
      have f1 := Int.emod_lt_of_pos (c * 742938285 % 2147483647) (show (0 : Int) < 60 by decide)
      obtain ⟨n, hn⟩ := Int.eq_ofNat_of_zero_le (show 0 ≤ 1 + c * 742938285 % 2147483647 % 60 by omega)
      exact s_asg (v := .int n) e3 (ev_is (by walk_at "ev") (by rw [hn])) fun H4 e4 _ => ⟨n, by omega, by omega, rfl, e4⟩
    · obtain ⟨n, hn⟩ := Int.eq_ofNat_of_zero_le (show 0 ≤ 1 + c * 950706376 % 2147483647 % 12 by omega)
      exact ⟨n, by omega, by omega, by rw [hn]; rfl, e3⟩
  rintro σ' H3 ⟨n, n1, n60, rfl, e3⟩
  clear g0 g1 e1 e2
  refine q_asg (v := .int (cellAt ns 1 % 4)) e3 (by walk_at "ev") rfl fun H4 e4 _ => ?_
  generalize cellAt ns 1 % 4 = w
  have g0 := Int.emod_nonneg (cellAt ns 1 * 1226874159) (show (2147483647 : Int) ≠ 0 by decide)
  refine q_asg e4 (by walk_at "ev") rfl fun H5 e5 _ => ?_
  have m0 : 0 ≤ 1 + cellAt ns 1 * 1226874159 % 2147483647 := by omega
  generalize 1 + cellAt ns 1 * 1226874159 % 2147483647 = m at m0
  clear g0
  refine q_asgR e5 (el_lst ea_nil (by decide)) fun v H6 σ2 hs e6 _ hv => ?_
  obtain ⟨r, rfl, nr, hr⟩ := hv
  subst hs
  have nr := e5.dm _ nr
  clear e3 e4 e5
  refine q_forR (n := n) e6 (by walk_at "ea") (by omega) (fun i σ' H' => ∃ rs v4 v6 v7, σ' = [some (.ref p), some (.int c), some (.int n), some (.int w), some (.int v4), some (.ref r), v6, v7] ∧ Ex T H H' ∧ H' r = some (.lst (List.map V.int rs)) ∧ Rks rs ∧ List.length rs = i ∧ 0 ≤ v4) (fun H7 e7 e8 => ⟨[], m, none, none, rfl, e7, e8.at hr, (fun _ z => by cases z), rfl, m0⟩) ?_ ?_
  · rintro i σ' H' hi ⟨rs, m', v6, v7, rfl, e, hl, hk, hc, mm⟩
    have hi' : i < n := by omega
    have i0 : (0 : Int) ≤ i := by omega
    have hp' := e.l hp
    refine q_asg (Mv.of T H') (by walk_at "ev") rfl fun H2 e2 _ => ?_
    generalize hx : (m' * 48271 + (i : Int)) % 2147483647 = x
    have x0 : 0 ≤ x ∧ x < 2147483647 := by rw [← hx]; exact ⟨Int.emod_nonneg _ (by decide), Int.emod_lt_of_pos _ (by decide)⟩
    clear hx
    refine q_asg e2 (by walk_at "ev") rfl fun H3 e3 _ => ?_
    have x4 := Int.emod_nonneg x (show (4 : Int) ≠ 0 by decide)
    have y4 := Int.emod_lt_of_pos x (show (0 : Int) < 4 by decide)
    let Mid : L2.St → Hp → Prop := fun σ' H2 => ∃ y : Int, (0 ≤ y ∧ y < 1000000000000000000000000000000000000000000000000000000000000) ∧ σ' = [some (.ref p), some (.int c), some (.int n), some (.int w), some (.int x), some (.ref r), some (.int (i : Int)), some (.int y)] ∧ Ex T H' H2
    refine q_cut Mid ?_ ?_
    · refine s_if e3 (by walk_at "et") (fun hb H4 e4 _ => ?_) (fun hb H4 e4 _ => nextI ⟨_, by omega, rfl, e4⟩)
      exact s_asg (v := .int (cellAt ns (3 + (i : Int)) % 1000000000000000000000000000000000000000000000000000000000000)) e4 (ev_op (by walk_at "ev") ev_p60 (rv_i (by decide))) fun H5 e5 _ => ⟨_, ⟨Int.emod_nonneg _ (by decide), Int.emod_lt_of_pos _ (by decide)⟩, rfl, e5⟩
    rintro σ' H4 ⟨y, hy, rfl, e4⟩
    clear e3 x4 y4
    refine q_cut Mid ?_ ?_
    · refine s_if e4 (by walk_at "et") (fun hb H4 e4 _ => ?_) (fun hb H4 e4 _ => nextI ⟨_, hy, rfl, e4⟩)
      exact s_asg (v := .int (x ^ (7 : Int).toNat % 1000000000000000000000000000000000000000000000000000000000000)) e4 (ev_op (ev_op (by walk_at "ev") ev_c (rv_i ⟨by decide, by decide, by omega⟩)) ev_p60 (rv_i (by decide))) fun H5 e5 _ => ⟨_, ⟨Int.emod_nonneg _ (by decide), Int.emod_lt_of_pos _ (by decide)⟩, rfl, e5⟩
    rintro σ' H5 ⟨y, hy, rfl, e5⟩
    clear e4
    refine q_cut Mid ?_ ?_
    · refine s_if e5 (by walk_at "et") (fun hb H4 e4 _ => ?_) (fun hb H4 e4 _ => nextI ⟨_, hy, rfl, e4⟩)
      have z0 := Int.emod_nonneg (x / 9) (show (2 : Int) ≠ 0 by decide)
      have z1 := Int.emod_lt_of_pos (x / 9) (show (0 : Int) < 2 by decide)
      exact s_asg e4 (by walk_at "ev") fun H5 e5 _ => ⟨_, by omega, rfl, e5⟩
    rintro σ' H6 ⟨y, hy, rfl, e6⟩
    clear e5
    refine q_cut Mid ?_ ?_
    · refine s_if e6 (by walk_at "et") (fun hb H4 e4 _ => ?_) (fun hb H4 e4 _ => nextI ⟨_, hy, rfl, e4⟩)
      have z0 := Int.emod_nonneg x (show (7 : Int) ≠ 0 by decide)
      have z1 := Int.emod_lt_of_pos x (show (0 : Int) < 7 by decide)
      refine s_asg e4 (by walk_at "ev") fun H5 e5 _ => ⟨_, ?_, rfl, e5⟩
      have a0 : (0 : Int) ≤ 59 - i := by omega
      have a1 : 59 - (i : Int) ≤ 59 := by omega
      have b0 : (0 : Int) ≤ 10000000000000000000000000000000000000000000000000000000000 + x % 7 := by omega
      have b1 : 10000000000000000000000000000000000000000000000000000000000 + x % 7 ≤ 10000000000000000000000000000000000000000000000000000000007 := by omega
      exact ⟨Int.mul_nonneg a0 b0, Int.lt_of_le_of_lt (Int.mul_le_mul a1 b1 b0 (by decide)) (by decide)⟩
    rintro σ' H7 ⟨y, hy, rfl, e7⟩
    clear e6
    have hz : (rs.map V.int).length < 100000 := by rw [List.length_map]; omega
    exact s_app (v := .int y) (Mv.of T H7) (e7.at hl) (by walk_at "ev") (by walk_at "ev") hz fun H8 e8 _ => ⟨rs ++ [y], x, _, _, rfl, (e.trans (e7.trans e8)).set (.inr nr) ((e7.trans e8).at hl), by rw [upd_same, List.map_append]; rfl, fun r hr => (List.mem_append.mp hr).elim (hk r) fun z => by rw [List.mem_singleton.mp z]; exact hy, by rw [List.length_append, hc]; rfl, x0.1⟩
  · rintro σ' H' ⟨rs, v4, v6, v7, rfl, e, hl, hk, hc, _⟩
    have hc : rs.length = n := hc
    exact s_ret (Mv.of T H') (by walk_at "ev") fun H2 e2 => q _ _ (e.trans e2) ⟨rs, hk, by omega, by omega, r, rfl, nr, e2.at hl⟩
end
end Fp

local macro_rules | `(tactic| walk_at "sp") => `(tactic| first | exact Fp.v_wholeI | exact Fp.v_is_wholeI | exact Fp.v_whole (by assumption) | exact Fp.v_is_whole (by assumption) | exact Fp.v_cell_at (by walk_at "fact") (by first | decide | omega))
namespace Fp
open PySem PySem.Spec PyProof.Rows L2 LamX
/-! ### a picture: three lists of lines and a bar, in a tuple -/
structure Pc (H : Hp) (t x y z : Addr) (d : D3) (e : Option Int) : Prop where
  at_ : H t = some (.tup [.ref x, .ref y, .ref z, oI e])
  hx : H x = some (.lst (d.x.map V.int))
  hy : H y = some (.lst (d.y.map V.int))
  hz : H z = some (.lst (d.z.map V.int))
  xy : x ≠ y
  xz : x ≠ z
  yz : y ≠ z
def newPc (d : D3) (e : Option Int) : Hp → V → Hp → Prop := fun H v H' => ∃ t x y z, v = .ref t ∧ (nod H t ∧ nod H x ∧ nod H y ∧ nod H z) ∧ Pc H' t x y z d e
/-- what a picture's board is -/
structure PcW (rs : List Int) (s : BSt) : Prop where
  wf : BWf s
  pg : s.pegs = none
  rk : s.ranks = rs
section
variable {T : List (Addr × Str)} {K : PySem.W.Frag} {H H1 H2 : Hp} {t x y z : Addr} {d : D3} {e : Option Int} {S : Addr → Prop} {s : BSt} {v : V} {rs : List Int}
theorem Pc.ex (h : Pc H t x y z d e) (m : Ex T H H1) : Pc H1 t x y z d e := ⟨m.at h.at_, m.at h.hx, m.at h.hy, m.at h.hz, h.xy, h.xz, h.yz⟩
theorem Pc.mv (h : Pc H t x y z d e) (m : Mv T S H H1) (n : ¬ S t ∧ ¬ S x ∧ ¬ S y ∧ ¬ S z) : Pc H1 t x y z d e := ⟨m.kp _ _ h.at_ rfl n.1, m.kp _ _ h.hx rfl n.2.1, m.kp _ _ h.hy rfl n.2.2.1, m.kp _ _ h.hz rfl n.2.2.2, h.xy, h.xz, h.yz⟩
theorem Pc.tt (h : Pc H t x y z d e) : SqT K H t [.ref x, .ref y, .ref z, oI e] := .inl (.inl h.at_)
theorem newPic_pc (h : newPic s H v H1) : newPc s.d3 s.edge H v H1 := by
  obtain ⟨t, x, y, z, rfl, nt, nx, ny, nz, ht, hx, hy, hz, xy, xz, yz⟩ := h
  exact ⟨t, x, y, z, rfl, ⟨nt, nx, ny, nz⟩, ht, hx, hy, hz, xy, xz, yz⟩
theorem newPc_back : ∀ H1 H2 v H3, Ex T H H1 → Ex T H1 H2 → Ex T H2 H3 → newPc d e H2 v H3 → newPc d e H1 v H3 := fun _ _ _ _ _ a _ ⟨t, x, y, z, h, n, P⟩ => ⟨t, x, y, z, h, ⟨a.dm _ n.1, a.dm _ n.2.1, a.dm _ n.2.2.1, a.dm _ n.2.2.2⟩, P⟩
theorem er_tupP {σ : L2.St} {t1 t2 t3 t4 : TE} (h1 : EvL T t1 σ H (d.x.map V.int)) (h2 : EvL T t2 σ H (d.y.map V.int)) (h3 : EvL T t3 σ H (d.z.map V.int)) (h4 : Ev T t4 σ H (oI e)) : EvR T (tTup (tCons t1 (tCons t2 (tCons t3 (tCons t4 tNil))))) σ H (newPc d e) := fun H1 x1 Q q =>
  h1 H1 x1 _ fun v H2 e2 ⟨x, ex, nx, hx⟩ => by
    subst ex
    exact h2 H2 (x1.trans e2) _ fun w H3 e3 ⟨y, ey, ny, hy⟩ => by
      subst ey
      exact h3 H3 ((x1.trans e2).trans e3) _ fun w H4 e4 ⟨z, ez, nz, hz⟩ => by
        subst ez
        refine h4 H4 (((x1.trans e2).trans e3).trans e4) _ fun H5 e5 => ⟨sz (by simp), fun t ht => ?_⟩
        have e6 : Ex T H5 (upd H5 t (.tup [.ref x, .ref y, .ref z, oI e])) := Mv.new ht
        have e35 := (e3.trans e4).trans e5
        exact q _ _ ((e2.trans e35).trans e6) ⟨t, x, y, z, rfl, ⟨(e2.trans e35).nod ht, nx, e2.dm _ ny, (e2.trans e3).dm _ nz⟩, upd_same, e6.at (e35.at hx), e6.at (e5.at (e4.at hy)), e6.at (e5.at hz), ny.ne hx, nz.ne (e3.at hx), nz.ne hy⟩
end
section
variable {A : List Bool} {k n : Nat} {b : Bool} {f g : Int → Bool}
theorem fl_app {i : Nat} (h : A.length = k) (hi : i < k) : fl (A ++ [b]) (i : Int) = fl A (i : Int) := by
  unfold fl
  rw [Int.toNat_natCast, List.getD_eq_getElem?_getD, List.getD_eq_getElem?_getD, List.getElem?_append_left (by omega)]
theorem fl_app_last (h : A.length = k) : fl (A ++ [b]) (k : Int) = b := by
  unfold fl
  rw [Int.toNat_natCast, List.getD_eq_getElem?_getD, List.getElem?_append_right (by omega), h, Nat.sub_self]
  rfl
theorem linesW_congr (h : ∀ i : Nat, i < n → f (i : Int) = g (i : Int)) : linesW n f = linesW n g := by
  unfold linesW
  rw [List.filter_congr fun z hz => h z (List.mem_range.mp hz)]
theorem linesW_app (h : A.length = k) : linesW (k + 1) (fl (A ++ [b])) = linesW k (fl A) ++ if b = true then [(k : Int)] else [] := by
  rw [linesW_succ, fl_app_last h, linesW_congr fun i hi => fl_app h hi]
end
def sp_l_picture_by (K : PySem.W.Frag) (T : List (Addr × Str)) : Sp := fun vs H Q _ => ∃ p ns r rs, vs = [.ref p, .ref r] ∧ SqL K H p (List.map V.int ns) ∧ SqL K H r (List.map V.int rs) ∧ 1 ≤ List.length rs ∧ List.length rs ≤ 60 ∧ Rks rs ∧ ∀ v H' s, Ex T H H' → PcW rs s → newPc s.d3 s.edge H v H' → Q v H'
def sp_l_copy (K : PySem.W.Frag) (T : List (Addr × Str)) : Sp := fun vs H Q _ => ∃ t x y z d e, vs = [.ref t] ∧ Pc H t x y z d e ∧ ∀ v H', Ex T H H' → newPc d e H v H' → Q v H'
def sp_l_is_picture (K : PySem.W.Frag) (T : List (Addr × Str)) : Sp := fun vs H Q _ => ∃ t x y z d e n, vs = [.ref t, .int n] ∧ Pc H t x y z d e ∧ (∀ i ∈ D3.x d ++ D3.y d ++ D3.z d, 0 ≤ i ∧ i < n) ∧ ∀ H', Ex T H H' → Q (.bl true) H'
theorem len_l_picture_by {K : PySem.W.Frag} {T : List (Addr × Str)} : ∀ vs H Q E, sp_l_picture_by K T vs H Q E → vs.length = 2 := fun vs H Q E h => by
  obtain ⟨_, _, _, _, rfl, _⟩ := h
  exact rfl
theorem len_l_copy {K : PySem.W.Frag} {T : List (Addr × Str)} : ∀ vs H Q E, sp_l_copy K T vs H Q E → vs.length = 1 := fun vs H Q E h => by
  obtain ⟨_, _, _, _, _, _, rfl, _⟩ := h
  exact rfl
theorem len_l_is_picture {K : PySem.W.Frag} {T : List (Addr × Str)} : ∀ vs H Q E, sp_l_is_picture K T vs H Q E → vs.length = 2 := fun vs H Q E h => by
  obtain ⟨_, _, _, _, _, _, _, rfl, _⟩ := h
  exact rfl
def r_l_picture_by (K : PySem.W.Frag) (T : List (Addr × Str)) : TS :=
  (tSeq (tAsg (tCB (rLen K) (tCons (tVar 1) tNil)) (gName 2))
  (tSeq (tAsg (tOp oAdd (tC (.int 1)) (tOp oMod (tOp oMul (tCall (sp_l_cell_at K T) [] E0 (tCons (tVar 0) (tCons (tC (.int 2)) tNil))) (tC (.int 397204094))) (tC (.int 2147483647)))) (gName 3))
  (tSeq (tAsg (tOp oAdd (tC (.int 1)) (tOp oMod (tVar 3) (tVar 2))) (gName 4))
  (tSeq (tAsg (tLst tNil) (gName 5))
  (tSeq (tAsg (tLst tNil) (gName 6))
  (tSeq (tAsg (tLst tNil) (gName 7))
  (tSeq (tFor (iRng1 (tCons (tVar 2) tNil)) (gName 8) (tSeq (tAsg (tOp oMod (tOp oAdd (tOp oMul (tVar 3) (tC (.int 48271))) (tCall (sp_l_cell_at K T) [] E0 (tCons (tVar 0) (tCons (tOp oAdd (tC (.int 3)) (tVar 8)) tNil)))) (tC (.int 2147483647))) (gName 3))
  (Evl.tCut (tIfS (tTest (tOp rEq (tOp oMod (tVar 3) (tC (.int 2))) (tC (.int 0)))) (tDrop (tBM K "list" rAppend (tVar 5) (tCons (tVar 8) tNil))) tNext)
  (Evl.tCut (tIfS (tTest (tOp rEq (tOp oMod (tOp oDiv (tVar 3) (tC (.int 2))) (tC (.int 3))) (tC (.int 0)))) (tDrop (tBM K "list" rAppend (tVar 6) (tCons (tVar 8) tNil))) tNext)
  (tSeq (tAsg (tOp oMod (tOp oAdd (tOp oMod (tOp oDiv (tVar 3) (tC (.int 7))) (tC (.int 2))) (tOp oMul (tVar 8) (tVar 4))) (tVar 2)) (gName 9))
  (tIfS (tAnd (tTest (tOp oGt (tOp oMod (tOp oDiv (tVar 3) (tC (.int 14))) (tC (.int 3))) (tC (.int 0)))) (tOr (tTest (tOp (rEqD K) (tVar 7) (tLst tNil))) (tTest (tOp oLt (tOp (rIxL K) (tVar 1) (tVar 9)) (tOp (rIxL K) (tVar 1) (tOp (rIxL K) (tVar 7) (tUn (rU fun i => .int (-i)) (tC (.int 1))))))))) (tDrop (tBM K "list" rAppend (tVar 7) (tCons (tVar 9) tNil))) tNext))))))
  (tSeq (tAsg (tC .non) (gName 10))
  (Evl.tCut (tIfS (tTest (tOp rEq (tOp oMod (tVar 3) (tC (.int 3))) (tC (.int 1)))) (tAsg (tOp oAdd (tOp (rIxL K) (tVar 1) (tOp oMod (tOp oDiv (tVar 3) (tC (.int 3))) (tVar 2))) (tOp oMod (tOp oDiv (tVar 3) (tC (.int 180))) (tC (.int 2)))) (gName 10)) tNext)
  (Evl.tCut (tIfS (tTest (tOp rEq (tOp oMod (tVar 3) (tC (.int 15))) (tC (.int 2)))) (tAsg (tOp (rIxL K) (tLst (tCons (tC (.int 0)) (tCons (tOp oPow (tC (.int 10)) (tC (.int 60))) tNil))) (tOp oMod (tOp oDiv (tVar 3) (tC (.int 15))) (tC (.int 2)))) (gName 10)) tNext)
  (tRet (tTup (tCons (tVar 5) (tCons (tVar 6) (tCons (tVar 7) (tCons (tVar 10) tNil))))))))))))))))
def r_l_copy (K : PySem.W.Frag) (T : List (Addr × Str)) : TS :=
  (tRet (tTup (tCons (tCB (rLst K) (tCons (tOp (rIxT K) (tVar 0) (tC (.int 0))) tNil)) (tCons (tCB (rLst K) (tCons (tOp (rIxT K) (tVar 0) (tC (.int 1))) tNil)) (tCons (tCB (rLst K) (tCons (tOp (rIxT K) (tVar 0) (tC (.int 2))) tNil)) (tCons (tOp (rIxT K) (tVar 0) (tC (.int 3))) tNil))))))
def r_l_is_picture (K : PySem.W.Frag) (T : List (Addr × Str)) : TS :=
  (tSeq (tIfS (tOr (tNot (tB (tCB rIs (tCons (tVar 0) (tCons (tC (.ty "tuple")) tNil))))) (tTest (tOp rNe (tCB (rLen K) (tCons (tVar 0) tNil)) (tC (.int 4))))) (tRet (tC (.bl false))) tNext)
  (tSeq (tFor (iTup K (tSl (rSlT K) (tVar 0) tNoPart (tPart (tC (.int 3))))) (gName 2) (tSeq (tIfS (tNot (tB (tCB rIs (tCons (tVar 2) (tCons (tC (.ty "list")) tNil))))) (tRet (tC (.bl false))) tNext)
  (tFor (iList K (tVar 2)) (gName 3) (tIfS (tOr (tNot (tB (tCall (sp_l_whole K T) [] E0 (tCons (tVar 3) tNil)))) (tOr (tTest (tOp oLt (tVar 3) (tC (.int 0)))) (tTest (tOp oGe (tVar 3) (tVar 1))))) (tRet (tC (.bl false))) tNext))))
  (tRet (tOrV (tOp oIsN (tOp (rIxT K) (tVar 0) (tC (.int 3))) (tC .non)) (tCall (sp_l_whole K T) [] E0 (tCons (tOp (rIxT K) (tVar 0) (tC (.int 3))) tNil))))))
section
variable {K : PySem.W.Frag} {T : List (Addr × Str)} {H H0 : Hp} {Q : VK} {E : XK} {vs : List V}
theorem s_forNT {σ : L2.St} {D : Ends} {tu : TS} {g : TG} {tl : TE} {xs : List V} (e : Ex T H0 H) (h : EvU T tl σ H0 xs) (Pv : Addr → Nat → L2.St → Hp → Prop) (h0 : ∀ p H1, nod H p → Ex T H0 H1 → Ex T H H1 → H1 p = some (.tup xs) → Pv p 0 σ H1) (hl : ∀ p i σ' H', i ≤ xs.length → Pv p i σ' H' → SqT K H' p xs)
    (hs : ∀ p i x σ' H', xs[i]? = some x → Pv p i σ' H' → g x σ' H' fun σ2 H2 => tu { D with nx := Pv p (i + 1), ct := Pv p (i + 1), bk := D.nx } σ2 H2) (hd : ∀ p σ' H', Pv p xs.length σ' H' → D.nx σ' H') : tFor (iTup K tl) g tu D σ H :=
  h H e _ fun _ H1 e1 ⟨p, ep, np, hp⟩ => by
    subst ep
    exact ⟨p, rfl, ⟨xs, .inl (.inl hp)⟩, for_tup (Pv p) (h0 p H1 np (e.trans e1) e1 hp) (hl p) (hs p) (hd p)⟩
theorem q_forNT {σ : L2.St} {D : Ends} {u tu : TS} {g : TG} {tl : TE} {xs : List V} (e : Ex T H0 H) (h : EvU T tl σ H0 xs) (Pv : Addr → Nat → L2.St → Hp → Prop) (h0 : ∀ p H1, nod H p → Ex T H0 H1 → Ex T H H1 → H1 p = some (.tup xs) → Pv p 0 σ H1) (hl : ∀ p i σ' H', i ≤ xs.length → Pv p i σ' H' → SqT K H' p xs)
    (hs : ∀ p i x σ' H', xs[i]? = some x → Pv p i σ' H' → g x σ' H' fun σ2 H2 => tu { D with nx := Pv p (i + 1), ct := Pv p (i + 1), bk := u D } σ2 H2) (hd : ∀ p σ' H', Pv p xs.length σ' H' → u D σ' H') : tSeq (tFor (iTup K tl) g tu) u D σ H := s_forNT (D := { D with nx := u D }) e h Pv h0 hl hs hd
theorem eu_sl {σ : L2.St} {ta : TE} {p : Addr} {xs : List V} {tl th : TO} {lo hi : Option Int} (ha : Ev T ta σ H (.ref p)) (hl : EvO T tl σ H lo) (hh : EvO T th σ H hi) (h : SqT K H p xs) (hw : ¬ (HT.sIx xs.length 0 lo = 0 ∧ HT.sIx xs.length xs.length hi = xs.length)) : EvU T (tSl (rSlT K) ta tl th) σ H (cutV xs lo hi) := fun H1 e Q q =>
  ha H1 e _ fun H2 e2 => hl H2 (e.trans e2) _ fun H3 e3 => hh H3 ((e.trans e2).trans e3) _ fun H4 e4 =>
    ⟨p, xs, rfl, (((e.trans e2).trans e3).trans e4).t h, hw, fun l hn => q _ _ (((e2.trans e3).trans e4).trans (Mv.new hn)) ⟨l, rfl, e2.dm l (e3.dm l (e4.nod hn)), upd_same⟩⟩
theorem v_l_copy {t x y z : Addr} {d : D3} {e : Option Int} (h : Pc H t x y z d e) : SpR T (sp_l_copy K T) [.ref t] H (newPc d e) := fun H1 e1 Q q' E => ⟨t, x, y, z, d, e, rfl, h.ex e1, q'⟩
theorem v_l_is_picture {t x y z : Addr} {d : D3} {e : Option Int} {n : Int} (h : Pc H t x y z d e) (hn : ∀ i ∈ D3.x d ++ D3.y d ++ D3.z d, 0 ≤ i ∧ i < n) : SpV T (sp_l_is_picture K T) [.ref t, .int n] H (.bl true) := fun H1 e1 Q q' E => ⟨t, x, y, z, d, e, n, rfl, h.ex e1, hn, q'⟩
theorem p_l_copy (h : sp_l_copy K T vs H Q E) : r_l_copy K T { nx := fun _ H' => Q .non H', rt := Q } (start ["_law_scene"] vs) H := by
  obtain ⟨t, x, y, z, d, e, rfl, P, q⟩ := h
  unfold r_l_copy
  have lt := P.tt (K := K)
  have ls : ∀ {a : Addr} {xs : List V}, H a = some (.lst xs) → SqL K H a xs := fun h => .inl (.inl h)
  exact s_retR (Mv.of T H) (er_tupP (d := d) (e := e) (el_list (ev_op (by walk_at "ev") ev_c (rv_ixT lt rfl)) (.inl (ls P.hx))) (el_list (ev_op (by walk_at "ev") ev_c (rv_ixT lt rfl)) (.inl (ls P.hy))) (el_list (ev_op (by walk_at "ev") ev_c (rv_ixT lt rfl)) (.inl (ls P.hz))) (ev_op (by walk_at "ev") ev_c (rv_ixT lt rfl))) fun v H1 _ e1 hv => q v H1 e1 hv
theorem p_l_is_picture (h : sp_l_is_picture K T vs H Q E) : r_l_is_picture K T { nx := fun _ H' => Q .non H', rt := Q } (start ["_law_found", "_law_many", "_law_part", "_law_line"] vs) H := by
  obtain ⟨t, x, y, z, d, e, n, rfl, P, hn, q⟩ := h
  unfold r_l_is_picture
  have lt := P.tt (K := K)
  refine q_if (b := false) (Mv.of T H) (et_is (et_or (et_not (et_B (ev_cb (by walk_at "ea") (rc_isT P.at_ (by decide))))) fun _ => et_test (ev_op (ev_cb (by walk_at "ea") (rc_len (.inr lt))) ev_c rv_neI)) (by simp [isK])) (fun hb => nomatch hb) (fun _ H1 e1 _ => nextI ?_)
  dsimp only
  refine q_forNT (xs := [.ref x, .ref y, .ref z]) (K := K) e1 (eu_sl (xs := [.ref x, .ref y, .ref z, oI e]) (lo := none) (hi := some 3) (by walk_at "ev") eo_no (eo_part (te := tC (.int 3)) (by walk_at "ev")) lt (show ¬ (HT.sIx 4 0 none = 0 ∧ HT.sIx 4 4 (some 3) = 4) by decide)) (fun p i σ' H' => ∃ v2 v3, σ' = [some (.ref t), some (.int n), v2, v3] ∧ Ex T H H' ∧ H' p = some (.tup [.ref x, .ref y, .ref z])) (fun p H2 _ e2 _ hp => ⟨none, none, rfl, e2, hp⟩) (fun p i σ' H' _ ⟨_, _, _, _, h⟩ => .inl (.inl h)) ?_ ?_
  · rintro p i w σ' H' hi ⟨v2, v3, rfl, e2, hp⟩
    obtain ⟨a, ls, rfl, ha, hm⟩ : ∃ a ls, w = .ref a ∧ H a = some (.lst (List.map V.int ls)) ∧ ∀ j ∈ ls, j ∈ d.x ++ d.y ++ d.z := by
      match i, hi with
      | 0, hi => exact ⟨x, d.x, (Option.some.inj hi).symm, P.hx, fun j h => by simp [h]⟩
      | 1, hi => exact ⟨y, d.y, (Option.some.inj hi).symm, P.hy, fun j h => by simp [h]⟩
      | 2, hi => exact ⟨z, d.z, (Option.some.inj hi).symm, P.hz, fun j h => by simp [h]⟩
    refine nameI ?_
    have la : SqL K H' a (ls.map V.int) := .inl (.inl (e2.at ha))
    refine q_if (b := false) (Mv.of T H') (et_is (et_not (et_B (ev_cb (by walk_at "ea") (rc_isL (e2.at ha) (by decide))))) (by simp [isK])) (fun hb => nomatch hb) (fun _ H3 e3 _ => nextI ?_)
    dsimp only
    refine s_forL e3 (by walk_at "ev") la (fun k σ2 H4 => ∃ v3, σ2 = [some (.ref t), some (.int n), some (.ref a), v3] ∧ Ex T H' H4) (fun H4 e4 _ => ⟨v3, rfl, e4⟩) (fun k σ2 H4 _ ⟨_, _, e4⟩ => e4.l la) ?_ ?_
    · rintro k u σ2 H4 hk ⟨v3, rfl, e4⟩
      obtain ⟨j, hj, rfl⟩ := item_int hk
      refine nameI ?_
      have hjn := hn j (hm j (List.mem_of_getElem? hj))
      exact s_if (b := false) (Mv.of T H4) (et_is (et_or (et_not (et_B (ev_call0 (by walk_at "ea") v_wholeI))) fun _ => et_or (et_test (ev_op (by walk_at "ev") ev_c rv_i0)) fun _ => et_test (ev_op (by walk_at "ev") (by walk_at "ev") rv_i0)) (by simp; omega)) (fun hb => nomatch hb) (fun _ H5 e5 _ => nextI ⟨_, rfl, e4.trans e5⟩)
    · rintro σ2 H4 ⟨v3, rfl, e4⟩
      exact ⟨_, _, rfl, e2.trans e4, e4.at hp⟩
  · rintro p σ' H2 ⟨v2, v3, rfl, e2, _⟩
    have lt2 := e2.t lt
    have c3 : atI [V.ref x, .ref y, .ref z, oI e] 3 = some (oI e) := rfl
    have g := ev_op (H := H2) (T := T) (ta := tVar 0) (σ := [some (V.ref t), some (.int n), v2, v3]) (by walk_at "ev") (ev_c (v := .int 3)) (rv_ixT lt2 c3)
    refine s_ret (v := .bl true) (Mv.of T H2) (ev_is (ev_or (a := decide (oI e = .non)) (b := decide (oI e ≠ .non)) (ev_op g ev_c rv_isN) fun h => ?_) ?_) fun H3 e3 => q H3 (e2.trans e3)
    · cases e with
      | none => simp [oI] at h
      | some m => exact ev_call0 (ea_cons g ea_nil) v_wholeI
    · by_cases h : oI e = .non <;> simp [h]
end
end Fp

local macro_rules | `(tactic| walk_at "sp") => `(tactic| first | exact Fp.v_wholeI | exact Fp.v_is_wholeI | exact Fp.v_whole (by assumption) | exact Fp.v_is_whole (by assumption) | exact Fp.v_cell_at (by walk_at "fact") (by first | decide | omega))
namespace Fp
open PySem PySem.Spec PyProof.Rows L2 LamX
section
variable {K : PySem.W.Frag} {T : List (Addr × Str)} {H H0 : Hp} {Q : VK} {E : XK} {vs : List V}
theorem rk_bd {rs : List Int} {i : Int} (hr : Rks rs) (h0 : 0 ≤ i) (h1 : i < rs.length) : 0 ≤ rk rs i ∧ rk rs i < 1000000000000000000000000000000000000000000000000000000000000 := hr _ (rk_at h0 h1)
theorem nst_snoc {rs ps : List Int} {i : Int} (h : Nst rs ps) (hl : ps = [] ∨ ∃ t, ps.getLast? = some t ∧ rk rs i < rk rs t) : Nst rs (ps ++ [i]) := by
  refine List.pairwise_append.mpr ⟨h, List.pairwise_singleton _ _, fun x hx y hy => ?_⟩
  rw [List.mem_singleton.mp hy]
  rcases hl with rfl | ⟨t, ht, hlt⟩
  · cases hx
  · obtain ⟨ys, rfl⟩ := List.getLast?_eq_some_iff.mp ht
    rcases List.mem_append.mp hx with hx | hx
    · have := (List.pairwise_append.mp h).2.2 x hx t (List.mem_singleton_self _)
      omega
    · rw [List.mem_singleton.mp hx]; exact hlt
theorem v_picture_by {p r : Addr} {ns rs : List Int} (hp : SqL K H p (ns.map V.int)) (hr : SqL K H r (rs.map V.int)) (n1 : 1 ≤ rs.length) (n60 : rs.length ≤ 60) (hk : Rks rs) : SpR T (sp_l_picture_by K T) [.ref p, .ref r] H fun H1 v H2 => ∃ s, PcW rs s ∧ newPc s.d3 s.edge H1 v H2 := fun H1 e Q q' E => ⟨p, ns, r, rs, rfl, e.l hp, e.l hr, n1, n60, hk, fun v H' s e1 w n => q' v H' e1 ⟨s, w, n⟩⟩
theorem newPcW_back {rs : List Int} : ∀ H1 H2 v H3, Ex T H H1 → Ex T H1 H2 → Ex T H2 H3 → (fun H1 v H2 => ∃ s, PcW rs s ∧ newPc s.d3 s.edge H1 v H2) H2 v H3 → (fun H1 v H2 => ∃ s, PcW rs s ∧ newPc s.d3 s.edge H1 v H2) H1 v H3 := fun _ _ _ _ a b c ⟨s, w, n⟩ => ⟨s, w, newPc_back _ _ _ _ a b c n⟩
theorem p_l_picture_by (h : sp_l_picture_by K T vs H Q E) : r_l_picture_by K T { nx := fun _ H' => Q .non H', rt := Q } (start ["_law_script", "_law_heights", "_law_many", "_law_mixed", "_law_turn", "_law_asking", "_law_muted", "_law_pile", "_law_k", "_law_at", "_law_bar"] vs) H := by
  obtain ⟨p, ns, r, rs, rfl, hp, hr, n1, n60, hk, q⟩ := h
  unfold r_l_picture_by
  have np : (0 : Int) < rs.length := by omega
  refine q_asg (Mv.of T H) (by walk_at "ev") rfl fun H1 e1 _ => ?_
  have g0 := Int.emod_nonneg (cellAt ns 2 * 397204094) (show (2147483647 : Int) ≠ 0 by decide)
  refine q_asg e1 (by walk_at "ev") rfl fun H2 e2 _ => ?_
  have m0 : 0 ≤ 1 + cellAt ns 2 * 397204094 % 2147483647 := by omega
  generalize 1 + cellAt ns 2 * 397204094 % 2147483647 = m at m0
  refine q_asg (v := .int (1 + m % rs.length)) e2 (by walk_at "ev") rfl fun H3 e3 _ => ?_
  generalize 1 + m % (rs.length : Int) = tu
  clear g0
  refine q_asgR e3 (el_lst ea_nil (by decide)) fun v H4 σ2 hs e4 _ hv => ?_
  obtain ⟨a, rfl, na, ha⟩ := hv
  subst hs
  refine q_asgR e4 (el_lst ea_nil (by decide)) fun v H5 σ2 hs e5 e45 hv => ?_
  obtain ⟨b, rfl, nb, hb⟩ := hv
  subst hs
  refine q_asgR e5 (el_lst ea_nil (by decide)) fun v H6 σ2 hs e6 e56 hv => ?_
  obtain ⟨c, rfl, nc, hc⟩ := hv
  subst hs
  have ha6 := e56.at (e45.at ha)
  have hb6 := e56.at hb
  have ab : a ≠ b := nb.ne ha
  have ac : a ≠ c := nc.ne (e45.at ha)
  have bc : b ≠ c := nc.ne hb
  have na := e3.dm _ na
  have nb := e4.dm _ nb
  have nc := e5.dm _ nc
  clear e1 e2 e3 e4 e5 e45 e56 ha hb
  let Pr : Nat → Nat → List Bool → List Bool → List Int → Hp → Prop := fun i j A B ps H' => Ex T H H' ∧ H' a = some (.lst ((linesW i (fl A)).map V.int)) ∧ H' b = some (.lst ((linesW j (fl B)).map V.int)) ∧ H' c = some (.lst (List.map V.int ps)) ∧ A.length = i ∧ B.length = j ∧ Nst rs ps ∧ (∀ x ∈ ps, inR rs x)
  have prEx : ∀ {i j A B ps H1 H2}, Pr i j A B ps H1 → Ex T H1 H2 → Pr i j A B ps H2 := fun ⟨h0, h1, h2, h3, h⟩ e => ⟨h0.trans e, e.at h1, e.at h2, e.at h3, h⟩
  refine q_forR (n := rs.length) e6 (by walk_at "ea") (by omega) (fun i σ' H' => ∃ A B ps v3 v8 v9, σ' = [some (.ref p), some (.ref r), some (.int (rs.length : Int)), some (.int v3), some (.int tu), some (.ref a), some (.ref b), some (.ref c), v8, v9, none] ∧ Pr i i A B ps H' ∧ List.length ps ≤ i ∧ 0 ≤ v3) (fun H7 e7 e8 => ⟨[], [], [], m, none, none, rfl, ⟨e7, e8.at ha6, e8.at hb6, e8.at hc, rfl, rfl, .nil, fun _ z => by cases z⟩, Nat.le_refl _, m0⟩) ?_ ?_
  · rintro i σ' H' hi ⟨A, B, ps, v3, v8, v9, rfl, P, hl, _⟩
    have i0 : (0 : Int) ≤ i := by omega
    have hp' := P.1.l hp
    refine q_asg (Mv.of T H') (by walk_at "ev") rfl fun H2 e2 _ => ?_
    generalize hx : (v3 * 48271 + cellAt ns (3 + (i : Int))) % 2147483647 = x
    have x0 : 0 ≤ x := by rw [← hx]; exact Int.emod_nonneg _ (by decide)
    clear hx
    have P2 := prEx P e2
    have lw : ∀ (k : Nat) f, (List.map V.int (linesW k f)).length ≤ k := fun k f => by rw [List.length_map]; exact linesW_len
    refine q_cut (fun σ' H' => ∃ A, σ' = [some (.ref p), some (.ref r), some (.int (rs.length : Int)), some (.int x), some (.int tu), some (.ref a), some (.ref b), some (.ref c), some (.int (i : Int)), v9, none] ∧ Pr (i + 1) i A B ps H') ?_ ?_
    · have ap : ∀ bb, linesW (i + 1) (fl (A ++ [bb])) = linesW i (fl A) ++ if bb = true then [(i : Int)] else [] := fun bb => linesW_app P.2.2.2.2.1
      have la : ∀ bb, (A ++ [bb]).length = i + 1 := fun bb => by rw [List.length_append, P.2.2.2.2.1]; rfl
      refine s_if (Mv.of T H2) (by walk_at "et") (fun hb' H3 e3 _ => ?_) (fun hb' H3 e3 _ => nextI ⟨A ++ [false], rfl, ?_⟩)
      · have P3 := prEx P2 e3
        refine s_app (v := .int i) (Mv.of T H3) P3.2.1 (by walk_at "ev") (by walk_at "ev") (by have := lw i (fl A); omega) fun H4 e4 _ => ⟨A ++ [true], rfl, ?_⟩
        have P4 := prEx P3 e4
        exact ⟨P4.1.set (.inr na) P4.2.1, by rw [upd_same, ap, List.map_append]; rfl, by rw [upd_ne (Ne.symm ab)]; exact P4.2.2.1, by rw [upd_ne (Ne.symm ac)]; exact P4.2.2.2.1, la _, P4.2.2.2.2.2⟩
      · have P3 := prEx P2 e3
        exact ⟨P3.1, by rw [ap, P3.2.1]; simp, P3.2.2.1, P3.2.2.2.1, la _, P3.2.2.2.2.2⟩
    rintro σ' H3 ⟨A', rfl, P3⟩
    refine q_cut (fun σ' H' => ∃ B, σ' = [some (.ref p), some (.ref r), some (.int (rs.length : Int)), some (.int x), some (.int tu), some (.ref a), some (.ref b), some (.ref c), some (.int (i : Int)), v9, none] ∧ Pr (i + 1) (i + 1) A' B ps H') ?_ ?_
    · have ap : ∀ bb, linesW (i + 1) (fl (B ++ [bb])) = linesW i (fl B) ++ if bb = true then [(i : Int)] else [] := fun bb => linesW_app P3.2.2.2.2.2.1
      have la : ∀ bb, (B ++ [bb]).length = i + 1 := fun bb => by rw [List.length_append, P3.2.2.2.2.2.1]; rfl
      refine s_if (Mv.of T H3) (by walk_at "et") (fun hb' H4 e4 _ => ?_) (fun hb' H4 e4 _ => nextI ⟨B ++ [false], rfl, ?_⟩)
      · have P4 := prEx P3 e4
        refine s_app (v := .int i) (Mv.of T H4) P4.2.2.1 (by walk_at "ev") (by walk_at "ev") (by have := lw i (fl B); omega) fun H5 e5 _ => ⟨B ++ [true], rfl, ?_⟩
        have P5 := prEx P4 e5
        exact ⟨P5.1.set (.inr nb) P5.2.2.1, by rw [upd_ne ab]; exact P5.2.1, by rw [upd_same, ap, List.map_append]; rfl, by rw [upd_ne (Ne.symm bc)]; exact P5.2.2.2.1, P5.2.2.2.2.1, la _, P5.2.2.2.2.2.2⟩
      · have P4 := prEx P3 e4
        exact ⟨P4.1, P4.2.1, by rw [ap, P4.2.2.1]; simp, P4.2.2.2.1, P4.2.2.2.2.1, la _, P4.2.2.2.2.2.2⟩
    rintro σ' H4 ⟨B', rfl, P4⟩
    have y0 := Int.emod_nonneg (x / 7 % 2 + i * tu) (Int.ne_of_gt np)
    have y1 := Int.emod_lt_of_pos (x / 7 % 2 + i * tu) np
    refine q_asg (v := .int ((x / 7 % 2 + i * tu) % rs.length)) (Mv.of T H4) (by walk_at "ev") rfl fun H5 e5 _ => ?_
    generalize (x / 7 % 2 + i * tu) % (rs.length : Int) = y at y0 y1
    have P5 := prEx P4 e5
    have lr5 := P5.1.l hr
    obtain ⟨bb, hb', hbb⟩ : ∃ bb, EvT T (tAnd (tTest (tOp oGt (tOp oMod (tOp oDiv (tVar 3) (tC (.int 14))) (tC (.int 3))) (tC (.int 0)))) (tOr (tTest (tOp (rEqD K) (tVar 7) (tLst tNil))) (tTest (tOp oLt (tOp (rIxL K) (tVar 1) (tVar 9)) (tOp (rIxL K) (tVar 1) (tOp (rIxL K) (tVar 7) (tUn (rU fun i => .int (-i)) (tC (.int 1))))))))) [some (.ref p), some (.ref r), some (.int (rs.length : Int)), some (.int x), some (.int tu), some (.ref a), some (.ref b), some (.ref c), some (.int (i : Int)), some (.int y), none] H5 bb ∧ (bb = true → ps = [] ∨ ∃ t, ps.getLast? = some t ∧ rk rs y < rk rs t) := by
      by_cases hps : ps = []
      · exact ⟨_, et_and (b := true) (et_test (by walk_at "ev")) fun _ => et_is (et_or (b := true) (et_eqNil (by walk_at "ev") P5.2.2.2.1) fun h => absurd hps (of_decide_eq_false h)) (by simp [hps]), fun _ => .inl hps⟩
      · obtain ⟨t, et, mt⟩ := last_of hps
        have tr := P5.2.2.2.2.2.2.2 t mt
        exact ⟨_, et_and (b := decide (rk rs y < rk rs t)) (et_test (by walk_at "ev")) fun _ => et_is (et_or (b := decide (rk rs y < rk rs t)) (et_eqNil (by walk_at "ev") P5.2.2.2.1) fun _ => et_test (ev_op (ev_op (by walk_at "ev") (by walk_at "ev") (rv_ixI lr5 y0 y1)) (ev_op (by walk_at "ev") (ev_last (by walk_at "ev") (.inl (.inl P5.2.2.2.1)) et) (rv_ixI lr5 tr.1 tr.2)) rv_i0)) (by simp [hps]), fun h => .inr ⟨t, et, by simp at h; exact h.2⟩⟩
    refine s_if (Mv.of T H5) hb' (fun h H6 e6 _ => ?_) (fun h H6 e6 _ => nextI ⟨A', B', ps, x, _, _, rfl, prEx P5 e6, by omega, x0⟩)
    have P6 := prEx P5 e6
    refine s_app (v := .int y) (Mv.of T H6) P6.2.2.2.1 (by walk_at "ev") (by walk_at "ev") (by rw [List.length_map]; omega) fun H7 e7 _ => ⟨A', B', ps ++ [y], x, _, _, rfl, ?_, by rw [List.length_append]; simp; omega, x0⟩
    have P7 := prEx P6 e7
    exact ⟨P7.1.set (.inr nc) P7.2.2.2.1, by rw [upd_ne ac]; exact P7.2.1, by rw [upd_ne bc]; exact P7.2.2.1, by rw [upd_same, List.map_append]; rfl, P7.2.2.2.2.1, P7.2.2.2.2.2.1, nst_snoc P7.2.2.2.2.2.2.1 (hbb h), fun z hz => (List.mem_append.mp hz).elim (P7.2.2.2.2.2.2.2 z) fun w => by rw [List.mem_singleton.mp w]; exact ⟨y0, y1⟩⟩
  rintro σ' H7 ⟨A, B, ps, v3, v8, v9, rfl, P, hl, h3⟩
  have P : Pr rs.length rs.length A B ps H7 := P
  have lr7 := P.1.l hr
  refine q_asg (v := oI none) (Mv.of T H7) ev_c rfl fun H8 e8 _ => ?_
  let Mid : L2.St → Hp → Prop := fun σ' H' => ∃ e, okBar e ∧ σ' = [some (.ref p), some (.ref r), some (.int (rs.length : Int)), some (.int v3), some (.int tu), some (.ref a), some (.ref b), some (.ref c), v8, v9, some (oI e)] ∧ Ex T H7 H'
  refine q_cut Mid ?_ ?_
  · refine s_if e8 (by walk_at "et") (fun hb' H9 e9 _ => ?_) (fun hb' H9 e9 _ => nextI ⟨none, (fun _ h => nomatch h), rfl, e9⟩)
    have y0 := Int.emod_nonneg (v3 / 3) (Int.ne_of_gt np)
    have y1 := Int.emod_lt_of_pos (v3 / 3) np
    have z0 := Int.emod_nonneg (v3 / 180) (show (2 : Int) ≠ 0 by decide)
    have z1 := Int.emod_lt_of_pos (v3 / 180) (show (0 : Int) < 2 by decide)
    have bd := rk_bd hk y0 y1
    exact s_asg (v := oI (some (rk rs (v3 / 3 % rs.length) + v3 / 180 % 2))) e9 (ev_op (ev_op (by walk_at "ev") (by walk_at "ev") (rv_ixI lr7 y0 y1)) (by walk_at "ev") rv_i0) fun H10 e10 _ => ⟨_, fun i hi => by obtain rfl := Option.some.inj hi; omega, rfl, e10⟩
  rintro σ' H9 ⟨e, he, rfl, e9⟩
  refine q_cut Mid ?_ ?_
  · refine s_if e9 (by walk_at "et") (fun hb' H9 e9 _ => ?_) (fun hb' H9 e9 _ => nextI ⟨e, he, rfl, e9⟩)
    have z0 := Int.emod_nonneg (v3 / 15) (show (2 : Int) ≠ 0 by decide)
    have z1 := Int.emod_lt_of_pos (v3 / 15) (show (0 : Int) < 2 by decide)
    obtain ⟨w, hw, hw2⟩ := pickI (ns := [0, 1000000000000000000000000000000000000000000000000000000000000]) (c := v3 / 15 % 2) (P := fun w => 0 ≤ w ∧ w ≤ 1000000000000000000000000000000000000000000000000000000000000) z0 (by simpa using z1) (by simp)
    exact s_asg (v := oI (some w)) e9 (ev_pickI (ea_cons ev_c (ea_cons ev_p60 ea_nil)) (by walk_at "ev") (by simp) hw) fun H10 e10 _ => ⟨_, fun i hi => by obtain rfl := Option.some.inj hi; exact hw2, rfl, e10⟩
  rintro σ' H10 ⟨e', he', rfl, e10⟩
  obtain ⟨x1, x2, x3, x4, x5, x6, x7, x8⟩ := prEx P e10
  refine s_retR (Mv.of T H10) (eu_tup (vs := [.ref a, .ref b, .ref c, oI e']) (by walk_at "ea") (by simp)) fun v H11 _ e11 hv => ?_
  obtain ⟨t, rfl, nt, ht⟩ := hv
  exact q _ H11 { ranks := rs, asking := A, quiet := B, pile := ps, edge := e', pegs := none } (x1.trans e11) ⟨⟨n1, n60, hk, x5, x6, x8, x7, he', fun _ h => nomatch h⟩, rfl, rfl⟩ ⟨t, a, b, c, rfl, ⟨x1.dm _ nt, na, nb, nc⟩, ht, e11.at x2, e11.at x3, e11.at x4, ab, ac, bc⟩
end
end Fp

namespace Fp
open PySem PySem.Spec PyProof.Rows L2 LamX
/-! ### makings by the parameters' names -/
/-- C(k = v, ..) by a promise of __init__: all keywords in the parameters' order, the defaults behind them -/
structure Gkk (P : Program) (w : World) (K : PySem.W.Frag) (mg : Str → Option Value) (base : Heap) (CX : CXT) (k : Nat) (c : Str) (ps ks : List Str) (dvs : List V) (sp : Sp) : Prop where
  mkr : Mk K (He.ga K c) (He.ma K (He.ga K c) "__init__")
  at_ : mg c = some (.ref (He.ga K c))
  ex : ∃ fd g, FnOk P w K mg base CX k (He.ma K (He.ga K c) "__init__") fd ps sp ∧ KBn K fd ps 1 ks g fun vs zs => vs ++ (zs ++ dvs)
def tMakeKw (C : Addr) (m : Nat) (sp : Sp) (dvs : List V) (E : XK) (tk : TA) : TE := fun σ H Q => tk σ H fun zs H2 => ([] : List V).length = 0 ∧ zs.length = m ∧ ∀ x dx, H2 x = none → H2 dx = none → dx ≠ x → sp (.ref x :: (zs ++ dvs)) (upd (upd H2 dx (.own x)) x (.ins C dx [])) (fun v H3 => v = .non ∧ Q (.ref x) H3) E
section
variable {X : Cx} {CX : CXT} {k : Nat} {c : Str} {ps ks : List Str} {dvs : List V} {sp : Sp} {E : XK} {p pos : Pos} {kws : List Keyword} {tk : TA} {m : Nat}
theorem pe_kk (G : Gkk X.prog X.w X.K X.mg X.base CX k c ps ks dvs sp) (hr : Room (k + 1) X.A) (hg : Gl X c) (hx : Passes CX X E) (hkw : PK X kws tk)
    (hall : (backToKw pos (keywordEach kws X.env)).all (·.1.isSome) = true := by rfl) (hks : (backToKw pos (keywordEach kws X.env)).filterMap (·.1) = ks := by rfl) (hdb : (c == ("__debug__" : Str)) = false := by decide)
    (hpl : ((backTo pos (starEach [] X.env)).any (·.1) || (backToKw pos (keywordEach kws X.env)).any (·.1.isNone)) = false := by rfl) (hm : ks.length = m := by rfl) :
    PE X (.Call (.Name c p) [] kws pos) (tMakeKw (He.ga X.K c) m sp dvs E tk) := by
  subst hm
  obtain ⟨fd, g, F, hb⟩ := G.ex
  have h := pe_makeK0 (p := p) G.mkr F hr hg G.at_ hb hx hkw hall hks hdb hpl
  refine ⟨fun pins s σ H Q I q => h.run pins s σ H Q I ?_⟩
  show tk σ H fun zs H2 => (([] : List V).length = 0) ∧ zs.length = ks.length ∧ ∀ x dx, H2 x = none → H2 dx = none → dx ≠ x → sp ([.ref x] ++ (zs ++ dvs)) (upd (upd H2 dx (.own x)) x (.ins (He.ga X.K c) dx [])) (fun v H3 => v = .non ∧ Q (.ref x) H3) E
  exact q
end
section
variable {P : Program} {w : World} {K : PySem.W.Frag} {mg : Str → Option Value} {base : Heap} {c m qual : Str} {st : Stmt} {N ps ks : List Str} {k : Nat} {sp : Sp} {dvs : List V} {CX : CXT}
theorem Dm.fnXK {dv0 : List V} (D : Dm K c m qual st dv0) (S : FnScope N ps (defScope st)) (len : ∀ vs H Q E, sp vs H Q E → vs.length = ps.length) (hb : ∀ f fd, FunD K m qual (defArgs st) (defBody st) (defScope st) dv0 [] f fd → ∃ g, KBn K fd ps 1 ks g fun vs zs => vs ++ (zs ++ dvs))
    (hbody : ∀ (f : Addr) (cdv : Value) (A : Around) (outer : List Env) (s : Shared) (H : Hp) (vs : List V) (Q : VK) (E : XK), Room k (A.deeper (envOfC qual (defScope st) s.heap.objs.size f cdv)) → sp vs H Q E →
      ∃ t, PSs (cxOf (L2.CX P w) P w K mg base N qual (defScope st) f cdv A outer s H E) (defBody st) t ∧ t { nx := fun _ H' => Q .non H', rt := Q } (start N vs) H) :
    ∃ fd g, FnOk P w K mg base (L2.CX P w) (k + 1) (He.ma K (He.ga K c) m) fd ps sp ∧ KBn K fd ps 1 ks g fun vs zs => vs ++ (zs ++ dvs) := by
  obtain ⟨fd, F⟩ := D.ex
  obtain ⟨g, b⟩ := hb _ fd F
  exact ⟨fd, g, F.ok S len (fun cdv A outer s H vs Q E hr h => hbody _ cdv A outer s H vs Q E hr h), b⟩
theorem Dk.gkk {dv0 : List V} (D : Dk K mg c qual st dv0) (h : ∃ fd g, FnOk P w K mg base CX k (He.ma K (He.ga K c) "__init__") fd ps sp ∧ KBn K fd ps 1 ks g fun vs zs => vs ++ (zs ++ dvs)) : Gkk P w K mg base CX k c ps ks dvs sp := ⟨D.mkr, D.at_, h⟩
/-- the defaults behind the first j fill up -/
theorem kbn_of {x : Str} {f : Addr} {fd : FuncData} {params : Arguments} {body : List Stmt} {scope : Scope} {dv0 : List V} (F : FunD K x qual params body scope dv0 [] f fd) (j : Nat) (hd : dv0 ≠ [])
    (h : ∀ (T : Addr) (kV doc pm : Value) (an : Option Addr) (cdv ct : Value) (us its ws : List Value), us.length = 1 → its.length = dv0.length → ws.length = ks.length →
      ∃ k, bindArgs (PySem.W.fnOf x qual params body scope (.ref T) kV doc pm an cdv ct) ⟨us, ks.zip ws⟩ = seqItems? (.ref T) >>= k ∧ k (some its.toArray) = pure (ps.zip (us ++ (ws ++ its.drop j)))) : ∃ g, KBn K fd ps 1 ks g fun vs zs => vs ++ (zs ++ dv0.drop j) := by
  obtain ⟨its, b⟩ := F.kbindsD 1 ks (fun us its ws => us ++ (ws ++ its.drop j)) hd (fun h1 h2 h3 => h1.append (h3.append (h2.drop j))) h
  exact ⟨_, b⟩
end
section
variable {T : List (Addr × Str)} {K : PySem.W.Frag} {σ : L2.St} {H H0 : Hp} {R : Hp → V → Hp → Prop} {C : Addr} {m : Nat} {sp : Sp} {dvs zs : List V} {E : XK} {tk : TA}
/-- things at hand, as arguments -/
def tHand (zs : List V) : TA := fun _ H Q => Q zs H
theorem ea_hand : EvA T (tHand zs) σ H zs := fun H1 _ _ q => q H1 Mv.refl
theorem er_kw (h : EvA T tk σ H zs) (hl : zs.length = m) (k : ∀ H2, Ex T H H2 → EvR T (tMake C sp dvs E (tHand zs)) σ H2 R) (hm : ∀ H1 H2 v H3, Ex T H H1 → Ex T H1 H2 → Ex T H2 H3 → R H2 v H3 → R H1 v H3) : EvR T (tMakeKw C m sp dvs E tk) σ H R := fun H1 e Q q =>
  h H1 e _ fun H2 e2 => ⟨rfl, hl, k H2 (e.trans e2) H2 Mv.refl Q fun v H3 e3 r => q v H3 (e2.trans e3) (hm H1 H2 v H3 e e2 e3 r)⟩
/-- keywords told by a relation -/
theorem er_kwR {RA : Hp → List V → Hp → Prop} (h : EvAR T tk σ H RA) (hl : ∀ H1 ws H2, RA H1 ws H2 → ws.length = m) (k : ∀ H1 ws H2, Ex T H H1 → Ex T H1 H2 → RA H1 ws H2 → EvR T (tMake C sp dvs E (tHand ws)) σ H2 (fun _ v H3 => R H1 v H3)) : EvR T (tMakeKw C m sp dvs E tk) σ H R := fun H1 e Q q =>
  h H1 e _ fun ws H2 e2 r => ⟨rfl, hl H1 ws H2 r, k H1 ws H2 e e2 r H2 Mv.refl Q fun v H3 e3 r => q v H3 (e2.trans e3) r⟩
end
/-! ### whether an instance is of an own class -/
structure IsC (K : PySem.W.Frag) (c d : Str) : Prop where
  ha : PySem.W.findIn K (.ref (He.ga K c)) "__class__" = some (some (.builtin "object.__class__"))
  hn : PySem.W.specialIn K (.builtin "object.__class__") "__get__" = some (some (.builtin "getset_descriptor.__get__"))
  htk : PySem.W.takesIn K (.builtin "object.__class__") = some true
  hm : PySem.W.mroIn K (He.ga K c) (.type "object") = some true
  kit : PySem.W.kitOne K (.ref (He.ga K c)) (.ref (He.ga K d)) = some true
def isCB (K : PySem.W.Frag) (c d : Str) : Bool := decide (PySem.W.findIn K (.ref (He.ga K c)) "__class__" = some (some (.builtin "object.__class__"))) && (decide (PySem.W.specialIn K (.builtin "object.__class__") "__get__" = some (some (.builtin "getset_descriptor.__get__"))) && (decide (PySem.W.takesIn K (.builtin "object.__class__") = some true) && (decide (PySem.W.mroIn K (He.ga K c) (.type "object") = some true) && decide (PySem.W.kitOne K (.ref (He.ga K c)) (.ref (He.ga K d)) = some true))))
theorem isCB_ok {K : PySem.W.Frag} {c d : Str} (h : isCB K c d = true) : IsC K c d := by
  unfold isCB at h
  simp only [Bool.and_eq_true, decide_eq_true_eq] at h
  exact ⟨h.1, h.2.1, h.2.2.1, h.2.2.2.1, h.2.2.2.2⟩
theorem rc_isC {T : List (Addr × Str)} {K : PySem.W.Frag} {H : Hp} {a dx : Addr} {fs : List (Str × V)} {c d : Str} (I : IsC K c d) (cl : Cls K (He.ga K c)) (h : H a = some (.ins (He.ga K c) dx fs)) : RC T (rIsi K) [.ref a, .ref (He.ga K d)] H (.bl true) := fun H1 e _ q =>
  ⟨.ref a, .ref (He.ga K d), .ref (He.ga K c), .ref (He.ga K d), true, rfl, .own _, .base (.ins (e.at h) cl I.ha I.hn I.htk I.hm), I.kit, q H1 Mv.refl⟩
end Fp

namespace Fp
open PySem PySem.Spec PyProof.Rows L2 LamX
/-! ### pictures and boards, plainly -/
section
variable {s : BSt} {rs ls : List Int} {n : Nat} {b c : Int → Bool} {i j m : Int} {bs : List Bool}
theorem fst_char (hm : m ∈ ls) (h : ∀ x ∈ ls, ordLe rs m x = true) : fstOf rs ls = some m := by
  cases hf : fstOf rs ls with
  | none => rw [fstOf_none.mp hf] at hm; cases hm
  | some k =>
    have l := fstOf_least hf
    rw [ordLe_anti (l.2 m hm) (h k l.1)]
theorem ltO_mono {x y : Int} {e : Option Int} (h : x ≤ y) (k : ltO y e = true) : ltO x e = true := by
  cases e with
  | none => rfl
  | some z =>
    have k : y < z := of_decide_eq_true k
    exact decide_eq_true (show x < z by omega)
theorem open_mono (h : rk s.ranks i ≤ rk s.ranks j) (k : s.open_ j = true) : s.open_ i = true := by
  unfold BSt.open_ at *
  have k := Bool.and_eq_true_iff.mp k
  exact Bool.and_eq_true_iff.mpr ⟨ltO_mono h k.1, ltO_mono h k.2⟩
theorem ordLe_rk {a b : Int} (h : ordLe rs a b = true) : rk rs a ≤ rk rs b := by
  simp only [ordLe, decide_eq_true_eq] at h
  omega
theorem POk.head {p : PSt} (o : POk p) : p.hung.head? = fstOf p.ranks (p.hung ++ p.book) := by
  cases hh : p.hung with
  | nil => rw [o.ne hh]; rfl
  | cons x xs =>
    refine (fst_char (m := x) (by simp) fun y hy => ?_).symm
    rw [← hh] at hy
    rcases List.mem_append.mp hy with z | z
    · rw [hh] at z
      have so := o.so
      rw [hh] at so
      rcases List.mem_cons.mp z with w | w
      · rw [w]; exact ordLe_self x
      · exact ordLe_of ((List.pairwise_cons.mp so).1 y w)
    · exact ordLe_of (o.fr x (by rw [hh]; exact List.mem_cons_self) y z)
/-- pegs hold the best line -/
theorem best_bw (w : BWf s) : s.best = s.bestW := by
  cases hs : s.pegs with
  | none => exact best_none hs
  | some p =>
    obtain ⟨o, er, pm⟩ := w.pg p hs
    have eh := o.head
    rw [er] at eh
    have eb : s.best = match p.hung.head? with
      | none => none
      | some i => if s.open_ i = true then some i else none := by unfold BSt.best; rw [hs] <;> rfl
    have rd : ∀ x, x ∈ linesW s.ranks.length s.ready → x ∈ p.hung ++ p.book ∧ s.open_ x = true := fun x hx => by
      have hx := mem_linesW.mp hx
      unfold BSt.ready at hx
      have h2 := Bool.and_eq_true_iff.mp hx.2
      have h3 := Bool.and_eq_true_iff.mp h2.2
      exact ⟨pm.mem_iff.mpr (mem_linesW.mpr ⟨hx.1, Bool.and_eq_true_iff.mpr ⟨h2.1, h3.1⟩⟩), h3.2⟩
    rw [eb, eh]
    unfold BSt.bestW
    cases hf : fstOf s.ranks (p.hung ++ p.book) with
    | none =>
      have := fstOf_none.mp hf
      refine (fstOf_none.mpr (List.eq_nil_iff_forall_not_mem.mpr fun x hx => ?_)).symm
      have := (rd x hx).1
      rw [fstOf_none.mp hf] at this
      cases this
    | some i =>
      have l := fstOf_least hf
      dsimp only
      by_cases ho : s.open_ i = true
      · rw [if_pos ho]
        have hi := mem_linesW.mp (pm.mem_iff.mp l.1)
        have h2 := Bool.and_eq_true_iff.mp hi.2
        refine (fst_char (mem_linesW.mpr ⟨hi.1, ?_⟩) fun x hx => l.2 x (rd x hx).1).symm
        unfold BSt.ready
        rw [h2.1, h2.2, ho]; rfl
      · rw [if_neg ho]
        refine (fstOf_none.mpr (List.eq_nil_iff_forall_not_mem.mpr fun x hx => ?_)).symm
        have r := rd x hx
        exact ho (open_mono (ordLe_rk (l.2 x r.1)) r.2)
theorem lines_filter : (linesW n b).filter c = linesW n (fun z => b z && c z) := by
  unfold linesW
  rw [List.filter_map, List.filter_filter]
  congr 1
  exact List.filter_congr fun z _ => by simp [Bool.and_comm]
theorem mem_fl (h : bs.length = n) (h0 : 0 ≤ i ∧ i < (n : Int)) : decide (i ∈ linesW n (fl bs)) = fl bs i := by
  rw [Bool.eq_iff_iff, decide_eq_true_eq, mem_linesW]
  exact ⟨fun z => z.2, fun z => ⟨h0, z⟩⟩
theorem marks_at {ls : List Int} : ∀ {bs : List Bool}, bs.length = n → (∀ i ∈ ls, 0 ≤ i ∧ i < (n : Int)) → ∀ j, 0 ≤ j ∧ j < (n : Int) → fl (ls.foldl (fun bs i => bs.set i.toNat true) bs) j = (decide (j ∈ ls) || fl bs j) := by
  induction ls with
  | nil => intro bs _ _ j _; simp
  | cons x xs ih =>
    intro bs hl hx j hj
    have x0 := hx x List.mem_cons_self
    rw [List.foldl_cons, ih (by rw [List.length_set]; exact hl) (fun i hi => hx i (List.mem_cons_of_mem _ hi)) j hj, fl_set x0.1 (by omega) hj.1]
    by_cases e : j = x
    · subst e; simp
    · simp [e]
theorem fl_ext {A B : List Bool} (ha : A.length = n) (hb : B.length = n) (h : ∀ j : Int, 0 ≤ j ∧ j < (n : Int) → fl A j = fl B j) : A = B := by
  refine List.ext_getElem (by omega) fun i h1 h2 => ?_
  have := h (i : Int) ⟨by omega, by omega⟩
  unfold fl at this
  rw [Int.toNat_natCast, List.getD_eq_getElem?_getD, List.getD_eq_getElem?_getD, List.getElem?_eq_getElem h1, List.getElem?_eq_getElem h2] at this
  exact this
theorem marks_lines (h : bs.length = n) : marks n (linesW n (fl bs)) = bs := by
  refine fl_ext (n := n) marks_len h fun j hj => ?_
  unfold marks
  rw [marks_at (n := n) (by simp) (fun i hi => (mem_linesW.mp hi).1) j hj, mem_fl h hj]
  have : fl (List.replicate n false) j = false := by
    unfold fl
    rw [List.getD_eq_getElem?_getD, List.getElem?_replicate]
    split <;> rfl
  rw [this, Bool.or_false]
theorem lines_nil : linesW n (fun _ => false) = [] := by unfold linesW; simp
theorem fl_rep : fl (List.replicate n false) = fun _ => false := by
  funext j
  unfold fl
  rw [List.getD_eq_getElem?_getD, List.getElem?_replicate]
  split <;> rfl
theorem linesW_lt : (linesW n b).Pairwise (· < ·) := by
  unfold linesW
  refine List.Pairwise.map _ (fun x y h => ?_) (List.pairwise_lt_range.filter _)
  exact Int.ofNat_lt.mpr h
theorem adj_of {f : Int → Int → Bool} (h : ls.Pairwise fun x y => f x y = true) : adjB f ls = true := by
  unfold adjB
  rw [List.all_eq_true]
  intro i hi
  have hi := List.mem_range.mp hi
  rw [rk_el (by omega) (by omega), rk_el (by omega) (by omega)]
  exact List.pairwise_iff_getElem.mp h _ _ (by omega) (by omega) (by omega)
/-- a board made of a picture -/
theorem PcW.eqW (w : PcW rs s) : BSt.mk0 rs s.d3.x s.d3.y s.d3.z s.edge = s := by
  obtain ⟨wf, pg, rk⟩ := w
  subst rk
  unfold BSt.mk0 BSt.d3
  rw [marks_lines wf.la, marks_lines wf.lq]
  cases s
  cases pg
  rfl
theorem new_d3 : (BSt.mk0 rs [] [] [] none).d3 = ⟨[], [], []⟩ := by
  unfold BSt.d3 BSt.mk0 marks
  simp only [List.foldl_nil, fl_rep, lines_nil]
theorem new_d3F {m : Int} : (BSt.mkF rs [] [] [] none m).d3 = ⟨[], [], []⟩ := new_d3
theorem PcW.mkF {m : Int} (w : PcW rs s) : BSt.mkF rs s.d3.x s.d3.y s.d3.z s.edge m = { s with pegs := some (.make s.ranks m s.here) } := by
  unfold BSt.mkF
  rw [w.eqW]
  obtain ⟨_, _, rk⟩ := w
  subst rk
  rfl
theorem BWf.few {m : Int} (w : BWf s) (m1 : 1 ≤ m) (m2 : m ≤ 16) : BWf { s with pegs := some (.make s.ranks m s.here) } := by
  refine ⟨w.n1, w.n60, w.rk, w.la, w.lq, w.pl, w.pn, w.ed, fun p h => ?_⟩
  obtain rfl : PSt.make s.ranks m s.here = p := Option.some.inj h
  have ln : Lns s.ranks.length s.here := ⟨linesW_nd, fun i hi => (mem_linesW.mp hi).1⟩
  refine ⟨.make m1 m2 w.n60 ln, rfl, ?_⟩
  show ((inOrd s.ranks _).take m.toNat ++ (inOrd s.ranks _).drop m.toNat).Perm _
  rw [List.take_append_drop]
  exact inOrd_perm _ _
end
/-! ### a picture as data -/
def dO : Option Int → PyData
  | none => .none
  | some i => .int i
def itP (d : D3) (e : Option Int) : PyData := .tuple [dI d.x, dI d.y, dI d.z, dO e]
section
variable {T : List (Addr × Str)} {K : PySem.W.Frag} {H H1 : Hp} {t x y z : Addr} {d : D3} {e : Option Int} {s : BSt}
theorem dp_oI : Dp K H (oI e) (dO e) := by
  cases e with
  | none => exact .non
  | some i => exact .int i
theorem Pc.dp (P : Pc H t x y z d e) : Dp K H (.ref t) (itP d e) := .tup (.inl (.inl P.at_)) (.cons (dp_n P.hx) (.cons (dp_n P.hy) (.cons (dp_n P.hz) (.cons dp_oI .nil))))
theorem lay_dO : PyData.canLay0 (dO e) = true ∧ PyData.depth (dO e) = 0 := by cases e <;> exact ⟨rfl, rfl⟩
theorem lay_itP : PyData.canLay0 (itP d e) = true ∧ PyData.depth (itP d e) = 2 := by
  constructor
  · simp [itP, PyData.canLay0, PyData.canLayAll0, lay_dI, lay_dO]
  · simp [itP, PyData.depth, PyData.depthAll, lay_dI, lay_dO]
theorem sh_itP : SeqAt.shaped (itP d e) = true := by
  have h := lay_itP (d := d) (e := e)
  unfold SeqAt.shaped
  rw [h.1, h.2]
  decide
theorem BWf.lsO (hl : ∀ i ∈ ls, inR s.ranks i) (h : H x = some (.lst (List.map V.int ls))) (n : List.length ls ≤ 1000) : LsO K H s.ranks.length (.ref x) ls := ⟨x, rfl, kd_l h, .inl (.inl h), hl, n⟩
/-- the picture of a board is one that makings take -/
theorem Pc.picT (P : Pc H t x y z s.d3 s.edge) (w : BWf s) : PicT K H s.ranks (.ref t) s.d3.x s.d3.y s.d3.z s.edge := by
  have n := w.n60
  refine ⟨t, _, _, _, rfl, kd_t P.at_, P.tt, BWf.lsO (fun i hi => (mem_linesW.mp hi).1) P.hx (Nat.le_trans linesW_len (by omega)), BWf.lsO (fun i hi => (mem_linesW.mp hi).1) P.hy (Nat.le_trans linesW_len (by omega)), BWf.lsO w.pl P.hz (Nat.le_trans w.pile_len (by decide)), adj_of ?_, adj_of ?_, adj_of ?_, okBar_isBr w.ed⟩
  · exact linesW_lt.imp fun h => by simp [upF, h]
  · exact linesW_lt.imp fun h => by simp [upF, h]
  · exact w.pn.imp fun h => by simp [dnF, h]
end
end Fp

namespace Fp
open PySem PySem.Spec PyProof.Rows L2 LamX
/-! ### new things as arguments, makings, pictures told -/
section
variable {T : List (Addr × Str)} {K : PySem.W.Frag} {σ : L2.St} {H H0 H1 : Hp} {te ta tb tl : TE} {ts : TA} {x z : V} {xs ys ws : List V} {R RB : Hp → V → Hp → Prop} {r : V → V → Hp → VK → Prop} {C : Addr} {m : Nat} {sp : Sp} {dvs : List V} {E : XK}
theorem ev_lenL (h : EvL T te σ H xs) : Ev T (tCB (rLen K) (tCons te tNil)) σ H (.int xs.length) := fun H1 e Q q =>
  h H1 e _ fun _ H2 e2 ⟨p, ep, _, hp⟩ => by
    subst ep
    exact rc_len (.inl (.inl (.inl hp))) H2 Mv.refl Q fun H3 e3 => q H3 (e2.trans e3)
theorem ev_opVR (ha : Ev T ta σ H x) (hb : EvR T tb σ H RB) (hr : ∀ H1 y H2, Ex T H H1 → Ex T H1 H2 → RB H1 y H2 → RV T r x y H2 z) : Ev T (tOp r ta tb) σ H z := fun H1 e Q k =>
  ha H1 e _ fun H2 e2 => hb H2 (e.trans e2) _ fun y H3 e3 r => hr H2 y H3 (e.trans e2) e3 r H3 Mv.refl Q fun H4 e4 => k H4 ((e2.trans e3).trans e4)
theorem ev_opRV {y : V} (ha : EvR T ta σ H RB) (hb : Ev T tb σ H y) (hr : ∀ H1 x H2 H3, Ex T H H1 → Ex T H1 H2 → RB H1 x H2 → Ex T H2 H3 → RV T r x y H3 z) : Ev T (tOp r ta tb) σ H z := fun H1 e Q k =>
  ha H1 e _ fun x H2 e2 rr => hb H2 (e.trans e2) _ fun H3 e3 => hr H1 x H2 H3 e e2 rr e3 H3 Mv.refl Q fun H4 e4 => k H4 ((e2.trans e3).trans e4)
theorem el_catL (ha : EvL T ta σ H xs) (hb : EvL T tb σ H ys) (hz : xs.length + ys.length ≤ 100000) : EvL T (tOp rCat ta tb) σ H (xs ++ ys) := fun H1 e Q q =>
  ha H1 e _ fun _ H2 e2 ⟨a, ea, _, ha⟩ => by
    subst ea
    exact hb H2 (e.trans e2) _ fun _ H3 e3 ⟨b, eb, _, hb⟩ => by
      subst eb
      exact ⟨a, b, xs, ys, rfl, rfl, e3.at ha, hb, sz hz, fun n hn => q _ _ ((e2.trans e3).trans (Mv.new hn)) ⟨n, rfl, (e2.trans e3).nod hn, upd_same⟩⟩
theorem el_listU (h : EvU T te σ H xs) : EvL T (tCB (rLst K) (tCons te tNil)) σ H xs := fun H1 e Q q =>
  h H1 e _ fun _ H2 e2 ⟨p, ep, _, hp⟩ => by
    subst ep
    exact ⟨p, xs, rfl, .inr (.inl (.inl hp)), fun l hl => q _ _ (e2.trans (Mv.new hl)) ⟨l, rfl, e2.nod hl, upd_same⟩⟩
/-- a making whose first argument is a new list -/
theorem er_mkL (h : EvL T tl σ H xs) (h2 : ∀ H1, Ex T H H1 → EvA T ts σ H1 ws) (k : ∀ l H2, Ex T H H2 → H2 l = some (.lst xs) → EvR T (tMake C sp dvs E (tHand (.ref l :: ws))) σ H2 R) (hm : ∀ H1 H2 v H3, Ex T H H1 → Ex T H1 H2 → Ex T H2 H3 → R H2 v H3 → R H1 v H3) : EvR T (tMake C sp dvs E (tCons tl ts)) σ H R := fun H1 e Q q =>
  h H1 e _ fun _ H2 e2 ⟨l, el, _, hl⟩ => by
    subst el
    exact h2 H2 (e.trans e2) H2 Mv.refl _ fun H3 e3 => k l H3 ((e.trans e2).trans e3) (e3.at hl) H3 Mv.refl Q fun v H4 e4 r => q v H4 ((e2.trans e3).trans e4) (hm H1 H3 v H4 e (e2.trans e3) e4 r)
/-- the same by keywords -/
theorem er_mkwL (h : EvL T tl σ H xs) (h2 : ∀ H1, Ex T H H1 → EvA T ts σ H1 ws) (hn : ws.length + 1 = m) (k : ∀ l H2, Ex T H H2 → H2 l = some (.lst xs) → EvR T (tMake C sp dvs E (tHand (.ref l :: ws))) σ H2 R) (hm : ∀ H1 H2 v H3, Ex T H H1 → Ex T H1 H2 → Ex T H2 H3 → R H2 v H3 → R H1 v H3) : EvR T (tMakeKw C m sp dvs E (tCons tl ts)) σ H R := fun H1 e Q q =>
  h H1 e _ fun _ H2 e2 ⟨l, el, _, hl⟩ => by
    subst el
    exact h2 H2 (e.trans e2) H2 Mv.refl _ fun H3 e3 => ⟨rfl, hn, k l H3 ((e.trans e2).trans e3) (e3.at hl) H3 Mv.refl Q fun v H4 e4 r => q v H4 ((e2.trans e3).trans e4) (hm H1 H3 v H4 e (e2.trans e3) e4 r)⟩
variable {c : Str} {a : Addr} {s : BSt} {S : Addr → Prop} {ha : Addr}
/-- the best line, the picture told: of a board of either class -/
theorem ev_best2 (hc : WoF c) (O : BrdO K c H a s S) (w : BWf s) (ho : Ev T ta σ H (.ref a)) : Ev T (tOr2 (tMeth (He.ga K "Wide") "best" (sp_B_best K T "Wide") [] E ta tNil) (tMeth (He.ga K "Few") "best" (sp_B_best K T "Few") [] E ta tNil)) σ H (oI s.bestW) :=
  (best_bw w) ▸ EvR.toV (er_or2 (fun c => sp_B_best K T c) hc O ho (fun _ _ _ _ _ _ h => lk_none h rfl fun _ => rfl) ea_nil (SpR.ofV (v_B_best O w)) (fun _ _ _ _ _ _ _ h => h))
theorem er_told2 (hc : WoF c) (O : BrdO K c H a s S) (w : BWf s) (ho : Ev T ta σ H (.ref a)) : EvR T (tOr2 (tMeth (He.ga K "Wide") "told" (sp_B_told K T "Wide") [] E ta tNil) (tMeth (He.ga K "Few") "told" (sp_B_told K T "Few") [] E ta tNil)) σ H (newPc s.d3 s.edge) :=
  EvR.imp (er_or2 (R := newPic s) (fun c => sp_B_told K T c) hc O ho (fun _ _ _ _ _ _ h => lk_none h rfl fun _ => rfl) ea_nil (v_B_told O w) (fun H1 H2 v H3 _ b c h => by
    obtain ⟨t, x, y, z, e, n1, n2, n3, n4, h⟩ := h
    exact ⟨t, x, y, z, e, b.dm _ n1, b.dm _ n2, b.dm _ n3, b.dm _ n4, h⟩)) fun _ _ _ _ _ h => newPic_pc h
variable {t1 t2 t3 t4 : TE} {y : V} {R1 R2 : Hp → V → Hp → Prop} {D : Ends} {u tu : TS} {g : TG} {p : Addr}
/-- a list and a new list told by a relation, put together -/
theorem er_cat2 (ha : Ev T ta σ H (.ref p)) (hp : H p = some (.lst xs)) (hb : EvR T tb σ H RB) (hx : ∀ H1 v H2, RB H1 v H2 → ∃ q ys, v = .ref q ∧ H2 q = some (.lst ys) ∧ xs.length + ys.length ≤ 100000) : EvR T (tOp rCat ta tb) σ H (fun H1 v H4 => ∃ n y ys H2 H3, v = .ref n ∧ nod H1 n ∧ Ex T H1 H2 ∧ RB H2 (.ref y) H3 ∧ H3 y = some (.lst ys) ∧ Ex T H3 H4 ∧ H4 n = some (.lst (xs ++ ys))) := fun H1 e Q q =>
  ha H1 e _ fun H2 e2 => hb H2 (e.trans e2) _ fun v H3 e3 r => by
    obtain ⟨b, ys, ev, hb, hz⟩ := hx H2 v H3 r
    subst ev
    exact ⟨p, b, xs, ys, rfl, rfl, e3.at (e2.at (e.at hp)), hb, sz hz, fun n hn => q _ _ ((e2.trans e3).trans (Mv.new hn)) ⟨n, b, ys, H2, H3, rfl, (e2.trans e3).nod hn, e2, r, hb, Mv.new hn, upd_same⟩⟩
theorem ear_22 (h1 : Ev T t1 σ H x) (h2 : Ev T t2 σ H y) (h3 : EvR T t3 σ H R1) (h4 : EvR T t4 σ H R2) : EvAR T (tCons t1 (tCons t2 (tCons t3 (tCons t4 tNil)))) σ H (fun H1 vs H4 => ∃ u v H2 H3, vs = [x, y, u, v] ∧ Ex T H1 H2 ∧ Ex T H2 H3 ∧ R1 H2 u H3 ∧ Ex T H3 H4 ∧ R2 H3 v H4) := fun H1 e Q q =>
  h1 H1 e _ fun H2 e2 => h2 H2 (e.trans e2) _ fun H3 e3 => h3 H3 ((e.trans e2).trans e3) _ fun u H4 e4 r => h4 H4 (((e.trans e2).trans e3).trans e4) _ fun v H5 e5 r2 => q _ H5 (((e2.trans e3).trans e4).trans e5) ⟨u, v, H3, H4, rfl, e2.trans e3, e4, r, e5, r2⟩
theorem q_forL (e : Ex T H0 H) (h : Ev T tl σ H0 (.ref a)) (hx : SqL K H0 a xs) (Pv : Nat → L2.St → Hp → Prop) (h0 : ∀ H1, Ex T H0 H1 → Ex T H H1 → Pv 0 σ H1) (hl : ∀ i σ' H', i ≤ xs.length → Pv i σ' H' → SqL K H' a xs)
    (hs : ∀ i x σ' H', xs[i]? = some x → Pv i σ' H' → g x σ' H' fun σ2 H2 => tu { D with nx := Pv (i + 1), ct := Pv (i + 1), bk := u D } σ2 H2) (hd : ∀ σ' H', Pv xs.length σ' H' → u D σ' H') : tSeq (tFor (iList K tl) g tu) u D σ H := s_forL (D := { D with nx := u D }) e h hx Pv h0 hl hs hd
end
end Fp

namespace Fp
open PySem PySem.Spec PyProof.Rows L2 LamX
/-! ### pictures of boards, compared -/
section
variable {T : List (Addr × Str)} {K : PySem.W.Frag} {σ : L2.St} {H H0 H1 : Hp} {te ta tb : TE} {c : Str} {a t x y z : Addr} {s : BSt} {S : Addr → Prop} {d : D3} {e : Option Int} {E : XK}
/-- the picture told of a board at hand -/
theorem er_told1 (O : BrdO K c H a s S) (w : BWf s) (ho : Ev T ta σ H (.ref a)) : EvR T (tMeth (He.ga K c) "told" (sp_B_told K T c) [] E ta tNil) σ H (newPc s.d3 s.edge) := by
  obtain ⟨dx, r, as, qs, pl, tl, B⟩ := O.ex
  exact EvR.imp (er_meth ho B.A.at_ (lk_none B.A.tk rfl fun _ => rfl) ea_nil rfl (v_B_told O w) newPic_back) fun _ _ _ _ _ h => newPic_pc h
/-- of a board just made -/
theorem er_toldN (h : EvR T ta σ H (newBrd K c s)) (w : BWf s) : EvR T (tMeth (He.ga K c) "told" (sp_B_told K T c) [] E ta tNil) σ H (newPc s.d3 s.edge) := fun H1 e Q q =>
  h H1 e _ fun _ H2 e2 ⟨a, ev, O⟩ => by
    subst ev
    exact er_told1 (T := T) (σ := σ) (ta := tC (.ref a)) O w ev_c H2 Mv.refl Q fun v H3 e3 r => q v H3 (e2.trans e3) (newPc_back _ _ _ _ e e2 e3 r)
/-- a picture told is a picture at hand -/
theorem ev_eqPc (h : EvR T ta σ H (newPc d e)) (hb : Ev T tb σ H (.ref t)) (P : Pc H t x y z d e) : Ev T (tOp (rEqD K) ta tb) σ H (.bl true) :=
  ev_opRV h hb fun _ _ _ _ a b ⟨_, _, _, _, ev, _, P2⟩ f => by
    subst ev
    exact rv_eqDt (P2.ex f).dp (P.ex ((a.trans b).trans f)).dp sh_itP
theorem ev_nePc (h : EvR T ta σ H (newPc d e)) (hb : Ev T tb σ H (.ref t)) (P : Pc H t x y z d e) : Ev T (tOp (rNeD K) ta tb) σ H (.bl false) :=
  ev_opRV h hb fun _ _ _ _ a b ⟨_, _, _, _, ev, _, P2⟩ f => by
    subst ev
    exact rv_neDf (P2.ex f).dp (P.ex ((a.trans b).trans f)).dp sh_itP
/-- two pictures told -/
theorem ev_eqPc2 (h : EvR T ta σ H (newPc d e)) (hb : EvR T tb σ H (newPc d e)) : Ev T (tOp (rEqD K) ta tb) σ H (.bl true) := fun H1 e1 Q q =>
  h H1 e1 _ fun _ H2 e2 ⟨_, _, _, _, ev, _, P⟩ => by
    subst ev
    refine hb H2 (e1.trans e2) _ fun _ H3 e3 ⟨_, _, _, _, ev, _, P2⟩ => ?_
    subst ev
    exact rv_eqDt (P.ex e3).dp P2.dp sh_itP H3 Mv.refl Q fun H4 e4 => q H4 ((e2.trans e3).trans e4)
theorem ev_nePc2 (h : EvR T ta σ H (newPc d e)) (hb : EvR T tb σ H (newPc d e)) : Ev T (tOp (rNeD K) ta tb) σ H (.bl false) := fun H1 e1 Q q =>
  h H1 e1 _ fun _ H2 e2 ⟨_, _, _, _, ev, _, P⟩ => by
    subst ev
    refine hb H2 (e1.trans e2) _ fun _ H3 e3 ⟨_, _, _, _, ev, _, P2⟩ => ?_
    subst ev
    exact rv_neDf (P.ex e3).dp P2.dp sh_itP H3 Mv.refl Q fun H4 e4 => q H4 ((e2.trans e3).trans e4)
end
end Fp

namespace Fp
open PySem PySem.Spec PyProof.Rows L2 LamX
/-! ### lists of mixed things, tuples of lists -/
/-- tuple(xs) -/
def rTup (K : PySem.W.Frag) : List V → Hp → VK → Prop := fun xs H Q => ∃ p ys, xs = [.ref p] ∧ ((SqL K H p ys ∧ ∀ l, H l = none → Q (.ref l) (upd H l (.tup ys))) ∨ (SqT K H p ys ∧ Q (.ref p) H))
/-- what stays true of a thing -/
def St (T : List (Addr × Str)) (P : Hp → V → Prop) : Prop := ∀ H H' v, Ex T H H' → P H v → P H' v
def EvQ (T : List (Addr × Str)) (ta : TA) (σ : L2.St) (H : Hp) (n : Nat) (P : Hp → V → Prop) : Prop := EvAR T ta σ H fun _ vs H2 => vs.length = n ∧ ∀ v ∈ vs, P H2 v
def newQ (n : Nat) (P : Hp → V → Prop) : Hp → V → Hp → Prop := fun H v H' => ∃ p xs, v = .ref p ∧ nod H p ∧ H' p = some (.lst xs) ∧ xs.length = n ∧ ∀ x ∈ xs, P H' x
/-- not of a kind -/
def PK (f : V → Bool) : Hp → V → Prop := fun H v => kd H v ≠ "" ∧ f v = false
section
variable {T : List (Addr × Str)} {K : PySem.W.Frag} {σ : L2.St} {H H0 H1 : Hp} {te ta tb : TE} {ts : TA} {x z : V} {xs ys : List V} {P : Hp → V → Prop} {n : Nat} {i : Int} {f : V → Bool} {a : Addr}
theorem eu_tupL (h : EvL T te σ H xs) : EvU T (tCB (rTup K) (tCons te tNil)) σ H xs := fun H1 e Q q =>
  h H1 e _ fun _ H2 e2 ⟨p, ep, _, hp⟩ => by
    subst ep
    exact ⟨p, xs, rfl, .inl ⟨.inl (.inl hp), fun l hl => q _ _ (e2.trans (Mv.new hl)) ⟨l, rfl, e2.nod hl, upd_same⟩⟩⟩
theorem eu_tupV (h : Ev T te σ H (.ref a)) (hx : SqL K H a xs) : EvU T (tCB (rTup K) (tCons te tNil)) σ H xs := fun H1 e Q q =>
  h H1 e _ fun H2 e2 => ⟨a, xs, rfl, .inl ⟨(e.trans e2).l hx, fun l hl => q _ _ (e2.trans (Mv.new hl)) ⟨l, rfl, e2.nod hl, upd_same⟩⟩⟩
theorem st_k : St T (PK f) := fun H H' v e h => ⟨by rw [kd_exn e h.1]; exact h.1, h.2⟩
theorem st_brd : St T (fun H v => BrdV K H v false) := fun _ _ _ e h => h.ex e
theorem eq_nil : EvQ T tNil σ H 0 P := fun H1 _ Q q => q [] H1 Mv.refl ⟨rfl, fun _ h => by cases h⟩
theorem eq_cons (s : St T P) (h : EvR T te σ H fun _ v H2 => P H2 v) (ht : EvQ T ts σ H n P) : EvQ T (tCons te ts) σ H (n + 1) P := fun H1 e Q q =>
  h H1 e _ fun v H2 e2 p => ht H2 (e.trans e2) _ fun vs H3 e3 ⟨l, a⟩ => q (v :: vs) H3 (e2.trans e3) ⟨by rw [List.length_cons, l], fun w hw => by
    rcases List.mem_cons.mp hw with rfl | hw
    · exact s _ _ _ e3 p
    · exact a w hw⟩
theorem eq_v (s : St T P) (h : Ev T te σ H x) (hp : ∀ H1, P H1 x) (ht : EvQ T ts σ H n P) : EvQ T (tCons te ts) σ H (n + 1) P := eq_cons s (fun H1 e Q q => h H1 e _ fun H2 e2 => q x H2 e2 (hp H2)) ht
theorem eq_l (s : St T P) (h : EvL T te σ H xs) (hp : ∀ H1 a, H1 a = some (.lst xs) → P H1 (.ref a)) (ht : EvQ T ts σ H n P) : EvQ T (tCons te ts) σ H (n + 1) P := eq_cons s (h.imp fun _ _ _ _ _ ⟨a, e, _, h⟩ => by rw [e]; exact hp _ a h) ht
theorem eq_u (s : St T P) (h : EvU T te σ H xs) (hp : ∀ H1 a, H1 a = some (.tup xs) → P H1 (.ref a)) (ht : EvQ T ts σ H n P) : EvQ T (tCons te ts) σ H (n + 1) P := eq_cons s (h.imp fun _ _ _ _ _ ⟨a, e, _, h⟩ => by rw [e]; exact hp _ a h) ht
theorem eq_d (s : St T P) (hp : ∀ H1 a, H1 a = some (.dK []) → P H1 (.ref a)) (ht : EvQ T ts σ H n P) : EvQ T (tCons tDNewK ts) σ H (n + 1) P := eq_cons s (er_newD.imp fun _ _ _ _ _ ⟨a, e, _, h⟩ => by rw [e]; exact hp _ a h) ht
theorem kd_d (h : H a = some (.dK [])) : kd H (.ref a) = "dict" := by simp only [kd, h]
theorem er_lstQ (s : St T P) (h : EvQ T ts σ H n P) (hn : n ≤ 100000) : EvR T (tLst ts) σ H (newQ n P) := fun H1 e Q q =>
  h H1 e _ fun vs H2 e2 ⟨l, a⟩ => ⟨sz (by rw [l]; exact hn), fun p hp => q _ _ (e2.trans (Mv.new hp)) ⟨p, vs, rfl, e2.nod hp, upd_same, l, fun x hx => s _ _ _ (Mv.new hp) (a x hx)⟩⟩
theorem atI_in {xs : List V} {i : Int} (h0 : 0 ≤ i) (h1 : i < xs.length) : ∃ y ∈ xs, atI xs i = some y := by
  obtain ⟨j, rfl⟩ := Int.eq_ofNat_of_zero_le h0
  have hj : j < xs.length := by omega
  exact ⟨xs[j], List.getElem_mem hj, atI_nat (List.getElem?_eq_getElem hj)⟩
theorem er_ixQ (s : St T P) (h : EvQ T ts σ H n P) (hn : n ≤ 100000) (hi : Ev T tb σ H (.int i)) (h0 : 0 ≤ i) (h1 : i < n) : EvR T (tOp (rIxL K) (tLst ts) tb) σ H (fun _ v H2 => P H2 v) := fun H1 e Q q =>
  er_lstQ s h hn H1 e _ fun v H2 e2 ⟨p, xs, ev, _, hp, l, ha⟩ => by
    subst ev
    refine hi H2 (e.trans e2) _ fun H3 e3 => ?_
    obtain ⟨y, hy, hx⟩ := atI_in (xs := xs) h0 (by rw [l]; exact h1)
    exact ⟨p, xs, i, y, rfl, rfl, .inl (.inl (e3.at hp)), hx, q y H3 (e2.trans e3) (s _ _ _ e3 (ha y hy))⟩
/-! what is no board, no row of lines, no picture -/
theorem brdV_k (h : kd H x ≠ "") (h2 : kd H x ≠ "list") : BrdV K H x false := ⟨h, .inl ⟨h2, rfl⟩⟩
theorem brdV_l (h : H a = some (.lst xs)) (hk : ∀ y ∈ xs, kd H y ≠ "") (hl : xs.length ≤ 1000) (hb : (decide (1 ≤ xs.length) && decide (xs.length ≤ 60) && xs.all isRk) = false) : BrdV K H (.ref a) false := ⟨by rw [kd_l h]; decide, .inr ⟨a, xs, rfl, kd_l h, .inl (.inl h), hk, hl, hb.symm⟩⟩
theorem lnsV_l (h : H a = some (.lst xs)) (hk : ∀ y ∈ xs, kd H y ≠ "") (hl : xs.length ≤ 1000) (hb : xs.all (isLn n) = false) : LnsV K H n (.ref a) false := ⟨by rw [kd_l h]; decide, .inr ⟨a, xs, rfl, kd_l h, .inl (.inl h), hk, hl, hb.symm⟩⟩
theorem lnsV_k (h : kd H x ≠ "") (h2 : kd H x ≠ "list") : LnsV K H n x false := ⟨h, .inl ⟨h2, rfl⟩⟩
theorem picV_k {rs : List Int} (h : kd H x ≠ "") (h2 : kd H x ≠ "tuple") : PicV K H rs x false := ⟨h, .inl ⟨h2, rfl⟩⟩
theorem picV_n {rs : List Int} (h : H a = some (.tup xs)) (hl : xs.length ≠ 4) : PicV K H rs (.ref a) false := ⟨by rw [kd_t h]; decide, .inr ⟨a, xs, rfl, kd_t h, .inl (.inl h), .inl ⟨hl, rfl⟩⟩⟩
theorem picV_4 {rs : List Int} {x0 x1 x2 x3 : V} {b0 b1 b2 : Bool} (h : H a = some (.tup [x0, x1, x2, x3])) (h0 : AdjV K H rs.length upF x0 b0) (h1 : AdjV K H rs.length upF x1 b1) (h2 : AdjV K H rs.length (dnF rs) x2 b2) (h3 : kd H x3 ≠ "") (hb : (b0 && b1 && b2 && isBr x3) = false) : PicV K H rs (.ref a) false :=
  ⟨by rw [kd_t h]; decide, .inr ⟨a, _, rfl, kd_t h, .inl (.inl h), .inr ⟨x0, x1, x2, x3, b0, b1, b2, rfl, h0, h1, h2, h3, hb.symm⟩⟩⟩
variable {ls ms : List Int} {g : Int → Int → Bool} {c d : Int}
theorem adj_bad (h : g c d = false) : adjB g (ls ++ c :: d :: ms) = false := by
  unfold adjB
  rw [List.all_eq_false]
  have e1 : rk (ls ++ c :: d :: ms) (ls.length : Int) = c := by
    rw [rk_el (by omega) (by simp; omega)]
    simp
  have e2 : rk (ls ++ c :: d :: ms) ((ls.length : Int) + 1) = d := by
    rw [rk_el (by omega) (by simp; omega)]
    rw [List.getElem_append_right (by omega)]
    have : ((ls.length : Int) + 1).toNat - ls.length = 1 := by omega
    simp [this]
  exact ⟨ls.length, List.mem_range.mpr (by simp), by rw [e1, e2, h]; decide⟩
theorem lsO_l (h : H a = some (.lst (ls.map V.int))) (hr : ∀ i ∈ ls, 0 ≤ i ∧ i < (n : Int)) (hl : ls.length ≤ 1000) : LsO K H n (.ref a) ls := ⟨a, rfl, kd_l h, .inl (.inl h), hr, hl⟩
end
end Fp

namespace Fp
open PySem PySem.Spec PyProof.Rows L2 LamX
/-! ### several except clauses -/
def hdl (l : List (Value × TS)) : List (Value × (Addr → Value → Option Addr → TS)) := l.map fun p => (p.1, fun _ _ _ => p.2)
def tTryMany (K : PySem.W.Frag) (l : List (Value × TS)) (tb : WX → TS) : TS := fun D σ H => tb (wMany K (fun _ _ _ _ => False) D (hdl l)) D σ H
def tTryManyE (K : PySem.W.Frag) (l : List (Value × TS)) (tb : WX → TS) (u : TS) : TS := fun D σ H => tb (wMany K (fun _ _ _ _ => False) D (hdl l)) { D with nx := u D } σ H
theorem ps_tryMany {X : Cx} {body : List Stmt} {h₀ : ExceptHandler} {hds : List ExceptHandler} {pos : Pos} {tb : WX → TS} {l : List (Value × TS)} (hs : X.stack = X.env :: X.outer) (hf : X.env.frame = some X.env.locals)
    (hb : ∀ (W : WX) (pn : List (Addr × Obj)) (xe : Value → Shared → Prop), Takes (X.tr pn xe) W → PassesOwn (model X.prog X.w) X.A X.env xe → PSs (X.tr pn xe) body (tb W))
    (hh : HdsOk X (h₀ :: hds) (hdl l)) : PS X (.Try body (h₀ :: hds) [] [] pos) (tTryMany X.K l tb) := ps_try_many hs hf L2.takes_none5 hb hh
theorem ps_tryManyE {X : Cx} {body orelse : List Stmt} {h₀ : ExceptHandler} {hds : List ExceptHandler} {pos : Pos} {tb : WX → TS} {u : TS} {l : List (Value × TS)} (ho : PSs X orelse u) (hs : X.stack = X.env :: X.outer) (hf : X.env.frame = some X.env.locals)
    (hb : ∀ (W : WX) (pn : List (Addr × Obj)) (xe : Value → Shared → Prop), Takes (X.tr pn xe) W → PassesOwn (model X.prog X.w) X.A X.env xe → PSs (X.tr pn xe) body (tb W))
    (hh : HdsOk X (h₀ :: hds) (hdl l)) : PS X (.Try body (h₀ :: hds) orelse [] pos) (tTryManyE X.K l tb u) := ps_try_manyE ho hs hf L2.takes_none5 hb hh
theorem hds_cons {X : Cx} {x : Str} {c : Value} {t : TS} {b₀ : Stmt} {suite : List Stmt} {np pos' : Pos} {hds : List ExceptHandler} {l : List (Value × TS)} (hc : Names X x c)
    (hsu : ∀ (a : Addr) (oe : Obj) (pn : List (Addr × Obj)), PSs (X.suite a ((a, oe) :: pn)) (b₀ :: suite) t) (r : HdsOk X hds (hdl l)) : HdsOk X (.ExceptHandler (some (.Name x np)) none (b₀ :: suite) pos' :: hds) (hdl ((c, t) :: l)) :=
  HdsOk.cons (c := c) (ts := fun _ _ _ => t) (l := hdl l) hc (fun a oe _ _ pn _ _ => hsu a oe pn) r
theorem un1 {n c : Nat} (h : n + 64 < c) : n + 1 < c := by omega
def three : List Str := ["NoLine", "NoBar", "NotTop"]
section
variable {K : PySem.W.Frag} {T : List (Addr × Str)} {σ : L2.St} {H : Hp} {D : Ends} {t1 t2 t3 : TS} {W : WX} {dd : Option Addr}
theorem xk3 {d : Str} (X : Xk2 K eight d) : Xk2 K three d := ⟨X.err, fun c h => X.exm c (by revert c; decide), fun c h => X.kit c (by revert c; decide), X.ve⟩
theorem wm_line (X : Xk2 K three "NoLine") (k : t1 D σ H) : wMany K W D (hdl [(.ref (He.ga K "NoLine"), t1), (.ref (He.ga K "NoBar"), t2), (.ref (He.ga K "NotTop"), t3)]) (.ref (He.ga K "NoLine")) dd σ H :=
  ⟨true, by rw [X.exm "NoLine" (by decide)]; simp, fun _ _ _ => k, fun z => nomatch z⟩
theorem wm_bar (X : Xk2 K three "NoBar") (k : t2 D σ H) : wMany K W D (hdl [(.ref (He.ga K "NoLine"), t1), (.ref (He.ga K "NoBar"), t2), (.ref (He.ga K "NotTop"), t3)]) (.ref (He.ga K "NoBar")) dd σ H :=
  ⟨false, by rw [X.exm "NoLine" (by decide)]; decide +kernel, (fun z => nomatch z), fun _ => ⟨true, by rw [X.exm "NoBar" (by decide)]; simp, fun _ _ _ => k, fun z => nomatch z⟩⟩
theorem wm_top (X : Xk2 K three "NotTop") (k : t3 D σ H) : wMany K W D (hdl [(.ref (He.ga K "NoLine"), t1), (.ref (He.ga K "NoBar"), t2), (.ref (He.ga K "NotTop"), t3)]) (.ref (He.ga K "NotTop")) dd σ H :=
  ⟨false, by rw [X.exm "NoLine" (by decide)]; decide +kernel, (fun z => nomatch z), fun _ => ⟨false, by rw [X.exm "NoBar" (by decide)]; decide +kernel, (fun z => nomatch z), fun _ => ⟨true, by rw [X.exm "NotTop" (by decide)]; simp, fun _ _ _ => k, fun z => nomatch z⟩⟩⟩
end
end Fp

local macro_rules | `(tactic| walk_at "sp") => `(tactic| first | exact Fp.v_wholeI | exact Fp.v_is_wholeI | exact Fp.v_whole (by assumption) | exact Fp.v_is_whole (by assumption) | exact Fp.v_cell_at (by walk_at "fact") (by first | decide | omega))
namespace Fp
open PySem PySem.Spec PyProof.Rows L2 LamX
/-! ### deeds -/
inductive Dd where
  | flag (w : Int) (x : V)
  | bar (x : V)
  | fin (x : V)
  | take
  | best
def wordF (w : Int) : Str := if w = 0 then "ring" else if w = 1 then "calm" else if w = 2 then "mute" else "free"
def Dd.word : Dd → Str
  | .flag w _ => wordF w
  | .bar _ => "bar"
  | .fin _ => "end"
  | .take => "take"
  | .best => "best"
def Dd.arg : Dd → Option V
  | .flag _ x => some x
  | .bar x => some x
  | .fin x => some x
  | _ => none
def Dd.ok : Dd → Prop
  | .flag w _ => 0 ≤ w ∧ w ≤ 3
  | _ => True
def Dd.vs (d : Dd) : List V := .str d.word :: d.arg.toList
/-- a line's number, where a thing is one -/
def lnO (n : Nat) : V → Option Int
  | .int i => if 0 ≤ i ∧ i < (n : Int) then some i else none
  | _ => none
def brO : V → Option Int
  | .int i => some i
  | _ => none
inductive Ans where
  | val (v : V)
  | no (w : Str)
def BSt.lns (s : BSt) : Nat := s.ranks.length
def Dd.ans (s : BSt) : Dd → Ans
  | .flag w x => (lnO s.lns x).elim (.no "line") fun i => .val (.bl (tellF s w i))
  | .bar x => if isBr x = true then .val (oI s.edge) else .no "bar"
  | .fin x => (lnO s.lns x).elim (.no "line") fun i => if s.up = some i then .val (oI s.pop.up) else .no "top"
  | .take => .val (oI s.best)
  | .best => .val (oI s.best)
def Dd.step (s : BSt) : Dd → BSt
  | .flag w x => (lnO s.lns x).elim s fun i => s.flag w i
  | .bar x => if isBr x = true then s.bar (brO x) else s
  | .fin x => (lnO s.lns x).elim s fun i => if s.up = some i then s.pop else s
  | .take => s.take
  | .best => s
/-- small data -/
def Sm (K : PySem.W.Frag) (H : Hp) (v : V) : Prop := kd H v ≠ "" ∧ ∃ d, Dp K H v d ∧ PyData.canLay0 d = true ∧ PyData.depth d ≤ 1
structure DeedAt (K : PySem.W.Frag) (H : Hp) (t : Addr) (d : Dd) : Prop where
  at_ : H t = some (.tup d.vs)
  sm : ∀ x, d.arg = some x → Sm K H x
  ok : d.ok
/-- a deed, all of it new -/
def newDd (K : PySem.W.Frag) (d : Dd) : Hp → V → Hp → Prop := fun H v H' => ∃ t, v = .ref t ∧ nod H t ∧ DeedAt K (res H' (nod H)) t d
section
variable {K : PySem.W.Frag} {T : List (Addr × Str)} {H H' H0 H1 H2 : Hp} {v x : V} {t a : Addr} {d : Dd} {s : BSt} {n : Nat} {i : Int} {S : Addr → Prop}
theorem lnO_isLn : (lnO n x).isSome = isLn n x := by
  cases x with
  | int i =>
    show (if 0 ≤ i ∧ i < (n : Int) then some i else none).isSome = (decide (0 ≤ i) && decide (i < (n : Int)))
    by_cases h : 0 ≤ i ∧ i < (n : Int)
    · rw [if_pos h]; simp [h]
    · rw [if_neg h]
      simp only [Option.isSome_none]
      simp only [not_and] at h
      cases h0 : decide (0 ≤ i) with
      | false => rfl
      | true =>
        have := h (of_decide_eq_true h0)
        simp [this]
  | _ => rfl
theorem lnO_some (h : lnO n x = some i) : x = .int i ∧ 0 ≤ i ∧ i < (n : Int) := by
  cases x with
  | int j =>
    change (if 0 ≤ j ∧ j < (n : Int) then some j else none) = some i at h
    by_cases z : 0 ≤ j ∧ j < (n : Int)
    · rw [if_pos z] at h
      obtain rfl := Option.some.inj h
      exact ⟨rfl, z⟩
    · rw [if_neg z] at h
      cases h
  | _ => cases h
theorem isBr_some (h : isBr x = true) : x = oI (brO x) ∧ okBar (brO x) := by
  cases x with
  | int i =>
    simp only [isBr, Bool.and_eq_true, decide_eq_true_eq] at h
    refine ⟨rfl, fun j e => ?_⟩
    obtain rfl := Option.some.inj e
    exact h
  | non => exact ⟨rfl, fun j e => by cases e⟩
  | _ => cases h
theorem BWf.step (w : BWf s) (d : Dd) : BWf (d.step s) := by
  cases d with
  | flag k x =>
    show BWf ((lnO s.lns x).elim s fun i => s.flag k i)
    cases h : lnO s.lns x with
    | none => exact w
    | some i => exact w.flag (lnO_some h).2
  | bar x =>
    show BWf (if isBr x = true then s.bar (brO x) else s)
    by_cases h : isBr x = true
    · rw [if_pos h]; exact w.bar (isBr_some h).2
    · rw [if_neg h]; exact w
  | fin x =>
    show BWf ((lnO s.lns x).elim s fun i => if s.up = some i then s.pop else s)
    cases h : lnO s.lns x with
    | none => exact w
    | some i =>
      show BWf (if s.up = some i then s.pop else s)
      by_cases h : s.up = some i
      · rw [if_pos h]; exact w.pop
      · rw [if_neg h]; exact w
  | take => exact w.take
  | best => exact w
theorem step_rk : (d.step s).ranks = s.ranks := by
  cases d with
  | flag k x =>
    show ((lnO s.lns x).elim s fun i => s.flag k i).ranks = _
    cases h : lnO s.lns x with
    | none => rfl
    | some i => exact flag_rp.1
  | bar x =>
    show (if isBr x = true then s.bar (brO x) else s).ranks = _
    split <;> rfl
  | fin x =>
    show ((lnO s.lns x).elim s fun i => if s.up = some i then s.pop else s).ranks = _
    cases h : lnO s.lns x with
    | none => rfl
    | some i =>
      show (if s.up = some i then s.pop else s).ranks = _
      split <;> rfl
  | take => exact take_rp.1
  | best => rfl
/-- a refused deed changes nothing -/
theorem ans_no {w : Str} (h : d.ans s = .no w) : d.step s = s ∧ (w = "line" ∨ w = "bar" ∨ w = "top") := by
  cases d with
  | flag k x =>
    change ((lnO s.lns x).elim (.no "line") fun i => .val (.bl (tellF s k i))) = Ans.no w at h
    show ((lnO s.lns x).elim s fun i => s.flag k i) = s ∧ _
    cases e : lnO s.lns x with
    | none => rw [e] at h; injection h with h; exact ⟨rfl, .inl h.symm⟩
    | some i => rw [e] at h; cases h
  | bar x =>
    change (if isBr x = true then .val (oI s.edge) else .no "bar") = Ans.no w at h
    show (if isBr x = true then s.bar (brO x) else s) = s ∧ _
    by_cases z : isBr x = true
    · rw [if_pos z] at h; cases h
    · rw [if_neg z] at h ⊢
      injection h with h
      exact ⟨rfl, .inr (.inl h.symm)⟩
  | fin x =>
    change ((lnO s.lns x).elim (.no "line") fun i => if s.up = some i then .val (oI s.pop.up) else .no "top") = Ans.no w at h
    show ((lnO s.lns x).elim s fun i => if s.up = some i then s.pop else s) = s ∧ _
    cases e : lnO s.lns x with
    | none => rw [e] at h; injection h with h; exact ⟨rfl, .inl h.symm⟩
    | some i =>
      rw [e] at h
      change (if s.up = some i then .val (oI s.pop.up) else .no "top") = Ans.no w at h
      show (if s.up = some i then s.pop else s) = s ∧ _
      by_cases z : s.up = some i
      · rw [if_pos z] at h; cases h
      · rw [if_neg z] at h ⊢
        injection h with h
        exact ⟨rfl, .inr (.inr h.symm)⟩
  | take => cases h
  | best => cases h
theorem kd_sub (m : Sub H H') (h : kd H v ≠ "") : kd H' v ≠ "" := by
  match v with
  | .ref a =>
    simp only [kd] at h ⊢
    cases e : H a with
    | none => rw [e] at h; exact absurd rfl h
    | some o =>
      rw [e] at h
      by_cases dd : dat o = true
      · rw [m a o e dd]; exact h
      · exfalso
        cases o <;> first | exact absurd rfl dd | exact absurd rfl h
  | .int _ | .bl _ | .non | .str _ => exact h
  | .ty _ => exact h
theorem Sm.sub (m : Sub H H') (h : Sm K H v) : Sm K H' v := ⟨kd_sub m h.1, h.2.imp fun _ h => ⟨m.dp h.1, h.2⟩⟩
theorem DeedAt.sub (m : Sub H H') (h : DeedAt K H t d) : DeedAt K H' t d := ⟨m t _ h.at_ rfl, fun x e => (h.sm x e).sub m, h.ok⟩
theorem DeedAt.ex (e : Ex T H H') (h : DeedAt K H t d) : DeedAt K H' t d := h.sub e.sub
theorem newDd.at_ (h : newDd K d H v H') : ∃ t, v = .ref t ∧ nod H t ∧ DeedAt K H' t d := h.imp fun _ h => ⟨h.1, h.2.1, h.2.2.sub res_sub⟩
theorem newDd_back : ∀ H1 H2 v H3, Ex T H H1 → Ex T H1 H2 → Ex T H2 H3 → newDd K d H2 v H3 → newDd K d H1 v H3 := fun _ _ _ _ _ e _ ⟨t, h1, h2, h3⟩ => ⟨t, h1, e.dm _ h2, h3.sub fun y o h z => by
  obtain ⟨sy, hy⟩ := res_of h
  rw [res_at (e.dm y sy)]
  exact hy⟩
end
end Fp

local macro_rules | `(tactic| walk_at "sp") => `(tactic| first | exact Fp.v_wholeI | exact Fp.v_is_wholeI | exact Fp.v_whole (by assumption) | exact Fp.v_is_whole (by assumption) | exact Fp.v_cell_at (by walk_at "fact") (by first | decide | omega))
namespace Fp
open PySem PySem.Spec PyProof.Rows L2 LamX
/-- small data, all of it behind H0 -/
def SmN (K : PySem.W.Frag) (H0 : Hp) : Hp → V → Prop := fun H v => Sm K (res H (nod H0)) v
def sp_l_bar (K : PySem.W.Frag) (T : List (Addr × Str)) : Sp := fun vs H Q _ => ∃ c r rs, vs = [.int c, .ref r] ∧ SqL K H r (List.map V.int rs) ∧ 1 ≤ List.length rs ∧ ∀ v H', Ex T H H' → SmN K H H' v → Q v H'
def sp_l_deed (K : PySem.W.Frag) (T : List (Addr × Str)) : Sp := fun vs H Q _ => ∃ c r t x y z rs d e, vs = [.int c, .ref r, .ref t] ∧ SqL K H r (List.map V.int rs) ∧ 1 ≤ List.length rs ∧ Pc H t x y z d e ∧ ∀ v H' d, Ex T H H' → newDd K d H v H' → Q v H'
theorem len_l_bar {K : PySem.W.Frag} {T : List (Addr × Str)} : ∀ vs H Q E, sp_l_bar K T vs H Q E → vs.length = 2 := fun vs H Q E h => by
  obtain ⟨_, _, _, rfl, _⟩ := h
  exact rfl
theorem len_l_deed {K : PySem.W.Frag} {T : List (Addr × Str)} : ∀ vs H Q E, sp_l_deed K T vs H Q E → vs.length = 3 := fun vs H Q E h => by
  obtain ⟨_, _, _, _, _, _, _, _, _, rfl, _⟩ := h
  exact rfl
def r_l_bar (K : PySem.W.Frag) (T : List (Addr × Str)) : TS :=
  (tSeq (tAsg (tOp oMod (tOp oMul (tVar 0) (tC (.int 62089911))) (tC (.int 2147483647))) (gName 2))
  (tSeq (tAsg (tOp oMod (tOp oMod (tOp oMul (tVar 0) (tC (.int 1343714438))) (tC (.int 2147483647))) (tC (.int 8))) (gName 3))
  (tSeq (tIfS (tTest (tOp oLt (tVar 3) (tC (.int 2)))) (tRet (tC .non)) tNext)
  (tSeq (tIfS (tTest (tOp rEq (tVar 3) (tC (.int 2)))) (tRet (tOp oMod (tVar 0) (tOp oAdd (tOp oPow (tC (.int 10)) (tC (.int 60))) (tC (.int 1))))) tNext)
  (tSeq (tIfS (tTest (tOp rEq (tVar 3) (tC (.int 3)))) (tRet (tOp (rIxL K) (tLst (tCons (tC (.int 0)) (tCons (tOp oPow (tC (.int 10)) (tC (.int 60))) tNil))) (tOp oMod (tVar 2) (tC (.int 2))))) tNext)
  (tSeq (tIfS (tTest (tOp rEq (tVar 3) (tC (.int 4)))) (tRet (tOp (rIxL K) (tLst (tCons (tUn (rU fun i => .int (-i)) (tC (.int 1))) (tCons (tOp oAdd (tOp oPow (tC (.int 10)) (tC (.int 60))) (tC (.int 1))) (tCons (tC (.bl true)) (tCons (tC (.bl false)) (tCons (tC (.str "0")) (tCons (tLst (tCons (tC (.int 0)) tNil)) (tCons (tTup (tCons (tC (.int 1)) tNil)) tNil)))))))) (tOp oMod (tVar 2) (tC (.int 7))))) tNext)
  (tRet (tOp oAdd (tOp (rIxL K) (tVar 1) (tOp oMod (tVar 2) (tCB (rLen K) (tCons (tVar 1) tNil)))) (tOp oMod (tVar 0) (tC (.int 2)))))))))))
def r_l_deed (K : PySem.W.Frag) (T : List (Addr × Str)) : TS :=
  (tSeq (tAsg (tLst (tCons (tC (.str "ring")) (tCons (tC (.str "ring")) (tCons (tC (.str "ring")) (tCons (tC (.str "ring")) (tCons (tC (.str "calm")) (tCons (tC (.str "calm")) (tCons (tC (.str "mute")) (tCons (tC (.str "free")) tNil))))))))) (gName 3))
  (tSeq (tAsg (tOp rCat (tVar 3) (tLst (tCons (tC (.str "free")) (tCons (tC (.str "take")) (tCons (tC (.str "take")) (tCons (tC (.str "take")) (tCons (tC (.str "end")) (tCons (tC (.str "end")) (tCons (tC (.str "bar")) (tCons (tC (.str "best")) tNil)))))))))) (gName 3))
  (tSeq (tAsg (tOp (rIxL K) (tVar 3) (tOp oMod (tOp oMod (tOp oMul (tVar 0) (tC (.int 950706376))) (tC (.int 2147483647))) (tC (.int 16)))) (gName 4))
  (tSeq (tIfS (tOr (tTest (tOp rEq (tVar 4) (tC (.str "take")))) (tTest (tOp rEq (tVar 4) (tC (.str "best"))))) (tRet (tTup (tCons (tVar 4) tNil))) tNext)
  (tSeq (tIfS (tTest (tOp rEq (tVar 4) (tC (.str "bar")))) (tRet (tTup (tCons (tC (.str "bar")) (tCons (tCall (sp_l_bar K T) [] E0 (tCons (tVar 0) (tCons (tVar 1) tNil))) tNil)))) tNext)
  (tSeq (tAsg (tOp oMod (tOp oMul (tVar 0) (tC (.int 742938285))) (tC (.int 2147483647))) (gName 5))
  (tSeq (tAsg (tOp oMod (tOp oMod (tOp oMul (tVar 0) (tC (.int 1226874159))) (tC (.int 2147483647))) (tC (.int 12))) (gName 6))
  (tSeq (tAsg (tOp oMod (tVar 5) (tCB (rLen K) (tCons (tVar 1) tNil))) (gName 7))
  (tSeq (tAsg (tDisp [((tC (.str "ring")), (tLst tNil)), ((tC (.str "calm")), (tOp (rIxT K) (tVar 2) (tC (.int 0)))), ((tC (.str "mute")), (tOp (rIxT K) (tVar 2) (tC (.int 0)))), ((tC (.str "free")), (tOp (rIxT K) (tVar 2) (tC (.int 1)))), ((tC (.str "end")), (tSl (rSlL K) (tOp (rIxT K) (tVar 2) (tC (.int 2))) (tPart (tUn (rU fun i => .int (-i)) (tC (.int 1)))) tNoPart))]) (gName 8))
  (Evl.tCut (tIfS (tAnd (tTest (tOp oGt (tVar 6) (tC (.int 3)))) (tTest (tOp (rNeD K) (tDGet (tVar 8) (tVar 4)) (tLst tNil)))) (tAsg (tOp (rIxL K) (tDGet (tVar 8) (tVar 4)) (tOp oMod (tVar 5) (tCB (rLen K) (tCons (tDGet (tVar 8) (tVar 4)) tNil)))) (gName 7)) tNext)
  (Evl.tCut (tIfS (tTest (tOp rEq (tVar 6) (tC (.int 0)))) (tAsg (tOp (rIxL K) (tLst (tCons (tUn (rU fun i => .int (-i)) (tC (.int 1))) (tCons (tCB (rLen K) (tCons (tVar 1) tNil)) (tCons (tC (.bl true)) (tCons (tC .non) (tCons (tC (.str "0")) (tCons (tLst (tCons (tC (.int 0)) tNil)) (tCons (tOp oPow (tC (.int 10)) (tC (.int 30))) tNil)))))))) (tOp oMod (tVar 5) (tC (.int 7)))) (gName 7)) tNext)
  (tRet (tTup (tCons (tVar 4) (tCons (tVar 7) tNil)))))))))))))))
section
variable {K : PySem.W.Frag} {T : List (Addr × Str)} {H H0 H1 : Hp} {Q : VK} {E : XK} {vs : List V} {σ : L2.St} {te tb td : TE} {ts : TA} {a r : Addr} {c : Int} {rs ns : List Int} {xs : List V} {n : Nat} {P : Hp → V → Prop}
theorem st_sm : St T (SmN K H0) := fun H H' v e h => Sm.sub (fun y o h z => by
  obtain ⟨sy, hy⟩ := res_of h
  rw [res_at sy]
  exact e.at hy z) h
theorem smN_back {H2 : Hp} (e : Ex T H0 H1) {v : V} (h : SmN K H1 H2 v) : SmN K H0 H2 v := Sm.sub (fun y o h z => by
  obtain ⟨sy, hy⟩ := res_of h
  rw [res_at (e.dm y sy)]
  exact hy) h
theorem sm_i {i : Int} : Sm K H (.int i) := ⟨by simp [kd], _, .int i, rfl, by simp [PyData.depth]⟩
theorem sm_b {b : Bool} : Sm K H (.bl b) := ⟨by simp [kd], _, .bl b, rfl, by simp [PyData.depth]⟩
theorem sm_n : Sm K H .non := ⟨by simp [kd], _, .non, rfl, by simp [PyData.depth]⟩
theorem sm_s {w : Str} (h : PyData.strOk w = true := by decide +kernel) : Sm K H (.str w) := ⟨by simp [kd], _, .str w, by simp [PyData.canLay0, h], by simp [PyData.depth]⟩
theorem sm_l (h : H a = some (.lst (ns.map V.int))) : Sm K H (.ref a) := ⟨by rw [kd_l h]; decide, _, dp_n h, lay_dI.1, by rw [lay_dI.2]; decide⟩
theorem dpt_all : ∀ ns : List Int, DpAll K H (ns.map V.int) (ns.map PyData.int) := dp_all
theorem sm_t (h : H a = some (.tup (ns.map V.int))) : Sm K H (.ref a) := ⟨by rw [kd_t h]; decide, .tuple (ns.map PyData.int), .tup (.inl (.inl h)) (dp_all ns), by unfold PyData.canLay0; exact (lay_ints ns).1, by unfold PyData.depth; rw [(lay_ints ns).2]; decide⟩
theorem eq_lN (s : St T P) (h : EvL T te σ H xs) (hp : ∀ H1 a, nod H a → H1 a = some (.lst xs) → P H1 (.ref a)) (ht : EvQ T ts σ H n P) : EvQ T (tCons te ts) σ H (n + 1) P := eq_cons s (h.imp fun _ _ _ a _ ⟨b, e, nb, h⟩ => by rw [e]; exact hp _ b (a.dm _ nb) h) ht
theorem eq_uN (s : St T P) (h : EvU T te σ H xs) (hp : ∀ H1 a, nod H a → H1 a = some (.tup xs) → P H1 (.ref a)) (ht : EvQ T ts σ H n P) : EvQ T (tCons te ts) σ H (n + 1) P := eq_cons s (h.imp fun _ _ _ a _ ⟨b, e, nb, h⟩ => by rw [e]; exact hp _ b (a.dm _ nb) h) ht
theorem smN_l {b : Addr} (n : nod H0 b) (h : H b = some (.lst (ns.map V.int))) : SmN K H0 H (.ref b) := sm_l (by rw [res_at n]; exact h)
theorem smN_t {b : Addr} (n : nod H0 b) (h : H b = some (.tup (ns.map V.int))) : SmN K H0 H (.ref b) := sm_t (by rw [res_at n]; exact h)
theorem v_bar (hr : SqL K H r (rs.map V.int)) (n1 : 1 ≤ rs.length) : SpR T (sp_l_bar K T) [.int c, .ref r] H (fun H1 v H2 => SmN K H1 H2 v) := fun H1 e Q q E => ⟨c, r, rs, rfl, e.l hr, n1, q⟩
theorem p_l_bar (h : sp_l_bar K T vs H Q E) : r_l_bar K T { nx := fun _ H' => Q .non H', rt := Q } (start ["_law_cell", "_law_ranks_here", "_law_pick", "_law_way"] vs) H := by
  obtain ⟨c, r, rs, rfl, hr, n1, k⟩ := h
  unfold r_l_bar
  refine q_asg (v := .int (c * 62089911 % 2147483647)) (Mv.of T H) (by walk_at "ev") rfl fun H1 e1 _ => ?_
  refine q_asg (v := .int (c * 1343714438 % 2147483647 % 8)) e1 (by walk_at "ev") rfl fun H2 e2 _ => ?_
  generalize c * 62089911 % 2147483647 = p
  generalize c * 1343714438 % 2147483647 % 8 = w
  clear e1
  refine q_if (b := decide (w < 2)) e2 (by walk_at "et") (fun hb H3 e3 _ => ?_) (fun hb H3 e3 _ => nextI ?_)
  · exact s_ret e3 ev_c fun H4 e4 => k _ H4 e4 sm_n
  dsimp only
  refine q_if (b := decide (w = 2)) e3 (by walk_at "et") (fun hb H4 e4 _ => ?_) (fun hb H4 e4 _ => nextI ?_)
  · exact s_ret e4 (ev_op (by walk_at "ev") (ev_op ev_p60 ev_c rv_i0) (rv_i (by decide))) fun H5 e5 => k _ H5 e5 sm_i
  dsimp only
  refine q_if (b := decide (w = 3)) e4 (by walk_at "et") (fun hb H5 e5 _ => ?_) (fun hb H5 e5 _ => nextI ?_)
  · exact s_retR e5 (er_ixQ (n := 2) (P := SmN K H) (i := p % 2) st_sm (eq_v st_sm (ev_c (v := .int 0)) (fun _ => sm_i) (eq_v st_sm ev_p60 (fun _ => sm_i) eq_nil)) (by decide) (ev_op (by walk_at "ev") ev_c (rv_i (by decide))) (Int.emod_nonneg _ (by decide)) (Int.emod_lt_of_pos _ (by decide))) fun v H6 e6 _ hv => k _ H6 e6 hv
  dsimp only
  refine q_if (b := decide (w = 4)) e5 (by walk_at "et") (fun hb H6 e6 _ => ?_) (fun hb H6 e6 _ => nextI ?_)
  · exact s_retR e6 (er_ixQ (n := 7) (P := SmN K H) (i := p % 7) st_sm (eq_v st_sm (ev_neg ev_c) (fun _ => sm_i) (eq_v st_sm (ev_op ev_p60 ev_c rv_i0) (fun _ => sm_i) (eq_v st_sm (ev_c (v := .bl true)) (fun _ => sm_b) (eq_v st_sm (ev_c (v := .bl false)) (fun _ => sm_b) (eq_v st_sm (ev_c (v := .str "0")) (fun _ => sm_s) (eq_lN st_sm (el_lst (ea_cons ev_c ea_nil) (by decide)) (fun _ _ n h => smN_l (ns := [0]) n h) (eq_uN st_sm (eu_tup (ea_cons ev_c ea_nil) (by decide)) (fun _ _ n h => smN_t (ns := [1]) n h) eq_nil))))))) (by decide) (ev_op (by walk_at "ev") ev_c (rv_i (by decide))) (Int.emod_nonneg _ (by decide)) (Int.emod_lt_of_pos _ (by decide))) fun v H7 e7 _ hv => k _ H7 e7 hv
  dsimp only
  have np : (0 : Int) < rs.length := by omega
  exact s_ret e6 (ev_op (ev_op (x := .ref r) (y := .int (p % (rs.length : Int))) (by walk_at "ev") (ev_op (by walk_at "ev") (ev_cb (ea_cons (by walk_at "ev") ea_nil) (rc_lenI hr)) (rv_i np)) (rv_ixI hr (Int.emod_nonneg _ (by omega)) (Int.emod_lt_of_pos _ np))) (ev_op (by walk_at "ev") ev_c (rv_i (by decide))) rv_i0) fun H7 e7 => k _ H7 e7 sm_i
end
end Fp

local macro_rules | `(tactic| walk_at "sp") => `(tactic| first | exact Fp.v_wholeI | exact Fp.v_is_wholeI | exact Fp.v_whole (by assumption) | exact Fp.v_is_whole (by assumption) | exact Fp.v_cell_at (by walk_at "fact") (by first | decide | omega))
namespace Fp
open PySem PySem.Spec PyProof.Rows L2 LamX
section
variable {K : PySem.W.Frag} {T : List (Addr × Str)} {H H0 H1 : Hp} {Q : VK} {E : XK} {vs : List V} {σ : L2.St} {te tb td ty t1 t2 t3 t4 t0 : TE} {ts : TA} {a r x1 x2 x3 : Addr} {c : Int} {rs ns : List Int} {xs zs : List V} {n : Nat} {R : Hp → V → Hp → Prop} {kvs : List (Key × V)} {w k0 k1 k2 k3 k4 : Str} {v x y : V}
theorem ev_dget (ha : Ev T td σ H (.ref a)) (hb : Ev T ty σ H (.str w)) (h : H a = some (.dK kvs)) (hv : valV kvs (.inr w) = some v) : Ev T (tDGet td ty) σ H v := fun H1 e Q q =>
  ha H1 e _ fun H2 e2 => hb H2 (e.trans e2) _ fun H3 e3 => ⟨a, v, rfl, hv ▸ DGet.k (k := .inr w) (((e.trans e2).trans e3).at h), q H3 (e2.trans e3)⟩
theorem ear_vr (h1 : Ev T t1 σ H x) (h2 : EvR T t2 σ H R) : EvAR T (tCons t1 (tCons t2 tNil)) σ H (fun H1 vs H3 => ∃ y H2, vs = [x, y] ∧ Ex T H1 H2 ∧ R H2 y H3) := fun H1 e Q q =>
  h1 H1 e _ fun H2 e2 => h2 H2 (e.trans e2) _ fun y H3 e3 r => q [x, y] H3 (e2.trans e3) ⟨y, H2, rfl, e2, r⟩
def row5 (k0 k1 k2 k3 k4 : Str) (l0 x1 x2 x3 l4 : Addr) : List (Key × V) := [(.inr k0, .ref l0), (.inr k1, .ref x1), (.inr k2, .ref x2), (.inr k3, .ref x3), (.inr k4, .ref l4)]
/-- a dict of five lists, the first and the last new -/
theorem er_disp5 (h0 : EvL T t0 σ H []) (h1 : Ev T t1 σ H (.ref x1)) (h2 : Ev T t2 σ H (.ref x2)) (h3 : Ev T t3 σ H (.ref x3)) (h4 : EvL T t4 σ H zs) (hm : ∀ l0 l4, mergeK [] (row5 k0 k1 k2 k3 k4 l0 x1 x2 x3 l4) = row5 k0 k1 k2 k3 k4 l0 x1 x2 x3 l4) :
    EvR T (tDisp [(tC (.str k0), t0), (tC (.str k1), t1), (tC (.str k2), t2), (tC (.str k3), t3), (tC (.str k4), t4)]) σ H (fun _ v H2 => ∃ D l0 l4, v = .ref D ∧ H2 D = some (.dK (row5 k0 k1 k2 k3 k4 l0 x1 x2 x3 l4)) ∧ H2 l0 = some (.lst []) ∧ H2 l4 = some (.lst zs)) := fun H1 e Q q D hD => by
  have ee : Ex T H1 (upd H1 D (.dK [])) := Mv.new hD
  have hd : upd H1 D (.dK []) D = some (.dK []) := upd_same
  generalize upd H1 D (.dK []) = H2 at ee hd
  refine h0 H2 (e.trans ee) _ fun v H3 e3 ⟨l0, ev, _, hl0⟩ => ?_
  subst ev
  refine h1 H3 (e.trans (ee.trans e3)) _ fun H4 e4 => ?_
  refine h2 H4 (e.trans (ee.trans (e3.trans e4))) _ fun H5 e5 => ?_
  refine h3 H5 (e.trans (ee.trans (e3.trans (e4.trans e5)))) _ fun H6 e6 => ?_
  refine h4 H6 (e.trans (ee.trans (e3.trans (e4.trans (e5.trans e6))))) _ fun v H7 e7 ⟨l4, ev, _, hl4⟩ => ?_
  subst ev
  have e27 := e3.trans (e4.trans (e5.trans (e6.trans e7)))
  have hd7 := e27.at hd
  refine ⟨hd7, row5 k0 k1 k2 k3 k4 l0 x1 x2 x3 l4, rfl, by simp [row5], ?_⟩
  rw [hm]
  have n0 : l0 ≠ D := ne_of (((e4.trans (e5.trans (e6.trans e7)))).at hl0) hd7 fun z => nomatch z
  have n4 : l4 ≠ D := ne_of hl4 hd7 fun z => nomatch z
  exact q _ _ ((ee.trans e27).set (.inr (.of hD)) hd7) ⟨D, l0, l4, rfl, upd_same, by rw [upd_ne n0]; exact (e4.trans (e5.trans (e6.trans e7))).at hl0, by rw [upd_ne n4]; exact hl4⟩
def words : List Str := ["ring", "ring", "ring", "ring", "calm", "calm", "mute", "free", "free", "take", "take", "take", "end", "end", "bar", "best"]
theorem words_in (h : w ∈ words) : w = "take" ∨ w = "best" ∨ w = "bar" ∨ w = "ring" ∨ w = "calm" ∨ w = "mute" ∨ w = "free" ∨ w = "end" := by
  revert w
  decide +kernel
/-- the deed of a word that has a line -/
theorem deed_of (hw : w = "ring" ∨ w = "calm" ∨ w = "mute" ∨ w = "free" ∨ w = "end") (v : V) : ∃ d : Dd, d.vs = [.str w, v] ∧ d.arg = some v ∧ d.ok := by
  rcases hw with rfl | rfl | rfl | rfl | rfl
  · exact ⟨.flag 0 v, rfl, rfl, by decide, by decide⟩
  · exact ⟨.flag 1 v, rfl, rfl, by decide, by decide⟩
  · exact ⟨.flag 2 v, rfl, rfl, by decide, by decide⟩
  · exact ⟨.flag 3 v, rfl, rfl, by decide, by decide⟩
  · exact ⟨.fin v, rfl, rfl, trivial⟩
theorem merge5 (l0 x1 x2 x3 l4 : Addr) : mergeK [] (row5 "ring" "calm" "mute" "free" "end" l0 x1 x2 x3 l4) = row5 "ring" "calm" "mute" "free" "end" l0 x1 x2 x3 l4 := by kernel_rfl
theorem val5 (hw : w = "ring" ∨ w = "calm" ∨ w = "mute" ∨ w = "free" ∨ w = "end") {l0 x1 x2 x3 l4 : Addr} : ∃ l, valV (row5 "ring" "calm" "mute" "free" "end" l0 x1 x2 x3 l4) (.inr w) = some (.ref l) ∧ (l = l0 ∨ l = x1 ∨ l = x2 ∨ l = x3 ∨ l = l4) := by
  rcases hw with rfl | rfl | rfl | rfl | rfl
  · exact ⟨l0, by kernel_rfl, .inl rfl⟩
  · exact ⟨x1, by kernel_rfl, .inr (.inl rfl)⟩
  · exact ⟨x2, by kernel_rfl, .inr (.inr (.inl rfl))⟩
  · exact ⟨x3, by kernel_rfl, .inr (.inr (.inr (.inl rfl)))⟩
  · exact ⟨l4, by kernel_rfl, .inr (.inr (.inr (.inr rfl)))⟩
end
end Fp

local macro_rules | `(tactic| walk_at "sp") => `(tactic| first | exact Fp.v_wholeI | exact Fp.v_is_wholeI | exact Fp.v_whole (by assumption) | exact Fp.v_is_whole (by assumption) | exact Fp.v_cell_at (by walk_at "fact") (by first | decide | omega))
namespace Fp
open PySem PySem.Spec PyProof.Rows L2 LamX
section
variable {K : PySem.W.Frag} {T : List (Addr × Str)} {H H0 H1 : Hp} {Q : VK} {E : XK} {vs : List V} {r t x y z : Addr} {c : Int} {rs : List Int} {d : D3} {e : Option Int}
theorem v_deed (hr : SqL K H r (rs.map V.int)) (n1 : 1 ≤ rs.length) (P : Pc H t x y z d e) : SpR T (sp_l_deed K T) [.int c, .ref r, .ref t] H (fun H1 v H2 => ∃ d, newDd K d H1 v H2) := fun H1 e1 Q q E => ⟨c, r, t, x, y, z, rs, d, e, rfl, e1.l hr, n1, P.ex e1, fun v H' d e2 h => q v H' e2 ⟨d, h⟩⟩
theorem newDdE_back : ∀ H1 H2 v H3, Ex T H H1 → Ex T H1 H2 → Ex T H2 H3 → (fun H1 v H2 => ∃ d, newDd K d H1 v H2) H2 v H3 → (fun H1 v H2 => ∃ d, newDd K d H1 v H2) H1 v H3 := fun _ _ _ _ a b c ⟨d, n⟩ => ⟨d, newDd_back _ _ _ _ a b c n⟩
theorem p_l_deed (h : sp_l_deed K T vs H Q E) : r_l_deed K T { nx := fun _ H' => Q .non H', rt := Q } (start ["_law_cell", "_law_ranks_here", "_law_picture", "_law_some", "_law_word", "_law_pick", "_law_way", "_law_line", "_law_rows"] vs) H := by
  obtain ⟨c, r, t, x, y, z, rs, d, e, rfl, hr, n1, P, k⟩ := h
  unfold r_l_deed
  have np : (0 : Int) < rs.length := by omega
  refine q_asgR (Mv.of T H) (el_lst (vs := ([("ring" : Str), "ring", "ring", "ring", "calm", "calm", "mute", "free"] : List Str).map V.str) (ea_cons ev_c (ea_cons ev_c (ea_cons ev_c (ea_cons ev_c (ea_cons ev_c (ea_cons ev_c (ea_cons ev_c (ea_cons ev_c ea_nil)))))))) (by simp)) fun v H1 σ2 hs e1 _ hv => ?_
  obtain ⟨p1, rfl, _, hp1⟩ := hv
  subst hs
  refine q_asgR (Mv.of T H1) (el_cat (p := p1) (ys := ([("free" : Str), "take", "take", "take", "end", "end", "bar", "best"] : List Str).map V.str) (by walk_at "ev") hp1 (el_lst (ea_cons ev_c (ea_cons ev_c (ea_cons ev_c (ea_cons ev_c (ea_cons ev_c (ea_cons ev_c (ea_cons ev_c (ea_cons ev_c ea_nil)))))))) (by simp)) (by simp)) fun v H2 σ2 hs e2 _ hv => ?_
  obtain ⟨p2, rfl, _, hp2⟩ := hv
  subst hs
  rw [← List.map_append] at hp2
  have e02 := e1.trans e2
  have m0 := Int.emod_nonneg (c * 950706376 % 2147483647) (show (16 : Int) ≠ 0 by decide)
  have m1 := Int.emod_lt_of_pos (c * 950706376 % 2147483647) (show (0 : Int) < 16 by decide)
  obtain ⟨yv, hy, hx⟩ := atI_in (xs := (([("ring" : Str), "ring", "ring", "ring", "calm", "calm", "mute", "free"] : List Str) ++ [("free" : Str), "take", "take", "take", "end", "end", "bar", "best"]).map V.str) m0 (by simpa using m1)
  obtain ⟨w, hw, rfl⟩ := List.mem_map.mp hy
  refine q_asg (v := .str w) (Mv.of T H2) (ev_op (by walk_at "ev") (by walk_at "ev") (rv_ixL (.inl (.inl hp2)) hx)) rfl fun H3 e3 _ => ?_
  have e03 := e02.trans e3
  have hw := words_in (w := w) hw
  clear hx hy m0 m1 hp1 hp2 e02 e1 e2 e3
  have q_w : ∀ {σ : L2.St} {H4 : Hp} (u : Str), σ[4]? = some (some (.str w)) → EvT T (tTest (tOp rEq (tVar 4) (tC (.str u)))) σ H4 (decide (w = u)) := fun u hs => et_test (ev_op (ev_var hs) ev_c rv_eqS)
  refine q_if (b := decide (w = "take") || decide (w = "best")) (Mv.of T H3) (et_or (q_w _ rfl) fun _ => q_w _ rfl) (fun hb H4 e4 _ => ?_) (fun hb H4 e4 _ => nextI ?_)
  · obtain ⟨d, hd, ha, ho⟩ : ∃ d : Dd, d.vs = [.str w] ∧ d.arg = none ∧ d.ok := by
      rcases Bool.or_eq_true_iff.mp hb with h | h
      · rw [of_decide_eq_true h]; exact ⟨.take, rfl, rfl, trivial⟩
      · rw [of_decide_eq_true h]; exact ⟨.best, rfl, rfl, trivial⟩
    refine s_retR (Mv.of T H4) (eu_tup (ea_cons (by walk_at "ev") ea_nil) (by simp)) fun v H5 e5 _ hv => ?_
    obtain ⟨t5, rfl, n5, h5⟩ := hv
    have n0 := (e03.trans e4).dm _ n5
    exact k _ H5 d (e03.trans (e4.trans e5)) ⟨t5, rfl, n0, by rw [res_at n0, h5, hd], (fun x e => by rw [ha] at e; cases e), ho⟩
  dsimp only
  simp only [Bool.or_eq_false_iff, decide_eq_false_iff_not] at hb
  refine q_if (b := decide (w = "bar")) e4 (q_w _ rfl) (fun hb H5 e5 _ => ?_) (fun hb2 H5 e5 _ => nextI ?_)
  · refine s_retR (Mv.of T H5) (R := fun H1 v H3 => ∃ y H2, Ex T H1 H2 ∧ SmN K H2 H3 y ∧ ∃ t, v = .ref t ∧ nod H1 t ∧ H3 t = some (.tup [.str "bar", y])) (er_tup (ear_vr ev_c (er_call0 (by walk_at "ea") (v_bar ((e03.trans e5).l hr) n1) (fun _ _ _ _ _ b _ h => smN_back b h))) (fun H6 vs H7 e6 e7 h => ?_)) fun v H6 e6 _ hv => ?_
    · obtain ⟨y, H8, rfl, e8, h⟩ := h
      exact ⟨by simp, fun p hp => ⟨y, H8, e8, st_sm _ _ _ (Mv.new (T := T) hp) h, p, rfl, e7.dm _ (.of hp), upd_same⟩⟩
    · obtain ⟨y, H8, e8, h, t5, rfl, n5, h5⟩ := hv
      have n0 := (e03.trans e5).dm _ n5
      refine k _ H6 (.bar y) (e03.trans (e5.trans e6)) ⟨t5, rfl, n0, by rw [res_at n0]; exact h5, fun x ex => ?_, trivial⟩
      obtain rfl := Option.some.inj ex
      exact smN_back ((e03.trans e5).trans e8) h
  dsimp only
  have hw : w = "ring" ∨ w = "calm" ∨ w = "mute" ∨ w = "free" ∨ w = "end" := by
    rcases hw with h | h | h | h
    · exact absurd h hb.1
    · exact absurd h hb.2
    · exact absurd h (of_decide_eq_false hb2)
    · exact h
  have e05 := e03.trans e5
  clear hb hb2 e4
  refine q_asg (v := .int (c * 742938285 % 2147483647)) (Mv.of T H5) (by walk_at "ev") rfl fun H6 e6 _ => ?_
  refine q_asg (v := .int (c * 1226874159 % 2147483647 % 12)) e6 (by walk_at "ev") rfl fun H7 e7 _ => ?_
  generalize c * 742938285 % 2147483647 = pk
  generalize c * 1226874159 % 2147483647 % 12 = wy
  refine q_asg (v := .int (pk % (rs.length : Int))) e7 (ev_op (by walk_at "ev") (ev_cb (ea_cons (x := .ref r) (by walk_at "ev") ea_nil) (rc_lenI (e05.l hr))) (rv_i np)) rfl fun H8 e8 _ => ?_
  have e08 := e05.trans e8
  have P8 := P.ex e08
  have tt := P8.tt (K := K)
  obtain ⟨zs, hz, hzl⟩ := cutV_ints d.z (some (-1)) none
  have ez := el_sl (K := K) (T := T) (H := H8) (σ := [some (.int c), some (.ref r), some (.ref t), some (.ref p2), some (.str w), some (.int pk), some (.int wy), some (.int (pk % (rs.length : Int))), none]) (ta := tOp (rIxT K) (tVar 2) (tC (.int 2))) (tl := tPart (tUn (rU fun i => .int (-i)) (tC (.int 1)))) (th := tNoPart) (p := z) (ev_op (by walk_at "ev") ev_c (rv_ixT tt rfl)) (eo_part (ev_neg ev_c)) eo_no (.inl (.inl P8.hz))
  rw [hz] at ez
  refine q_asgR (Mv.of T H8) (er_disp5 (x1 := x) (x2 := x) (x3 := y) (el_lst ea_nil (by decide)) (ev_op (by walk_at "ev") ev_c (rv_ixT tt rfl)) (ev_op (by walk_at "ev") ev_c (rv_ixT tt rfl)) (ev_op (by walk_at "ev") ev_c (rv_ixT tt rfl)) ez (fun _ _ => merge5 _ _ _ _ _)) fun v H9 σ2 hs e9 _ hv => ?_
  subst hs
  obtain ⟨D, l0, l4, rfl, hD, h0, h4⟩ := hv
  have P9 := P8.ex e9
  obtain ⟨l, ns, hl, hns⟩ : ∃ l ns, valV (row5 "ring" "calm" "mute" "free" "end" l0 x x y l4) (.inr w) = some (.ref l) ∧ H9 l = some (.lst (List.map V.int ns)) := by
    obtain ⟨l, h1, h2⟩ := val5 (l0 := l0) (x1 := x) (x2 := x) (x3 := y) (l4 := l4) hw
    rcases h2 with rfl | rfl | rfl | rfl | rfl
    · exact ⟨_, [], h1, h0⟩
    · exact ⟨_, _, h1, P9.hx⟩
    · exact ⟨_, _, h1, P9.hx⟩
    · exact ⟨_, _, h1, P9.hy⟩
    · exact ⟨_, _, h1, h4⟩
  have e09 := e08.trans e9
  clear e6 e7 e8 e9 h0 h4 P9 P8 tt ez hz hzl
  have dg : ∀ {σ : L2.St} {H' : Hp}, Ex T H9 H' → σ[8]? = some (some (.ref D)) → σ[4]? = some (some (.str w)) → Ev T (tDGet (tVar 8) (tVar 4)) σ H' (.ref l) := fun e h8 h4 => ev_dget (ev_var h8) (ev_var h4) (e.at hD) hl
  refine q_cut (fun σ' H' => ∃ j : Int, σ' = [some (.int c), some (.ref r), some (.ref t), some (.ref p2), some (.str w), some (.int pk), some (.int wy), some (.int j), some (.ref D)] ∧ Ex T H9 H') ?_ ?_
  · refine s_if (b := decide (3 < wy) && !decide (ns = [])) (Mv.of T H9) (et_and (et_test (ev_op (by walk_at "ev") ev_c rv_i0)) fun _ => et_test (ev_opVL (dg (Mv.of T H9) rfl rfl) (el_lst ea_nil (by decide)) fun q H1 hq e => rv_neDI (dp_n (e.at hns)) (dp_n (ns := []) hq))) (fun hb H10 e10 _ => ?_) (fun hb H10 e10 _ => nextI ⟨_, rfl, e10⟩)
    simp only [Bool.and_eq_true, Bool.not_eq_true', decide_eq_false_iff_not] at hb
    have lp : (0 : Int) < ns.length := by
      have := List.length_pos_iff.mpr hb.2
      omega
    have ln : SqL K H10 l (ns.map V.int) := .inl (.inl (e10.at hns))
    exact s_asg (v := .int (rk ns (pk % (ns.length : Int)))) (Mv.of T H10) (ev_op (dg e10 rfl rfl) (ev_op (x := .int pk) (by walk_at "ev") (ev_cb (ea_cons (dg e10 rfl rfl) ea_nil) (rc_lenI ln)) (rv_i lp)) (rv_ixI ln (Int.emod_nonneg _ (by omega)) (Int.emod_lt_of_pos _ lp))) fun H11 e11 _ => ⟨_, rfl, e10.trans e11⟩
  rintro σ' H10 ⟨j, rfl, e10⟩
  have e010 := e09.trans e10
  refine q_cut (fun σ' H' => ∃ v : V, σ' = [some (.int c), some (.ref r), some (.ref t), some (.ref p2), some (.str w), some (.int pk), some (.int wy), some v, some (.ref D)] ∧ Ex T H10 H' ∧ SmN K H H' v) ?_ ?_
  · refine s_if (b := decide (wy = 0)) (Mv.of T H10) (by walk_at "et") (fun hb H11 e11 _ => ?_) (fun hb H11 e11 _ => nextI ⟨_, rfl, e11, sm_i⟩)
    refine s_asgR (Mv.of T H11) (er_ixQ (n := 7) (P := SmN K H10) (i := pk % 7) st_sm (eq_v st_sm (ev_neg ev_c) (fun _ => sm_i) (eq_v st_sm (x := .int rs.length) (ev_cb (ea_cons (x := .ref r) (by walk_at "ev") ea_nil) (rc_lenI ((e010.trans e11).l hr))) (fun _ => sm_i) (eq_v st_sm (ev_c (v := .bl true)) (fun _ => sm_b) (eq_v st_sm (ev_c (v := .non)) (fun _ => sm_n) (eq_v st_sm (ev_c (v := .str "0")) (fun _ => sm_s) (eq_lN st_sm (el_lst (ea_cons ev_c ea_nil) (by decide)) (fun _ _ n h => smN_l (ns := [0]) (e11.dm _ n) h) (eq_v st_sm ev_p30 (fun _ => sm_i) eq_nil))))))) (by decide) (ev_op (by walk_at "ev") ev_c (rv_i (by decide))) (Int.emod_nonneg _ (by decide)) (Int.emod_lt_of_pos _ (by decide))) fun v H12 e12 _ hv => ⟨v, rfl, e11.trans e12, smN_back e010 hv⟩
  rintro σ' H11 ⟨v, rfl, e11, hv⟩
  refine s_retR (Mv.of T H11) (eu_tup (vs := [.str w, v]) (ea_cons (by walk_at "ev") (ea_cons (by walk_at "ev") ea_nil)) (by simp)) fun u H12 e12 _ hu => ?_
  obtain ⟨t5, rfl, n5, h5⟩ := hu
  have n0 := (e010.trans e11).dm _ n5
  obtain ⟨d, hd, ha, ho⟩ := deed_of hw v
  refine k _ H12 d (e010.trans (e11.trans e12)) ⟨t5, rfl, n0, by rw [res_at n0, h5, hd], fun x ex => ?_, ho⟩
  rw [ha] at ex
  obtain rfl := Option.some.inj ex
  exact st_sm _ _ _ e12 hv
end
end Fp

namespace Fp
open PySem PySem.Spec PyProof.Rows L2 LamX
abbrev WoD (c : Str) : Prop := WoF c
theorem w_brd {K : PySem.W.Frag} {T : List (Addr × Str)} {c : Str} {H : Hp} {Q : VK} {E : XK} {vs : List V} {a : Addr} {s : BSt} {S : Addr → Prop} {σ : L2.St} {ta : TE} {t : TA} (sp : Str → Sp) {m : Str} (hc : WoD c) (O : BrdO K c H a s S) (ho : Ev T ta σ H (.ref a)) (lk : ∀ r as qs pl e tl, TlK tl → (brdF r as qs pl e tl).lookup m = none) (h : EvA T t σ H vs) (k : ∀ H1, Ex T H H1 → sp c (.ref a :: vs) H1 Q E) :
    tOr2 (tMeth (He.ga K "Wide") m (sp "Wide") [] E ta t) (tMeth (He.ga K "Few") m (sp "Few") [] E ta t) σ H Q := w_or2 sp hc O ho lk h k
end Fp
--FROM
namespace Fp
open PySem PySem.Spec PyProof.Rows L2 LamX
def CallK (K : PySem.W.Frag) (T : List (Addr × Str)) (c : Str) (H : Hp) (a : Addr) (S : Addr → Prop) (s : BSt) (d : Dd) (Q : VK) (E : XK) : Prop :=
  (∀ z, d.ans s = .val z → MutB K T c H a S (d.step s) z Q) ∧ (d.ans s = .no "line" → ∀ H', Ex T H H' → E (.ref (He.ga K "NoLine")) none H') ∧ (d.ans s = .no "bar" → ∀ H', Ex T H H' → E (.ref (He.ga K "NoBar")) none H') ∧
  (d.ans s = .no "top" → ∀ H' dd x, Ex T H H' → H' dd = none → d.arg = some x → E (.ref (He.ga K "NotTop")) (some dd) (upd H' dd (.xd [("top", oI s.up), ("line", x)])))
def sp_l_call (K : PySem.W.Frag) (T : List (Addr × Str)) : Sp := fun vs H Q E => ∃ a t c s S d, vs = [.ref a, .ref t] ∧ WoD c ∧ BrdO K c H a s S ∧ BWf s ∧ Tabs T H ∧ DeedAt K H t d ∧ NtC K ∧ CallK K T c H a S s d Q E
/-- what a deed on a board does, refused or not -/
def DoK (K : PySem.W.Frag) (T : List (Addr × Str)) (c : Str) (H : Hp) (a : Addr) (S : Addr → Prop) (s : BSt) (d : Dd) (Q : VK) : Prop :=
  (∀ z, d.ans s = .val z → MutB K T c H a S (d.step s) z Q) ∧ ∀ w, d.ans s = .no w → ∀ v H', Ex T H H' → newU [.str "refused", .str w] H v H' → Q v H'
structure Xk3 (K : PySem.W.Frag) : Prop where
  nt : NtC K
  ln : Xk2 K three "NoLine"
  br : Xk2 K three "NoBar"
  tp : Xk2 K three "NotTop"
def sp_l_do (K : PySem.W.Frag) (T : List (Addr × Str)) : Sp := fun vs H Q _ => ∃ a t c s S d, vs = [.ref a, .ref t] ∧ WoD c ∧ BrdO K c H a s S ∧ BWf s ∧ Tabs T H ∧ DeedAt K H t d ∧ Xk3 K ∧ DoK K T c H a S s d Q
theorem len_l_call {K : PySem.W.Frag} {T : List (Addr × Str)} : ∀ vs H Q E, sp_l_call K T vs H Q E → vs.length = 2 := fun vs H Q E h => by
  obtain ⟨_, _, _, _, _, _, rfl, _⟩ := h
  exact rfl
theorem len_l_do {K : PySem.W.Frag} {T : List (Addr × Str)} : ∀ vs H Q E, sp_l_do K T vs H Q E → vs.length = 2 := fun vs H Q E h => by
  obtain ⟨_, _, _, _, _, _, rfl, _⟩ := h
  exact rfl
def r_l_call (K : PySem.W.Frag) (T : List (Addr × Str)) (E : XK) : TS :=
  (tSeq (tIfS (tTest (tOp rEq (tOp (rIxT K) (tVar 1) (tC (.int 0))) (tC (.str "ring")))) (tRet (tOr2 (tMeth (He.ga K "Wide") "ring" (sp_B_ring K T "Wide") [] E (tVar 0) (tCons (tOp (rIxT K) (tVar 1) (tC (.int 1))) tNil)) (tMeth (He.ga K "Few") "ring" (sp_B_ring K T "Few") [] E (tVar 0) (tCons (tOp (rIxT K) (tVar 1) (tC (.int 1))) tNil)))) tNext)
  (tSeq (tIfS (tTest (tOp rEq (tOp (rIxT K) (tVar 1) (tC (.int 0))) (tC (.str "calm")))) (tRet (tOr2 (tMeth (He.ga K "Wide") "calm" (sp_B_calm K T "Wide") [] E (tVar 0) (tCons (tOp (rIxT K) (tVar 1) (tC (.int 1))) tNil)) (tMeth (He.ga K "Few") "calm" (sp_B_calm K T "Few") [] E (tVar 0) (tCons (tOp (rIxT K) (tVar 1) (tC (.int 1))) tNil)))) tNext)
  (tSeq (tIfS (tTest (tOp rEq (tOp (rIxT K) (tVar 1) (tC (.int 0))) (tC (.str "mute")))) (tRet (tOr2 (tMeth (He.ga K "Wide") "mute" (sp_B_mute K T "Wide") [] E (tVar 0) (tCons (tOp (rIxT K) (tVar 1) (tC (.int 1))) tNil)) (tMeth (He.ga K "Few") "mute" (sp_B_mute K T "Few") [] E (tVar 0) (tCons (tOp (rIxT K) (tVar 1) (tC (.int 1))) tNil)))) tNext)
  (tSeq (tIfS (tTest (tOp rEq (tOp (rIxT K) (tVar 1) (tC (.int 0))) (tC (.str "free")))) (tRet (tOr2 (tMeth (He.ga K "Wide") "free" (sp_B_free K T "Wide") [] E (tVar 0) (tCons (tOp (rIxT K) (tVar 1) (tC (.int 1))) tNil)) (tMeth (He.ga K "Few") "free" (sp_B_free K T "Few") [] E (tVar 0) (tCons (tOp (rIxT K) (tVar 1) (tC (.int 1))) tNil)))) tNext)
  (tSeq (tIfS (tTest (tOp rEq (tOp (rIxT K) (tVar 1) (tC (.int 0))) (tC (.str "bar")))) (tRet (tOr2 (tMeth (He.ga K "Wide") "bar" (sp_B_bar K T "Wide") [] E (tVar 0) (tCons (tOp (rIxT K) (tVar 1) (tC (.int 1))) tNil)) (tMeth (He.ga K "Few") "bar" (sp_B_bar K T "Few") [] E (tVar 0) (tCons (tOp (rIxT K) (tVar 1) (tC (.int 1))) tNil)))) tNext)
  (tSeq (tIfS (tTest (tOp rEq (tOp (rIxT K) (tVar 1) (tC (.int 0))) (tC (.str "end")))) (tRet (tOr2 (tMeth (He.ga K "Wide") "end" (sp_B_end K T "Wide") [] E (tVar 0) (tCons (tOp (rIxT K) (tVar 1) (tC (.int 1))) tNil)) (tMeth (He.ga K "Few") "end" (sp_B_end K T "Few") [] E (tVar 0) (tCons (tOp (rIxT K) (tVar 1) (tC (.int 1))) tNil)))) tNext)
  (tSeq (tIfS (tTest (tOp rEq (tOp (rIxT K) (tVar 1) (tC (.int 0))) (tC (.str "take")))) (tRet (tOr2 (tMeth (He.ga K "Wide") "take" (sp_B_take K T "Wide") [] E0 (tVar 0) tNil) (tMeth (He.ga K "Few") "take" (sp_B_take K T "Few") [] E0 (tVar 0) tNil))) tNext)
  (tRet (tOr2 (tMeth (He.ga K "Wide") "best" (sp_B_best K T "Wide") [] E0 (tVar 0) tNil) (tMeth (He.ga K "Few") "best" (sp_B_best K T "Few") [] E0 (tVar 0) tNil))))))))))
def r_l_do (K : PySem.W.Frag) (T : List (Addr × Str)) : TS :=
  (tSeq (tAsg (tC .non) (gName 2))
  (tSeq (tAsg (tC (.str "")) (gName 3))
  (tSeq (tTryMany K [(.ref (He.ga K "NoLine"), (tAsg (tC (.str "line")) (gName 3))), (.ref (He.ga K "NoBar"), (tAsg (tC (.str "bar")) (gName 3))), (.ref (He.ga K "NotTop"), (tAsg (tC (.str "top")) (gName 3)))] (fun W => (tAsg (tCallS (sp_l_call K T) (WE W) (tCons (tVar 0) (tCons (tVar 1) tNil))) (gName 2))))
  (tSeq (tIfS (tTest (tOp rNe (tVar 3) (tC (.str "")))) (tRet (tTup (tCons (tC (.str "refused")) (tCons (tVar 3) tNil)))) tNext)
  (tRet (tVar 2))))))
section
variable {K : PySem.W.Frag} {T : List (Addr × Str)} {c : Str} {H H0 H1 : Hp} {Q : VK} {E : XK} {vs : List V} {a t : Addr} {s s' : BSt} {S : Addr → Prop} {d : Dd} {v x : V} {i k : Int}
theorem MutB.ex (h : MutB K T c H a S s v Q) (e : Ex T H H1) : MutB K T c H1 a S s v Q := fun H' S' m O n => h H' S' (e.mv.trans m) O fun x h => (n x h).imp id (e.dm x)
theorem CallK.ex (h : CallK K T c H a S s d Q E) (e : Ex T H H1) : CallK K T c H1 a S s d Q E :=
  ⟨fun z hz => (h.1 z hz).ex e, fun z H' e' => h.2.1 z H' (e.trans e'), fun z H' e' => h.2.2.1 z H' (e.trans e'), fun z H' dd x e' => h.2.2.2 z H' dd x (e.trans e')⟩
theorem dd_w (ho : d.ok) : (d.word = "ring" ∧ ∃ x, d = .flag 0 x) ∨ (d.word = "calm" ∧ ∃ x, d = .flag 1 x) ∨ (d.word = "mute" ∧ ∃ x, d = .flag 2 x) ∨ (d.word = "free" ∧ ∃ x, d = .flag 3 x) ∨ (d.word = "bar" ∧ ∃ x, d = .bar x) ∨ (d.word = "end" ∧ ∃ x, d = .fin x) ∨ (d.word = "take" ∧ d = .take) ∨ (d.word = "best" ∧ d = .best) := by
  cases d with
  | flag w x =>
    obtain ⟨h0, h3⟩ : 0 ≤ w ∧ w ≤ 3 := ho
    have : w = 0 ∨ w = 1 ∨ w = 2 ∨ w = 3 := by omega
    rcases this with rfl | rfl | rfl | rfl
    · exact .inl ⟨rfl, x, rfl⟩
    · exact .inr (.inl ⟨rfl, x, rfl⟩)
    · exact .inr (.inr (.inl ⟨rfl, x, rfl⟩))
    · exact .inr (.inr (.inr (.inl ⟨rfl, x, rfl⟩)))
  | bar x => exact .inr (.inr (.inr (.inr (.inl ⟨rfl, x, rfl⟩))))
  | fin x => exact .inr (.inr (.inr (.inr (.inr (.inl ⟨rfl, x, rfl⟩)))))
  | take => exact .inr (.inr (.inr (.inr (.inr (.inr (.inl ⟨rfl, rfl⟩))))))
  | best => exact .inr (.inr (.inr (.inr (.inr (.inr (.inr ⟨rfl, rfl⟩))))))
theorem dd_ring (ho : d.ok) (h : d.word = "ring") : ∃ x, d = .flag 0 x := by
  rcases dd_w ho with ⟨w, z⟩ | ⟨w, z⟩ | ⟨w, z⟩ | ⟨w, z⟩ | ⟨w, z⟩ | ⟨w, z⟩ | ⟨w, z⟩ | ⟨w, z⟩ <;> first | exact z | exact absurd (w.symm.trans h) (by decide +kernel)
theorem dd_calm (ho : d.ok) (h : d.word = "calm") : ∃ x, d = .flag 1 x := by
  rcases dd_w ho with ⟨w, z⟩ | ⟨w, z⟩ | ⟨w, z⟩ | ⟨w, z⟩ | ⟨w, z⟩ | ⟨w, z⟩ | ⟨w, z⟩ | ⟨w, z⟩ <;> first | exact z | exact absurd (w.symm.trans h) (by decide +kernel)
theorem dd_mute (ho : d.ok) (h : d.word = "mute") : ∃ x, d = .flag 2 x := by
  rcases dd_w ho with ⟨w, z⟩ | ⟨w, z⟩ | ⟨w, z⟩ | ⟨w, z⟩ | ⟨w, z⟩ | ⟨w, z⟩ | ⟨w, z⟩ | ⟨w, z⟩ <;> first | exact z | exact absurd (w.symm.trans h) (by decide +kernel)
theorem dd_free (ho : d.ok) (h : d.word = "free") : ∃ x, d = .flag 3 x := by
  rcases dd_w ho with ⟨w, z⟩ | ⟨w, z⟩ | ⟨w, z⟩ | ⟨w, z⟩ | ⟨w, z⟩ | ⟨w, z⟩ | ⟨w, z⟩ | ⟨w, z⟩ <;> first | exact z | exact absurd (w.symm.trans h) (by decide +kernel)
theorem dd_bar (ho : d.ok) (h : d.word = "bar") : ∃ x, d = .bar x := by
  rcases dd_w ho with ⟨w, z⟩ | ⟨w, z⟩ | ⟨w, z⟩ | ⟨w, z⟩ | ⟨w, z⟩ | ⟨w, z⟩ | ⟨w, z⟩ | ⟨w, z⟩ <;> first | exact z | exact absurd (w.symm.trans h) (by decide +kernel)
theorem dd_end (ho : d.ok) (h : d.word = "end") : ∃ x, d = .fin x := by
  rcases dd_w ho with ⟨w, z⟩ | ⟨w, z⟩ | ⟨w, z⟩ | ⟨w, z⟩ | ⟨w, z⟩ | ⟨w, z⟩ | ⟨w, z⟩ | ⟨w, z⟩ <;> first | exact z | exact absurd (w.symm.trans h) (by decide +kernel)
theorem dd_take (ho : d.ok) (h : d.word = "take") : d = .take := by
  rcases dd_w ho with ⟨w, z⟩ | ⟨w, z⟩ | ⟨w, z⟩ | ⟨w, z⟩ | ⟨w, z⟩ | ⟨w, z⟩ | ⟨w, z⟩ | ⟨w, z⟩ <;> first | exact z | exact absurd (w.symm.trans h) (by decide +kernel)
theorem flag_call (O : BrdO K c H a s S) (w : BWf s) (tb : Tabs T H) (hx : kd H x ≠ "") (h : CallK K T c H a S s (.flag k x) Q E) : spFlag K T c (fun s i => s.flag k i) (fun s i => tellF s k i) [.ref a, x] H Q E := by
  refine ⟨a, x, s, S, rfl, O, w, tb, hx, ?_⟩
  cases e : lnO s.lns x with
  | none => exact .inl ⟨by have := lnO_isLn (n := s.lns) (x := x); rw [e] at this; exact this.symm, h.2.1 (by show (lnO s.lns x).elim _ _ = _; rw [e]; rfl)⟩
  | some i =>
    obtain ⟨rfl, hi⟩ := lnO_some e
    refine .inr ⟨i, rfl, hi, ?_⟩
    have := h.1 (.bl (tellF s k i)) (by show (lnO s.lns (.int i)).elim _ _ = _; rw [e]; rfl)
    rwa [show Dd.step s (.flag k (.int i)) = s.flag k i by show (lnO s.lns (.int i)).elim _ _ = _; rw [e]; rfl] at this
theorem bar_call (O : BrdO K c H a s S) (hx : kd H x ≠ "") (h : CallK K T c H a S s (.bar x) Q E) : sp_B_bar K T c [.ref a, x] H Q E := by
  refine ⟨a, x, s, S, rfl, O, hx, ?_⟩
  by_cases e : isBr x = true
  · refine .inr ⟨brO x, (isBr_some e).1, e, ?_⟩
    have := h.1 (oI s.edge) (by show (if isBr x = true then _ else _) = _; rw [if_pos e])
    rwa [show Dd.step s (.bar x) = s.bar (brO x) by show (if isBr x = true then _ else _) = _; rw [if_pos e]] at this
  · exact .inl ⟨by simpa using e, h.2.2.1 (by show (if isBr x = true then _ else _) = _; rw [if_neg e])⟩
theorem fin_call (O : BrdO K c H a s S) (hx : kd H x ≠ "") (nt : NtC K) (h : CallK K T c H a S s (.fin x) Q E) : sp_B_end K T c [.ref a, x] H Q E := by
  refine ⟨a, x, s, S, rfl, O, hx, nt, ?_⟩
  cases e : lnO s.lns x with
  | none => exact .inl ⟨by have := lnO_isLn (n := s.lns) (x := x); rw [e] at this; exact this.symm, h.2.1 (by show (lnO s.lns x).elim _ _ = _; rw [e]; rfl)⟩
  | some i =>
    obtain ⟨rfl, hi⟩ := lnO_some e
    refine .inr ⟨i, rfl, hi, ?_⟩
    have ea : Dd.ans s (.fin (.int i)) = if s.up = some i then .val (oI s.pop.up) else .no "top" := by show (lnO s.lns (.int i)).elim _ _ = _; rw [e]; rfl
    have es : Dd.step s (.fin (.int i)) = if s.up = some i then s.pop else s := by show (lnO s.lns (.int i)).elim _ _ = _; rw [e]; rfl
    by_cases u : s.up = some i
    · rw [if_pos u] at ea es
      have := h.1 _ ea
      rw [es] at this
      exact .inr ⟨u, this⟩
    · rw [if_neg u] at ea
      exact .inl ⟨u, fun H' dd e' hd => h.2.2.2 ea H' dd _ e' hd rfl⟩
theorem p_l_call (h : sp_l_call K T vs H Q E) : r_l_call K T E { nx := fun _ H' => Q .non H', rt := Q } (start ["_law_board", "_law_deed_here"] vs) H := by
  obtain ⟨a, t, c, s, S, d, rfl, hc, O, wf, tb, D, nt, h⟩ := h
  unfold r_l_call
  have tt : ∀ {H1 : Hp}, Ex T H H1 → SqT K H1 t d.vs := fun e => .inl (.inl (e.at D.at_))
  have qw : ∀ {H1 : Hp} (u : Str), Ex T H H1 → EvT T (tTest (tOp rEq (tOp (rIxT K) (tVar 1) (tC (.int 0))) (tC (.str u)))) [some (.ref a), some (.ref t)] H1 (decide (d.word = u)) := fun u e => et_test (ev_op (ev_op (x := .ref t) (ev_var rfl) ev_c (rv_ixT (tt e) (by unfold Dd.vs; cases d.arg <;> rfl))) ev_c rv_eqS)
  have lk : ∀ {m : Str} (h1 : ∀ r as qs pl e : V, (brdF r as qs pl e []).lookup m = none) (h2 : ∀ (r as qs pl e : V) (g : Addr), (brdF r as qs pl e [(("pegs" : Str), V.ref g)]).lookup m = none), ∀ r as qs pl e tl, TlK tl → (brdF r as qs pl e tl).lookup m = none := fun h1 h2 r as qs pl e tl t => lk_none t (h1 _ _ _ _ _) (h2 _ _ _ _ _)
  have ar : ∀ {H1 : Hp} {x : V}, d.arg = some x → Ex T H H1 → EvA T (tCons (tOp (rIxT K) (tVar 1) (tC (.int 1))) tNil) [some (.ref a), some (.ref t)] H1 [x] := fun {H1 x} hx e => ea_cons (ev_op (x := .ref t) (ev_var rfl) ev_c (rv_ixT (tt e) (by unfold Dd.vs; rw [hx]; rfl))) ea_nil
  have kx : ∀ {H1 : Hp} {x : V}, d.arg = some x → Ex T H H1 → kd H1 x ≠ "" := fun {H1 x} hx e => by rw [kd_exn e (D.sm x hx).1]; exact (D.sm x hx).1
  have ob : ∀ {H1 : Hp}, Ev T (tVar 0) [some (V.ref a), some (.ref t)] H1 (.ref a) := ev_var rfl
  refine q_if (Mv.of T H) (qw "ring" (Mv.of T H)) (fun hb H1 e1 _ => ?_) (fun hb1 H1 e1 _ => nextI ?_)
  · obtain ⟨x, rfl⟩ := dd_ring D.ok (of_decide_eq_true hb)
    exact w_brd (T := T) (fun c => sp_B_ring K T c) hc (O.ex' e1) ob (lk (fun _ _ _ _ _ => rfl) (fun _ _ _ _ _ _ => rfl)) (ar rfl e1) fun H2 e2 => (flag_call (O.ex' (e1.trans e2)) wf ((e1.trans e2).tb tb) (kx rfl (e1.trans e2)) (h.ex (e1.trans e2))).as (fun s i => rfl) fun s i => rfl
  dsimp only
  refine q_if (Mv.of T H1) (qw "calm" e1) (fun hb H2 e2 _ => ?_) (fun hb2 H2 e2 _ => nextI ?_)
  · obtain ⟨x, rfl⟩ := dd_calm D.ok (of_decide_eq_true hb)
    have e02 := e1.trans e2
    exact w_brd (T := T) (fun c => sp_B_calm K T c) hc (O.ex' e02) ob (lk (fun _ _ _ _ _ => rfl) (fun _ _ _ _ _ _ => rfl)) (ar rfl e02) fun H3 e3 => (flag_call (O.ex' (e02.trans e3)) wf ((e02.trans e3).tb tb) (kx rfl (e02.trans e3)) (h.ex (e02.trans e3))).as (fun s i => rfl) fun s i => rfl
  dsimp only
  have e02 := e1.trans e2
  refine q_if (Mv.of T H2) (qw "mute" e02) (fun hb H3 e3 _ => ?_) (fun hb3 H3 e3 _ => nextI ?_)
  · obtain ⟨x, rfl⟩ := dd_mute D.ok (of_decide_eq_true hb)
    have e03 := e02.trans e3
    exact w_brd (T := T) (fun c => sp_B_mute K T c) hc (O.ex' e03) ob (lk (fun _ _ _ _ _ => rfl) (fun _ _ _ _ _ _ => rfl)) (ar rfl e03) fun H3 e3 => (flag_call (O.ex' (e03.trans e3)) wf ((e03.trans e3).tb tb) (kx rfl (e03.trans e3)) (h.ex (e03.trans e3))).as (fun s i => rfl) fun s i => rfl
  dsimp only
  have e03 := e02.trans e3
  refine q_if (Mv.of T H3) (qw "free" e03) (fun hb H4 e4 _ => ?_) (fun hb4 H4 e4 _ => nextI ?_)
  · obtain ⟨x, rfl⟩ := dd_free D.ok (of_decide_eq_true hb)
    have e04 := e03.trans e4
    exact w_brd (T := T) (fun c => sp_B_free K T c) hc (O.ex' e04) ob (lk (fun _ _ _ _ _ => rfl) (fun _ _ _ _ _ _ => rfl)) (ar rfl e04) fun H3 e3 => (flag_call (O.ex' (e04.trans e3)) wf ((e04.trans e3).tb tb) (kx rfl (e04.trans e3)) (h.ex (e04.trans e3))).as (fun s i => rfl) fun s i => rfl
  dsimp only
  have e04 := e03.trans e4
  refine q_if (Mv.of T H4) (qw "bar" e04) (fun hb H5 e5 _ => ?_) (fun hb5 H5 e5 _ => nextI ?_)
  · obtain ⟨x, rfl⟩ := dd_bar D.ok (of_decide_eq_true hb)
    have e05 := e04.trans e5
    exact w_brd (T := T) (fun c => sp_B_bar K T c) hc (O.ex' e05) ob (lk (fun _ _ _ _ _ => rfl) (fun _ _ _ _ _ _ => rfl)) (ar rfl e05) fun H3 e3 => bar_call (O.ex' (e05.trans e3)) (kx rfl (e05.trans e3)) (h.ex (e05.trans e3))
  dsimp only
  have e05 := e04.trans e5
  refine q_if (Mv.of T H5) (qw "end" e05) (fun hb H6 e6 _ => ?_) (fun hb6 H6 e6 _ => nextI ?_)
  · obtain ⟨x, rfl⟩ := dd_end D.ok (of_decide_eq_true hb)
    have e06 := e05.trans e6
    exact w_brd (T := T) (fun c => sp_B_end K T c) hc (O.ex' e06) ob (lk (fun _ _ _ _ _ => rfl) (fun _ _ _ _ _ _ => rfl)) (ar rfl e06) fun H3 e3 => fin_call (O.ex' (e06.trans e3)) (kx rfl (e06.trans e3)) nt (h.ex (e06.trans e3))
  dsimp only
  have e06 := e05.trans e6
  refine q_if (Mv.of T H6) (qw "take" e06) (fun hb H7 e7 _ => ?_) (fun hb7 H7 e7 _ => nextI ?_)
  · obtain rfl := dd_take D.ok (of_decide_eq_true hb)
    have e07 := e06.trans e7
    exact w_brd (T := T) (vs := []) (fun c => sp_B_take K T c) hc (O.ex' e07) ob (lk (fun _ _ _ _ _ => rfl) (fun _ _ _ _ _ _ => rfl)) ea_nil fun H3 e3 => ⟨a, s, S, rfl, O.ex' (e07.trans e3), wf, (e07.trans e3).tb tb, (h.ex (e07.trans e3)).1 _ rfl⟩
  dsimp only
  have e07 := e06.trans e7
  have hd : d = .best := by
    simp only [decide_eq_false_iff_not] at hb1 hb2 hb3 hb4 hb5 hb6 hb7
    rcases dd_w D.ok with ⟨w, z⟩ | ⟨w, z⟩ | ⟨w, z⟩ | ⟨w, z⟩ | ⟨w, z⟩ | ⟨w, z⟩ | ⟨w, z⟩ | ⟨w, z⟩ <;> first | exact z | contradiction
  subst hd
  exact w_brd (T := T) (vs := []) (fun c => sp_B_best K T c) hc (O.ex' e07) ob (lk (fun _ _ _ _ _ => rfl) (fun _ _ _ _ _ _ => rfl)) ea_nil fun H3 e3 => ⟨a, s, S, rfl, O.ex' (e07.trans e3), wf, fun H4 e4 => (h.ex (e07.trans e3)).1 _ rfl H4 S e4.mv (O.ex' ((e07.trans e3).trans e4)) fun _ h => .inl h⟩
theorem w_asgS {σ : L2.St} {ta : TA} {ws : List V} {sp : Sp} {Ew : L2.St → XK} {D : Ends} {j : Nat} (h : EvA T ta σ H ws) (k : ∀ H1, Ex T H H1 → sp ws H1 (fun v H' => D.nx (σ.set j (some v)) H') (Ew σ)) : tAsg (tCallS sp Ew ta) (gName j) D σ H := h H Mv.refl _ fun H2 e2 => by
  exact k H2 e2
theorem p_l_do (h : sp_l_do K T vs H Q E) : r_l_do K T { nx := fun _ H' => Q .non H', rt := Q } (start ["_law_board", "_law_deed_here", "_law_told", "_law_refused"] vs) H := by
  obtain ⟨a, t, c, s, S, d, rfl, hc, O, wf, tb, D, X, h1, h2⟩ := h
  unfold r_l_do
  refine q_asg (v := .non) (Mv.of T H) ev_c rfl fun H1 e1 _ => ?_
  refine q_asg (v := .str "") (Mv.of T H1) ev_c rfl fun H2 e2 _ => ?_
  have e02 := e1.trans e2
  have no : ∀ {w : Str} {H3 : Hp}, d.ans s = .no w → Ex T H H3 → (w = "" → False) → (fun σ' H' => tSeq (tIfS (tTest (tOp rNe (tVar 3) (tC (.str "")))) (tRet (tTup (tCons (tC (.str "refused")) (tCons (tVar 3) tNil)))) tNext) (tRet (tVar 2)) { nx := fun _ H' => Q .non H', rt := Q } σ' H') [some (.ref a), some (.ref t), some .non, some (.str w)] H3 := fun {w H3} hw e hn => by
    refine q_if (b := !decide (w = "")) (Mv.of T H3) (et_test (ev_is (ev_op (x := .str w) (ev_var rfl) ev_c (rv_ne rfl)) (by simp))) (fun hb H4 e4 _ => ?_) (fun hb => ?_)
    · exact s_retR (Mv.of T H4) (eu_tup (vs := [.str "refused", .str w]) (ea_cons ev_c (ea_cons (ev_var rfl) ea_nil)) (by simp)) fun v H5 e5 e45 hv => h2 w hw v H5 (e.trans (e4.trans e5)) (newU_back _ _ _ _ (Mv.of T H) (e.trans e4) e5 hv)
    · simp only [Bool.not_eq_false', decide_eq_true_eq] at hb
      exact (hn hb).elim
  show tTryMany _ _ _ _ _ _
  unfold tTryMany
  refine w_asgS (T := T) (σ := [some (.ref a), some (.ref t), some .non, some (.str "")]) (ws := [.ref a, .ref t]) (ea_cons (ev_var rfl) (ea_cons (ev_var rfl) ea_nil)) fun H3 e3 => ?_
  have e03 := e02.trans e3
  refine ⟨a, t, c, s, S, d, rfl, hc, O.ex' e03, wf, e03.tb tb, D.ex e03, X.nt, fun z hz H' S' m O' n => ?_, fun hz H' e' => ?_, fun hz H' e' => ?_, fun hz H' dd x e' hd hx => ?_⟩
  · refine nameI ?_
    have mm := e03.mv.trans m
    refine q_if (b := false) (Mv.of T H') (et_test (ev_is (ev_op (x := .str "") (ev_var rfl) ev_c (rv_ne rfl)) (by simp))) (fun hb => nomatch hb) (fun _ H5 e5 _ => nextI ?_)
    dsimp only
    exact s_ret (Mv.of T H5) (ev_var (v := z) rfl) fun H6 e6 => h1 z hz H6 S' (mm.trans (e5.trans e6).mv) (O'.ex' (e5.trans e6)) fun x h => (n x h).imp id (e03.dm x)
  · exact wm_line X.ln (nameI (no hz (e03.trans e') (by decide +kernel)))
  · exact wm_bar X.br (nameI (no hz (e03.trans e') (by decide +kernel)))
  · exact wm_top X.tp (nameI (no hz ((e03.trans e').trans (Mv.new hd)) (by decide +kernel)))
end
end Fp

namespace Fp
open PySem PySem.Spec PyProof.Rows L2 LamX
/-! ### tuples of numbers by >=, sorted lists -/
def rGeT (K : PySem.W.Frag) : R2 := fun x y H Q => ∃ (a b : Addr) (ns ms : List Int), x = .ref a ∧ y = .ref b ∧ SqT K H a (ns.map V.int) ∧ SqT K H b (ms.map V.int) ∧
  Q (.bl (Ob.lexAt (fun j => decide (ns.getD j 0 = ms.getD j 0)) (fun j => decide (ms.getD j 0 ≤ ns.getD j 0)) (decide (ns.length ≥ ms.length)) 0 (min ns.length ms.length))) H
theorem op_geT {X : Cx} (hu : X.A.units < cLine) : OpR X (compareOp .GtE) (rGeT X.K) := by
  intro pins s σ H x y v u Q I rx ry h
  obtain ⟨a, b, ns, ms, rfl, rfl, ha, hb, q⟩ := h
  cases rx
  cases ry
  obtain ⟨its, r1, p1, _⟩ := I.tuple ha
  obtain ⟨its2, r2, p2, _⟩ := I.tuple hb
  have i1 : IntsAre its ns := Vals.ints r1
  have i2 : IntsAre its2 ms := Vals.ints r2
  have e1 : its.toArray.size = ns.length := by rw [List.size_toArray]; exact i1.length
  have e2 : its2.toArray.size = ms.length := by rw [List.size_toArray]; exact i2.length
  have at1 : ∀ j (h1 : j < its.toArray.size), ∃ t, its.toArray[j] = .int (ns.getD j 0) t := fun j h1 => PyProof.Rows.IntsAre.int_at i1 _ _ (by simp at h1; simp [h1])
  have at2 : ∀ j (h1 : j < its2.toArray.size), ∃ t, its2.toArray[j] = .int (ms.getD j 0) t := fun j h1 => PyProof.Rows.IntsAre.int_at i2 _ _ (by simp at h1; simp [h1])
  have R := Ob.RcOp.tuples_ge (A := X.A) (s := s) (e := fun j => decide (ns.getD j 0 = ms.getD j 0)) (r := fun j => decide (ms.getD j 0 ≤ ns.getD j 0)) p1 p2 hu (fun j h1 h2 => by
    obtain ⟨t, et⟩ := at1 j h1
    obtain ⟨t', et'⟩ := at2 j h2
    rw [et, et']
    have z : (ns.getD j 0 == ms.getD j 0) = decide (ns.getD j 0 = ms.getD j 0) := by
      by_cases q : ns.getD j 0 = ms.getD j 0
      · rw [decide_eq_true q]; exact beq_iff_eq.mpr q
      · rw [decide_eq_false q]; exact beq_eq_false_iff_ne.mpr q
    rw [← z]
    exact SeqAt.EqAt.int_int _ _ _ _) (fun j h1 h2 _ => by
    obtain ⟨t, et⟩ := at1 j h1
    obtain ⟨t', et'⟩ := at2 j h2
    rw [et, et']
    exact Ob.RcOp.ge_int _ _ _ _)
  rw [e1, e2] at R
  exact R _ _ _ _ ⟨.bl _, H, I, rfl, q⟩
section
variable {T : List (Addr × Str)} {K : PySem.W.Frag} {σ : L2.St} {H H0 : Hp} {ta tb te t1 t2 t3 t4 : TE} {a b c d : Int} {p q : Addr} {xs ys : List V} {ns ts : List Int}
theorem rv_geT2 (hp : H p = some (.tup [.int a, .int b])) (hq : H q = some (.tup [.int c, .int d])) : RV T (rGeT K) (.ref p) (.ref q) H (.bl (!decide (a < c ∨ a = c ∧ b < d))) := fun H1 e Q k => by
  refine ⟨p, q, [a, b], [c, d], rfl, rfl, .inl (.inl (e.at hp)), .inl (.inl (e.at hq)), ?_⟩
  have : (Ob.lexAt (fun j => decide ([a, b].getD j 0 = [c, d].getD j 0)) (fun j => decide ([c, d].getD j 0 ≤ [a, b].getD j 0)) (decide ([a, b].length ≥ [c, d].length)) 0 (min [a, b].length [c, d].length)) = (!decide (a < c ∨ a = c ∧ b < d)) := by
    simp only [List.length_cons, List.length_nil, Nat.min_self, Ob.lexAt_succ, Ob.lexAt_zero, List.getD_cons_zero, List.getD_cons_succ]
    by_cases h1 : a = c
    · by_cases h2 : b = d
      · simp [h1, h2]
      · simp only [h1, h2, decide_true, decide_false, if_true, Bool.false_eq_true, if_false]
        rw [Bool.eq_iff_iff]
        simp
    · simp only [h1, decide_false, Bool.false_eq_true, if_false, false_and, or_false]
      rw [Bool.eq_iff_iff]
      simp
  rw [this]
  exact k H1 Mv.refl
theorem ev_geT2 (h1 : Ev T t1 σ H (.int a)) (h2 : Ev T t2 σ H (.int b)) (h3 : Ev T t3 σ H (.int c)) (h4 : Ev T t4 σ H (.int d)) : Ev T (tOp (rGeT K) (tTup (tCons t1 (tCons t2 tNil))) (tTup (tCons t3 (tCons t4 tNil)))) σ H (.bl (!decide (a < c ∨ a = c ∧ b < d))) :=
  ev_opUU (eu_tup (ea_cons h1 (ea_cons h2 ea_nil)) (by simp)) (fun _ e => eu_tup (ea_cons (h3.mono e) (ea_cons (h4.mono e) ea_nil)) (by simp)) fun _ _ _ h1 h2 _ => rv_geT2 h1 h2
theorem el_catV (ha : Ev T ta σ H (.ref p)) (hb : Ev T tb σ H (.ref q)) (hp : H p = some (.lst xs)) (hq : H q = some (.lst ys)) (hz : xs.length + ys.length ≤ 100000) : EvL T (tOp rCat ta tb) σ H (xs ++ ys) := fun H1 e Q k =>
  ha H1 e _ fun H2 e2 => hb H2 (e.trans e2) _ fun H3 e3 => ⟨p, q, xs, ys, rfl, rfl, e3.at (e2.at (e.at hp)), e3.at (e2.at (e.at hq)), sz hz, fun n hn => k _ _ ((e2.trans e3).trans (Mv.new hn)) ⟨n, rfl, (e2.trans e3).nod hn, upd_same⟩⟩
theorem sorted_uniq : ∀ {xs ys : List Int}, xs.Perm ys → xs.Pairwise (· ≤ ·) → ys.Pairwise (· < ·) → xs = ys := fun h h1 h2 => List.Perm.eq_of_pairwise (fun a b _ _ x y => Int.le_antisymm x y) h1 (h2.imp Int.le_of_lt) h
/-- sorted(xs), xs a new list of whole numbers -/
theorem el_sorted (h : EvL T te σ H (ns.map V.int)) (hl : ns.length < 64) (hp : ts.Perm ns) (hs : ts.Pairwise (· < ·)) : EvL T (tCB (rSorted K) (tCons te tNil)) σ H (ts.map V.int) := fun H1 e Q k =>
  h H1 e _ fun _ H2 e2 ⟨p, ep, _, h2⟩ => by
    subst ep
    refine ⟨p, ns, rfl, .inl (.inl h2), hl, fun ns' q pm so hq => ?_⟩
    rw [sorted_uniq (pm.trans hp.symm) so hs]
    exact k _ _ (e2.trans (Mv.new hq)) ⟨q, rfl, e2.nod hq, upd_same⟩
end
end Fp

namespace Fp
open PySem PySem.Spec PyProof.Rows L2 LamX
/-! ### deeds keep the count of pegs; items held in pairs; makings by relations -/
section
variable {s : BSt} {p : PSt} {i : Int} {d : Dd}
theorem PSt.come_many : (p.come i).many = p.many ∧ (p.come i).ranks = p.ranks := by
  unfold PSt.come
  split
  · unfold PSt.hang PSt.yield
    split <;> exact ⟨rfl, rfl⟩
  · exact ⟨rfl, rfl⟩
theorem PSt.go_many : (p.go i).many = p.many ∧ (p.go i).ranks = p.ranks := by
  have h : (p.drop i).many = p.many ∧ (p.drop i).ranks = p.ranks := by
    unfold PSt.drop
    split <;> exact ⟨rfl, rfl⟩
  unfold PSt.go
  split
  · exact h
  · exact h
/-- as many pegs, or none, in both -/
def LikeP (a b : Option PSt) : Prop := (a = none ∧ b = none) ∨ ∃ p q, a = some p ∧ b = some q ∧ q.many = p.many
theorem LikeP.refl {a : Option PSt} : LikeP a a := by
  cases a with
  | none => exact .inl ⟨rfl, rfl⟩
  | some p => exact .inr ⟨p, p, rfl, rfl, rfl⟩
theorem enters_like : LikeP s.pegs (s.enters i).pegs := by
  show LikeP s.pegs (s.pegs.map (·.come i))
  cases s.pegs with
  | none => exact .inl ⟨rfl, rfl⟩
  | some p => exact .inr ⟨p, _, rfl, rfl, PSt.come_many.1⟩
theorem leaves_like : LikeP s.pegs (s.leaves i).pegs := by
  show LikeP s.pegs (s.pegs.map (·.go i))
  cases s.pegs with
  | none => exact .inl ⟨rfl, rfl⟩
  | some p => exact .inr ⟨p, _, rfl, rfl, PSt.go_many.1⟩
theorem flag_like {w : Int} : LikeP s.pegs (s.flag w i).pegs := by
  unfold BSt.flag BSt.ring BSt.calm BSt.mute BSt.free
  repeat' split
  all_goals first | exact LikeP.refl | exact enters_like (s := s.ask i true) | exact enters_like (s := s.hush i false) | exact leaves_like (s := s.ask i false) | exact leaves_like (s := s.hush i true)
theorem take_like : LikeP s.pegs s.take.pegs := by
  unfold BSt.take
  split
  · exact LikeP.refl
  · exact leaves_like (s := s.ask _ false)
theorem step_like : LikeP s.pegs (d.step s).pegs := by
  cases d with
  | flag k x =>
    show LikeP s.pegs ((lnO s.lns x).elim s fun i => s.flag k i).pegs
    cases h : lnO s.lns x with
    | none => exact LikeP.refl
    | some i => exact flag_like
  | bar x =>
    show LikeP s.pegs (if isBr x = true then s.bar (brO x) else s).pegs
    split <;> exact LikeP.refl
  | fin x =>
    show LikeP s.pegs ((lnO s.lns x).elim s fun i => if s.up = some i then s.pop else s).pegs
    cases h : lnO s.lns x with
    | none => exact LikeP.refl
    | some i =>
      show LikeP s.pegs (if s.up = some i then s.pop else s).pegs
      split <;> exact LikeP.refl
  | take => exact take_like
  | best => exact LikeP.refl
theorem step_some {p : PSt} (h : s.pegs = some p) : ∃ q, (d.step s).pegs = some q ∧ q.many = p.many := by
  rcases step_like (s := s) (d := d) with ⟨h1, _⟩ | ⟨a, b, h1, h2, h3⟩
  · rw [h] at h1; cases h1
  · rw [h] at h1
    obtain rfl := Option.some.inj h1
    exact ⟨b, h2, h3⟩
theorem step_none (h : s.pegs = none) : (d.step s).pegs = none := by
  rcases step_like (s := s) (d := d) with ⟨_, h2⟩ | ⟨a, b, h1, h2, h3⟩
  · exact h2
  · rw [h] at h1; cases h1
end
theorem cells67 (ns : List Int) : ∃ cs : List Int, cutV (ns.map V.int) (some 3) (some 67) = cs.map V.int ∧ cs.length ≤ 64 := by
  obtain ⟨cs, hcs, hcl⟩ := cutV_ints ns (some 3) (some 67)
  refine ⟨cs, hcs, Nat.le_trans hcl ?_⟩
  rw [show HT.sIx ns.length ns.length (some 67) = min 67 ns.length from HT.sIx_nat _ _ 67, show HT.sIx ns.length 0 (some 3) = min 3 ns.length from HT.sIx_nat _ _ 3]
  omega
section
variable {T : List (Addr × Str)} {K : PySem.W.Frag} {H H0 H1 : Hp} {own : Addr → Nat} {L L' : List (Nat × HS T)} {p : Addr}
theorem DpAll.app {H : Hp} : ∀ {vs us : List V} {ds es : List PyData}, DpAll K H vs ds → DpAll K H us es → DpAll K H (vs ++ us) (ds ++ es)
  | _, _, _, _, .nil, h => h
  | _, _, _, _, .cons h1 h2, h => .cons h1 (Fp.DpAll.app h2 h)
theorem frds_own {own' : Addr → Nat} {k : Nat} {vs : List V} {ds : List PyData} (h1 : ∀ x, nod H x → ¬ nod H1 x → own' x = k) (f : DpAll K (res H1 (nod H)) vs ds) : DpAll K (res H1 fun x => own' x = k) vs ds := Sub.dps (fun y o h e => by
  obtain ⟨sy, hy⟩ := res_of h
  rw [res_at (S := fun x => own' x = k) (h1 y sy (nod.not hy e))]
  exact hy) f
/-- a list of j's gets items, all of them k's -/
theorem Hd.apps {j k : Nat} {rs xs : List V} {ds es : List PyData} (h : Hd T H0 H own L) (hj : j ≠ 0) (hk : k ≠ 0) (m1 : (j, atH T p rs) ∈ L) (m2 : (k, dpsH T K rs ds) ∈ L) (hjk : j ≠ k) (m : Mv T (fun b => b = p) H H1) (e : H1 p = some (.lst (rs ++ xs))) (f : DpAll K (res H1 (nod H)) xs es)
    (hL : ∀ q ∈ L', (q ∈ L ∧ q.1 ≠ j) ∨ q = (j, atH T p (rs ++ xs)) ∨ q = (k, dpsH T K (rs ++ xs) (ds ++ es))) : ∃ own', Hd T H0 H1 own' L' := by
  have o := h.al _ m1
  have o1 : own p = j := o.1
  have o2 : H p = some (.lst rs) := o.2
  obtain ⟨o, z, _⟩ := h.mutK (L' := L') (k := k) (S' := nod H) (fun y w => .inl (by rw [w, o1]; exact hj)) hk m (fun x w => .inr w) fun own' h1 g q hq => by
    rcases hL q hq with w | w | w
    · exact .inl ⟨w.1, fun y a b => w.2 (by rw [← b, a, o1])⟩
    · subst w
      exact .inr ⟨(g _ (nod.not o2 rfl)).trans o1, e⟩
    · subst w
      exact .inr (Fp.DpAll.app ((m.sub2 (fun y (a : own y = k) b => hjk (by rw [← a, b, o1])) fun y a b => (g y b).trans a).dps (h.al _ m2)) (frds_own h1 f))
  exact ⟨o, z⟩
variable {σ : L2.St} {ta t1 t2 t3 : TE} {ts : TA} {C : Addr} {sp : Sp} {dvs : List V} {E : XK} {R : Hp → V → Hp → Prop} {RA : Hp → List V → Hp → Prop} {x y : V} {xs : List V} {Q : VK} {D : Ends} {u : TS}
/-- a making whose arguments are told by a relation -/
theorem er_mkR (h : EvAR T ts σ H RA) (k : ∀ H1 ws H2, Ex T H H1 → Ex T H1 H2 → RA H1 ws H2 → EvR T (tMake C sp dvs E (tHand ws)) σ H2 (fun _ v H3 => Ex T H2 H3 → R H1 v H3)) : EvR T (tMake C sp dvs E ts) σ H R := fun H1 e Q q =>
  h H1 e _ fun ws H2 e2 r => k H1 ws H2 e e2 r H2 Mv.refl Q fun v H3 e3 rr => q v H3 (e2.trans e3) (rr e3)
theorem ear_vvr (h1 : Ev T t1 σ H x) (h2 : Ev T t2 σ H y) (h3 : EvR T t3 σ H R) : EvAR T (tCons t1 (tCons t2 (tCons t3 tNil))) σ H (fun H1 vs H4 => ∃ v H3, vs = [x, y, v] ∧ Ex T H1 H3 ∧ R H3 v H4) := fun H1 e Q q =>
  h1 H1 e _ fun H2 e2 => h2 H2 (e.trans e2) _ fun H3 e3 => h3 H3 ((e.trans e2).trans e3) _ fun v H4 e4 r => q [x, y, v] H4 ((e2.trans e3).trans e4) ⟨v, H3, rfl, e2.trans e3, r⟩
theorem ear_lvr (h1 : EvL T t1 σ H xs) (h2 : Ev T t2 σ H y) (h3 : EvR T t3 σ H R) : EvAR T (tCons t1 (tCons t2 (tCons t3 tNil))) σ H (fun H1 vs H4 => ∃ l v H3, vs = [.ref l, y, v] ∧ nod H1 l ∧ H4 l = some (.lst xs) ∧ Ex T H1 H3 ∧ R H3 v H4) := fun H1 e Q q =>
  h1 H1 e _ fun _ H2 e2 ⟨l, el, nl, hl⟩ => by
    subst el
    exact h2 H2 (e.trans e2) _ fun H3 e3 => h3 H3 ((e.trans e2).trans e3) _ fun v H4 e4 r => q [.ref l, y, v] H4 ((e2.trans e3).trans e4) ⟨l, v, H3, rfl, nl, (e3.trans e4).at hl, e2.trans e3, r⟩
/-- f(..) as a statement, the arguments told by a relation, f changes things -/
theorem q_dropR (h : EvAR T ts σ H RA) (k : ∀ ws H1, Ex T H H1 → RA H ws H1 → sp ws H1 (fun _ H' => u D σ H') E) : tSeq (tDrop (tCall sp [] E ts)) u D σ H := h H Mv.refl _ fun ws H1 e1 r => by
  rw [List.append_nil]
  exact k ws H1 e1 r
end
end Fp

local macro_rules | `(tactic| walk_at "sp") => `(tactic| first | exact Fp.v_wholeI | exact Fp.v_is_wholeI | exact Fp.v_whole (by assumption) | exact Fp.v_is_whole (by assumption) | exact Fp.v_cell_at (by walk_at "fact") (by first | decide | omega))
namespace Fp
open PySem PySem.Spec PyProof.Rows L2 LamX
/-! ### a wide and a few board side by side -/
def BSt.wide (s : BSt) : BSt := { s with pegs := none }
structure Tw (s s2 : BSt) : Prop where
  e : s = s2.wide
  p : ∃ p, s2.pegs = some p
section
variable {s s2 : BSt} {i w : Int} {d : Dd} {z : V}
theorem BWf.wd (w : BWf s) : BWf s.wide := ⟨w.n1, w.n60, w.rk, w.la, w.lq, w.pl, w.pn, w.ed, fun p h => by cases h⟩
theorem wide_best (w : BWf s) : s.wide.best = s.best := by
  rw [best_bw w, best_none (s := s.wide) rfl]; rfl
theorem wide_ring : (s.ring i).wide = s.wide.ring i := by
  unfold BSt.ring
  show (if fl s.asking i = true then s else if fl s.quiet i = true then s.ask i true else (s.ask i true).enters i).wide = if fl s.asking i = true then s.wide else if fl s.quiet i = true then s.wide.ask i true else (s.wide.ask i true).enters i
  split
  · rfl
  · split <;> rfl
theorem wide_calm : (s.calm i).wide = s.wide.calm i := by
  unfold BSt.calm
  show (if fl s.asking i = true then (if fl s.quiet i = true then s.ask i false else (s.ask i false).leaves i) else s).wide = if fl s.asking i = true then (if fl s.quiet i = true then s.wide.ask i false else (s.wide.ask i false).leaves i) else s.wide
  split
  · split <;> rfl
  · rfl
theorem wide_mute : (s.mute i).wide = s.wide.mute i := by
  unfold BSt.mute
  show (if fl s.quiet i = true then s else if fl s.asking i = true then (s.hush i true).leaves i else s.hush i true).wide = if fl s.quiet i = true then s.wide else if fl s.asking i = true then (s.wide.hush i true).leaves i else s.wide.hush i true
  split
  · rfl
  · split <;> rfl
theorem wide_free : (s.free i).wide = s.wide.free i := by
  unfold BSt.free
  show (if fl s.quiet i = true then (if fl s.asking i = true then (s.hush i false).enters i else s.hush i false) else s).wide = if fl s.quiet i = true then (if fl s.asking i = true then (s.wide.hush i false).enters i else s.wide.hush i false) else s.wide
  split
  · split <;> rfl
  · rfl
theorem wide_flag : (s.flag w i).wide = s.wide.flag w i := by
  unfold BSt.flag
  split
  · exact wide_ring
  · split
    · exact wide_calm
    · split
      · exact wide_mute
      · exact wide_free
theorem wide_take (w : BWf s) : s.take.wide = s.wide.take := by
  unfold BSt.take
  rw [wide_best w]
  cases s.best with
  | none => rfl
  | some i => rfl
theorem wide_step (w : BWf s) : (d.step s).wide = d.step s.wide := by
  cases d with
  | flag k x =>
    show ((lnO s.lns x).elim s fun i => s.flag k i).wide = (lnO s.lns x).elim s.wide fun i => s.wide.flag k i
    cases lnO s.lns x with
    | none => rfl
    | some i => exact wide_flag
  | bar x =>
    show (if isBr x = true then s.bar (brO x) else s).wide = if isBr x = true then s.wide.bar (brO x) else s.wide
    split <;> rfl
  | fin x =>
    show ((lnO s.lns x).elim s fun i => if s.up = some i then s.pop else s).wide = (lnO s.lns x).elim s.wide fun i => if s.up = some i then s.wide.pop else s.wide
    cases lnO s.lns x with
    | none => rfl
    | some i =>
      show (if s.up = some i then s.pop else s).wide = if s.up = some i then s.wide.pop else s.wide
      split <;> rfl
  | take => exact wide_take w
  | best => rfl
theorem wide_ans (w : BWf s) : d.ans s.wide = d.ans s := by
  cases d with
  | flag k x => rfl
  | bar x => rfl
  | fin x => rfl
  | take => show Ans.val (oI s.wide.best) = .val (oI s.best); rw [wide_best w]
  | best => show Ans.val (oI s.wide.best) = .val (oI s.best); rw [wide_best w]
theorem Tw.step (t : Tw s s2) (w : BWf s2) : Tw (d.step s) (d.step s2) := by
  obtain ⟨rfl, p, hp⟩ := t
  obtain ⟨q, hq, _⟩ := step_some (d := d) hp
  exact ⟨(wide_step w).symm, q, hq⟩
theorem Tw.ans (t : Tw s s2) (w : BWf s2) : d.ans s2 = d.ans s := by rw [t.e]; exact (wide_ans w).symm
theorem Tw.wf (t : Tw s s2) (w : BWf s2) : BWf s := by rw [t.e]; exact w.wd
theorem Tw.d3 (t : Tw s s2) : s2.d3 = s.d3 ∧ s2.edge = s.edge ∧ s2.ranks = s.ranks ∧ s.pegs = none ∧ s2.here = s.here := by rw [t.e]; exact ⟨rfl, rfl, rfl, rfl, rfl⟩
theorem ans_val (h : d.ans s = .val z) : (∃ b, z = .bl b) ∨ ∃ e, z = oI e := by
  cases d with
  | flag k x =>
    change ((lnO s.lns x).elim (.no "line") fun i => .val (.bl (tellF s k i))) = Ans.val z at h
    cases e : lnO s.lns x with
    | none => rw [e] at h; cases h
    | some i => rw [e] at h; injection h with h; exact .inl ⟨_, h.symm⟩
  | bar x =>
    change (if isBr x = true then .val (oI s.edge) else .no "bar") = Ans.val z at h
    split at h
    · injection h with h; exact .inr ⟨_, h.symm⟩
    · cases h
  | fin x =>
    change ((lnO s.lns x).elim (.no "line") fun i => if s.up = some i then .val (oI s.pop.up) else .no "top") = Ans.val z at h
    cases e : lnO s.lns x with
    | none => rw [e] at h; cases h
    | some i =>
      rw [e] at h
      change (if s.up = some i then .val (oI s.pop.up) else .no "top") = Ans.val z at h
      split at h
      · injection h with h; exact .inr ⟨_, h.symm⟩
      · cases h
  | take => injection h with h; exact .inr ⟨_, h.symm⟩
  | best => injection h with h; exact .inr ⟨_, h.symm⟩
end
/-! ### what is told, as data -/
def dV : V → PyData
  | .bl b => .bool b
  | .int i => .int i
  | _ => .none
def Ans.dat : Ans → PyData
  | .val v => dV v
  | .no w => .tuple [.str "refused", .str w]
def Ans.kd : Ans → String
  | .val v => Fp.kd (fun _ => none) v
  | .no _ => "tuple"
/-- told so -/
def AnsAt (K : PySem.W.Frag) (H : Hp) (v : V) (a : Ans) : Prop := Dp K H v a.dat ∧ kd H v = a.kd ∧ a.kd ≠ "" ∧ SeqAt.shaped a.dat = true
section
variable {T : List (Addr × Str)} {K : PySem.W.Frag} {H H' H0 H1 : Hp} {S S' S1 : Addr → Prop} {v : V} {a : Ans} {d : Dd} {s : BSt} {w : Str} {own : Addr → Nat} {L L' : List (Nat × HS T)} {b t : Addr} {c : Str} {k : Nat} {Q : VK}
theorem kd_subE (m : Sub H H') (h : kd H v ≠ "") : kd H' v = kd H v := by
  match v with
  | .ref a =>
    simp only [kd] at h ⊢
    cases e : H a with
    | none => rw [e] at h; exact absurd rfl h
    | some o =>
      rw [e] at h
      by_cases dd : dat o = true
      · rw [m a o e dd]
      · exfalso
        cases o <;> first | exact absurd rfl dd | exact absurd rfl h
  | .int _ | .bl _ | .non | .str _ => rfl
  | .ty _ => rfl
theorem AnsAt.sub (m : Sub H H') (h : AnsAt K H v a) : AnsAt K H' v a := ⟨m.dp h.1, (kd_subE m (by rw [h.2.1]; exact h.2.2.1)).trans h.2.1, h.2.2⟩
theorem ansAt_val (z : (∃ b, v = .bl b) ∨ ∃ e, v = oI e) : AnsAt K H v (.val v) := by
  rcases z with ⟨b, rfl⟩ | ⟨e, rfl⟩
  · exact ⟨.bl b, rfl, by simp [Ans.kd, Fp.kd], rfl⟩
  · cases e with
    | none => exact ⟨.non, rfl, by simp [Ans.kd, Fp.kd, oI], rfl⟩
    | some i => exact ⟨.int i, rfl, by simp [Ans.kd, Fp.kd, oI], rfl⟩
theorem ansAt_no (hw : w = "line" ∨ w = "bar" ∨ w = "top") (h : H t = some (.tup [.str "refused", .str w])) : AnsAt K H (.ref t) (.no w) :=
  ⟨.tup (.inl (.inl h)) (.cons (.str _) (.cons (.str _) .nil)), kd_t h, by show "tuple" ≠ ""; decide, by
    rcases hw with rfl | rfl | rfl <;> (simp [Ans.dat, SeqAt.shaped, PyData.canLay0, PyData.canLayAll0, PyData.depth, PyData.depthAll]; decide +kernel)⟩
def ansH (T : List (Addr × Str)) (K : PySem.W.Frag) (v : V) (a : Ans) : HS T := ⟨fun H S => AnsAt K (res H S) v a, fun h m h1 h2 => h.sub (m.sub2 h1 h2)⟩
def ddH (T : List (Addr × Str)) (K : PySem.W.Frag) (t : Addr) (d : Dd) : HS T := ⟨fun H S => DeedAt K (res H S) t d, fun h m h1 h2 => h.sub (m.sub2 h1 h2)⟩
def pcH (T : List (Addr × Str)) (t x y z : Addr) (d : D3) (e : Option Int) : HS T := ⟨fun H S => (S t ∧ S x ∧ S y ∧ S z) ∧ Pc H t x y z d e, fun h m h1 h2 => ⟨⟨h2 _ h.1.1 (nod.not h.2.at_ rfl), h2 _ h.1.2.1 (nod.not h.2.hx rfl), h2 _ h.1.2.2.1 (nod.not h.2.hy rfl), h2 _ h.1.2.2.2 (nod.not h.2.hz rfl)⟩, h.2.mv m ⟨h1 _ h.1.1, h1 _ h.1.2.1, h1 _ h.1.2.2.1, h1 _ h.1.2.2.2⟩⟩⟩
theorem Hd.free (h : Hd T H0 H own L) {x : Addr} (n : nod H x) : own x = 0 := Classical.byContradiction fun z => (h.ow.fr x z).2 n
theorem sub_free (h : Hd T H0 H own L) : Sub (res H' (nod H)) (res H' fun x => own x = 0) := fun y o h' e => by
  obtain ⟨sy, hy⟩ := res_of h'
  rw [res_at (S := fun x => own x = 0) (h.free sy)]
  exact hy
/-- a deed on an owned board -/
theorem doK_of (h : Hd T H0 H own L) (hm : (k, brdH T K c b s) ∈ L) (hk : k ≠ 0) (hL : ∀ q ∈ L', (q ∈ L ∧ q.1 ≠ k) ∨ q = (k, brdH T K c b (d.step s))) (cont : ∀ v H' own', Hd T H0 H' own' ((0, ansH T K v (d.ans s)) :: L') → Q v H') : DoK K T c H b (fun x => own x = k) s d Q := by
  refine ⟨fun z hz H' S' m O n => ?_, fun w hw v H' e hv => ?_⟩
  · obtain ⟨own', h'⟩ := h.mut (L' := L') hk m (P := brdH T K c b (d.step s)) O n hL
    refine cont z H' own' (h'.wk fun q hq => ?_)
    rcases List.mem_cons.mp hq with rfl | hq
    · exact .inr (by rw [hz]; exact ansAt_val (ans_val hz))
    · exact .inl hq
  · obtain ⟨t, rfl, nt, ht⟩ := hv
    obtain ⟨es, hw3⟩ := ans_no hw
    have h' := h.ex' e
    refine cont _ H' own (h'.wk fun q hq => ?_)
    rcases List.mem_cons.mp hq with rfl | hq
    · exact .inr (by rw [hw]; exact ansAt_no hw3 (by rw [res_at (S := fun x => own x = 0) (h.free nt)]; exact ht))
    · rcases hL q hq with z | z
      · exact .inl z.1
      · subst z
        rw [es]
        exact .inl hm
end
def kindS (k : String) : Str := if k = "NoneType" then "none" else if k = "bool" then "truth" else if k = "int" then "whole" else if k = "tuple" then "tuple" else "other"
def sp_l_kind (_K : PySem.W.Frag) (T : List (Addr × Str)) : Sp := fun vs H Q _ => ∃ u, vs = [u] ∧ kd H u ≠ "" ∧ ∀ H', Ex T H H' → Q (.str (kindS (kd H u))) H'
def sp_l_alike (K : PySem.W.Frag) (T : List (Addr × Str)) : Sp := fun vs H Q _ => ∃ u v D, vs = [u, v] ∧ kd H u ≠ "" ∧ kd H v = kd H u ∧ Dp K H u D ∧ Dp K H v D ∧ SeqAt.shaped D = true ∧ ∀ H', Ex T H H' → Q (.bl true) H'
theorem len_l_kind {K : PySem.W.Frag} {T : List (Addr × Str)} : ∀ vs H Q E, sp_l_kind K T vs H Q E → vs.length = 1 := fun vs H Q E h => by
  obtain ⟨_, rfl, _⟩ := h
  exact rfl
theorem len_l_alike {K : PySem.W.Frag} {T : List (Addr × Str)} : ∀ vs H Q E, sp_l_alike K T vs H Q E → vs.length = 2 := fun vs H Q E h => by
  obtain ⟨_, _, _, rfl, _⟩ := h
  exact rfl
def r_l_kind (K : PySem.W.Frag) (T : List (Addr × Str)) : TS :=
  (tSeq (tIfS (tTest (tOp oIsN (tVar 0) (tC .non))) (tRet (tC (.str "none"))) tNext)
  (tSeq (tIfS (tB (tCB rIs (tCons (tVar 0) (tCons (tC (.ty "bool")) tNil)))) (tRet (tC (.str "truth"))) tNext)
  (tSeq (tIfS (tB (tCB rIs (tCons (tVar 0) (tCons (tC (.ty "int")) tNil)))) (tRet (tC (.str "whole"))) tNext)
  (tSeq (tIfS (tB (tCB rIs (tCons (tVar 0) (tCons (tC (.ty "tuple")) tNil)))) (tRet (tC (.str "tuple"))) tNext)
  (tRet (tC (.str "other")))))))
def r_l_alike (K : PySem.W.Frag) (T : List (Addr × Str)) : TS :=
  (tRet (tAndV (tOp rEq (tCall (sp_l_kind K T) [] E0 (tCons (tVar 0) tNil)) (tCall (sp_l_kind K T) [] E0 (tCons (tVar 1) tNil))) (tOp (rEqD K) (tVar 0) (tVar 1))))
section
variable {T : List (Addr × Str)} {K : PySem.W.Frag} {σ : L2.St} {H H0 H1 : Hp} {Q : VK} {E E2 : XK} {vs ws : List V} {u v y : V} {Dd' : PyData} {D : Ends} {tn tu tw : TS} {ta t2 : TA} {tb : TE} {sp1 sp2 : Sp} {j : Nat} {a : Ans}
theorem v_kind (h : kd H u ≠ "") : SpV T (sp_l_kind K T) [u] H (.str (kindS (kd H u))) := fun H1 e Q q E => ⟨u, rfl, by rw [kd_exn e h]; exact h, fun H' e' => by rw [kd_exn e h]; exact q H' e'⟩
theorem v_alike (h : kd H u ≠ "") (h2 : kd H v = kd H u) (d1 : Dp K H u Dd') (d2 : Dp K H v Dd') (sh : SeqAt.shaped Dd' = true) : SpV T (sp_l_alike K T) [u, v] H (.bl true) := fun H1 e Q q E => ⟨u, v, Dd', rfl, by rw [kd_exn e h]; exact h, by rw [kd_exn e h, kd_exn e (by rw [h2]; exact h), h2], d1.ex e, d2.ex e, sh, q⟩
theorem v_alikeA (h1 : AnsAt K H u a) (h2 : AnsAt K H v a) : SpV T (sp_l_alike K T) [u, v] H (.bl true) := v_alike (by rw [h1.2.1]; exact h1.2.2.1) (h2.2.1.trans h1.2.1.symm) h1.1 h2.1 h1.2.2.2
theorem p_l_kind (h : sp_l_kind K T vs H Q E) : r_l_kind K T { nx := fun _ H' => Q .non H', rt := Q } (start ["_law_found"] vs) H := by
  obtain ⟨u, rfl, hu, k⟩ := h
  unfold r_l_kind
  have k7 := (kd_ty (K := K) hu).2
  have is : ∀ {H1 : Hp} {c : String}, (c = "int" ∨ c = "bool" ∨ c = "list" ∨ c = "tuple" ∨ c = "str") → Ex T H H1 → EvT T (tB (tCB rIs (tCons (tVar 0) (tCons (tC (.ty c)) tNil)))) [some u] H1 (isK (kd H u) c) := fun {H1 c} hc e => et_B (ev_cb (ea_cons (ev_var rfl) (ea_cons ev_c ea_nil)) (rc_is (kd_exn e hu) hu hc))
  refine q_if (b := decide (u = .non)) (Mv.of T H) (et_test (ev_op (ev_var rfl) ev_c rv_isN)) (fun hb H1 e1 _ => ?_) (fun hb H1 e1 _ => nextI ?_)
  · obtain rfl := of_decide_eq_true hb
    exact s_ret (Mv.of T H1) ev_c fun H2 e2 => k H2 (e1.trans e2)
  dsimp only
  have nn : kd H u ≠ "NoneType" := fun z => by
    cases u with
    | non => exact of_decide_eq_false hb rfl
    | ref a =>
      simp only [kd] at z
      split at z <;> exact absurd z (by decide)
    | _ => exact absurd z (by simp [kd])
  generalize kd H u = q at hu k k7 is nn
  refine q_if (Mv.of T H1) (is (c := "bool") (by decide) e1) (fun hb H2 e2 _ => ?_) (fun hb2 H2 e2 _ => nextI ?_)
  · have : q = "bool" := by rcases k7 with rfl | rfl | rfl | rfl | rfl | rfl | rfl <;> first | rfl | exact absurd hb (by decide)
    subst this
    exact s_ret (Mv.of T H2) ev_c fun H3 e3 => k H3 (e1.trans (e2.trans e3))
  dsimp only
  have e02 := e1.trans e2
  refine q_if (Mv.of T H2) (is (c := "int") (by decide) e02) (fun hb H3 e3 _ => ?_) (fun hb3 H3 e3 _ => nextI ?_)
  · have : q = "int" := by rcases k7 with rfl | rfl | rfl | rfl | rfl | rfl | rfl <;> first | rfl | exact absurd hb (by decide) | exact absurd hb2 (by decide)
    subst this
    exact s_ret (Mv.of T H3) ev_c fun H4 e4 => k H4 (e02.trans (e3.trans e4))
  dsimp only
  have e03 := e02.trans e3
  refine q_if (Mv.of T H3) (is (c := "tuple") (by decide) e03) (fun hb H4 e4 _ => ?_) (fun hb4 H4 e4 _ => nextI ?_)
  · have : q = "tuple" := by rcases k7 with rfl | rfl | rfl | rfl | rfl | rfl | rfl <;> first | rfl | exact absurd hb (by decide)
    subst this
    exact s_ret (Mv.of T H4) ev_c fun H5 e5 => k H5 (e03.trans (e4.trans e5))
  dsimp only
  have : kindS q = "other" := by rcases k7 with rfl | rfl | rfl | rfl | rfl | rfl | rfl <;> first | rfl | exact absurd hb2 (by decide) | exact absurd hb3 (by decide) | exact absurd hb4 (by decide) | exact absurd rfl nn
  rw [this] at k
  exact s_ret (Mv.of T H4) ev_c fun H5 e5 => k H5 (e03.trans (e4.trans e5))
theorem p_l_alike (h : sp_l_alike K T vs H Q E) : r_l_alike K T { nx := fun _ H' => Q .non H', rt := Q } (start ["_law_found", "_law_due"] vs) H := by
  obtain ⟨u, v, D, rfl, hu, hv, d1, d2, sh, k⟩ := h
  unfold r_l_alike
  exact s_ret (Mv.of T H) (ev_is (ev_and (ev_op (ev_call0 (ea_cons (ev_var rfl) ea_nil) (v_kind hu)) (ev_call0 (ea_cons (ev_var rfl) ea_nil) (v_kind (by rw [hv]; exact hu))) rv_eqS) fun _ => ev_op (ev_var rfl) (ev_var rfl) (rv_eqDt d1 d2 sh)) (by rw [hv]; simp)) k
/-- if not f(g(..), b): g changes things, f tells True -/
theorem not2_of {A B : Hp → Prop} (hb : Ev T tb σ H y) (hs : SpV T sp1 [v, y] H (.bl true)) (k : ∀ H1, Ex T H H1 → B H1) : tb σ H fun y H3 => sp1 ([v, y] ++ []) H3 (fun r H4 => ∃ b, r = .bl b ∧ if (!b) = true then A H4 else B H4) E := hb H Mv.refl _ fun H1 e1 => by
  rw [List.append_nil]
  exact hs H1 e1 _ (fun H2 e2 => ⟨true, rfl, ifN (k H2 (e1.trans e2))⟩) E
theorem q_ifNot2 (h : EvA T t2 σ H ws) (k : ∀ H1, Ex T H H1 → sp2 ws H1 (fun v H2 => tb σ H2 fun y H3 => sp1 ([v, y] ++ []) H3 (fun r H4 => ∃ b, r = .bl b ∧ if (!b) = true then tu { D with nx := tn D } σ H4 else tw { D with nx := tn D } σ H4) E) E2) : tSeq (tIfS (tNot (tB (tCall sp1 [] E (tCons (tCall sp2 [] E2 t2) (tCons tb tNil))))) tu tw) tn D σ H := h H Mv.refl _ fun H1 e1 => by
  rw [List.append_nil]
  exact k H1 e1
end
end Fp

local macro_rules | `(tactic| walk_at "sp") => `(tactic| first | exact Fp.v_wholeI | exact Fp.v_is_wholeI | exact Fp.v_whole (by assumption) | exact Fp.v_is_whole (by assumption) | exact Fp.v_cell_at (by walk_at "fact") (by first | decide | omega))
namespace Fp
open PySem PySem.Spec PyProof.Rows L2 LamX
/-! ### rows of deeds played -/
def six : List Str := ["ring", "calm", "mute", "free", "bar", "end"]
def two : List Str := ["best", "take"]
def partsN (w : Str) : Int := if w ∈ six then 2 else if w ∈ two then 1 else 0
/-- what is no deed -/
def OddV (K : PySem.W.Frag) (H : Hp) (th : V) : Prop := kd H th ≠ "" ∧ (kd H th ≠ "tuple" ∨ ∃ t xs, th = .ref t ∧ H t = some (.tup xs) ∧ (∃ ds, DpAll K H xs ds ∧ SeqAt.shaped (.tuple ds) = true) ∧ (∀ x ∈ xs, kd H x ≠ "") ∧
  (xs = [] ∨ (∃ x r, xs = x :: r ∧ kd H x ≠ "str") ∨ ∃ w r, xs = .str w :: r ∧ (List.length xs : Int) ≠ partsN w))
def sp_parts_of (_K : PySem.W.Frag) (T : List (Addr × Str)) : Sp := fun vs H Q _ => ∃ w, vs = [.str w] ∧ ∀ H', Ex T H H' → Q (.int (partsN w)) H'
def sp_is_deed (K : PySem.W.Frag) (T : List (Addr × Str)) : Sp := fun vs H Q _ => ∃ th b, vs = [th] ∧ ((b = true ∧ ∃ t d, th = .ref t ∧ DeedAt K H t d) ∨ (b = false ∧ OddV K H th)) ∧ ∀ H', Ex T H H' → Q (.bl b) H'
def sp_done (K : PySem.W.Frag) (T : List (Addr × Str)) : Sp := fun vs H Q E => ∃ a t c s S d, vs = [.ref a, .ref t] ∧ WoD c ∧ BrdO K c H a s S ∧ BWf s ∧ Tabs T H ∧ DeedAt K H t d ∧ NtC K ∧ CallK K T c H a S s d Q E
def sp_answer (K : PySem.W.Frag) (T : List (Addr × Str)) : Sp := fun vs H Q _ => ∃ a t c s S d, vs = [.ref a, .ref t] ∧ WoD c ∧ BrdO K c H a s S ∧ BWf s ∧ Tabs T H ∧ DeedAt K H t d ∧ Xk3 K ∧ DoK K T c H a S s d Q
theorem len_parts_of {K : PySem.W.Frag} {T : List (Addr × Str)} : ∀ vs H Q E, sp_parts_of K T vs H Q E → vs.length = 1 := fun vs H Q E h => by
  obtain ⟨_, rfl, _⟩ := h
  exact rfl
theorem len_is_deed {K : PySem.W.Frag} {T : List (Addr × Str)} : ∀ vs H Q E, sp_is_deed K T vs H Q E → vs.length = 1 := fun vs H Q E h => by
  obtain ⟨_, _, rfl, _⟩ := h
  exact rfl
theorem len_done {K : PySem.W.Frag} {T : List (Addr × Str)} : ∀ vs H Q E, sp_done K T vs H Q E → vs.length = 2 := fun vs H Q E h => by
  obtain ⟨_, _, _, _, _, _, rfl, _⟩ := h
  exact rfl
theorem len_answer {K : PySem.W.Frag} {T : List (Addr × Str)} : ∀ vs H Q E, sp_answer K T vs H Q E → vs.length = 2 := fun vs H Q E h => by
  obtain ⟨_, _, _, _, _, _, rfl, _⟩ := h
  exact rfl
def r_parts_of (K : PySem.W.Frag) (T : List (Addr × Str)) : TS :=
  (tSeq (tIfS (tTest (tOp (rIn K false) (tVar 0) (tTup (tCons (tC (.str "ring")) (tCons (tC (.str "calm")) (tCons (tC (.str "mute")) (tCons (tC (.str "free")) (tCons (tC (.str "bar")) (tCons (tC (.str "end")) tNil))))))))) (tRet (tC (.int 2))) tNext)
  (tSeq (tIfS (tTest (tOp (rIn K false) (tVar 0) (tTup (tCons (tC (.str "best")) (tCons (tC (.str "take")) tNil))))) (tRet (tC (.int 1))) tNext)
  (tRet (tC (.int 0)))))
def r_is_deed (K : PySem.W.Frag) (T : List (Addr × Str)) : TS :=
  (tSeq (tIfS (tOr (tNot (tB (tCB rIs (tCons (tVar 0) (tCons (tC (.ty "tuple")) tNil))))) (tOr (tTest (tOp (rEqD K) (tVar 0) (tTup tNil))) (tNot (tB (tCB rIs (tCons (tOp (rIxT K) (tVar 0) (tC (.int 0))) (tCons (tC (.ty "str")) tNil))))))) (tRet (tC (.bl false))) tNext)
  (tRet (tOp rEq (tCB (rLen K) (tCons (tVar 0) tNil)) (tCall (sp_parts_of K T) [] E0 (tCons (tOp (rIxT K) (tVar 0) (tC (.int 0))) tNil)))))
def r_done (K : PySem.W.Frag) (T : List (Addr × Str)) (E : XK) : TS :=
  (tSeq (tAsg (tOp (rIxT K) (tVar 1) (tC (.int 0))) (gName 2))
  (tSeq (tIfS (tTest (tOp rEq (tVar 2) (tC (.str "best")))) (tRet (tOr2 (tMeth (He.ga K "Wide") "best" (sp_B_best K T "Wide") [] E0 (tVar 0) tNil) (tMeth (He.ga K "Few") "best" (sp_B_best K T "Few") [] E0 (tVar 0) tNil))) tNext)
  (tSeq (tIfS (tTest (tOp rEq (tVar 2) (tC (.str "take")))) (tRet (tOr2 (tMeth (He.ga K "Wide") "take" (sp_B_take K T "Wide") [] E0 (tVar 0) tNil) (tMeth (He.ga K "Few") "take" (sp_B_take K T "Few") [] E0 (tVar 0) tNil))) tNext)
  (tSeq (tIfS (tTest (tOp rEq (tVar 2) (tC (.str "ring")))) (tRet (tOr2 (tMeth (He.ga K "Wide") "ring" (sp_B_ring K T "Wide") [] E (tVar 0) (tCons (tOp (rIxT K) (tVar 1) (tC (.int 1))) tNil)) (tMeth (He.ga K "Few") "ring" (sp_B_ring K T "Few") [] E (tVar 0) (tCons (tOp (rIxT K) (tVar 1) (tC (.int 1))) tNil)))) tNext)
  (tSeq (tIfS (tTest (tOp rEq (tVar 2) (tC (.str "calm")))) (tRet (tOr2 (tMeth (He.ga K "Wide") "calm" (sp_B_calm K T "Wide") [] E (tVar 0) (tCons (tOp (rIxT K) (tVar 1) (tC (.int 1))) tNil)) (tMeth (He.ga K "Few") "calm" (sp_B_calm K T "Few") [] E (tVar 0) (tCons (tOp (rIxT K) (tVar 1) (tC (.int 1))) tNil)))) tNext)
  (tSeq (tIfS (tTest (tOp rEq (tVar 2) (tC (.str "mute")))) (tRet (tOr2 (tMeth (He.ga K "Wide") "mute" (sp_B_mute K T "Wide") [] E (tVar 0) (tCons (tOp (rIxT K) (tVar 1) (tC (.int 1))) tNil)) (tMeth (He.ga K "Few") "mute" (sp_B_mute K T "Few") [] E (tVar 0) (tCons (tOp (rIxT K) (tVar 1) (tC (.int 1))) tNil)))) tNext)
  (tSeq (tIfS (tTest (tOp rEq (tVar 2) (tC (.str "free")))) (tRet (tOr2 (tMeth (He.ga K "Wide") "free" (sp_B_free K T "Wide") [] E (tVar 0) (tCons (tOp (rIxT K) (tVar 1) (tC (.int 1))) tNil)) (tMeth (He.ga K "Few") "free" (sp_B_free K T "Few") [] E (tVar 0) (tCons (tOp (rIxT K) (tVar 1) (tC (.int 1))) tNil)))) tNext)
  (tSeq (tIfS (tTest (tOp rEq (tVar 2) (tC (.str "bar")))) (tRet (tOr2 (tMeth (He.ga K "Wide") "bar" (sp_B_bar K T "Wide") [] E (tVar 0) (tCons (tOp (rIxT K) (tVar 1) (tC (.int 1))) tNil)) (tMeth (He.ga K "Few") "bar" (sp_B_bar K T "Few") [] E (tVar 0) (tCons (tOp (rIxT K) (tVar 1) (tC (.int 1))) tNil)))) tNext)
  (tRet (tOr2 (tMeth (He.ga K "Wide") "end" (sp_B_end K T "Wide") [] E (tVar 0) (tCons (tOp (rIxT K) (tVar 1) (tC (.int 1))) tNil)) (tMeth (He.ga K "Few") "end" (sp_B_end K T "Few") [] E (tVar 0) (tCons (tOp (rIxT K) (tVar 1) (tC (.int 1))) tNil))))))))))))
def r_answer (K : PySem.W.Frag) (T : List (Addr × Str)) : TS :=
  (tTryManyE K [(.ref (He.ga K "NoLine"), (tRet (tTup (tCons (tC (.str "refused")) (tCons (tC (.str "line")) tNil))))), (.ref (He.ga K "NoBar"), (tRet (tTup (tCons (tC (.str "refused")) (tCons (tC (.str "bar")) tNil))))), (.ref (He.ga K "NotTop"), (tRet (tTup (tCons (tC (.str "refused")) (tCons (tC (.str "top")) tNil)))))] (fun W => (tAsg (tCallS (sp_done K T) (WE W) (tCons (tVar 0) (tCons (tVar 1) tNil))) (gName 2))) (tRet (tVar 2)))
section
variable {K : PySem.W.Frag} {T : List (Addr × Str)} {H H0 H1 : Hp} {Q : VK} {E : XK} {vs : List V} {w : Str} {t : Addr} {d : Dd} {th : V} {ws : List Str} {ta tb : TE} {σ : L2.St}
theorem inV_str : inV (.str w) (ws.map V.str) = decide (w ∈ ws) := by
  unfold inV
  rw [List.any_map, Bool.eq_iff_iff]
  simp [List.any_eq_true, eqV]
theorem flat_strs : (ws.map V.str).all flatV = true := by simp [List.all_eq_true, flatV]
theorem ev_inU (ha : Ev T ta σ H (.str w)) (hb : EvU T tb σ H (ws.map V.str)) : Ev T (tOp (rIn K false) ta tb) σ H (.bl (decide (w ∈ ws))) := ev_opVU ha hb fun q H1 hq _ => by
  have := rv_in (T := T) (K := K) (H := H1) (neg := false) (x := .str w) (p := q) (xs := ws.map V.str) (.inr (.inl (.inl hq))) rfl flat_strs
  rw [inV_str] at this
  exact this
theorem ev_inL (ha : Ev T ta σ H (.str w)) (hb : EvL T tb σ H (ws.map V.str)) : Ev T (tOp (rIn K false) ta tb) σ H (.bl (decide (w ∈ ws))) := ev_opVL ha hb fun q H1 hq _ => by
  have := rv_in (T := T) (K := K) (H := H1) (neg := false) (x := .str w) (p := q) (xs := ws.map V.str) (.inl (.inl (.inl hq))) rfl flat_strs
  rw [inV_str] at this
  exact this
theorem v_parts : SpV T (sp_parts_of K T) [.str w] H (.int (partsN w)) := fun H1 e Q q E => ⟨w, rfl, q⟩
theorem p_parts_of (h : sp_parts_of K T vs H Q E) : r_parts_of K T { nx := fun _ H' => Q .non H', rt := Q } (start ["word"] vs) H := by
  obtain ⟨w, rfl, k⟩ := h
  unfold r_parts_of
  refine q_if (b := decide (w ∈ six)) (Mv.of T H) (et_test (ev_inU (ev_var rfl) (eu_tup (ea_cons ev_c (ea_cons ev_c (ea_cons ev_c (ea_cons ev_c (ea_cons ev_c (ea_cons ev_c ea_nil)))))) (by simp [six])))) (fun hb H1 e1 _ => ?_) (fun hb H1 e1 _ => nextI ?_)
  · have : partsN w = 2 := if_pos (of_decide_eq_true hb)
    exact s_ret (Mv.of T H1) ev_c fun H2 e2 => by rw [this] at k; exact k H2 (e1.trans e2)
  dsimp only
  refine q_if (b := decide (w ∈ two)) (Mv.of T H1) (et_test (ev_inU (ev_var rfl) (eu_tup (ea_cons ev_c (ea_cons ev_c ea_nil)) (by simp [two])))) (fun hb2 H2 e2 _ => ?_) (fun hb2 H2 e2 _ => nextI ?_)
  · have : partsN w = 1 := by unfold partsN; rw [if_neg (of_decide_eq_false hb), if_pos (of_decide_eq_true hb2)]
    exact s_ret (Mv.of T H2) ev_c fun H3 e3 => by rw [this] at k; exact k H3 (e1.trans (e2.trans e3))
  dsimp only
  have : partsN w = 0 := by unfold partsN; rw [if_neg (of_decide_eq_false hb), if_neg (of_decide_eq_false hb2)]
  exact s_ret (Mv.of T H2) ev_c fun H3 e3 => by rw [this] at k; exact k H3 (e1.trans (e2.trans e3))
/-- a deed as data -/
theorem DeedAt.dps (h : DeedAt K H t d) : ∃ ds, DpAll K H d.vs ds ∧ PyData.canLay0 (.tuple ds) = true ∧ PyData.depth (.tuple ds) ≤ 2 := by
  have ws : PyData.strOk d.word = true := by
    rcases dd_w h.ok with ⟨e, _⟩ | ⟨e, _⟩ | ⟨e, _⟩ | ⟨e, _⟩ | ⟨e, _⟩ | ⟨e, _⟩ | ⟨e, _⟩ | ⟨e, _⟩ <;> (rw [e]; decide +kernel)
  unfold Dd.vs
  cases hd : d.arg with
  | none =>
    refine ⟨[.str d.word], .cons (.str _) .nil, ?_, ?_⟩
    · simp [PyData.canLay0, PyData.canLayAll0, ws]
    · simp [PyData.depth, PyData.depthAll]
  | some x =>
    obtain ⟨_, D, h1, h2, h3⟩ := h.sm x hd
    refine ⟨[.str d.word, D], .cons (.str _) (.cons h1 .nil), ?_, ?_⟩
    · simp [PyData.canLay0, PyData.canLayAll0, ws, h2]
    · simp [PyData.depth, PyData.depthAll]; omega
theorem sh_of {D : PyData} (h1 : PyData.canLay0 D = true) (h2 : PyData.depth D ≤ 60) : SeqAt.shaped D = true := by
  unfold SeqAt.shaped
  rw [h1, decide_eq_true (show PyData.depth D ≤ 64 by omega)]
  rfl
theorem dd_parts (h : d.ok) : (d.vs.length : Int) = partsN d.word := by
  have l : d.vs.length = 1 + d.arg.toList.length := by unfold Dd.vs; rw [List.length_cons]; omega
  rw [l]
  rcases dd_w h with ⟨e, x, rfl⟩ | ⟨e, x, rfl⟩ | ⟨e, x, rfl⟩ | ⟨e, x, rfl⟩ | ⟨e, x, rfl⟩ | ⟨e, x, rfl⟩ | ⟨e, rfl⟩ | ⟨e, rfl⟩ <;> rw [e]
  · exact (by decide +kernel : ((1 + 1 : Nat) : Int) = partsN "ring")
  · exact (by decide +kernel : ((1 + 1 : Nat) : Int) = partsN "calm")
  · exact (by decide +kernel : ((1 + 1 : Nat) : Int) = partsN "mute")
  · exact (by decide +kernel : ((1 + 1 : Nat) : Int) = partsN "free")
  · exact (by decide +kernel : ((1 + 1 : Nat) : Int) = partsN "bar")
  · exact (by decide +kernel : ((1 + 1 : Nat) : Int) = partsN "end")
  · exact (by decide +kernel : ((1 + 0 : Nat) : Int) = partsN "take")
  · exact (by decide +kernel : ((1 + 0 : Nat) : Int) = partsN "best")
theorem OddV.ex (h : OddV K H th) (e : Ex T H H1) : OddV K H1 th := by
  obtain ⟨h1, h2⟩ := h
  refine ⟨by rw [kd_exn e h1]; exact h1, h2.imp (fun h => by rw [kd_exn e h1]; exact h) ?_⟩
  rintro ⟨t, xs, rfl, ht, ⟨ds, hD, hs⟩, hx, h⟩
  refine ⟨t, xs, rfl, e.at ht, ⟨ds, e.sub.dps hD, hs⟩, fun x hm => by rw [kd_exn e (hx x hm)]; exact hx x hm, h.imp id (Or.imp (fun ⟨x, r, ex, hk⟩ => ⟨x, r, ex, ?_⟩) id)⟩
  rw [kd_exn e (hx x (by rw [ex]; exact List.mem_cons_self))]
  exact hk
theorem v_is_deed {b : Bool} (h : (b = true ∧ ∃ t d, th = .ref t ∧ DeedAt K H t d) ∨ (b = false ∧ OddV K H th)) : SpV T (sp_is_deed K T) [th] H (.bl b) := fun H1 e Q q E => ⟨th, b, rfl, h.imp (fun ⟨h1, t, d, h2, h3⟩ => ⟨h1, t, d, h2, h3.ex e⟩) fun ⟨h1, h2⟩ => ⟨h1, h2.ex e⟩, q⟩
theorem eqv_nil {ds : List PyData} : PyData.eqv (.tuple ds) (.tuple []) = decide (ds = []) := by
  cases ds with
  | nil => rfl
  | cons d ds => rfl
theorem kd_item {u : Addr} {xs : List V} {x : V} {r : List V} (hu : H u = some (.tup xs)) (e : xs = x :: r) : Ev T (tOp (rIxT K) (tVar 0) (tC (.int 0))) [some (.ref u)] H x := ev_op (x := .ref u) (ev_var rfl) ev_c (rv_ixT (.inl (.inl hu)) (by rw [e]; exact atI_nat (xs := x :: r) rfl))
theorem p_is_deed (h : sp_is_deed K T vs H Q E) : r_is_deed K T { nx := fun _ H' => Q .non H', rt := Q } (start ["thing"] vs) H := by
  obtain ⟨th, b, rfl, h, k⟩ := h
  unfold r_is_deed
  have it : ∀ {u : V}, kd H u ≠ "" → EvT T (tNot (tB (tCB rIs (tCons (tVar 0) (tCons (tC (.ty "tuple")) tNil))))) [some u] H (!isK (kd H u) "tuple") := fun hu => et_not (et_B (ev_cb (ea_cons (ev_var rfl) (ea_cons ev_c ea_nil)) (rc_is rfl hu (by decide))))
  have nil : ∀ {u : Addr} {xs : List V} {ds : List PyData}, H u = some (.tup xs) → DpAll K H xs ds → SeqAt.shaped (.tuple ds) = true → EvT T (tTest (tOp (rEqD K) (tVar 0) (tTup tNil))) [some (.ref u)] H (decide (ds = [])) := fun {u xs ds} hu hd hs => et_test (ev_opVU (ev_var rfl) (eu_tup ea_nil (by simp)) fun q H1 hq e => by
    have := rv_eqD (T := T) (H := H1) (x := .ref u) (y := .ref q) (d := .tuple ds) (e := .tuple []) (.tup (.inl (.inl (e.at hu))) (e.sub.dps hd)) (.tup (.inl (.inl hq)) .nil) hs rfl
    rw [eqv_nil] at this
    exact this)
  have ist : ∀ {u : Addr} {xs : List V} {x : V} {r : List V}, H u = some (.tup xs) → xs = x :: r → kd H x ≠ "" → EvT T (tNot (tB (tCB rIs (tCons (tOp (rIxT K) (tVar 0) (tC (.int 0))) (tCons (tC (.ty "str")) tNil))))) [some (.ref u)] H (!isK (kd H x) "str") := fun hu e hx => et_not (et_B (ev_cb (ea_cons (kd_item hu e) (ea_cons ev_c ea_nil)) (rc_is rfl hx (by decide))))
  rcases h with ⟨rfl, t, d, rfl, D⟩ | ⟨rfl, h1, h2⟩
  · obtain ⟨ds, hd, c1, c2⟩ := D.dps
    have hne : ds ≠ [] := fun e => by
      rw [e] at hd
      unfold Dd.vs at hd
      cases hd
    refine q_if (b := false) (Mv.of T H) (et_is (et_or (it (by rw [kd_t D.at_]; decide)) fun _ => et_or (nil D.at_ hd (sh_of c1 (by omega))) fun _ => ist (x := .str d.word) (r := d.arg.toList) D.at_ rfl (by simp [kd])) (by rw [kd_t D.at_]; simp [isK, kd, hne])) (fun hb => nomatch hb) (fun _ H1 e1 _ => nextI ?_)
    dsimp only
    exact s_ret e1 (ev_is (ev_op (x := .int d.vs.length) (ev_cb (ea_cons (ev_var rfl) ea_nil) (rc_len (.inr (.inl (.inl D.at_))))) (ev_call0 (ea_cons (kd_item D.at_ rfl) ea_nil) v_parts) rv_eqI) (by rw [dd_parts D.ok]; simp)) k
  · rcases h2 with h2 | ⟨t, xs, rfl, ht, ⟨ds, hd, hs⟩, hx, h⟩
    · refine q_if (b := true) (Mv.of T H) (et_is (et_orT (et_is (it h1) (by simp [isK, h2]))) rfl) (fun _ H1 e1 _ => s_ret e1 ev_c k) (fun hb => nomatch hb)
    · have kt := kd_t ht
      rcases h with rfl | ⟨x, r, ex, hk⟩ | ⟨w, r, ex, hl⟩
      · have : ds = [] := by cases hd; rfl
        refine q_if (b := true) (Mv.of T H) (et_is (et_orF (et_is (it h1) (by rw [kt]; rfl)) (et_orT (et_is (nil ht hd hs) (by rw [this]; rfl)))) rfl) (fun _ H1 e1 _ => s_ret e1 ev_c k) (fun hb => nomatch hb)
      · have hne : ds ≠ [] := fun e => by rw [e, ex] at hd; cases hd
        refine q_if (b := true) (Mv.of T H) (et_is (et_orF (et_is (it h1) (by rw [kt]; rfl)) (et_orF (et_is (nil ht hd hs) (by simp [hne])) (et_is (ist ht ex (hx x (by rw [ex]; exact List.mem_cons_self))) (b := true) (by simp [isK, hk])))) rfl) (fun _ H1 e1 _ => s_ret e1 ev_c k) (fun hb => nomatch hb)
      · have hne : ds ≠ [] := fun e => by rw [e, ex] at hd; cases hd
        refine q_if (b := false) (Mv.of T H) (et_is (et_orF (et_is (it h1) (by rw [kt]; rfl)) (et_orF (et_is (nil ht hd hs) (by simp [hne])) (et_is (ist ht ex (by simp [kd])) (b := false) (by simp [isK, kd])))) rfl) (fun hb => nomatch hb) (fun _ H1 e1 _ => nextI ?_)
        dsimp only
        exact s_ret e1 (ev_is (ev_op (x := .int xs.length) (ev_cb (ea_cons (ev_var rfl) ea_nil) (rc_len (.inr (.inl (.inl ht))))) (ev_call0 (ea_cons (kd_item ht ex) ea_nil) v_parts) rv_eqI) (by simp [hl])) k
theorem p_done (h : sp_done K T vs H Q E) : r_done K T E { nx := fun _ H' => Q .non H', rt := Q } (start ["board", "deed", "word"] vs) H := by
  obtain ⟨a, t, c, s, S, d, rfl, hc, O0, wf, tb0, D0, nt, h0⟩ := h
  unfold r_done
  refine q_asg (v := .str d.word) (Mv.of T H) (ev_op (x := .ref t) (ev_var rfl) ev_c (rv_ixT (.inl (.inl D0.at_)) (by unfold Dd.vs; cases d.arg <;> rfl))) rfl fun H0' e0 _ => ?_
  have O := O0.ex' e0
  have tb := e0.tb tb0
  have D := D0.ex e0
  have h := h0.ex e0
  generalize H0' = H at *
  clear O0 tb0 D0 h0
  have tt : ∀ {H1 : Hp}, Ex T H H1 → SqT K H1 t d.vs := fun e => .inl (.inl (e.at D.at_))
  have qw : ∀ {H1 : Hp} (u : Str), EvT T (tTest (tOp rEq (tVar 2) (tC (.str u)))) [some (.ref a), some (.ref t), some (.str d.word)] H1 (decide (d.word = u)) := fun u => et_test (ev_op (x := .str d.word) (ev_var rfl) ev_c rv_eqS)
  have lk : ∀ {m : Str} (h1 : ∀ r as qs pl e : V, (brdF r as qs pl e []).lookup m = none) (h2 : ∀ (r as qs pl e : V) (g : Addr), (brdF r as qs pl e [(("pegs" : Str), V.ref g)]).lookup m = none), ∀ r as qs pl e tl, TlK tl → (brdF r as qs pl e tl).lookup m = none := fun h1 h2 r as qs pl e tl t => lk_none t (h1 _ _ _ _ _) (h2 _ _ _ _ _)
  have ar : ∀ {H1 : Hp} {x : V}, d.arg = some x → Ex T H H1 → EvA T (tCons (tOp (rIxT K) (tVar 1) (tC (.int 1))) tNil) [some (.ref a), some (.ref t), some (.str d.word)] H1 [x] := fun {H1 x} hx e => ea_cons (ev_op (x := .ref t) (ev_var rfl) ev_c (rv_ixT (tt e) (by unfold Dd.vs; rw [hx]; rfl))) ea_nil
  have kx : ∀ {H1 : Hp} {x : V}, d.arg = some x → Ex T H H1 → kd H1 x ≠ "" := fun {H1 x} hx e => by rw [kd_exn e (D.sm x hx).1]; exact (D.sm x hx).1
  have ob : ∀ {H1 : Hp}, Ev T (tVar 0) [some (V.ref a), some (.ref t), some (.str d.word)] H1 (.ref a) := ev_var rfl
  refine q_if (Mv.of T H) (qw "best") (fun hb H1 e1 _ => ?_) (fun hb1 H1 e1 _ => nextI ?_)
  · have hd : d = .best := by
      rcases dd_w D.ok with ⟨w, z⟩ | ⟨w, z⟩ | ⟨w, z⟩ | ⟨w, z⟩ | ⟨w, z⟩ | ⟨w, z⟩ | ⟨w, z⟩ | ⟨w, z⟩ <;> first | exact z | exact absurd (w.symm.trans (of_decide_eq_true hb)) (by decide +kernel)
    subst hd
    exact w_brd (T := T) (vs := []) (fun c => sp_B_best K T c) hc (O.ex' e1) ob (lk (fun _ _ _ _ _ => rfl) (fun _ _ _ _ _ _ => rfl)) ea_nil fun H3 e3 => ⟨a, s, S, rfl, O.ex' (e1.trans e3), wf, fun H4 e4 => (h.ex (e1.trans e3)).1 _ rfl H4 S e4.mv (O.ex' ((e1.trans e3).trans e4)) fun _ h => .inl h⟩
  dsimp only
  refine q_if (Mv.of T H1) (qw "take") (fun hb H2 e2 _ => ?_) (fun hb2 H2 e2 _ => nextI ?_)
  · obtain rfl := dd_take D.ok (of_decide_eq_true hb)
    have e02 := e1.trans e2
    exact w_brd (T := T) (vs := []) (fun c => sp_B_take K T c) hc (O.ex' e02) ob (lk (fun _ _ _ _ _ => rfl) (fun _ _ _ _ _ _ => rfl)) ea_nil fun H3 e3 => ⟨a, s, S, rfl, O.ex' (e02.trans e3), wf, (e02.trans e3).tb tb, (h.ex (e02.trans e3)).1 _ rfl⟩
  dsimp only
  have e02 := e1.trans e2
  refine q_if (Mv.of T H2) (qw "ring") (fun hb H3 e3 _ => ?_) (fun hb3 H3 e3 _ => nextI ?_)
  · obtain ⟨x, rfl⟩ := dd_ring D.ok (of_decide_eq_true hb)
    have e03 := e02.trans e3
    exact w_brd (T := T) (fun c => sp_B_ring K T c) hc (O.ex' e03) ob (lk (fun _ _ _ _ _ => rfl) (fun _ _ _ _ _ _ => rfl)) (ar rfl e03) fun H3 e3 => (flag_call (O.ex' (e03.trans e3)) wf ((e03.trans e3).tb tb) (kx rfl (e03.trans e3)) (h.ex (e03.trans e3))).as (fun s i => rfl) fun s i => rfl
  dsimp only
  have e03 := e02.trans e3
  refine q_if (Mv.of T H3) (qw "calm") (fun hb H4 e4 _ => ?_) (fun hb4 H4 e4 _ => nextI ?_)
  · obtain ⟨x, rfl⟩ := dd_calm D.ok (of_decide_eq_true hb)
    have e04 := e03.trans e4
    exact w_brd (T := T) (fun c => sp_B_calm K T c) hc (O.ex' e04) ob (lk (fun _ _ _ _ _ => rfl) (fun _ _ _ _ _ _ => rfl)) (ar rfl e04) fun H3 e3 => (flag_call (O.ex' (e04.trans e3)) wf ((e04.trans e3).tb tb) (kx rfl (e04.trans e3)) (h.ex (e04.trans e3))).as (fun s i => rfl) fun s i => rfl
  dsimp only
  have e04 := e03.trans e4
  refine q_if (Mv.of T H4) (qw "mute") (fun hb H5 e5 _ => ?_) (fun hb5 H5 e5 _ => nextI ?_)
  · obtain ⟨x, rfl⟩ := dd_mute D.ok (of_decide_eq_true hb)
    have e05 := e04.trans e5
    exact w_brd (T := T) (fun c => sp_B_mute K T c) hc (O.ex' e05) ob (lk (fun _ _ _ _ _ => rfl) (fun _ _ _ _ _ _ => rfl)) (ar rfl e05) fun H3 e3 => (flag_call (O.ex' (e05.trans e3)) wf ((e05.trans e3).tb tb) (kx rfl (e05.trans e3)) (h.ex (e05.trans e3))).as (fun s i => rfl) fun s i => rfl
  dsimp only
  have e05 := e04.trans e5
  refine q_if (Mv.of T H5) (qw "free") (fun hb H6 e6 _ => ?_) (fun hb6 H6 e6 _ => nextI ?_)
  · obtain ⟨x, rfl⟩ := dd_free D.ok (of_decide_eq_true hb)
    have e06 := e05.trans e6
    exact w_brd (T := T) (fun c => sp_B_free K T c) hc (O.ex' e06) ob (lk (fun _ _ _ _ _ => rfl) (fun _ _ _ _ _ _ => rfl)) (ar rfl e06) fun H3 e3 => (flag_call (O.ex' (e06.trans e3)) wf ((e06.trans e3).tb tb) (kx rfl (e06.trans e3)) (h.ex (e06.trans e3))).as (fun s i => rfl) fun s i => rfl
  dsimp only
  have e06 := e05.trans e6
  refine q_if (Mv.of T H6) (qw "bar") (fun hb H7 e7 _ => ?_) (fun hb7 H7 e7 _ => nextI ?_)
  · obtain ⟨x, rfl⟩ := dd_bar D.ok (of_decide_eq_true hb)
    have e07 := e06.trans e7
    exact w_brd (T := T) (fun c => sp_B_bar K T c) hc (O.ex' e07) ob (lk (fun _ _ _ _ _ => rfl) (fun _ _ _ _ _ _ => rfl)) (ar rfl e07) fun H3 e3 => bar_call (O.ex' (e07.trans e3)) (kx rfl (e07.trans e3)) (h.ex (e07.trans e3))
  dsimp only
  have e07 := e06.trans e7
  have hd : ∃ x, d = .fin x := by
    simp only [decide_eq_false_iff_not] at hb1 hb2 hb3 hb4 hb5 hb6 hb7
    rcases dd_w D.ok with ⟨w, z⟩ | ⟨w, z⟩ | ⟨w, z⟩ | ⟨w, z⟩ | ⟨w, z⟩ | ⟨w, z⟩ | ⟨w, z⟩ | ⟨w, z⟩ <;> first | exact z | contradiction
  obtain ⟨x, rfl⟩ := hd
  exact w_brd (T := T) (fun c => sp_B_end K T c) hc (O.ex' e07) ob (lk (fun _ _ _ _ _ => rfl) (fun _ _ _ _ _ _ => rfl)) (ar rfl e07) fun H3 e3 => fin_call (O.ex' (e07.trans e3)) (kx rfl (e07.trans e3)) nt (h.ex (e07.trans e3))
theorem p_answer (h : sp_answer K T vs H Q E) : r_answer K T { nx := fun _ H' => Q .non H', rt := Q } (start ["board", "deed", "told"] vs) H := by
  obtain ⟨a, t, c, s, S, d, rfl, hc, O, wf, tb, D, X, h1, h2⟩ := h
  unfold r_answer
  have no : ∀ {w : Str} {H3 : Hp}, d.ans s = .no w → Ex T H H3 → tRet (tTup (tCons (tC (.str "refused")) (tCons (tC (.str w)) tNil))) { nx := fun _ H' => Q .non H', rt := Q } [some (.ref a), some (.ref t), none] H3 := fun {w H3} hw e =>
    s_retR (Mv.of T H3) (eu_tup (vs := [.str "refused", .str w]) (ea_cons ev_c (ea_cons ev_c ea_nil)) (by simp)) fun v H5 e5 e45 hv => h2 w hw v H5 (e.trans e5) (newU_back _ _ _ _ (Mv.of T H) e e5 hv)
  show tTryManyE _ _ _ _ _ _ _
  unfold tTryManyE
  refine w_asgS (T := T) (σ := [some (.ref a), some (.ref t), none]) (ws := [.ref a, .ref t]) (ea_cons (ev_var rfl) (ea_cons (ev_var rfl) ea_nil)) fun H3 e3 => ?_
  refine ⟨a, t, c, s, S, d, rfl, hc, O.ex' e3, wf, e3.tb tb, D.ex e3, X.nt, fun z hz H' S' m O' n => ?_, fun hz H' e' => ?_, fun hz H' e' => ?_, fun hz H' dd x e' hd hx => ?_⟩
  · exact s_ret (Mv.of T H') (ev_var (v := z) rfl) fun H6 e6 => h1 z hz H6 S' ((e3.mv.trans m).trans e6.mv) (O'.ex' e6) fun x h => (n x h).imp id (e3.dm x)
  · exact wm_line X.ln (no hz (e3.trans e'))
  · exact wm_bar X.br (no hz (e3.trans e'))
  · exact wm_top X.tp (no hz ((e3.trans e').trans (Mv.new hd)))
end
end Fp

local macro_rules | `(tactic| walk_at "sp") => `(tactic| first | exact Fp.v_wholeI | exact Fp.v_is_wholeI | exact Fp.v_whole (by assumption) | exact Fp.v_is_whole (by assumption) | exact Fp.v_cell_at (by walk_at "fact") (by first | decide | omega))
namespace Fp
open PySem PySem.Spec PyProof.Rows L2 LamX
def runS (s : BSt) (ds : List Dd) : BSt := ds.foldl (fun s d => d.step s) s
def runA : BSt → List Dd → List Ans
  | _, [] => []
  | s, d :: ds => d.ans s :: runA (d.step s) ds
theorem runS_snoc {s : BSt} {ds : List Dd} {d : Dd} : runS s (ds ++ [d]) = d.step (runS s ds) := by unfold runS; rw [List.foldl_append]; rfl
theorem runA_snoc {d : Dd} : ∀ {ds : List Dd} {s : BSt}, runA s (ds ++ [d]) = runA s ds ++ [d.ans (runS s ds)]
  | [], _ => rfl
  | e :: ds, s => by
    show e.ans s :: runA (e.step s) (ds ++ [d]) = e.ans s :: (runA (e.step s) ds ++ [d.ans (runS (e.step s) ds)])
    rw [runA_snoc]
theorem BWf.runS {s : BSt} (w : BWf s) (ds : List Dd) : BWf (runS s ds) := by
  induction ds generalizing s with
  | nil => exact w
  | cons d ds ih => exact ih (w.step d)
theorem tw_run {ds : List Dd} : ∀ {s s2 : BSt}, Tw s s2 → BWf s2 → Tw (runS s ds) (runS s2 ds) ∧ runA s2 ds = runA s ds := by
  induction ds with
  | nil => exact fun t w => ⟨t, rfl⟩
  | cons d ds ih =>
    intro s s2 t w
    obtain ⟨h1, h2⟩ := ih (t.step (d := d) w) (w.step d)
    refine ⟨h1, ?_⟩
    show d.ans s2 :: runA (d.step s2) ds = d.ans s :: runA (d.step s) ds
    rw [t.ans w, h2]
theorem run_rk {ds : List Dd} : ∀ {s : BSt}, (runS s ds).ranks = s.ranks := by
  induction ds with
  | nil => exact rfl
  | cons d ds ih => exact fun {s} => (ih (s := d.step s)).trans step_rk
def rowH (T : List (Addr × Str)) (K : PySem.W.Frag) (l : List (Addr × Dd)) : HS T := ⟨fun H S => ∀ p ∈ l, DeedAt K (res H S) p.1 p.2, fun h m h1 h2 p hp => (h p hp).sub (m.sub2 h1 h2)⟩
def ansL (T : List (Addr × Str)) (K : PySem.W.Frag) (l : List (V × Ans)) : HS T := ⟨fun H S => ∀ p ∈ l, AnsAt K (res H S) p.1 p.2, fun h m h1 h2 p hp => (h p hp).sub (m.sub2 h1 h2)⟩
/-- an owner's things are let loose -/
theorem Hd.loose {T : List (Addr × Str)} {H0 H : Hp} {own : Addr → Nat} {L L' : List (Nat × HS T)} (h : Hd T H0 H own L) (j : Nat) (hL : ∀ q ∈ L', (q ∈ L ∧ q.1 ≠ j) ∨ (q.1 = 0 ∧ (j, q.2) ∈ L)) : ∃ own', Hd T H0 H own' L' := by
  refine ⟨fun x => if own x = j then 0 else own x, ⟨h.ow.ex, fun x z => h.ow.fr x fun w => z ?_⟩, fun q hq => ?_⟩
  · show (if own x = j then 0 else own x) = 0
    rw [w]; split <;> rfl
  · rcases hL q hq with ⟨h1, h2⟩ | ⟨h1, h2⟩
    · exact q.2.st (h.al q h1) (Mv.refl (T := T) (S := no)) (fun _ _ z => z) fun x e _ => by
        show (if own x = j then 0 else own x) = q.1
        rw [if_neg (by rw [e]; exact h2)]; exact e
    · exact q.2.st (h.al (j, q.2) h2) (Mv.refl (T := T) (S := no)) (fun _ _ z => z) fun x e _ => by
        show (if own x = j then 0 else own x) = q.1
        rw [if_pos e, h1]
def sp_play (K : PySem.W.Frag) (T : List (Addr × Str)) : Sp := fun vs H Q E => ∃ b q c s, ∃ H0 : Hp, ∃ own : Addr → Nat, ∃ k : Nat, ∃ R : List (Nat × HS T), ∃ th : List V, vs = [.ref b, .ref q] ∧ WoD c ∧ Hd T H0 H own ((k, brdH T K c b s) :: (0, atH T q th) :: R) ∧ (∀ p ∈ R, p.1 ≠ k ∧ p.1 < 9) ∧ 0 < k ∧ k < 9 ∧ BWf s ∧ Tabs T H0 ∧ List.length th ≤ 1000 ∧ Xk3 K ∧
  ((∃ l : List (Addr × Dd), th = l.map (fun p => V.ref p.1) ∧ (0, rowH T K l) ∈ R ∧ ∀ own' H' v tl, Hd T H0 H' own' ((k, brdH T K c b (runS s (l.map Prod.snd))) :: (0, atH T v (tl.map Prod.fst)) :: (0, ansL T K tl) :: (0, atH T q th) :: R) → tl.map Prod.snd = runA s (l.map Prod.snd) → Q (.ref v) H') ∨
  ∃ n : Nat, ∃ y, th[n]? = some y ∧ (∀ i < n, ∀ x, th[i]? = some x → ∃ t d, x = .ref t ∧ DeedAt K H t d) ∧ OddV K H y ∧ OexC K (He.ga K "NoDeed") ∧ (∀ f ∈ (["place"] : List Str), PySem.W.findIn K (.ref (He.ga K "NoDeed")) f = some none) ∧ ∀ H' dd, Ex T H H' → H' dd = none → E (.ref (He.ga K "NoDeed")) (some dd) (upd H' dd (.xd [("place", .int n)])))
theorem len_play {K : PySem.W.Frag} {T : List (Addr × Str)} : ∀ vs H Q E, sp_play K T vs H Q E → vs.length = 2 := fun vs H Q E h => by
  obtain ⟨_, _, _, _, _, _, _, _, _, rfl, _⟩ := h
  exact rfl
def r_play (K : PySem.W.Frag) (T : List (Addr × Str)) (E : XK) : TS :=
  (tSeq (tFor (iEnum K (tCons (tVar 1) tNil)) (gTup K 2 (gCons (gName 2) (gCons (gName 3) gNil))) (tIfS (tNot (tB (tCall (sp_is_deed K T) [] E0 (tCons (tVar 3) tNil)))) (tRaiseI K E "NoDeed" (sp_NoDeed_init K T) (tCons (tVar 2) tNil)) tNext))
  (tRet (tLc (iList K (tVar 1)) (gName 4) tYes (tCall (sp_answer K T) [] E0 (tCons (tVar 0) (tCons (tVar 4) tNil))) [4])))
section
variable {K : PySem.W.Frag} {T : List (Addr × Str)} {H H0 H1 : Hp} {Q : VK} {E : XK} {vs xs : List V} {σ : L2.St} {tl : TE} {g : TG} {tu u : TS} {D : Ends} {a : Addr}
/-- for i, x in enumerate(xs) -/
theorem q_forE (e : Ex T H0 H) (h : Ev T tl σ H0 (.ref a)) (hx : SqL K H0 a xs) (Pv : Nat → L2.St → Hp → Prop) (h0 : ∀ H1, Ex T H0 H1 → Ex T H H1 → Pv 0 σ H1) (hl : ∀ i σ' H', i ≤ xs.length → Pv i σ' H' → SqL K H' a xs)
    (hs : ∀ i x σ' H' t, xs[i]? = some x → Pv i σ' H' → H' t = none → g (.ref t) σ' (upd H' t (.tup [.int (i : Nat), x])) fun σ2 H2 => tu { D with nx := Pv (i + 1), ct := Pv (i + 1), bk := u D } σ2 H2) (hd : ∀ σ' H', Pv xs.length σ' H' → u D σ' H') : tSeq (tFor (iEnum K (tCons tl tNil)) g tu) u D σ H :=
  h H e _ fun H1 e1 => ⟨a, xs, rfl, (e.trans e1).l hx, for_it (D := { D with nx := u D }) (tb := tu) (g := g) walk_enum Pv (h0 H1 (e.trans e1) e1) hl (fun i x σ' H' H2 hi p y => by
    obtain ⟨t, x1, x2, rfl, ht, rfl, h1, h2⟩ := y
    obtain rfl := Option.some.inj h1
    exact hs i x2 σ' H' t h2 p ht) hd⟩
theorem w_lc {tl : TE} {tt : TT} {te : TE} {js : List Nat} (h : Ev T tl σ H (.ref a)) (hx : SqL K H a xs) (Pv : Addr → Nat → Hp → Prop) (h0 : ∀ H2 D, Ex T H H2 → H2 D = none → Pv D 0 (upd H2 D (.lst []))) (hl : ∀ D i H', i ≤ xs.length → Pv D i H' → SqL K H' a xs)
    (hs : ∀ D i x H', xs[i]? = some x → Pv D i H' → g x (wipe σ js) H' fun σ2 H2 => wipe σ2 js = wipe σ js ∧ tt σ2 H2 fun b H3 => if b = true then te σ2 H3 fun y H4 => ∃ acc, H4 D = some (.lst acc) ∧ acc.length < sizeLine ∧ Pv D (i + 1) (upd H4 D (.lst (acc ++ [y]))) else Pv D (i + 1) H3) (hd : ∀ D H', Pv D xs.length H' → Q (.ref D) H') : tLc (iList K tl) g tt te js σ H Q :=
  h H Mv.refl _ fun H2 e2 => ⟨a, rfl, ⟨xs, e2.l hx⟩, fun D hD => lc_list (Pv D) (h0 H2 D e2 hD) (hl D) (hs D) (hd D)⟩
theorem p_play (h : sp_play K T vs H Q E) : r_play K T E { nx := fun _ H' => Q .non H', rt := Q } (start ["board", "deeds", "place", "thing", "deed"] vs) H := by
  obtain ⟨b, q, c, s, H0, own, k, R, th, rfl, hc, L, hR, k0, k9, wf, tb, hn, X, h⟩ := h
  unfold r_play
  have hq := L.lst q (n := 0) (xs := th) (by walk_at "mem")
  have lq : SqL K H q th := .inl (.inl hq)
  refine q_forE (xs := th) (Mv.of T H) (ev_var rfl) lq (fun i σ' H' => ∃ x y, σ' = [some (.ref b), some (.ref q), x, y, none] ∧ Ex T H H' ∧ ∀ n y, th[n]? = some y → OddV K H y → (∀ j < n, ∀ x, th[j]? = some x → ∃ t d, x = .ref t ∧ DeedAt K H t d) → i ≤ n) (fun H1 e1 _ => ⟨none, none, rfl, e1, fun _ _ _ _ _ => Nat.zero_le _⟩) (fun i σ' H' _ ⟨_, _, _, e, _⟩ => e.l lq) ?_ ?_
  · rintro i x σ' H' t hi ⟨x1, y1, rfl, e, hin⟩ ht
    have e1 : Ex T H' (upd H' t (.tup [.int (i : Nat), x])) := Mv.new ht
    have h1 : upd H' t (.tup [.int (i : Nat), x]) t = some (.tup [.int (i : Nat), x]) := upd_same
    generalize upd H' t (.tup [.int (i : Nat), x]) = H1 at e1 h1
    refine ⟨t, _, rfl, .inl (.inl h1), rfl, _, _, rfl, _, _, rfl, rfl, ?_⟩
    have e01 := e.trans e1
    have goOn : (∃ t d, x = .ref t ∧ DeedAt K H t d) → tIfS (tNot (tB (tCall (sp_is_deed K T) [] E0 (tCons (tVar 3) tNil)))) (tRaiseI K E "NoDeed" (sp_NoDeed_init K T) (tCons (tVar 2) tNil)) tNext { nx := fun σ' H' => ∃ x y, σ' = [some (.ref b), some (.ref q), x, y, none] ∧ Ex T H H' ∧ ∀ n y, th[n]? = some y → OddV K H y → (∀ j < n, ∀ x, th[j]? = some x → ∃ t d, x = .ref t ∧ DeedAt K H t d) → i + 1 ≤ n, rt := Q } [some (.ref b), some (.ref q), some (.int (i : Nat)), some x, none] H1 := fun ⟨t, d, et, hd⟩ => by
      refine s_if (b := false) (Mv.of T H1) (et_is (et_not (et_B (ev_call0 (vs := [x]) (ea_cons (ev_var rfl) ea_nil) (v_is_deed (b := true) (.inl ⟨rfl, t, d, et, hd.ex e01⟩))))) rfl) (fun hb => nomatch hb) fun _ H2 e2 _ => nextI ⟨_, _, rfl, e01.trans e2, fun n y hy oy hj => ?_⟩
      have := hin n y hy oy hj
      rcases Nat.lt_or_eq_of_le this with z | z
      · exact z
      · subst z
        rw [hi] at hy
        obtain rfl := Option.some.inj hy
        subst et
        rcases oy.2 with o2 | ⟨t2, xs, e2, h2, _, _, h3⟩
        · rw [kd_t hd.at_] at o2
          exact absurd rfl o2
        · obtain rfl : t = t2 := by injection e2
          rw [hd.at_] at h2
          injection h2 with h2
          injection h2 with h2
          subst h2
          rcases h3 with h3 | ⟨x, r, h3, h4⟩ | ⟨w, r, h3, h4⟩
          · unfold Dd.vs at h3; cases h3
          · unfold Dd.vs at h3
            injection h3 with h3 _
            rw [← h3] at h4
            exact absurd rfl h4
          · have := dd_parts hd.ok
            unfold Dd.vs at h3
            injection h3 with h3 _
            injection h3 with h3
            rw [← h3] at h4
            exact absurd this h4
    rcases h with ⟨l, rfl, hl, k1⟩ | ⟨n, y, hy, hj, oy, ox, no, k1⟩
    · refine goOn ?_
      rw [List.getElem?_map] at hi
      cases hp : l[i]? with
      | none => rw [hp] at hi; cases hi
      | some p =>
        rw [hp] at hi
        obtain rfl := Option.some.inj hi
        exact ⟨p.1, p.2, rfl, ((L.get (n := 0) (P := rowH T K l) (List.Mem.tail _ (List.Mem.tail _ hl))) p (List.mem_of_getElem? hp)).sub res_sub⟩
    · have hin2 := hin n y hy oy hj
      rcases Nat.lt_or_eq_of_le hin2 with z | z
      · exact goOn (hj i z x hi)
      · subst z
        rw [hi] at hy
        obtain rfl := Option.some.inj hy
        refine s_if (b := true) (Mv.of T H1) (et_is (et_not (et_B (ev_call0 (vs := [x]) (ea_cons (ev_var rfl) ea_nil) (v_is_deed (b := false) (.inr ⟨rfl, oy.ex e01⟩))))) rfl) (fun _ H2 e2 _ => ?_) (fun hb => nomatch hb)
        exact s_noDeed (x := .int (i : Nat)) (Mv.of T H2) (ea_cons (ev_var rfl) ea_nil) ox no fun H3 d e3 hd => k1 H3 d (e01.trans (e2.trans e3)) hd
  rintro σ' H1 ⟨x1, y1, rfl, e1, hin⟩
  rcases h with ⟨l, rfl, hl, k1⟩ | ⟨n, y, hy, hj, oy, _⟩
  · have L1 := L.ex' e1
    show tLc _ _ _ _ _ _ _ Q
    have hk0 : k ≠ 0 := by omega
    refine w_lc (T := T) (a := q) (xs := l.map fun p => V.ref p.1) (ev_var rfl) (e1.l lq) (fun D i H' => ∃ own' tl, Hd T H0 H' own' ((k, brdH T K c b (runS s ((l.take i).map Prod.snd))) :: (9, atH T D (tl.map Prod.fst)) :: (0, ansL T K tl) :: (0, atH T q (l.map fun p => V.ref p.1)) :: R) ∧ tl.map Prod.snd = runA s ((l.take i).map Prod.snd)) (fun H2 D e2 hD => ?_) (fun D i H' _ ⟨_, _, L', _⟩ => .inl (.inl (L'.lst q (n := 0) (by walk_at "mem")))) (fun D i x H' hi ⟨own', tl, L', et⟩ => ?_) fun D H' ⟨own', tl, L', et⟩ => ?_
    · obtain ⟨own3, L3⟩ := (L1.ex' e2).new (P := atH T D []) 9 (by decide) (Mv.new (o := .lst []) hD) ⟨.of hD, upd_same⟩
      refine ⟨own3, [], L3.wk fun p hp => ?_, rfl⟩
      simp only [List.mem_cons] at hp
      rcases hp with rfl | rfl | rfl | rfl | hp
      · exact .inl (by walk_at "mem")
      · exact .inl (by walk_at "mem")
      · exact .inr fun _ h => by cases h
      · exact .inl (by walk_at "mem")
      · exact .inl (List.Mem.tail _ (List.Mem.tail _ (List.Mem.tail _ hp)))
    · rw [List.getElem?_map] at hi
      cases hp : l[i]? with
      | none => rw [hp] at hi; cases hi
      | some p =>
        rw [hp] at hi
        obtain rfl := Option.some.inj hi
        have hm := List.mem_of_getElem? hp
        have ts : (l.take (i + 1)).map Prod.snd = (l.take i).map Prod.snd ++ [p.2] := by rw [List.take_add_one, hp, List.map_append]; rfl
        refine ⟨rfl, et_yes (T := T) H' Mv.refl _ fun H3 e3 => ?_⟩
        rw [if_pos rfl]
        have L3 := L'.ex' e3
        refine w_call (T := T) (vs := [.ref b, .ref p.1]) (ea_cons (ev_var rfl) (ea_cons (ev_var rfl) ea_nil)) fun H4 e4 => ?_
        have L4 := L3.ex' e4
        have wf' : BWf (runS s ((l.take i).map Prod.snd)) := wf.runS _
        generalize hs' : runS s ((l.take i).map Prod.snd) = s' at *
        refine ⟨b, p.1, c, s', _, p.2, rfl, hc, L4.brd b (n := k) (by walk_at "mem"), wf', L4.tb tb, ((L4.get (n := 0) (P := rowH T K l) (List.Mem.tail _ (List.Mem.tail _ (List.Mem.tail _ (List.Mem.tail _ hl))))) p hm).sub res_sub, X, doK_of (k := k) (L' := (k, brdH T K c b (p.2.step s')) :: (9, atH T D (tl.map Prod.fst)) :: (0, ansL T K tl) :: (0, atH T q (l.map fun p => V.ref p.1)) :: R) L4 (by walk_at "mem") hk0 (fun r hr => ?_) fun v H5 own5 L5 => ?_⟩
        · simp only [List.mem_cons] at hr
          rcases hr with rfl | rfl | rfl | rfl | hr
          · exact .inr rfl
          · exact .inl ⟨by walk_at "mem", by show 9 ≠ k; omega⟩
          · exact .inl ⟨by walk_at "mem", by show 0 ≠ k; omega⟩
          · exact .inl ⟨by walk_at "mem", by show 0 ≠ k; omega⟩
          · exact .inl ⟨List.Mem.tail _ (List.Mem.tail _ (List.Mem.tail _ (List.Mem.tail _ hr))), (hR r hr).1⟩
        have hD5 := L5.lst D (n := 9) (xs := tl.map Prod.fst) (by walk_at "mem")
        have lt : tl.length ≤ 1000 := by
          have := congrArg List.length et
          rw [List.length_map] at this
          have la : ∀ (ds : List Dd) (s : BSt), (runA s ds).length = ds.length := fun ds => by
            induction ds with
            | nil => exact fun _ => rfl
            | cons d ds ih => exact fun s => congrArg (· + 1) (ih _)
          rw [la, List.length_map, List.length_take] at this
          rw [List.length_map] at hn
          omega
        have LA : Hd T H0 H5 own5 ((k, brdH T K c b (p.2.step s')) :: (9, atH T D (tl.map Prod.fst)) :: (0, ansL T K (tl ++ [(v, p.2.ans s')])) :: (0, atH T q (l.map fun p => V.ref p.1)) :: R) := L5.wk fun r hr => by
          simp only [List.mem_cons] at hr
          rcases hr with rfl | rfl | rfl | rfl | hr
          · exact .inl (by walk_at "mem")
          · exact .inl (by walk_at "mem")
          · refine .inr fun u hu => ?_
            rcases List.mem_append.mp hu with hu | hu
            · exact (L5.get (n := 0) (P := ansL T K tl) (by walk_at "mem")) u hu
            · rw [List.mem_singleton.mp hu]
              exact L5.get (n := 0) (P := ansH T K v (p.2.ans s')) (by walk_at "mem")
          · exact .inl (by walk_at "mem")
          · exact .inl (List.Mem.tail _ (List.Mem.tail _ (List.Mem.tail _ (List.Mem.tail _ (List.Mem.tail _ hr)))))
        refine ⟨_, hD5, by rw [List.length_map]; exact Nat.lt_of_le_of_lt lt (by decide), ?_⟩
        obtain ⟨own6, L6⟩ := LA.put (n := 9) (p := D) (xs := tl.map Prod.fst) (ys := tl.map Prod.fst ++ [v]) (H1 := upd H5 D (.lst (tl.map Prod.fst ++ [v]))) (L' := (k, brdH T K c b (p.2.step s')) :: (9, atH T D ((tl ++ [(v, p.2.ans s')]).map Prod.fst)) :: (0, ansL T K (tl ++ [(v, p.2.ans s')])) :: (0, atH T q (l.map fun p => V.ref p.1)) :: R) (by decide) (by walk_at "mem") (Mv.set1 hD5) upd_same (fun r hr => by
          simp only [List.mem_cons] at hr
          rcases hr with rfl | rfl | rfl | rfl | hr
          · exact .inl ⟨by walk_at "mem", by show k ≠ 9; omega⟩
          · exact .inr (by rw [List.map_append]; rfl)
          · exact .inl ⟨by walk_at "mem", by show 0 ≠ 9; decide⟩
          · exact .inl ⟨by walk_at "mem", by show 0 ≠ 9; decide⟩
          · exact .inl ⟨List.Mem.tail _ (List.Mem.tail _ (List.Mem.tail _ (List.Mem.tail _ hr))), by have := (hR r hr).2; omega⟩)
        refine ⟨own6, tl ++ [(v, p.2.ans s')], ?_, ?_⟩
        · rw [ts, runS_snoc, hs']
          exact L6
        · rw [ts, runA_snoc, hs', List.map_append, et]
          rfl
    · rw [List.length_map, List.take_length] at et L'
      obtain ⟨own4, L4⟩ := L'.loose 9 (L' := (k, brdH T K c b (runS s (l.map Prod.snd))) :: (0, atH T D (tl.map Prod.fst)) :: (0, ansL T K tl) :: (0, atH T q (l.map fun p => V.ref p.1)) :: R) (fun r hr => by
        simp only [List.mem_cons] at hr
        rcases hr with rfl | rfl | rfl | rfl | hr
        · exact .inl ⟨by walk_at "mem", by show k ≠ 9; omega⟩
        · exact .inr ⟨rfl, by walk_at "mem"⟩
        · exact .inl ⟨by walk_at "mem", by show 0 ≠ 9; decide⟩
        · exact .inl ⟨by walk_at "mem", by show 0 ≠ 9; decide⟩
        · exact .inl ⟨List.Mem.tail _ (List.Mem.tail _ (List.Mem.tail _ (List.Mem.tail _ hr))), by have := (hR r hr).2; omega⟩)
      exact k1 own4 H' D tl L4 et
  · have := hin n y hy oy hj
    have := (List.getElem?_eq_some_iff.mp hy).1
    omega
end
end Fp

namespace Fp
open PySem PySem.Spec PyProof.Rows L2 LamX
/-! ### names of a caught refusal -/
def nmL (c : Str) : List Str := ((((((([] : List Str) ++ if kb "NoBoard" c = true then [("board" : Str)] else []) ++ if kb "NoPicture" c = true then [("picture" : Str)] else []) ++ if kb "NoPegs" c = true then [("pegs" : Str)] else []) ++ if (kb "NoLine" c || (kb "NoBar" c || kb "NotTop" c)) = true then [("deed" : Str)] else []) ++ if kb "NoDeed" c = true then [("row" : Str)] else []) ++ if true = true then [("value" : Str)] else [])
def sp_l_names (K : PySem.W.Frag) (T : List (Addr × Str)) (p : Addr × Obj) : Sp := fun vs H Q _ => ∃ D d, vs = [.ref p.1] ∧ Zc (.ref D) d p.2 ∧ (∃ us, p.2.data = .fields us) ∧ ErrC K D [] ∧ (XdH H d ∧ ∃ c, D = He.ga K c ∧ Xk2 K eight c ∧ ∀ v H', Ex T H H' → newL ((nmL c).map V.str) H v H' → Q v H')
theorem len_l_names {K : PySem.W.Frag} {T : List (Addr × Str)} : ∀ p vs H Q E, sp_l_names K T p vs H Q E → vs.length = 1 := fun p vs H Q E h => by obtain ⟨_, _, rfl, _⟩ := h; rfl
def r_l_names (K : PySem.W.Frag) (T : List (Addr × Str)) (D a : Addr) (d : Option Addr) : TS :=
  (tSeq (tAsg (tLst tNil) (gName 1))
  (Evl.tCut (tIfS (tB (tCB (rIsP K D a d) (tCons (tVar 0) (tCons (tC (.ref (He.ga K "NoBoard"))) tNil)))) (tDrop (tBM K "list" rAppend (tVar 1) (tCons (tC (.str "board")) tNil))) tNext)
  (Evl.tCut (tIfS (tB (tCB (rIsP K D a d) (tCons (tVar 0) (tCons (tC (.ref (He.ga K "NoPicture"))) tNil)))) (tDrop (tBM K "list" rAppend (tVar 1) (tCons (tC (.str "picture")) tNil))) tNext)
  (Evl.tCut (tIfS (tB (tCB (rIsP K D a d) (tCons (tVar 0) (tCons (tC (.ref (He.ga K "NoPegs"))) tNil)))) (tDrop (tBM K "list" rAppend (tVar 1) (tCons (tC (.str "pegs")) tNil))) tNext)
  (Evl.tCut (tIfS (tOr (tB (tCB (rIsP K D a d) (tCons (tVar 0) (tCons (tC (.ref (He.ga K "NoLine"))) tNil)))) (tOr (tB (tCB (rIsP K D a d) (tCons (tVar 0) (tCons (tC (.ref (He.ga K "NoBar"))) tNil)))) (tB (tCB (rIsP K D a d) (tCons (tVar 0) (tCons (tC (.ref (He.ga K "NotTop"))) tNil)))))) (tDrop (tBM K "list" rAppend (tVar 1) (tCons (tC (.str "deed")) tNil))) tNext)
  (Evl.tCut (tIfS (tB (tCB (rIsP K D a d) (tCons (tVar 0) (tCons (tC (.ref (He.ga K "NoDeed"))) tNil)))) (tDrop (tBM K "list" rAppend (tVar 1) (tCons (tC (.str "row")) tNil))) tNext)
  (Evl.tCut (tIfS (tB (tCB (rIsP K D a d) (tCons (tVar 0) (tCons (tC (.ty "ValueError")) tNil)))) (tDrop (tBM K "list" rAppend (tVar 1) (tCons (tC (.str "value")) tNil))) tNext)
  (tRet (tVar 1)))))))))
section
variable {K : PySem.W.Frag} {T : List (Addr × Str)} {σ : L2.St} {H H0 H1 : Hp} {Q : VK} {E : XK} {vs : List V} {a p : Addr} {d : Option Addr} {D : Ends} {u : TS} {b : Bool} {xs : List Str} {w : Str} {t : TT} {Da : Addr}
theorem q_nmIf (i : Nat) (hp : H p = some (.lst (xs.map V.str))) (np : nod H0 p) (e : Ex T H0 H) (hz : xs.length < 1000) (hv : σ[i]? = some (some (.ref p))) (ht : EvT T t σ H b) (k : ∀ H1, Ex T H0 H1 → H1 p = some (.lst ((xs ++ if b = true then [w] else []).map V.str)) → u D σ H1) : Evl.tCut (tIfS t (tDrop (tBM K "list" rAppend (tVar i) (tCons (tC (.str w)) tNil))) tNext) u D σ H := by
  refine q_cut (fun σ' H' => σ' = σ ∧ Ex T H0 H' ∧ H' p = some (.lst ((xs ++ if b = true then [w] else []).map V.str))) ?_ fun σ' H' ⟨e1, e2, e3⟩ => by rw [e1]; exact k H' e2 e3
  refine s_if (Mv.of T H) ht (fun hb H1 e1 _ => ?_) (fun hb H1 e1 _ => nextI ⟨rfl, e.trans e1, by rw [hb]; simp only [Bool.false_eq_true, if_false, List.append_nil]; exact e1.at hp⟩)
  refine s_app (v := .str w) (l := p) (Mv.of T H1) (e1.at hp) (ev_var hv) ev_c (by rw [List.length_map]; omega) fun H2 e2 _ => ⟨rfl, (e.trans (e1.trans e2)).set (.inr np) ((e1.trans e2).at hp), ?_⟩
  rw [upd_same, hb, if_pos rfl, List.map_append]
  rfl
theorem p_l_names (h1 : vs = [.ref a]) (h2 : XdH H d ∧ ∃ c, Da = He.ga K c ∧ Xk2 K eight c ∧ ∀ v H', Ex T H H' → newL ((nmL c).map V.str) H v H' → Q v H') : r_l_names K T Da a d { nx := fun _ H' => Q .non H', rt := Q } (start ["_law_e", "_law_some"] vs) H := by
  subst h1
  obtain ⟨xd, c, rfl, X, k⟩ := h2
  unfold r_l_names
  have kit : ∀ c' ∈ eight, PySem.W.kitOne K (.ref (He.ga K c)) (.ref (He.ga K c')) = some (kb c' c) := X.kit
  have tt : ∀ {H1 : Hp} {p : Addr} {c' : Str}, Ex T H H1 → c' ∈ eight → EvT T (tB (tCB (rIsP K (He.ga K c) a d) (tCons (tVar 0) (tCons (tC (.ref (He.ga K c'))) tNil)))) [some (.ref a), some (.ref p)] H1 (kb c' c) := fun {H1 p c'} e hc => et_B (ev_cb (ea_cons (ev_var rfl) (ea_cons ev_c ea_nil)) (rc_isP (xd.ex e) (kit c' hc)))
  refine q_asgR (Mv.of T H) (el_lst ea_nil (by decide)) fun w H1 σ2 hs e1 _ hw => ?_
  obtain ⟨p, rfl, np, hp⟩ := hw
  subst hs
  refine q_nmIf (xs := []) 1 hp np e1 (by decide) rfl (tt e1 (by decide)) fun H2 e2 h2 => ?_
  refine q_nmIf 1 h2 np e2 (by split <;> simp) rfl (tt e2 (by decide)) fun H3 e3 h3 => ?_
  refine q_nmIf 1 h3 np e3 (by repeat' split <;> simp) rfl (tt e3 (by decide)) fun H4 e4 h4 => ?_
  refine q_nmIf 1 h4 np e4 (by repeat' split <;> simp) rfl (et_or (tt e4 (by decide)) fun _ => et_or (tt e4 (by decide)) fun _ => tt e4 (by decide)) fun H5 e5 h5 => ?_
  refine q_nmIf 1 h5 np e5 (by repeat' split <;> simp) rfl (tt e5 (by decide)) fun H6 e6 h6 => ?_
  refine q_nmIf 1 h6 np e6 (by repeat' split <;> simp) rfl (et_B (ev_cb (ea_cons (ev_var rfl) (ea_cons ev_c ea_nil)) (rc_isPV (xd.ex e6) X.ve))) fun H7 e7 h7 => ?_
  exact s_ret (v := .ref p) (Mv.of T H7) (ev_var rfl) fun H8 e8 => k _ H8 (e7.trans e8) ⟨p, rfl, np, e8.at h7⟩
/-- what is caught: its names told -/
theorem names_told {i : Nat} {c : Str} {Q : VK} (hi : σ[i]? = some (some (.ref a))) (xd : XdH H d) (X : Xk2 K eight c) (k : ∀ v H', Ex T H H' → newL ((nmL c).map V.str) H v H' → Q v H') : tCallE a (.ref (He.ga K c)) d (sp_l_names K T) (tVar i) σ H Q :=
  ⟨.ref a, hi, rfl, fun _ hz hf => ⟨_, d, rfl, hz, hf, X.err, xd, c, rfl, X, k⟩⟩
theorem dp_ss : ∀ xs : List Str, DpAll K H (xs.map V.str) (xs.map PyData.str)
  | [] => .nil
  | x :: xs => .cons (.str x) (dp_ss xs)
end
end Fp

local macro_rules | `(tactic| walk_at "sp") => `(tactic| first | exact Fp.v_wholeI | exact Fp.v_is_wholeI | exact Fp.v_whole (by assumption) | exact Fp.v_is_whole (by assumption) | exact Fp.v_cell_at (by walk_at "fact") (by first | decide | omega))
namespace Fp
open PySem PySem.Spec PyProof.Rows L2 LamX
/-! ### lists of the very same things, compared -/
def rNeI (K : PySem.W.Frag) : R2 := fun x y H Q => ∃ a b xs, x = .ref a ∧ y = .ref b ∧ SqL K H a xs ∧ SqL K H b xs ∧ (∀ v ∈ xs, flatB v = true ∨ ∃ c, v = .ref c) ∧ Q (.bl false) H
theorem vals_same {A : Around} {s : Shared} : ∀ {xs : List V} {us ws : List Value}, Vals xs us → Vals xs ws → (∀ v ∈ xs, flatB v = true ∨ ∃ c, v = .ref c) → ∀ j (h1 : j < us.length) (h2 : j < ws.length), SeqAt.EqAt A s us[j] ws[j] true
  | [], us, ws, r1, r2, _, j, h1, h2 => by
    cases r1
    exact absurd h1 (Nat.not_lt_zero j)
  | x :: xs, us, ws, r1, r2, hf, j, h1, h2 => by
    cases r1 with
    | cons a1 b1 =>
      cases r2 with
      | cons a2 b2 =>
        cases j with
        | zero =>
          rcases hf x List.mem_cons_self with f | ⟨c, rfl⟩
          · exact eqAt_same a1 a2 f
          · cases a1
            cases a2
            exact SeqAt.EqAt.same _
        | succ j => exact vals_same b1 b2 (fun v hv => hf v (List.mem_cons_of_mem _ hv)) j (Nat.lt_of_succ_lt_succ h1) (Nat.lt_of_succ_lt_succ h2)
theorem op_neI {X : Cx} (hu : X.A.units + 64 < cLine) : OpR X (compareOp .NotEq) (rNeI X.K) := by
  intro pins s σ H x y v u Q I rx ry h
  obtain ⟨a, b, xs, rfl, rfl, ha, hb, hf, q⟩ := h
  cases (show v = Value.ref a from rx)
  cases (show u = Value.ref b from ry)
  obtain ⟨us, r1, p1, _⟩ := I.list ha
  obtain ⟨ws, r2, p2, _⟩ := I.list hb
  have hsz : us.toArray.size = ws.toArray.size := by
    rw [List.size_toArray, List.size_toArray, ← r1.length, ← r2.length]
  refine (SeqAt.RcNeAt.lists (e := fun _ => true) p1.isList p2.isList hsz (by omega) fun j h1 h2 => ?_) X.prog X.w _ _ ⟨.bl false, H, I, ?_, q⟩
  · have k := vals_same (A := X.A.in1) (s := s) r1 r2 hf j (by simpa using h1) (by simpa using h2)
    simpa using k
  · show (_ : Value) = _
    rw [show ((List.range us.toArray.size).all fun _ => true) = true from List.all_eq_true.mpr fun _ _ => rfl]
    rfl
section
variable {T : List (Addr × Str)} {K : PySem.W.Frag} {H H1 : Hp} {a b : Addr} {xs : List V}
theorem rv_neI2 (ha : SqL K H a xs) (hb : SqL K H b xs) (hf : ∀ v ∈ xs, flatB v = true ∨ ∃ c, v = .ref c) : RV T (rNeI K) (.ref a) (.ref b) H (.bl false) := fun H1 e Q q => ⟨a, b, xs, rfl, rfl, e.l ha, e.l hb, hf, q H1 Mv.refl⟩
end
/-! ### what is no deed -/
def OddN (K : PySem.W.Frag) (H0 : Hp) : Hp → V → Prop := fun H v => OddV K (res H (nod H0)) v
def sp_l_odd (K : PySem.W.Frag) (T : List (Addr × Str)) : Sp := fun vs H Q _ => ∃ c, vs = [.int c] ∧ ∀ v H', Ex T H H' → OddN K H H' v → Q v H'
theorem len_l_odd {K : PySem.W.Frag} {T : List (Addr × Str)} : ∀ vs H Q E, sp_l_odd K T vs H Q E → vs.length = 1 := fun vs H Q E h => by
  obtain ⟨_, rfl, _⟩ := h
  exact rfl
def r_l_odd (K : PySem.W.Frag) (T : List (Addr × Str)) : TS :=
  (tSeq (tAsg (tLst (tCons (tC .non) (tCons (tC (.str "best")) (tCons (tTup (tCons (tC (.str "best")) (tCons (tC (.int 1)) tNil))) (tCons (tTup (tCons (tC (.str "ring")) tNil)) (tCons (tTup (tCons (tC (.str "ring")) (tCons (tC (.int 0)) (tCons (tC (.int 0)) tNil)))) (tCons (tLst (tCons (tC (.str "best")) tNil)) (tCons (tTup tNil) (tCons (tTup (tCons (tC (.str "Ring")) (tCons (tC (.int 0)) tNil))) (tCons (tTup (tCons (tC (.str "bar")) tNil)) (tCons (tTup (tCons (tC (.str "end")) tNil)) tNil))))))))))) (gName 1))
  (tSeq (tAsg (tOp rCat (tVar 1) (tLst (tCons (tTup (tCons (tC (.int 1)) (tCons (tC (.int 0)) tNil))) (tCons (tTup (tCons (tC (.str "take")) (tCons (tC .non) tNil))) (tCons (tTup (tCons (tC (.str "rings")) (tCons (tC (.int 0)) tNil))) (tCons (tTup (tCons (tLst tNil) tNil)) (tCons (tTup (tCons (tTup (tCons (tC (.str "best")) tNil)) tNil)) (tCons (tC (.bl true)) (tCons tDNewK (tCons (tTup (tCons (tC (.str "told")) tNil)) tNil)))))))))) (gName 1))
  (tRet (tOp (rIxL K) (tVar 1) (tOp oMod (tOp oMod (tOp oMul (tVar 0) (tC (.int 950706376))) (tC (.int 2147483647))) (tC (.int 18)))))))
section
variable {T : List (Addr × Str)} {K : PySem.W.Frag} {H H' H0 H1 H2 : Hp} {Q : VK} {E : XK} {vs xs r : List V} {v x : V} {a : Addr} {w : Str} {ds : List PyData} {σ : L2.St} {te ta tb : TE} {P : Hp → V → Prop} {m : Nat} {ts : TA} {n : Nat}
theorem OddV.sub (s : Sub H H') (h : OddV K H v) : OddV K H' v := by
  obtain ⟨h1, h2⟩ := h
  refine ⟨by rw [kd_subE s h1]; exact h1, h2.imp (fun h => by rw [kd_subE s h1]; exact h) ?_⟩
  rintro ⟨t, xs, rfl, ht, ⟨ds, hD, hs⟩, hx, h⟩
  refine ⟨t, xs, rfl, s _ _ ht rfl, ⟨ds, s.dps hD, hs⟩, fun x hm => by rw [kd_subE s (hx x hm)]; exact hx x hm, h.imp id (Or.imp (fun ⟨x, r, ex, hk⟩ => ⟨x, r, ex, ?_⟩) id)⟩
  rw [kd_subE s (hx x (by rw [ex]; exact List.mem_cons_self))]
  exact hk
theorem sub_back (e : Ex T H0 H1) : Sub (res H2 (nod H1)) (res H2 (nod H0)) := fun y o h z => by
  obtain ⟨sy, hy⟩ := res_of h
  rw [res_at (e.dm y sy)]
  exact hy
theorem st_odd : St T (OddN K H0) := fun H H' v e h => OddV.sub (fun y o h z => by
  obtain ⟨sy, hy⟩ := res_of h
  rw [res_at sy]
  exact e.at hy z) h
theorem odd_k (h : kd H v ≠ "") (h2 : kd H v ≠ "tuple") : OddV K H v := ⟨h, .inl h2⟩
theorem odd_w (h : H a = some (.tup (.str w :: r))) (hd : DpAll K H r ds) (hs : SeqAt.shaped (.tuple (.str w :: ds)) = true) (hk : ∀ x ∈ r, kd H x ≠ "") (hn : ((1 + r.length : Nat) : Int) ≠ partsN w) : OddV K H (.ref a) :=
  ⟨by rw [kd_t h]; decide, .inr ⟨a, _, rfl, h, ⟨_, .cons (.str w) hd, hs⟩, fun x hx => by
    rcases List.mem_cons.mp hx with rfl | hx
    · simp [kd]
    · exact hk x hx, .inr (.inr ⟨w, r, rfl, by rw [List.length_cons, Nat.add_comm]; exact hn⟩)⟩⟩
theorem odd_x (h : H a = some (.tup (x :: r))) (hd : DpAll K H (x :: r) ds) (hs : SeqAt.shaped (.tuple ds) = true) (hk : ∀ y ∈ x :: r, kd H y ≠ "") (hx : kd H x ≠ "str") : OddV K H (.ref a) :=
  ⟨by rw [kd_t h]; decide, .inr ⟨a, _, rfl, h, ⟨_, hd, hs⟩, hk, .inr (.inl ⟨x, r, rfl, hx⟩)⟩⟩
theorem odd_0 (h : H a = some (.tup [])) : OddV K H (.ref a) := ⟨by rw [kd_t h]; decide, .inr ⟨a, _, rfl, h, ⟨[], .nil, rfl⟩, (fun x hx => by cases hx), .inl rfl⟩⟩
theorem er_tup1L (h : EvL T te σ H xs) : EvR T (tTup (tCons te tNil)) σ H (fun H1 v H2 => ∃ a l, v = .ref a ∧ nod H1 a ∧ nod H1 l ∧ H2 a = some (.tup [.ref l]) ∧ H2 l = some (.lst xs)) := fun H1 e Q q =>
  h H1 e _ fun v H2 e2 ⟨l, ev, nl, hl⟩ => by
    subst ev
    exact ⟨sz (by simp), fun p hp => q _ _ (e2.trans (Mv.new hp)) ⟨p, l, rfl, e2.nod hp, nl, upd_same, (Mv.new (T := T) (S := no) hp).at hl⟩⟩
theorem er_tup1U (h : EvU T te σ H xs) : EvR T (tTup (tCons te tNil)) σ H (fun H1 v H2 => ∃ a l, v = .ref a ∧ nod H1 a ∧ nod H1 l ∧ H2 a = some (.tup [.ref l]) ∧ H2 l = some (.tup xs)) := fun H1 e Q q =>
  h H1 e _ fun v H2 e2 ⟨l, ev, nl, hl⟩ => by
    subst ev
    exact ⟨sz (by simp), fun p hp => q _ _ (e2.trans (Mv.new hp)) ⟨p, l, rfl, e2.nod hp, nl, upd_same, (Mv.new (T := T) (S := no) hp).at hl⟩⟩
theorem eq_dN (s : St T P) (hp : ∀ H1 a, nod H a → H1 a = some (.dK []) → P H1 (.ref a)) (ht : EvQ T ts σ H n P) : EvQ T (tCons tDNewK ts) σ H (n + 1) P := eq_cons s (er_newD.imp fun _ _ _ e _ ⟨a, ev, na, h⟩ => by rw [ev]; exact hp _ a (e.dm _ na) h) ht
theorem er_catVQ (s : St T P) (ha : Ev T ta σ H (.ref a)) (hx : H a = some (.lst xs)) (hP : ∀ x ∈ xs, P H x) (hb : EvR T tb σ H (newQ m P)) (hz : xs.length + m ≤ 100000) : EvR T (tOp rCat ta tb) σ H (newQ (xs.length + m) P) := fun H1 e Q q =>
  ha H1 e _ fun H2 e2 => hb H2 (e.trans e2) _ fun v H3 e3 ⟨b, ys, ev, nb, hy, ly, hQ⟩ => by
    subst ev
    refine ⟨a, b, xs, ys, rfl, rfl, ((e.trans e2).trans e3).at hx, hy, sz (by rw [ly]; exact hz), fun l hl => q _ _ ((e2.trans e3).trans (Mv.new hl)) ⟨l, xs ++ ys, rfl, (e2.trans e3).nod hl, upd_same, by rw [List.length_append, ly], fun z hz => s _ _ _ (Mv.new hl) ?_⟩⟩
    rcases List.mem_append.mp hz with h | h
    · exact s _ _ _ ((e.trans e2).trans e3) (hP z h)
    · exact hQ z h
theorem v_odd {c : Int} : SpR T (sp_l_odd K T) [.int c] H (fun H1 v H2 => OddN K H1 H2 v) := fun H1 e Q q E => ⟨c, rfl, fun v H' e' h => q v H' e' h⟩
theorem p_l_odd (h : sp_l_odd K T vs H Q E) : r_l_odd K T { nx := fun _ H' => Q .non H', rt := Q } (start ["_law_cell", "_law_some"] vs) H := by
  obtain ⟨c, rfl, k⟩ := h
  unfold r_l_odd
  have st : St T (OddN K H) := st_odd
  have wd : ∀ {H1 : Hp} {a : Addr} (w : Str) (r : List V) (ds : List PyData), (∀ H2, DpAll K H2 r ds) → SeqAt.shaped (.tuple (.str w :: ds)) = true → (∀ H2, ∀ x ∈ r, kd H2 x ≠ "") → ((1 + r.length : Nat) : Int) ≠ partsN w → nod H a → H1 a = some (.tup (.str w :: r)) → OddN K H H1 (.ref a) := fun {H1 a} w r ds h1 h2 h3 h4 n h => odd_w (r := r) (by rw [res_at n]; exact h) (h1 _) h2 (h3 _) h4
  refine q_asgR (Mv.of T H) (er_lstQ (n := 10) st (eq_v st (ev_c (v := .non)) (fun _ => odd_k (by simp [kd]) (by simp [kd])) (eq_v st (ev_c (v := .str "best")) (fun _ => odd_k (by simp [kd]) (by simp [kd]))
    (eq_uN st (eu_tup (vs := [.str "best", .int 1]) (ea_cons ev_c (ea_cons ev_c ea_nil)) (by simp)) (fun _ _ n h => wd "best" [.int 1] [.int 1] (fun _ => .cons (.int 1) .nil) (by decide +kernel) (by simp [kd]) (by decide +kernel) n h)
    (eq_uN st (eu_tup (vs := [.str "ring"]) (ea_cons ev_c ea_nil) (by simp)) (fun _ _ n h => wd "ring" [] [] (fun _ => .nil) (by decide +kernel) (by simp) (by decide +kernel) n h)
    (eq_uN st (eu_tup (vs := [.str "ring", .int 0, .int 0]) (ea_cons ev_c (ea_cons ev_c (ea_cons ev_c ea_nil))) (by simp)) (fun _ _ n h => wd "ring" [.int 0, .int 0] [.int 0, .int 0] (fun _ => .cons (.int 0) (.cons (.int 0) .nil)) (by decide +kernel) (by simp [kd]) (by decide +kernel) n h)
    (eq_lN st (el_lst (vs := [.str "best"]) (ea_cons ev_c ea_nil) (by simp)) (fun _ _ n h => odd_k (by rw [kd_l (by rw [res_at n]; exact h)]; decide) (by rw [kd_l (by rw [res_at n]; exact h)]; decide))
    (eq_uN st (eu_tup ea_nil (by simp)) (fun _ _ n h => odd_0 (by rw [res_at n]; exact h))
    (eq_uN st (eu_tup (vs := [.str "Ring", .int 0]) (ea_cons ev_c (ea_cons ev_c ea_nil)) (by simp)) (fun _ _ n h => wd "Ring" [.int 0] [.int 0] (fun _ => .cons (.int 0) .nil) (by decide +kernel) (by simp [kd]) (by decide +kernel) n h)
    (eq_uN st (eu_tup (vs := [.str "bar"]) (ea_cons ev_c ea_nil) (by simp)) (fun _ _ n h => wd "bar" [] [] (fun _ => .nil) (by decide +kernel) (by simp) (by decide +kernel) n h)
    (eq_uN st (eu_tup (vs := [.str "end"]) (ea_cons ev_c ea_nil) (by simp)) (fun _ _ n h => wd "end" [] [] (fun _ => .nil) (by decide +kernel) (by simp) (by decide +kernel) n h) eq_nil)))))))))) (by decide)) fun v H1 σ2 hs e1 _ hv => ?_
  obtain ⟨p, xs, rfl, np, hp, lp, hP⟩ := hv
  subst hs
  have st1 : St T (OddN K H) := st_odd
  have dn : ∀ {H2 : Hp} {b : Addr}, nod H1 b → nod H b := fun n => e1.dm _ n
  refine q_asgR (Mv.of T H1) (er_catVQ (m := 8) st (a := p) (xs := xs) (by walk_at "ev") hp hP (er_lstQ (n := 8) st (eq_uN st (eu_tup (vs := [.int 1, .int 0]) (ea_cons ev_c (ea_cons ev_c ea_nil)) (by simp)) (fun _ _ n h => odd_x (by rw [res_at (dn (H2 := H) n)]; exact h) (.cons (.int 1) (.cons (.int 0) .nil)) (by decide +kernel) (by simp [kd]) (by simp [kd]))
    (eq_uN st (eu_tup (vs := [.str "take", .non]) (ea_cons ev_c (ea_cons ev_c ea_nil)) (by simp)) (fun _ _ n h => wd "take" [.non] [.none] (fun _ => .cons .non .nil) (by decide +kernel) (by simp [kd]) (by decide +kernel) (dn (H2 := H) n) h)
    (eq_uN st (eu_tup (vs := [.str "rings", .int 0]) (ea_cons ev_c (ea_cons ev_c ea_nil)) (by simp)) (fun _ _ n h => wd "rings" [.int 0] [.int 0] (fun _ => .cons (.int 0) .nil) (by decide +kernel) (by simp [kd]) (by decide +kernel) (dn (H2 := H) n) h)
    (eq_cons st ((er_tup1L (el_lst ea_nil (by simp))).imp fun H3 v H4 e _ ⟨a, l, ev, na, nl, ha, hl⟩ => by
      subst ev
      have n1 := dn (H2 := H) (e.dm _ na)
      have n2 := dn (H2 := H) (e.dm _ nl)
      have hl' : res H4 (nod H) l = some (.lst []) := by rw [res_at n2]; exact hl
      exact odd_x (ds := [.list []]) (by rw [res_at n1]; exact ha) (.cons (.lst (.inl (.inl hl')) .nil) .nil) (by decide +kernel) (fun y hy => by rw [List.mem_singleton.mp hy, kd_l hl']; decide) (by rw [kd_l hl']; decide))
    (eq_cons st ((er_tup1U (eu_tup (vs := [.str "best"]) (ea_cons ev_c ea_nil) (by simp))).imp fun H3 v H4 e _ ⟨a, l, ev, na, nl, ha, hl⟩ => by
      subst ev
      have n1 := dn (H2 := H) (e.dm _ na)
      have n2 := dn (H2 := H) (e.dm _ nl)
      have hl' : res H4 (nod H) l = some (.tup [.str "best"]) := by rw [res_at n2]; exact hl
      exact odd_x (ds := [.tuple [.str "best"]]) (by rw [res_at n1]; exact ha) (.cons (.tup (.inl (.inl hl')) (.cons (.str _) .nil)) .nil) (by decide +kernel) (fun y hy => by rw [List.mem_singleton.mp hy, kd_t hl']; decide) (by rw [kd_t hl']; decide))
    (eq_v st (ev_c (v := .bl true)) (fun _ => odd_k (by simp [kd]) (by simp [kd]))
    (eq_dN st (fun _ _ n h => odd_k (by rw [kd_d (by rw [res_at (dn (H2 := H) n)]; exact h)]; decide) (by rw [kd_d (by rw [res_at (dn (H2 := H) n)]; exact h)]; decide))
    (eq_uN st (eu_tup (vs := [.str "told"]) (ea_cons ev_c ea_nil) (by simp)) (fun _ _ n h => wd "told" [] [] (fun _ => .nil) (by decide +kernel) (by simp) (by decide +kernel) (dn (H2 := H) n) h) eq_nil)))))))) (by decide)) (by rw [lp]; decide)) fun v H2 σ2 hs e2 _ hv => ?_
  obtain ⟨p2, ys, rfl, np2, hp2, lp2, hP2⟩ := hv
  subst hs
  rw [lp] at lp2
  obtain ⟨y, hy, hx⟩ := atI_in (xs := ys) (i := c * 950706376 % 2147483647 % 18) (Int.emod_nonneg _ (by decide)) (by rw [lp2]; exact Int.emod_lt_of_pos _ (by decide))
  refine s_ret (v := y) (Mv.of T H2) (ev_op (x := .ref p2) (y := .int (c * 950706376 % 2147483647 % 18)) (by walk_at "ev") (by walk_at "ev") (rv_ixL (.inl (.inl hp2)) hx)) fun H3 e3 => k y H3 ((e1.trans e2).trans e3) (st _ _ _ e3 (hP2 y hy))
end
end Fp

local macro_rules | `(tactic| walk_at "sp") => `(tactic| first | exact Fp.v_wholeI | exact Fp.v_is_wholeI | exact Fp.v_whole (by assumption) | exact Fp.v_is_whole (by assumption) | exact Fp.v_cell_at (by walk_at "fact") (by first | decide | omega))
namespace Fp
open PySem PySem.Spec PyProof.Rows L2 LamX
structure Mks (K : PySem.W.Frag) : Prop where
  bw : BdC K "Wide"
  bf : BdC K "Few"
  pc : PgC K
def BSt.few (s : BSt) (m : Int) : BSt := { s with pegs := some (.make s.ranks m s.here) }
structure NdK (K : PySem.W.Frag) : Prop where
  ox : OexC K (He.ga K "NoDeed")
  no : ∀ f ∈ (["place"] : List Str), PySem.W.findIn K (.ref (He.ga K "NoDeed")) f = some none
  x : Xk2 K eight "NoDeed"
/-- the n-th is the first that is no deed -/
def Bad (K : PySem.W.Frag) (H : Hp) (th : List V) (n : Nat) : Prop := ∃ y, th[n]? = some y ∧ (∀ i < n, ∀ x, th[i]? = some x → ∃ t d, x = .ref t ∧ DeedAt K H t d) ∧ OddV K H y
/-- a row that is refused -/
structure RowX (T : List (Addr × Str)) (K : PySem.W.Frag) (H : Hp) (b q : Addr) (n : Nat) : Prop where
  ex : ∃ c s, ∃ H0 : Hp, ∃ own : Addr → Nat, ∃ k th, WoD c ∧ Hd T H0 H own [(k, brdH T K c b s), (0, atH T q th)] ∧ 0 < k ∧ k < 9 ∧ BWf s ∧ Tabs T H0 ∧ List.length th ≤ 1000 ∧ Xk3 K ∧ NdK K ∧ Bad K H th n
def newNP (n : Int) : Hp → V → Hp → Prop := fun H v H' => ∃ t l, v = .ref t ∧ nod H t ∧ nod H l ∧ H' t = some (.tup [.ref l, .int n]) ∧ H' l = some (.lst [.str "row", .str "value"])
def sp_l_refused (K : PySem.W.Frag) (T : List (Addr × Str)) : Sp := fun vs H Q _ => ∃ b q n, vs = [.ref b, .ref q] ∧ RowX T K H b q n ∧ ∀ v H', Ex T H H' → newNP n H v H' → Q v H'
def sp_l_caught (K : PySem.W.Frag) (T : List (Addr × Str)) : Sp := fun vs H Q _ => ∃ b q n, vs = [.ref b, .ref q] ∧ RowX T K H b q n ∧ ∀ v H', Ex T H H' → newL [.str "row", .str "value"] H v H' → Q v H'
def bcl (ns : List Int) : Str := if cellAt ns 2 % 2 = 0 then "Few" else "Wide"
def bpg (ns : List Int) : Int := 1 + cellAt ns 2 * 764261123 % 2147483647 % 16
def bst (ns : List Int) (s : BSt) : BSt := if cellAt ns 2 % 2 = 0 then s.few (bpg ns) else s
def sp_l_board (K : PySem.W.Frag) (T : List (Addr × Str)) : Sp := fun vs H Q _ => ∃ p r t ns x y z s, vs = [.ref p, .ref r, .ref t] ∧ SqL K H p (List.map V.int ns) ∧ SqL K H r (List.map V.int (BSt.ranks s)) ∧ Pc H t x y z (BSt.d3 s) s.edge ∧ BWf s ∧ s.pegs = none ∧ Mks K ∧ Tabs T H ∧ ∀ v H', Ex T H H' → newBrd K (bcl ns) (bst ns s) H v H' → Q v H'
def newSp (K : PySem.W.Frag) (l : List (Addr × Dd)) : Hp → V → Hp → Prop := fun H v H' => ∃ t b n th y, v = .ref t ∧ nod H t ∧ nod H b ∧ H' t = some (.tup [.int (n : Nat), .ref b]) ∧ H' b = some (.lst th) ∧ th.length ≤ 32 ∧ th[n]? = some y ∧ (∀ i < n, ∀ x, th[i]? = some x → ∃ p ∈ l, x = .ref p.1) ∧ OddN K H H' y ∧ ∀ x ∈ th, flatB x = true ∨ ∃ c, x = .ref c
def sp_l_spoiled (K : PySem.W.Frag) (T : List (Addr × Str)) : Sp := fun vs H Q _ => ∃ q p ns l, vs = [.ref q, .ref p] ∧ H q = some (.lst (List.map (fun p : Addr × Dd => V.ref p.1) l)) ∧ SqL K H p (List.map V.int ns) ∧ List.length l ≤ 30 ∧ ∀ v H', Ex T H H' → newSp K l H v H' → Q v H'
theorem len_l_refused {K : PySem.W.Frag} {T : List (Addr × Str)} : ∀ vs H Q E, sp_l_refused K T vs H Q E → vs.length = 2 := fun vs H Q E h => by
  obtain ⟨_, _, _, rfl, _⟩ := h
  exact rfl
theorem len_l_caught {K : PySem.W.Frag} {T : List (Addr × Str)} : ∀ vs H Q E, sp_l_caught K T vs H Q E → vs.length = 2 := fun vs H Q E h => by
  obtain ⟨_, _, _, rfl, _⟩ := h
  exact rfl
theorem len_l_board {K : PySem.W.Frag} {T : List (Addr × Str)} : ∀ vs H Q E, sp_l_board K T vs H Q E → vs.length = 3 := fun vs H Q E h => by
  obtain ⟨_, _, _, _, _, _, _, _, rfl, _⟩ := h
  exact rfl
theorem len_l_spoiled {K : PySem.W.Frag} {T : List (Addr × Str)} : ∀ vs H Q E, sp_l_spoiled K T vs H Q E → vs.length = 2 := fun vs H Q E h => by
  obtain ⟨_, _, _, _, rfl, _⟩ := h
  exact rfl
def r_l_refused (K : PySem.W.Frag) (T : List (Addr × Str)) : TS :=
  (tSeq (tAsg (tLst tNil) (gName 2))
  (tSeq (tAsg (tC .non) (gName 3))
  (tSeq (tTryAs K (.ref (He.ga K "NoDeed")) 4 (fun W => (tDrop (tCallS (sp_play K T) (WE W) (tCons (tVar 0) (tCons (tVar 1) tNil))))) (fun a cls d Dn σ H => ∃ D : Addr, (cls = .ref D ∧ ErrC K D ["place"]) ∧ (tSeq (tAsg (tCallE a (.ref D) d (sp_l_names K T) (tVar 4)) (gName 2))
  (tAsg (tXf a (.ref D) d D "place" (tVar 4)) (gName 3))) Dn σ H))
  (tRet (tTup (tCons (tVar 2) (tCons (tVar 3) tNil)))))))
def r_l_caught (K : PySem.W.Frag) (T : List (Addr × Str)) : TS :=
  (tSeq (tAsg (tLst tNil) (gName 2))
  (tSeq (tTryAs K (.ref (He.ga K "BoardError")) 3 (fun W => (tDrop (tCallS (sp_play K T) (WE W) (tCons (tVar 0) (tCons (tVar 1) tNil))))) (fun a cls d Dn σ H => ∃ D : Addr, (cls = .ref D ∧ ErrC K D []) ∧ (tAsg (tCallE a (.ref D) d (sp_l_names K T) (tVar 3)) (gName 2)) Dn σ H))
  (tRet (tVar 2))))
def r_l_board (K : PySem.W.Frag) (T : List (Addr × Str)) : TS :=
  (tSeq (tAsg (tOp oAdd (tC (.int 1)) (tOp oMod (tOp oMod (tOp oMul (tCall (sp_l_cell_at K T) [] E0 (tCons (tVar 0) (tCons (tC (.int 2)) tNil))) (tC (.int 764261123))) (tC (.int 2147483647))) (tC (.int 16)))) (gName 3))
  (tSeq (tIfS (tTest (tOp rEq (tOp oMod (tCall (sp_l_cell_at K T) [] E0 (tCons (tVar 0) (tCons (tC (.int 2)) tNil))) (tC (.int 2))) (tC (.int 0)))) (tRet (tMake (He.ga K "Few") (sp_Few_init K T) [] E0 (tCons (tCB (rLst K) (tCons (tVar 1) tNil)) (tCons (tVar 3) (tCons (tCall (sp_l_copy K T) [] E0 (tCons (tVar 2) tNil)) tNil))))) tNext)
  (tRet (tMake (He.ga K "Wide") (sp_B_init K T "Wide") [] E0 (tCons (tCB (rLst K) (tCons (tVar 1) tNil)) (tCons (tCall (sp_l_copy K T) [] E0 (tCons (tVar 2) tNil)) tNil))))))
def r_l_spoiled (K : PySem.W.Frag) (T : List (Addr × Str)) : TS :=
  (tSeq (tAsg (tCall (sp_l_cell_at K T) [] E0 (tCons (tVar 1) (tCons (tC (.int 3)) tNil))) (gName 2))
  (tSeq (tAsg (tOp oMod (tOp oMod (tOp oMul (tVar 2) (tC (.int 742938285))) (tC (.int 2147483647))) (tOp oAdd (tCB (rLen K) (tCons (tVar 0) tNil)) (tC (.int 1)))) (gName 3))
  (tSeq (tAsg (tOp rCat (tOp rCat (tSl (rSlL K) (tVar 0) tNoPart (tPart (tVar 3))) (tLst (tCons (tCall (sp_l_odd K T) [] E0 (tCons (tVar 2) tNil)) tNil))) (tSl (rSlL K) (tVar 0) (tPart (tVar 3)) tNoPart)) (gName 4))
  (Evl.tCut (tIfS (tTest (tOp rEq (tOp oMod (tVar 2) (tC (.int 2))) (tC (.int 1)))) (tSeq (tAsg (tOp oAdd (tOp oAdd (tVar 3) (tC (.int 1))) (tOp oMod (tOp oMod (tOp oMul (tVar 2) (tC (.int 1226874159))) (tC (.int 2147483647))) (tOp oSub (tCB (rLen K) (tCons (tVar 4) tNil)) (tVar 3)))) (gName 5))
  (tAsg (tOp rCat (tOp rCat (tSl (rSlL K) (tVar 4) tNoPart (tPart (tVar 5))) (tLst (tCons (tCall (sp_l_odd K T) [] E0 (tCons (tCall (sp_l_cell_at K T) [] E0 (tCons (tVar 1) (tCons (tC (.int 4)) tNil))) tNil)) tNil))) (tSl (rSlL K) (tVar 4) (tPart (tVar 5)) tNoPart)) (gName 4))) tNext)
  (tRet (tTup (tCons (tVar 3) (tCons (tVar 4) tNil))))))))
section
variable {T : List (Addr × Str)} {K : PySem.W.Frag} {H H0 H1 : Hp} {Q : VK} {E : XK} {vs ws xs : List V} {σ : L2.St} {t1 t2 t3 t4 t5 ta ti tx : TE} {x y z w v : V} {R : Hp → V → Hp → Prop} {D : Ends} {s : BSt} {r t px py pz b q : Addr} {m i : Int} {n o : Nat} {ns : List Int} {l : List (Addr × Dd)}
theorem ear_lr (h1 : EvL T t1 σ H xs) (h2 : EvR T t2 σ H R) : EvAR T (tCons t1 (tCons t2 tNil)) σ H (fun H1 vs H4 => ∃ l v H3, vs = [.ref l, v] ∧ H4 l = some (.lst xs) ∧ Ex T H1 H3 ∧ R H3 v H4) := fun H1 e Q q =>
  h1 H1 e _ fun _ H2 e2 ⟨l, el, _, hl⟩ => by
    subst el
    exact h2 H2 (e.trans e2) _ fun v H3 e3 r => q [.ref l, v] H3 (e2.trans e3) ⟨l, v, H2, rfl, e3.at hl, e2, r⟩
theorem few_tw {m : Int} (h : s.pegs = none) : Tw s (s.few m) := ⟨by cases s; cases h; rfl, _, rfl⟩
theorem er_wide (M : Mks K) (h1 : Ev T t1 σ H (.ref r)) (h2 : Ev T t2 σ H (.ref t)) (hr : SqL K H r (s.ranks.map V.int)) (P : Pc H t px py pz s.d3 s.edge) (wf : BWf s) (pg : s.pegs = none) : EvR T (tMake (He.ga K "Wide") (sp_B_init K T "Wide") [] E0 (tCons (tCB (rLst K) (tCons t1 tNil)) (tCons (tCall (sp_l_copy K T) [] E0 (tCons t2 tNil)) tNil))) σ H (newBrd K "Wide" s) := by
  have eW := PcW.eqW (s := s) (rs := s.ranks) ⟨wf, pg, rfl⟩
  refine er_mkR (ear_lr (el_list h1 (.inl hr)) (er_call0 (ea_cons h2 ea_nil) (v_l_copy P) newPc_back)) fun H4 ws H5 e4 e5 hw => ?_
  obtain ⟨l, v, H6, rfl, hl, e6, t', x', y', z', rfl, _, P'⟩ := hw
  exact EvR.imp (eW ▸ er_brdW (z := .ref t') ea_hand rfl (kd_l hl) (.inl (.inl hl)) wf.n1 wf.n60 wf.rk (.inr (P'.picT wf)) M.bw) fun H7 v H8 e7 e8 hn e58 => newBrd_back _ _ _ _ e4 (e5.trans e7) e8 hn
theorem er_few (M : Mks K) (tb : Tabs T H) (h1 : Ev T t1 σ H (.ref r)) (h3 : Ev T t3 σ H (.int m)) (h2 : Ev T t2 σ H (.ref t)) (hr : SqL K H r (s.ranks.map V.int)) (P : Pc H t px py pz s.d3 s.edge) (wf : BWf s) (pg : s.pegs = none) (m1 : 1 ≤ m) (m2 : m ≤ 16) : EvR T (tMake (He.ga K "Few") (sp_Few_init K T) [] E0 (tCons (tCB (rLst K) (tCons t1 tNil)) (tCons t3 (tCons (tCall (sp_l_copy K T) [] E0 (tCons t2 tNil)) tNil)))) σ H (newBrd K "Few" (s.few m)) := by
  have eF : BSt.mkF s.ranks s.d3.x s.d3.y s.d3.z s.edge m = s.few m := PcW.mkF (m := m) (s := s) (rs := s.ranks) ⟨wf, pg, rfl⟩
  refine er_mkR (ear_lvr (el_list h1 (.inl hr)) h3 (er_call0 (ea_cons h2 ea_nil) (v_l_copy P) newPc_back)) fun H4 ws H5 e4 e5 hw => ?_
  obtain ⟨l, v, H6, rfl, _, hl, e6, t', x', y', z', rfl, _, P'⟩ := hw
  exact EvR.imp (eF ▸ er_brdF (z := .ref t') (m := m) ea_hand rfl (kd_l hl) (.inl (.inl hl)) wf.n1 wf.n60 wf.rk (.inr (P'.picT wf)) m1 m2 M.bf M.pc ((e4.trans e5).tb tb)) fun H7 v H8 e7 e8 hn e58 => newBrd_back _ _ _ _ e4 (e5.trans e7) e8 hn
theorem RowX.ex' (h : RowX T K H b q n) (e : Ex T H H1) : RowX T K H1 b q n := by
  obtain ⟨c, s, H0, own, k, th, hc, L, k0, k9, wf, tb, hn, X, N, y, h1, h2, h3⟩ := h.ex
  exact ⟨c, s, H0, own, k, th, hc, L.ex' e, k0, k9, wf, tb, hn, X, N, y, h1, fun i hi x hx => by
    obtain ⟨t, d, e1, e2⟩ := h2 i hi x hx
    exact ⟨t, d, e1, e2.ex e⟩, h3.ex e⟩
theorem nm_row : nmL "NoDeed" = [("row" : Str), ("value" : Str)] := by decide +kernel
theorem newNP_back : ∀ H1 H2 v H3, Ex T H H1 → Ex T H1 H2 → Ex T H2 H3 → newNP i H2 v H3 → newNP i H1 v H3 := fun _ _ _ _ _ e _ ⟨t, l, h1, h2, h3, h4⟩ => ⟨t, l, h1, e.dm _ h2, e.dm _ h3, h4⟩
theorem v_refused (h : RowX T K H b q n) : SpR T (sp_l_refused K T) [.ref b, .ref q] H (newNP n) := fun H1 e Q k E => ⟨b, q, n, rfl, h.ex' e, k⟩
theorem v_caught (h : RowX T K H b q n) : SpR T (sp_l_caught K T) [.ref b, .ref q] H (newL [.str "row", .str "value"]) := fun H1 e Q k E => ⟨b, q, n, rfl, h.ex' e, k⟩
/-- play refuses the row -/
theorem row_play (h : RowX T K H b q n) (k : ∀ H' dd, Ex T H H' → H' dd = none → E (.ref (He.ga K "NoDeed")) (some dd) (upd H' dd (.xd [("place", .int n)]))) : sp_play K T [.ref b, .ref q] H Q E := by
  obtain ⟨c, s, H0, own, k', th, hc, L, k0, k9, wf, tb, hn, X, N, y, h1, h2, h3⟩ := h.ex
  exact ⟨b, q, c, s, H0, own, k', [], th, rfl, hc, L, (fun p hp => by cases hp), k0, k9, wf, tb, hn, X, .inr ⟨n, y, h1, h2, h3, N.ox, N.no, k⟩⟩
theorem p_l_refused (h : sp_l_refused K T vs H Q E) : r_l_refused K T { nx := fun _ H' => Q .non H', rt := Q } (start ["_law_board_here", "_law_row", "_law_found", "_law_place", "_law_e"] vs) H := by
  obtain ⟨b, q, n, rfl, h, k⟩ := h
  obtain ⟨_, _, _, _, _, _, _, _, _, _, _, _, _, _, N, _⟩ := h.ex
  unfold r_l_refused
  refine q_asgR (Mv.of T H) (el_lst ea_nil (by decide)) fun v H1 σ2 hs e1 _ hv => ?_
  obtain ⟨k0, rfl, _, _⟩ := hv
  subst hs
  refine q_asg (v := .non) e1 ev_c rfl fun H2 e2 _ => ?_
  refine w_callS (T := T) (vs := [.ref b, .ref q]) (by walk_at "ea") fun H3 e3 => row_play (h.ex' (e2.trans e3)) fun H4 dd e4 hd => ?_
  refine ⟨true, by rw [N.x.exm "NoDeed" (by decide)]; simp, fun _ x hx => ⟨_, ⟨rfl, ⟨N.x.err.exc, N.x.err.xf, N.no⟩⟩, ?_⟩, fun z => nomatch z⟩
  have e5 : Ex T H4 (upd H4 dd (.xd [("place", .int n)])) := Mv.new hd
  have hdd : upd H4 dd (.xd [("place", .int n)]) dd = some (.xd [("place", .int n)]) := upd_same
  have e05 := ((e2.trans e3).trans e4).trans e5
  generalize upd H4 dd (.xd [("place", .int n)]) = H5 at hdd e05
  have xd : XdH H5 (some dd) := .inr ⟨dd, _, rfl, hdd⟩
  refine names_told (T := T) (i := 4) rfl xd N.x fun v H6 e6 hv => ?_
  obtain ⟨l, rfl, nl, hl⟩ := hv
  rw [nm_row] at hl
  refine nameI ?_
  refine s_asg (T := T) (v := .int n) (Mv.of T H6) (ev_xf (f := "place") (te := tVar 4) (ev_var rfl) (e6.at hdd) rfl) fun H7 e7 _ => ?_
  refine s_retR (T := T) (Mv.of T H7) (eu_tup (vs := [.ref l, .int n]) (ea_cons (ev_var rfl) (ea_cons (ev_var rfl) ea_nil)) (by simp)) fun v H8 e8 _ hv => ?_
  obtain ⟨t, rfl, nt, ht⟩ := hv
  have e07 := (e05.trans e6).trans e7
  exact k _ _ (e07.trans e8) ⟨t, l, rfl, e07.dm _ nt, e05.dm _ nl, ht, (e7.trans e8).at hl⟩
theorem p_l_caught (h : sp_l_caught K T vs H Q E) : r_l_caught K T { nx := fun _ H' => Q .non H', rt := Q } (start ["_law_board_here", "_law_row", "_law_found", "_law_e"] vs) H := by
  obtain ⟨b, q, n, rfl, h, k⟩ := h
  obtain ⟨_, _, _, _, _, _, _, _, _, _, _, _, _, _, N, _⟩ := h.ex
  unfold r_l_caught
  refine q_asgR (Mv.of T H) (el_lst ea_nil (by decide)) fun v H2 σ2 hs e2 _ hv => ?_
  obtain ⟨k0, rfl, _, _⟩ := hv
  subst hs
  refine w_callS (T := T) (vs := [.ref b, .ref q]) (by walk_at "ea") fun H3 e3 => row_play (h.ex' (e2.trans e3)) fun H4 dd e4 hd => ?_
  refine ⟨true, by rw [N.x.exm "BoardError" (by decide)]; simp, fun _ x hx => ⟨_, ⟨rfl, N.x.err⟩, ?_⟩, fun z => nomatch z⟩
  have e5 : Ex T H4 (upd H4 dd (.xd [("place", .int n)])) := Mv.new hd
  have hdd : upd H4 dd (.xd [("place", .int n)]) dd = some (.xd [("place", .int n)]) := upd_same
  have e05 := ((e2.trans e3).trans e4).trans e5
  generalize upd H4 dd (.xd [("place", .int n)]) = H5 at hdd e05
  have xd : XdH H5 (some dd) := .inr ⟨dd, _, rfl, hdd⟩
  refine names_told (T := T) (i := 3) rfl xd N.x fun v H6 e6 hv => ?_
  obtain ⟨l, rfl, nl, hl⟩ := hv
  rw [nm_row] at hl
  refine nameI ?_
  exact s_ret (T := T) (v := .ref l) (Mv.of T H6) (ev_var rfl) fun H7 e7 => k _ _ ((e05.trans e6).trans e7) ⟨l, rfl, e05.dm _ nl, e7.at hl⟩
theorem v_board (hp : SqL K H q (ns.map V.int)) (hr : SqL K H r (s.ranks.map V.int)) (P : Pc H t px py pz s.d3 s.edge) (wf : BWf s) (pg : s.pegs = none) (M : Mks K) (tb : Tabs T H) : SpR T (sp_l_board K T) [.ref q, .ref r, .ref t] H (newBrd K (bcl ns) (bst ns s)) := fun H1 e Q k E => ⟨q, r, t, ns, px, py, pz, s, rfl, e.l hp, e.l hr, P.ex e, wf, pg, M, e.tb tb, k⟩
theorem p_l_board (h : sp_l_board K T vs H Q E) : r_l_board K T { nx := fun _ H' => Q .non H', rt := Q } (start ["_law_script", "_law_ranks_here", "_law_picture", "_law_pegs"] vs) H := by
  obtain ⟨p, r, t, ns, x, y, z, s, rfl, hp, hr, P, wf, pg, M, tb, k⟩ := h
  unfold r_l_board
  have g0 := Int.emod_nonneg (cellAt ns 2 * 764261123 % 2147483647) (show (16 : Int) ≠ 0 by decide)
  have g1 := Int.emod_lt_of_pos (cellAt ns 2 * 764261123 % 2147483647) (show (0 : Int) < 16 by decide)
  refine q_asg (v := .int (bpg ns)) (Mv.of T H) (by unfold bpg; walk_at "ev") rfl fun H1 e1 _ => ?_
  have m1 : 1 ≤ bpg ns := by unfold bpg; omega
  have m2 : bpg ns ≤ 16 := by unfold bpg; omega
  have hp1 := e1.l hp
  refine q_if (b := decide (cellAt ns 2 % 2 = 0)) (Mv.of T H1) (by walk_at "et") (fun hb H2 e2 _ => ?_) (fun hb H2 e2 _ => nextI ?_)
  · have hz := of_decide_eq_true hb
    have e02 := e1.trans e2
    refine s_retR (Mv.of T H2) (er_few (m := bpg ns) M (e02.tb tb) (by walk_at "ev") (by walk_at "ev") (by walk_at "ev") (e02.l hr) (P.ex e02) wf pg m1 m2) fun v H3 e3 _ hv => k v H3 (e02.trans e3) ?_
    have ec : bcl ns = "Few" := if_pos hz
    have es : bst ns s = s.few (bpg ns) := if_pos hz
    rw [ec, es]
    exact newBrd_back (T := T) _ _ _ _ (Mv.of T H) e02 e3 hv
  · have hz := of_decide_eq_false hb
    dsimp only
    have e02 := e1.trans e2
    refine s_retR (Mv.of T H2) (er_wide M (by walk_at "ev") (by walk_at "ev") (e02.l hr) (P.ex e02) wf pg) fun v H3 e3 _ hv => k v H3 (e02.trans e3) ?_
    have ec : bcl ns = "Wide" := if_neg hz
    have es : bst ns s = s := if_neg hz
    rw [ec, es]
    exact newBrd_back (T := T) _ _ _ _ (Mv.of T H) e02 e3 hv
theorem kd_flat (h : kd H v ≠ "") : flatB v = true ∨ ∃ c, v = .ref c := by
  cases v <;> first | exact .inl rfl | exact .inr ⟨_, rfl⟩ | exact absurd rfl h
theorem ins_lt (h : n < o) (ho : o ≤ xs.length) : (xs.take o ++ [y] ++ xs.drop o)[n]? = xs[n]? := by
  rw [List.append_assoc, List.getElem?_append_left (by rw [List.length_take]; omega), List.getElem?_take, if_pos h]
theorem ins_at (ho : o ≤ xs.length) : (xs.take o ++ [y] ++ xs.drop o)[o]? = some y := by
  rw [List.append_assoc, List.getElem?_append_right (by rw [List.length_take]; omega), List.length_take, Nat.min_eq_left ho, Nat.sub_self]
  rfl
theorem ins_len (ho : o ≤ xs.length) : (xs.take o ++ [y] ++ xs.drop o).length = xs.length + 1 := by
  rw [List.length_append, List.length_append, List.length_take, List.length_drop, List.length_singleton]; omega
theorem ins_mem (h : x ∈ xs.take o ++ [y] ++ xs.drop o) : x = y ∨ x ∈ xs := by
  rcases List.mem_append.mp h with h | h
  · rcases List.mem_append.mp h with h | h
    · exact .inr (List.mem_of_mem_take h)
    · exact .inl (List.mem_singleton.mp h)
  · exact .inr (List.mem_of_mem_drop h)
/-- xs[:i] + [odd] + xs[i:] -/
theorem er_ins (ha : Ev T ta σ H (.ref q)) (hq : H q = some (.lst xs)) (hi : Ev T ti σ H (.int (o : Nat))) (ho : o ≤ xs.length) (hx : EvR T tx σ H (fun H1 v H2 => OddN K H1 H2 v)) (hz : xs.length ≤ 90000) : EvR T (tOp rCat (tOp rCat (tSl (rSlL K) ta tNoPart (tPart ti)) (tLst (tCons tx tNil))) (tSl (rSlL K) ta (tPart ti) tNoPart)) σ H (fun H1 v H2 => ∃ p y, v = .ref p ∧ nod H1 p ∧ H2 p = some (.lst (xs.take o ++ [y] ++ xs.drop o)) ∧ OddN K H H2 y) := fun H1 e Q k => by
  have A := el_sl (K := K) (T := T) ha eo_no (eo_part hi) (.inl (.inl hq))
  have C := el_sl (K := K) (T := T) ha (eo_part hi) eo_no (.inl (.inl hq))
  rw [cut_lo (by omega), Int.toNat_natCast] at A
  rw [cut_hi (by omega), Int.toNat_natCast] at C
  refine A H1 e _ fun v H2 e2 ⟨pa, ev, na, hpa⟩ => ?_
  subst ev
  refine (er_lstQ (n := 1) (P := OddN K H) st_odd (eq_cons st_odd (hx.imp fun H1 v H2 e _ h => OddV.sub (sub_back e) h) eq_nil) (by decide)) H2 (e.trans e2) _ fun v H3 e3 ⟨pb, ys, ev, nb, hpb, ly, hP⟩ => ?_
  subst ev
  obtain ⟨y, rfl⟩ : ∃ y, ys = [y] := List.length_eq_one_iff.mp ly
  refine ⟨pa, pb, _, _, rfl, rfl, e3.at hpa, hpb, sz (by rw [List.length_take, List.length_singleton]; omega), fun pc hc => ?_⟩
  have e4 : Ex T H3 (upd H3 pc (.lst (xs.take o ++ [y]))) := Mv.new hc
  have hpc : upd H3 pc (.lst (xs.take o ++ [y])) pc = some (.lst (xs.take o ++ [y])) := upd_same
  generalize upd H3 pc (.lst (xs.take o ++ [y])) = H4 at e4 hpc
  refine C H4 (e.trans (e2.trans (e3.trans e4))) _ fun v H5 e5 ⟨pd, ev, nd, hpd⟩ => ?_
  subst ev
  refine ⟨pc, pd, _, _, rfl, rfl, e5.at hpc, hpd, sz (by rw [List.length_append, List.length_take, List.length_singleton, List.length_drop]; omega), fun pe he => ?_⟩
  have e15 := e2.trans (e3.trans (e4.trans e5))
  exact k _ _ (e15.trans (Mv.new he)) ⟨pe, y, rfl, e15.nod he, upd_same, st_odd _ _ _ ((e4.trans e5).trans (Mv.new he)) (hP y List.mem_cons_self)⟩
theorem v_spoiled (hq : H q = some (.lst (l.map fun p => V.ref p.1))) (hp : SqL K H b (ns.map V.int)) (hl : l.length ≤ 30) : SpR T (sp_l_spoiled K T) [.ref q, .ref b] H (newSp K l) := fun H1 e Q k E => ⟨q, b, ns, l, rfl, e.at hq, e.l hp, hl, k⟩
theorem p_l_spoiled (h : sp_l_spoiled K T vs H Q E) : r_l_spoiled K T { nx := fun _ H' => Q .non H', rt := Q } (start ["_law_row", "_law_script", "_law_cell", "_law_at", "_law_bad", "_law_other"] vs) H := by
  obtain ⟨q, p, ns, l, rfl, hq, hp, hl, k⟩ := h
  unfold r_l_spoiled
  have ll : (l.map fun p => V.ref p.1).length = l.length := List.length_map _
  have hm : ∀ x ∈ l.map (fun p => V.ref p.1), ∃ p ∈ l, x = .ref p.1 := fun x hx => by
    obtain ⟨p, hp, e⟩ := List.mem_map.mp hx
    exact ⟨p, hp, e.symm⟩
  generalize l.map (fun p => V.ref p.1) = xs at hq ll hm
  refine q_asg (v := .int (cellAt ns 3)) (Mv.of T H) (by walk_at "ev") rfl fun H1 e1 _ => ?_
  have hq1 := e1.at hq
  have hp1 := e1.l hp
  generalize cellAt ns 3 = c
  have np : (0 : Int) < (xs.length : Int) + 1 := by omega
  refine q_asg (v := .int (c * 742938285 % 2147483647 % ((xs.length : Int) + 1))) (Mv.of T H1) (ev_op (x := .int (c * 742938285 % 2147483647)) (y := .int ((xs.length : Int) + 1)) (by walk_at "ev") (ev_op (ev_cb (ea_cons (x := .ref q) (by walk_at "ev") ea_nil) (rc_len (.inl (.inl (.inl hq1))))) ev_c rv_i0) (rv_i np)) rfl fun H2 e2 _ => ?_
  have a0 := Int.emod_nonneg (c * 742938285 % 2147483647) (show (xs.length : Int) + 1 ≠ 0 by omega)
  have a1 := Int.emod_lt_of_pos (c * 742938285 % 2147483647) np
  generalize c * 742938285 % 2147483647 % ((xs.length : Int) + 1) = at' at a0 a1
  obtain ⟨n, rfl⟩ := Int.eq_ofNat_of_zero_le a0
  have hn : n ≤ xs.length := by omega
  have e02 := e1.trans e2
  have hq2 := e02.at hq
  refine q_asgR (Mv.of T H2) (er_ins (q := q) (xs := xs) (o := n) (by walk_at "ev") hq2 (by walk_at "ev") hn (er_callR (R := fun H1 v H2 => OddN K H1 H2 v) (RA := fun H1 vs H2 => vs = [.int c] ∧ Ex T H1 H2) (fun H1 e Q q => (show EvA T (tCons (tVar 2) tNil) _ H2 [.int c] from by walk_at "ea") H1 e _ fun H3 e3 => q [.int c] H3 e3 ⟨rfl, e3⟩) fun H3 ws H4 e3 e4 ⟨ew, _⟩ => by
    subst ew
    intro H5 e5 Q q E
    exact v_odd (T := T) H5 Mv.refl Q (fun v H6 e6 h => q v H6 e6 fun e46 => OddV.sub (sub_back (e4.trans e5)) h) E) (by omega)) fun v H3 σ2 hs e3 _ hv => ?_
  obtain ⟨b, y, rfl, nb, hb, hy⟩ := hv
  subst hs
  have hp3 := (e02.trans e3).l hp
  have e03 := e02.trans e3
  have hy : OddN K H H3 y := OddV.sub (sub_back e02) hy
  have Z : ∃ th : List V, xs.take n ++ [y] ++ xs.drop n = th ∧ th.length = xs.length + 1 ∧ th[n]? = some y ∧ (∀ i < n, ∀ x, th[i]? = some x → ∃ p ∈ l, x = .ref p.1) ∧ ∀ x ∈ th, flatB x = true ∨ ∃ c, x = .ref c :=
    ⟨_, rfl, ins_len hn, ins_at hn, fun i hi x hx => by
      rw [ins_lt hi hn] at hx
      exact hm x (List.mem_of_getElem? hx), fun x hx => by
      rcases ins_mem hx with rfl | hx
      · exact kd_flat hy.1
      · obtain ⟨p, _, rfl⟩ := hm x hx
        exact .inr ⟨_, rfl⟩⟩
  obtain ⟨th, eth, lth, z1, z2, z3⟩ := Z
  rw [eth] at hb
  refine q_cut (fun σ' H' => ∃ b v5 th y, σ' = [some (.ref q), some (.ref p), some (.int c), some (.int (n : Nat)), some (.ref b), v5] ∧ Ex T H H' ∧ nod H b ∧ H' b = some (.lst th) ∧ th.length ≤ 32 ∧ th[n]? = some y ∧ (∀ i < n, ∀ x, th[i]? = some x → ∃ p ∈ l, x = .ref p.1) ∧ OddN K H H' y ∧ ∀ x ∈ th, flatB x = true ∨ ∃ c, x = .ref c) ?_ ?_
  · refine s_if (b := decide (c % 2 = 1)) (Mv.of T H3) (by walk_at "et") (fun _ H4 e4 _ => ?_) fun _ H4 e4 _ => nextI ⟨b, none, th, y, rfl, e03.trans e4, e02.dm _ nb, e4.at hb, by omega, z1, z2, st_odd _ _ _ e4 hy, z3⟩
    have hb4 := e4.at hb
    have np2 : (0 : Int) < (th.length : Int) - n := by omega
    refine q_asg (v := .int ((n : Int) + 1 + c * 1226874159 % 2147483647 % ((th.length : Int) - n))) (Mv.of T H4) (ev_op (x := .int ((n : Int) + 1)) (y := .int (c * 1226874159 % 2147483647 % ((th.length : Int) - n))) (by walk_at "ev") (ev_op (x := .int (c * 1226874159 % 2147483647)) (y := .int ((th.length : Int) - n)) (by walk_at "ev") (ev_op (ev_cb (ea_cons (x := .ref b) (by walk_at "ev") ea_nil) (rc_len (.inl (.inl (.inl hb4))))) (ev_var rfl) rv_i0) (rv_i np2)) rv_i0) rfl fun H5 e5 _ => ?_
    have b0 := Int.emod_nonneg (c * 1226874159 % 2147483647) (show (th.length : Int) - n ≠ 0 by omega)
    have b1 := Int.emod_lt_of_pos (c * 1226874159 % 2147483647) np2
    generalize c * 1226874159 % 2147483647 % ((th.length : Int) - n) = g at b0 b1
    obtain ⟨o, ho⟩ := Int.eq_ofNat_of_zero_le (show 0 ≤ (n : Int) + 1 + g by omega)
    rw [ho]
    have on : n < o := by omega
    have ot : o ≤ th.length := by omega
    have e05 := (e03.trans e4).trans e5
    have hp5 := e05.l hp
    refine s_asgR (Mv.of T H5) (er_ins (q := b) (xs := th) (o := o) (by walk_at "ev") (e5.at hb4) (by walk_at "ev") ot (er_callR (R := fun H1 v H2 => OddN K H1 H2 v) (RA := fun H1 vs H2 => vs = [.int (cellAt ns 4)] ∧ Ex T H1 H2) (fun H1 e Q q => (show EvA T (tCons (tCall (sp_l_cell_at K T) [] E0 (tCons (tVar 1) (tCons (tC (.int 4)) tNil))) tNil) _ H5 [.int (cellAt ns 4)] from by walk_at "ea") H1 e _ fun H3 e3 => q [.int (cellAt ns 4)] H3 e3 ⟨rfl, e3⟩) fun H3 ws H4 e3 e4 ⟨ew, _⟩ => by
      subst ew
      intro H5 e5 Q q E
      exact v_odd (T := T) H5 Mv.refl Q (fun v H6 e6 h => q v H6 e6 fun e46 => OddV.sub (sub_back (e4.trans e5)) h) E) (by omega)) fun v H6 e6 _ hv => ?_
    obtain ⟨b2, y2, rfl, nb2, hb2, hy2⟩ := hv
    refine ⟨b2, _, _, y, rfl, e05.trans e6, e05.dm _ nb2, hb2, by rw [ins_len ot]; omega, by rw [ins_lt on ot]; exact z1, fun i hi x hx => ?_, st_odd _ _ _ ((e4.trans e5).trans e6) hy, fun x hx => ?_⟩
    · rw [ins_lt (by omega) ot] at hx
      exact z2 i hi x hx
    · rcases ins_mem hx with rfl | hx
      · exact kd_flat hy2.1
      · exact z3 x hx
  · rintro σ' H4 ⟨b, v5, th, y, rfl, e4, nb, hb, lth, z1, z2, hy, z3⟩
    refine s_retR (Mv.of T H4) (eu_tup (vs := [.int (n : Nat), .ref b]) (by walk_at "ea") (by simp)) fun v H5 e5 _ hv => ?_
    obtain ⟨t, rfl, nt, ht⟩ := hv
    exact k _ _ (e4.trans e5) ⟨t, b, n, th, y, rfl, e4.dm _ nt, nb, ht, e5.at hb, lth, z1, z2, st_odd _ _ _ e5 hy, z3⟩
end
end Fp

local macro_rules | `(tactic| walk_at "sp") => `(tactic| first | exact Fp.v_wholeI | exact Fp.v_is_wholeI | exact Fp.v_whole (by assumption) | exact Fp.v_is_whole (by assumption) | exact Fp.v_cell_at (by walk_at "fact") (by first | decide | omega))
namespace Fp
open PySem PySem.Spec PyProof.Rows L2 LamX
def sp_law (K : PySem.W.Frag) (T : List (Addr × Str)) : Sp := fun vs H Q _ => ∃ p ns, vs = [.ref p] ∧ SqL K H p (List.map V.int ns) ∧ Tabs T H ∧ Mks K ∧ Xk3 K ∧ NdK K ∧ ∀ H', Q (.bl true) H'
theorem len_law {K : PySem.W.Frag} {T : List (Addr × Str)} : ∀ vs H Q E, sp_law K T vs H Q E → vs.length = 1 := fun vs H Q E h => by
  obtain ⟨_, _, rfl, _⟩ := h
  exact rfl
def r_law (K : PySem.W.Frag) (T : List (Addr × Str)) : TS :=
  (tSeq (tAsg (tCall (sp_l_ranks K T) [] E0 (tCons (tVar 0) tNil)) (gName 1))
  (tSeq (tAsg (tCall (sp_l_picture_by K T) [] E0 (tCons (tVar 0) (tCons (tVar 1) tNil))) (gName 2))
  (tSeq (tAsg (tCall (sp_l_board K T) [] E0 (tCons (tVar 0) (tCons (tVar 1) (tCons (tVar 2) tNil)))) (gName 3))
  (tSeq (tAsg (tCall (sp_l_board K T) [] E0 (tCons (tVar 0) (tCons (tVar 1) (tCons (tVar 2) tNil)))) (gName 4))
  (tSeq (tAsg (tLc (iList K (tSl (rSlL K) (tVar 0) (tPart (tC (.int 3))) (tPart (tC (.int 33))))) (gName 13) tYes (tCall (sp_l_deed K T) [] E0 (tCons (tVar 13) (tCons (tVar 1) (tCons (tVar 2) tNil)))) [13]) (gName 5))
  (tSeq (tAsg (tCall (sp_l_spoiled K T) [] E0 (tCons (tVar 5) (tCons (tVar 0) tNil))) (gTup K 2 (gCons (gName 6) (gCons (gName 7) gNil))))
  (tSeq (tAsg (tCB (rLst K) (tCons (tVar 7) tNil)) (gName 8))
  (tSeq (tFor (iRng1 (tCons (tC (.int 2)) tNil)) (gName 9) (tSeq (tAsg (tCall (sp_l_refused K T) [] E0 (tCons (tVar 3) (tCons (tVar 8) tNil))) (gTup K 2 (gCons (gName 10) (gCons (gName 11) gNil))))
  (tSeq (tIfS (tOr (tTest (tOp (rNeD K) (tVar 10) (tLst (tCons (tC (.str "row")) (tCons (tC (.str "value")) tNil))))) (tOr (tNot (tB (tCall (sp_l_whole K T) [] E0 (tCons (tVar 11) tNil)))) (tTest (tOp rNe (tVar 11) (tVar 6))))) (tRet (tC (.bl false))) tNext)
  (tIfS (tOr (tTest (tOp (rNeI K) (tVar 8) (tVar 7))) (tOr (tTest (tOp (rNeD K) (tOr2 (tMeth (He.ga K "Wide") "told" (sp_B_told K T "Wide") [] E0 (tVar 3) tNil) (tMeth (He.ga K "Few") "told" (sp_B_told K T "Few") [] E0 (tVar 3) tNil)) (tVar 2))) (tTest (tOp (rNeD K) (tCall (sp_l_caught K T) [] E0 (tCons (tVar 3) (tCons (tVar 8) tNil))) (tLst (tCons (tC (.str "row")) (tCons (tC (.str "value")) tNil))))))) (tRet (tC (.bl false))) tNext))))
  (tSeq (tAsg (tCall (sp_play K T) [] E0 (tCons (tVar 3) (tCons (tVar 5) tNil))) (gName 12))
  (tSeq (tIfS (tOr (tNot (tB (tCB rIs (tCons (tVar 12) (tCons (tC (.ty "list")) tNil))))) (tTest (tOp rNe (tCB (rLen K) (tCons (tVar 12) tNil)) (tCB (rLen K) (tCons (tVar 5) tNil))))) (tRet (tC (.bl false))) tNext)
  (tSeq (tFor (iRng1 (tCons (tCB (rLen K) (tCons (tVar 5) tNil)) tNil)) (gName 9) (tIfS (tNot (tB (tCall (sp_l_alike K T) [] E0 (tCons (tOp (rIxL K) (tVar 12) (tVar 9)) (tCons (tCall (sp_l_do K T) [] E0 (tCons (tVar 4) (tCons (tOp (rIxL K) (tVar 5) (tVar 9)) tNil))) tNil))))) (tRet (tC (.bl false))) tNext))
  (tRet (tAndV (tOp (rEqD K) (tOr2 (tMeth (He.ga K "Wide") "told" (sp_B_told K T "Wide") [] E0 (tVar 3) tNil) (tMeth (He.ga K "Few") "told" (sp_B_told K T "Few") [] E0 (tVar 3) tNil)) (tOr2 (tMeth (He.ga K "Wide") "told" (sp_B_told K T "Wide") [] E0 (tVar 4) tNil) (tMeth (He.ga K "Few") "told" (sp_B_told K T "Few") [] E0 (tVar 4) tNil))) (tOp (rEqD K) (tCall (sp_play K T) [] E0 (tCons (tVar 3) (tCons (tLst tNil) tNil))) (tLst tNil)))))))))))))))
def oddH (T : List (Addr × Str)) (K : PySem.W.Frag) (y : V) : HS T := ⟨fun H S => OddV K (res H S) y, fun h m h1 h2 => h.sub (m.sub2 h1 h2)⟩
section
variable {T : List (Addr × Str)} {K : PySem.W.Frag} {H H0 H1 : Hp} {Q : VK} {E E2 : XK} {vs ws xs : List V} {σ : L2.St} {te tl ta : TE} {t2 : TA} {x y z w v : V} {R : Hp → V → Hp → Prop} {D : Ends} {s : BSt} {u tu tw : TS} {sp1 sp2 : Sp} {i j n : Nat} {ns : List Int} {l : List (Addr × Dd)} {g : TG} {tt : TT} {js : List Nat} {m : Int}
theorem cells33 (ns : List Int) : ∃ cs : List Int, cutV (ns.map V.int) (some 3) (some 33) = cs.map V.int ∧ cs.length ≤ 30 := by
  obtain ⟨cs, hcs, hcl⟩ := cutV_ints ns (some 3) (some 33)
  refine ⟨cs, hcs, Nat.le_trans hcl ?_⟩
  rw [show HT.sIx ns.length ns.length (some 33) = min 33 ns.length from HT.sIx_nat _ _ 33, show HT.sIx ns.length 0 (some 3) = min 3 ns.length from HT.sIx_nat _ _ 3]
  omega
theorem w_lcL (h : EvL T tl σ H xs) (Pv : Addr → Addr → Nat → Hp → Prop) (h0 : ∀ a H2 D, nod H a → H2 a = some (.lst xs) → Ex T H H2 → H2 D = none → Pv a D 0 (upd H2 D (.lst []))) (hl : ∀ a D i H', i ≤ xs.length → Pv a D i H' → SqL K H' a xs)
    (hs : ∀ a D i x H', xs[i]? = some x → Pv a D i H' → g x (wipe σ js) H' fun σ2 H2 => wipe σ2 js = wipe σ js ∧ tt σ2 H2 fun b H3 => if b = true then te σ2 H3 fun y H4 => ∃ acc, H4 D = some (.lst acc) ∧ acc.length < sizeLine ∧ Pv a D (i + 1) (upd H4 D (.lst (acc ++ [y]))) else Pv a D (i + 1) H3) (hd : ∀ a D H', Pv a D xs.length H' → Q (.ref D) H') : tLc (iList K tl) g tt te js σ H Q :=
  h H Mv.refl _ fun v H2 e2 ⟨a, ev, na, ha⟩ => by
    subst ev
    exact ⟨a, rfl, ⟨xs, .inl (.inl ha)⟩, fun D hD => lc_list (Pv a D) (h0 a H2 D na ha e2 hD) (hl a D) (hs a D) (hd a D)⟩
theorem q_asgW (h : te σ H fun v H1 => u D (σ.set i (some v)) H1) : tSeq (tAsg te (gName i)) u D σ H := h
theorem q_tup2G (h : EvR T te σ H R) (k : ∀ v H1, Ex T H H1 → R H v H1 → ∃ p x y, v = .ref p ∧ H1 p = some (.tup [x, y]) ∧ u D ((σ.set i (some x)).set j (some y)) H1) : tSeq (tAsg te (gTup K 2 (gCons (gName i) (gCons (gName j) gNil)))) u D σ H := h H Mv.refl _ fun v H1 e1 r => by
  obtain ⟨p, x, y, rfl, hp, hk⟩ := k v H1 e1 r
  exact ⟨p, _, rfl, .inl (.inl hp), rfl, _, _, rfl, _, _, rfl, rfl, hk⟩
theorem s_ifNot3 (ha : Ev T ta σ H v) (h2 : ∀ H1, Ex T H H1 → EvA T t2 σ H1 ws) (k : ∀ H2, Ex T H H2 → sp2 ws H2 (fun w H3 => sp1 [v, w] H3 (fun r H4 => ∃ b, r = .bl b ∧ if (!b) = true then tu D σ H4 else tw D σ H4) E) E2) : tIfS (tNot (tB (tCall sp1 [] E (tCons ta (tCons (tCall sp2 [] E2 t2) tNil))))) tu tw D σ H := ha H Mv.refl _ fun H1 e1 => h2 H1 e1 H1 Mv.refl _ fun H2 e2 => by
  rw [List.append_nil]
  exact k H2 (e1.trans e2)
theorem newSp_back : ∀ H1 H2 v H3, Ex T H H1 → Ex T H1 H2 → Ex T H2 H3 → newSp K l H2 v H3 → newSp K l H1 v H3 := fun _ _ _ _ _ e _ ⟨t, b, n, th, y, h1, h2, h3, h4, h5, h6, h7, h8, h9, h10⟩ => ⟨t, b, n, th, y, h1, e.dm _ h2, e.dm _ h3, h4, h5, h6, h7, h8, OddV.sub (sub_back e) h9, h10⟩
theorem runA_get {ds : List Dd} : ∀ {s : BSt} {i : Nat} {d : Dd}, ds[i]? = some d → (runA s ds)[i]? = some (d.ans (runS s (ds.take i))) := by
  induction ds with
  | nil => exact fun h => by simp at h
  | cons e ds ih =>
    intro s i d h
    cases i with
    | zero =>
      obtain rfl := Option.some.inj h
      rfl
    | succ i => exact ih (s := e.step s) (i := i) h
theorem runA_len {ds : List Dd} : ∀ {s : BSt}, (runA s ds).length = ds.length := by
  induction ds with
  | nil => exact rfl
  | cons d ds ih => exact fun {s} => congrArg (· + 1) (ih (s := d.step s))
theorem bcl_wo : WoD (bcl ns) := by
  unfold bcl
  split
  · exact .inr rfl
  · exact .inl rfl
theorem bst_ok (w : BWf s) : BWf (bst ns s) ∧ (bst ns s).d3 = s.d3 ∧ (bst ns s).edge = s.edge := by
  have g0 := Int.emod_nonneg (cellAt ns 2 * 764261123 % 2147483647) (show (16 : Int) ≠ 0 by decide)
  have g1 := Int.emod_lt_of_pos (cellAt ns 2 * 764261123 % 2147483647) (show (0 : Int) < 16 by decide)
  unfold bst
  split
  · exact ⟨w.few (by unfold bpg; omega) (by unfold bpg; omega), rfl, rfl⟩
  · exact ⟨w, rfl, rfl⟩
theorem p_law (h : sp_law K T vs H Q E) : r_law K T { nx := fun _ H' => Q .non H', rt := Q } (start ["_law_script", "_law_ranks_here", "_law_picture", "_law_board_here", "_law_beside", "_law_row", "_law_at", "_law_bad", "_law_handed", "_law_k", "_law_names_here", "_law_place", "_law_found", "_law_cell"] vs) H := by
  obtain ⟨p, ns, rfl, hp, tb, M, X, N, qq⟩ := h
  unfold r_law
  refine q_asgR (Mv.of T H) (er_call0 (by walk_at "ea") (v_ranks hp) newRkN_back) fun v H1 σ2 hs e1 _ hv => ?_
  obtain ⟨rs, hk, n1, n60, r, rfl, _, hr⟩ := hv
  subst hs
  have hp1 := e1.l hp
  have tb1 := e1.tb tb
  have lr1 : SqL K H1 r (rs.map V.int) := .inl (.inl hr)
  refine q_asgR (Mv.of T H1) (er_call0 (by walk_at "ea") (v_picture_by hp1 lr1 n1 n60 hk) newPcW_back) fun v H3 σ2 hs e2 _ hv => ?_
  obtain ⟨s0, w0, t, px, py, pz, rfl, _, P3⟩ := hv
  subst hs
  obtain ⟨wf0, pg0, rfl⟩ := w0
  have hp3 := e2.l hp1
  have lr3 := e2.l lr1
  have tb3 := e2.tb tb1
  clear e1 e2 lr1 hp1 tb1 hr hp tb
  obtain ⟨wfb, d3b, edb⟩ := bst_ok (ns := ns) wf0
  have hc := bcl_wo (ns := ns)
  refine q_asgR (Mv.of T H3) (er_call0 (vs := [.ref p, .ref r, .ref t]) (by walk_at "ea") (v_board hp3 lr3 P3 wf0 pg0 M tb3) newBrd_back) fun v H4 σ2 hs e4 _ hv => ?_
  obtain ⟨a, rfl, O4⟩ := hv
  subst hs
  obtain ⟨own4, L4⟩ := (Hd.of (T := T) (H0 := H3)).new (P := brdH T K (bcl ns) a (bst ns s0)) 1 (by decide) e4 O4
  refine q_asgR (Mv.of T H4) (er_call0 (vs := [.ref p, .ref r, .ref t]) (by walk_at "ea") (v_board (e4.l hp3) (e4.l lr3) (P3.ex e4) wf0 pg0 M (e4.tb tb3)) newBrd_back) fun v H5 σ2 hs e5 _ hv => ?_
  obtain ⟨b, rfl, O5⟩ := hv
  subst hs
  obtain ⟨own5, L5⟩ := L4.new (P := brdH T K (bcl ns) b (bst ns s0)) 2 (by decide) e5 O5
  clear L4 O4 O5 e4 e5
  generalize bst ns s0 = sb at *
  generalize bcl ns = c at *
  obtain ⟨cs, hcs, hcl⟩ := cells33 ns
  have el := el_sl (T := T) (H := H5) (K := K) (σ := [some (.ref p), some (.ref r), some (.ref t), some (.ref a), some (.ref b), none, none, none, none, none, none, none, none, none]) (ta := tVar 0) (by walk_at "ev") (eo_part (te := tC (.int 3)) (i := 3) (by walk_at "ev")) (eo_part (te := tC (.int 33)) (i := 33) (by walk_at "ev")) (L5.ow.ex.l hp3)
  rw [hcs] at el
  refine q_asgW ?_
  refine w_lcL (T := T) el (fun qa q i H' => ∃ own l, Hd T H3 H' own ((1, brdH T K c a sb) :: (2, brdH T K c b sb) :: (3, atH T q (l.map fun p => V.ref p.1)) :: (0, rowH T K l) :: (0, atH T qa (cs.map V.int)) :: []) ∧ l.length = i) (fun qa H6 q nq hqa e6 hD => ?_) (fun qa q i H' _ ⟨_, _, L, _⟩ => .inl (.inl (L.lst qa (n := 0) (xs := cs.map V.int) (by walk_at "mem")))) (fun qa q i x H' hi ⟨own, l, L, ll⟩ => ?_) fun qa q H6 ⟨own6, l, L6, ll⟩ => ?_
  · have L6 : Hd T H3 H6 own5 ((2, brdH T K c b sb) :: (1, brdH T K c a sb) :: (0, atH T qa (cs.map V.int)) :: []) := (L5.ex' e6).wk fun x hx => by
      simp only [List.mem_cons, List.not_mem_nil, or_false] at hx
      rcases hx with rfl | rfl | rfl
      · exact .inl (by walk_at "mem")
      · exact .inl (by walk_at "mem")
      · exact .inr ⟨L5.free nq, hqa⟩
    obtain ⟨own7, L7⟩ := L6.new (P := atH T q []) 3 (by decide) (Mv.new (o := .lst []) hD) ⟨.of hD, upd_same⟩
    refine ⟨own7, [], L7.wk fun p hp => ?_, rfl⟩
    simp only [List.mem_cons, List.not_mem_nil, or_false] at hp
    rcases hp with rfl | rfl | rfl | rfl | rfl
    · exact .inl (by walk_at "mem")
    · exact .inl (by walk_at "mem")
    · exact .inl (by walk_at "mem")
    · exact .inr fun _ h => by cases h
    · exact .inl (by walk_at "mem")
  · obtain ⟨c', hc', rfl⟩ := item_int hi
    have il : i < cs.length := (List.getElem?_eq_some_iff.mp hc').1
    refine nameI ⟨rfl, et_yes (T := T) H' Mv.refl _ fun H7 e7 => ?_⟩
    rw [if_pos rfl]
    have L7 := L.ex' e7
    refine w_call (T := T) (vs := [.int c', .ref r, .ref t]) (by walk_at "ea") fun H8 e8 => ?_
    have L8 := L7.ex' e8
    refine v_deed (T := T) (L8.ow.ex.l lr3) wf0.n1 (P3.ex L8.ow.ex) H8 Mv.refl _ (fun v H9 e9 hd => ?_) _
    obtain ⟨d, dt, rfl, nt, hd⟩ := hd
    have L9 := L8.ex' e9
    have h9 := L9.lst q (n := 3) (xs := l.map fun p => V.ref p.1) (by walk_at "mem")
    have LA : Hd T H3 H9 own ((1, brdH T K c a sb) :: (2, brdH T K c b sb) :: (3, atH T q (l.map fun p => V.ref p.1)) :: (0, rowH T K (l ++ [(dt, d)])) :: (0, atH T qa (cs.map V.int)) :: []) := L9.wk fun x hx => by
      simp only [List.mem_cons, List.not_mem_nil, or_false] at hx
      rcases hx with rfl | rfl | rfl | rfl | rfl
      · exact .inl (by walk_at "mem")
      · exact .inl (by walk_at "mem")
      · exact .inl (by walk_at "mem")
      · refine .inr fun u hu => ?_
        rcases List.mem_append.mp hu with hu | hu
        · exact (L9.get (n := 0) (P := rowH T K l) (by walk_at "mem")) u hu
        · rw [List.mem_singleton.mp hu]
          exact hd.sub (sub_free L8)
      · exact .inl (by walk_at "mem")
    refine ⟨_, h9, by rw [List.length_map]; exact Nat.lt_of_le_of_lt (show l.length ≤ 30 by omega) (by decide), ?_⟩
    obtain ⟨own10, L10⟩ := LA.put (n := 3) (p := q) (xs := l.map fun p => V.ref p.1) (ys := (l ++ [(dt, d)]).map fun p => V.ref p.1) (H1 := upd H9 q (.lst ((l.map fun p => V.ref p.1) ++ [.ref dt]))) (L' := (1, brdH T K c a sb) :: (2, brdH T K c b sb) :: (3, atH T q ((l ++ [(dt, d)]).map fun p => V.ref p.1)) :: (0, rowH T K (l ++ [(dt, d)])) :: (0, atH T qa (cs.map V.int)) :: []) (by decide) (by walk_at "mem") (Mv.set1 h9) (by rw [List.map_append]; exact upd_same) (fun x hx => by
      simp only [List.mem_cons, List.not_mem_nil, or_false] at hx
      rcases hx with rfl | rfl | rfl | rfl | rfl
      · exact .inl ⟨by walk_at "mem", by show 1 ≠ 3; decide⟩
      · exact .inl ⟨by walk_at "mem", by show 2 ≠ 3; decide⟩
      · exact .inr rfl
      · exact .inl ⟨by walk_at "mem", by show 0 ≠ 3; decide⟩
      · exact .inl ⟨by walk_at "mem", by show 0 ≠ 3; decide⟩)
    exact ⟨own10, l ++ [(dt, d)], L10, by rw [List.length_append, ll]; rfl⟩
  have l30 : l.length ≤ 30 := by rw [ll, List.length_map]; exact hcl
  obtain ⟨own6, L6⟩ := L6.loose 3 (L' := (1, brdH T K c a sb) :: (2, brdH T K c b sb) :: (0, atH T q (l.map fun p => V.ref p.1)) :: (0, rowH T K l) :: []) (fun x hx => by
    simp only [List.mem_cons, List.not_mem_nil, or_false] at hx
    rcases hx with rfl | rfl | rfl | rfl
    · exact .inl ⟨by walk_at "mem", by show 1 ≠ 3; decide⟩
    · exact .inl ⟨by walk_at "mem", by show 2 ≠ 3; decide⟩
    · exact .inr ⟨rfl, by walk_at "mem"⟩
    · exact .inl ⟨by walk_at "mem", by show 0 ≠ 3; decide⟩)
  clear L5 el ll
  have hq6 := L6.lst q (n := 0) (xs := l.map fun p => V.ref p.1) (by walk_at "mem")
  refine q_tup2G (T := T) (er_call0 (vs := [.ref q, .ref p]) (by walk_at "ea") (v_spoiled hq6 (L6.ow.ex.l hp3) l30) newSp_back) fun v H7 e7 hv => ?_
  obtain ⟨st, bad, n, th, y, rfl, _, nb, hst, hbad, lth, z1, z2, hy, z3⟩ := hv
  refine ⟨st, .int (n : Nat), .ref bad, rfl, hst, ?_⟩
  have L7 := L6.ex' e7
  refine q_asgR (Mv.of T H7) (el_list (by walk_at "ev") (.inl (.inl (.inl hbad)))) fun v H8 σ2 hs e8 _ hv => ?_
  obtain ⟨hd, rfl, nh, hhd⟩ := hv
  subst hs
  have L8 : Hd T H3 H8 own6 ((1, brdH T K c a sb) :: (2, brdH T K c b sb) :: (0, atH T q (l.map fun p => V.ref p.1)) :: (0, rowH T K l) :: (0, atH T bad th) :: (0, atH T hd th) :: (0, oddH T K y) :: []) := (L7.ex' e8).wk fun x hx => by
    simp only [List.mem_cons, List.not_mem_nil, or_false] at hx
    rcases hx with rfl | rfl | rfl | rfl | rfl | rfl | rfl
    · exact .inl (by walk_at "mem")
    · exact .inl (by walk_at "mem")
    · exact .inl (by walk_at "mem")
    · exact .inl (by walk_at "mem")
    · exact .inr ⟨L6.free nb, e8.at hbad⟩
    · exact .inr ⟨L7.free nh, hhd⟩
    · exact .inr ((st_odd _ _ _ e8 hy).sub (sub_free L6))
  clear L6 L7 hq6 e7 e8 nb hst hbad hy nh hhd
  have rowX : RowX T K H8 a hd n := ⟨c, sb, H3, own6, 1, th, hc, L8.wk fun x hx => by
    simp only [List.mem_cons, List.not_mem_nil, or_false] at hx
    rcases hx with rfl | rfl
    · exact .inl (by walk_at "mem")
    · exact .inl (by walk_at "mem"), by decide, by decide, wfb, tb3, by omega, X, N, y, z1, fun i hi x hx => by
    obtain ⟨p, hp, rfl⟩ := z2 i hi x hx
    exact ⟨p.1, p.2, rfl, ((L8.get (n := 0) (P := rowH T K l) (by walk_at "mem")) p hp).sub res_sub⟩, OddV.sub res_sub (L8.get (n := 0) (P := oddH T K y) (by walk_at "mem"))⟩
  have hb8 := L8.lst bad (n := 0) (xs := th) (by walk_at "mem")
  have hh8 := L8.lst hd (n := 0) (xs := th) (by walk_at "mem")
  have Ob := L8.brd a (n := 1) (by walk_at "mem")
  refine q_forR (n := 2) (Mv.of T H8) (ea_cons ev_c ea_nil) ⟨by decide, by decide⟩ (fun i σ' H' => ∃ x9 x10 x11, σ' = [some (.ref p), some (.ref r), some (.ref t), some (.ref a), some (.ref b), some (.ref q), some (.int (n : Nat)), some (.ref bad), some (.ref hd), x9, x10, x11, none, none] ∧ Ex T H8 H') (fun H9 e9 _ => ⟨none, none, none, rfl, e9⟩) ?_ ?_
  · rintro i σ' H9 hi ⟨x9, x10, x11, rfl, e9⟩
    refine q_tup2G (T := T) (er_call0 (vs := [.ref a, .ref hd]) (by walk_at "ea") (v_refused (rowX.ex' e9)) newNP_back) fun v H10 e10 hv => ?_
    obtain ⟨st, nl, rfl, _, _, hst, hnl⟩ := hv
    refine ⟨st, .ref nl, .int (n : Nat), rfl, hst, ?_⟩
    refine q_if (b := false) (Mv.of T H10) (et_is (et_or (et_test (ev_opVL (x := .ref nl) (by walk_at "ev") (el_lst (vs := [.str "row", .str "value"]) (ea_cons ev_c (ea_cons ev_c ea_nil)) (by simp)) fun qq H11 hqq e11 => rv_neDf (d := .list [.str "row", .str "value"]) (.lst (.inl (.inl (e11.at hnl))) (.cons (.str _) (.cons (.str _) .nil))) (.lst (.inl (.inl hqq)) (.cons (.str _) (.cons (.str _) .nil))) (by decide +kernel))) fun _ => et_or (et_not (et_B (ev_call0 (vs := [.int (n : Nat)]) (by walk_at "ea") v_wholeI))) fun _ => et_test (ev_op (x := .int (n : Nat)) (y := .int (n : Nat)) (by walk_at "ev") (by walk_at "ev") rv_neI)) (by simp)) (fun hb => nomatch hb) (fun _ H11 e11 _ => nextI ?_)
    dsimp only
    have e811 := (e9.trans e10).trans e11
    have told := er_told2 (T := T) (E := E0) (K := K) (σ := [some (.ref p), some (.ref r), some (.ref t), some (.ref a), some (.ref b), some (.ref q), some (.int (n : Nat)), some (.ref bad), some (.ref hd), some (.int (i : Nat)), some (.ref nl), some (.int (n : Nat)), none, none]) (ta := tVar 3) hc (Ob.ex' e811) wfb (by walk_at "ev")
    rw [d3b, edb] at told
    refine s_if (b := false) (Mv.of T H11) (et_is (et_or (et_test (ev_op (x := .ref hd) (y := .ref bad) (by walk_at "ev") (by walk_at "ev") (rv_neI2 (.inl (.inl (e811.at hh8))) (.inl (.inl (e811.at hb8))) z3))) fun _ => et_or (et_test (ev_nePc told (by walk_at "ev") (P3.ex (L8.ow.ex.trans e811)))) fun _ => et_test (ev_opLL (xs := [.str "row", .str "value"]) (ys := [.str "row", .str "value"]) (er_call0 (vs := [.ref a, .ref hd]) (by walk_at "ea") (v_caught (rowX.ex' e811)) newL_back) (fun _ _ => el_lst (ea_cons ev_c (ea_cons ev_c ea_nil)) (by simp)) fun q1 q2 H12 h1 h2 _ => rv_neDf (d := .list [.str "row", .str "value"]) (.lst (.inl (.inl h1)) (.cons (.str _) (.cons (.str _) .nil))) (.lst (.inl (.inl h2)) (.cons (.str _) (.cons (.str _) .nil))) (by decide +kernel))) rfl) (fun hb => nomatch hb) fun _ H12 e12 _ => nextI ⟨_, _, _, rfl, e811.trans e12⟩
  rintro σ' H9 ⟨x9, x10, x11, rfl, e9⟩
  have L9 : Hd T H3 H9 own6 ((1, brdH T K c a sb) :: (0, atH T q (l.map fun p => V.ref p.1)) :: (2, brdH T K c b sb) :: (0, rowH T K l) :: []) := (L8.ex' e9).wk fun x hx => by
    simp only [List.mem_cons, List.not_mem_nil, or_false] at hx
    rcases hx with rfl | rfl | rfl | rfl <;> exact .inl (by walk_at "mem")
  clear L8 rowX hb8 hh8 Ob e9 z1 z2 z3
  refine Fp.q_asgCall (Mv.of T H9) (vs := [.ref a, .ref q]) (by walk_at "ea") fun H10 e10 _ => ?_
  refine ⟨a, q, c, sb, H3, own6, 1, (2, brdH T K c b sb) :: (0, rowH T K l) :: [], _, rfl, hc, L9.ex' e10, ?_, by decide, by decide, wfb, tb3, by rw [List.length_map]; omega, X, .inl ⟨l, rfl, by walk_at "mem", fun own11 H11 v tl L11 et => ?_⟩⟩
  · intro x hx
    simp only [List.mem_cons, List.not_mem_nil, or_false] at hx
    rcases hx with rfl | rfl
    · exact ⟨by show 2 ≠ 1; decide, by show 2 < 9; decide⟩
    · exact ⟨by show 0 ≠ 1; decide, by show 0 < 9; decide⟩
  clear L9 e10
  have ln : tl.length = l.length := by
    have := congrArg List.length et
    rw [List.length_map, runA_len, List.length_map] at this
    exact this
  have hv11 := L11.lst v (n := 0) (xs := tl.map Prod.fst) (by walk_at "mem")
  have hq11 := L11.lst q (n := 0) (xs := l.map fun p => V.ref p.1) (by walk_at "mem")
  refine q_if (b := false) (Mv.of T H11) (et_is (et_or (et_not (et_B (ev_cb (vs := [.ref v, .ty "list"]) (by walk_at "ea") (rc_isL hv11 (by decide))))) fun _ => et_test (ev_op (ev_cb (vs := [.ref v]) (by walk_at "ea") (rc_len (.inl (.inl (.inl hv11))))) (ev_cb (vs := [.ref q]) (by walk_at "ea") (rc_len (.inl (.inl (.inl hq11))))) rv_neI)) (by simp [isK, ln])) (fun hb => nomatch hb) (fun _ H12 e12 _ => nextI ?_)
  dsimp only
  have L12 := L11.ex' e12
  refine q_forR (n := (l.length : Int)) (Mv.of T H12) (ea_cons (ev_is (ev_cb (vs := [.ref q]) (by walk_at "ea") (rc_len (.inl (.inl (.inl (e12.at hq11)))))) (by rw [List.length_map])) ea_nil) ⟨by omega, by omega⟩ (fun i σ' H' => ∃ x9 own, σ' = [some (.ref p), some (.ref r), some (.ref t), some (.ref a), some (.ref b), some (.ref q), some (.int (n : Nat)), some (.ref bad), some (.ref hd), x9, x10, x11, some (.ref v), none] ∧ Hd T H3 H' own ((2, brdH T K c b (runS sb ((l.take i).map Prod.snd))) :: (1, brdH T K c a (runS sb (l.map Prod.snd))) :: (0, atH T v (tl.map Prod.fst)) :: (0, ansL T K tl) :: (0, atH T q (l.map fun p => V.ref p.1)) :: (0, rowH T K l) :: [])) (fun H13 e13 _ => ⟨x9, own11, rfl, (L12.ex' e13).wk ?_⟩) ?_ ?_
  · intro x hx
    simp only [List.mem_cons, List.not_mem_nil, or_false] at hx
    rcases hx with rfl | rfl | rfl | rfl | rfl | rfl <;> exact .inl (by walk_at "mem")
  · clear L11 L12 hv11 hq11 e12
    rintro i σ' H13 hi ⟨y9, own, rfl, L13⟩
    have hi' : i < l.length := by omega
    have hi2 : i < tl.length := by omega
    have hv13 := L13.lst v (n := 0) (xs := tl.map Prod.fst) (by walk_at "mem")
    have hq13 := L13.lst q (n := 0) (xs := l.map fun p => V.ref p.1) (by walk_at "mem")
    have wfi : BWf (runS sb ((l.take i).map Prod.snd)) := wfb.runS _
    have es : (tl[i]'hi2).2 = (l[i]'hi').2.ans (runS sb ((l.take i).map Prod.snd)) := by
      have h1 : (l.map Prod.snd)[i]? = some (l[i]'hi').2 := by rw [List.getElem?_map, List.getElem?_eq_getElem hi']; rfl
      have h2 := runA_get (s := sb) h1
      rw [← et, List.getElem?_map, List.getElem?_eq_getElem hi2, ← List.map_take] at h2
      exact Option.some.inj h2
    have ts : (l.take (i + 1)).map Prod.snd = (l.take i).map Prod.snd ++ [(l[i]'hi').2] := by rw [List.take_add_one, List.getElem?_eq_getElem hi', List.map_append]; rfl
    refine s_ifNot3 (T := T) (v := (tl[i]'hi2).1) (ws := [.ref b, .ref (l[i]'hi').1]) (ev_op (x := .ref v) (y := .int (i : Nat)) (ev_var rfl) (ev_var rfl) (rv_ixL (.inl (.inl hv13)) (atI_nat (by rw [List.getElem?_map, List.getElem?_eq_getElem hi2]; rfl)))) (fun H14 e14 => ea_cons (by walk_at "ev") (ea_cons (ev_op (x := .ref q) (y := .int (i : Nat)) (ev_var rfl) (ev_var rfl) (rv_ixL (.inl (.inl (e14.at hq13))) (atI_nat (by rw [List.getElem?_map, List.getElem?_eq_getElem hi']; rfl)))) ea_nil)) fun H14 e14 => ?_
    have L14 := L13.ex' e14
    have Dd14 := ((L14.get (n := 0) (P := rowH T K l) (by walk_at "mem")) _ (List.getElem_mem hi')).sub res_sub
    rw [ts, runS_snoc]
    generalize hsi : runS sb ((l.take i).map Prod.snd) = si at *
    refine ⟨b, (l[i]'hi').1, c, si, _, (l[i]'hi').2, rfl, hc, L14.brd b (n := 2) (by walk_at "mem"), wfi, L14.tb tb3, Dd14, X, doK_of (k := 2) (L' := (2, brdH T K c b ((l[i]'hi').2.step si)) :: (1, brdH T K c a (runS sb (l.map Prod.snd))) :: (0, atH T v (tl.map Prod.fst)) :: (0, ansL T K tl) :: (0, atH T q (l.map fun p => V.ref p.1)) :: (0, rowH T K l) :: []) L14 (by walk_at "mem") (by decide) (fun x hx => ?_) fun w H15 own15 L15 => ?_⟩
    · simp only [List.mem_cons, List.not_mem_nil, or_false] at hx
      rcases hx with rfl | rfl | rfl | rfl | rfl | rfl
      · exact .inr rfl
      · exact .inl ⟨by walk_at "mem", by show 1 ≠ 2; decide⟩
      · exact .inl ⟨by walk_at "mem", by show 0 ≠ 2; decide⟩
      · exact .inl ⟨by walk_at "mem", by show 0 ≠ 2; decide⟩
      · exact .inl ⟨by walk_at "mem", by show 0 ≠ 2; decide⟩
      · exact .inl ⟨by walk_at "mem", by show 0 ≠ 2; decide⟩
    · have A1 := (L15.get (n := 0) (P := ansH T K w ((l[i]'hi').2.ans si)) (by walk_at "mem")).sub res_sub
      have A2 := ((L15.get (n := 0) (P := ansL T K tl) (by walk_at "mem")) _ (List.getElem_mem hi2)).sub res_sub
      rw [es] at A2
      exact v_alikeA (T := T) A2 A1 H15 Mv.refl _ (fun H16 e16 => ⟨true, rfl, ifN (nextI ⟨_, own15, rfl, (L15.ex' e16).wk fun x hx => .inl (List.Mem.tail _ hx)⟩)⟩) _
  · clear L11 L12 hv11 hq11 e12
    rintro σ' H13 ⟨y9, own, rfl, L13⟩
    rw [Int.toNat_natCast, List.take_length] at L13
    have wfr : BWf (runS sb (l.map Prod.snd)) := wfb.runS _
    refine s_retAnd (ev_eqPc2 (er_told2 (T := T) (E := E0) hc (L13.brd a (n := 1) (by walk_at "mem")) wfr (by walk_at "ev")) (er_told2 (T := T) (E := E0) hc (L13.brd b (n := 2) (by walk_at "mem")) wfr (by walk_at "ev"))) fun H14 e14 => ?_
    have L14 := L13.ex' e14
    show tCall _ _ _ _ _ _ _
    refine ear_vr (T := T) (x := .ref a) (R := newL []) (by walk_at "ev") (el_lst ea_nil (by simp)) H14 Mv.refl _ fun ws H15 e15 hw => ?_
    obtain ⟨y, H16, rfl, e16, ez, rfl, nz, hz⟩ := hw
    rw [List.append_nil]
    refine ⟨a, ez, c, runS sb (l.map Prod.snd), H3, own, 1, (0, rowH T K []) :: [], [], rfl, hc, (L14.ex' e15).wk fun x hx => ?_, (fun x hx => by
      rw [List.mem_singleton.mp hx]
      exact ⟨by show 0 ≠ 1; decide, by show 0 < 9; decide⟩), by decide, by decide, wfr, tb3, by simp, X, .inl ⟨[], rfl, by walk_at "mem", fun own17 H17 v2 tl2 L17 et2 => ?_⟩⟩
    · simp only [List.mem_cons, List.not_mem_nil, or_false] at hx
      rcases hx with rfl | rfl | rfl
      · exact .inl (by walk_at "mem")
      · exact .inr ⟨L14.free (e16.dm _ nz), hz⟩
      · exact .inr fun _ h => by cases h
    have hv17 := L17.lst v2 (n := 0) (xs := tl2.map Prod.fst) (by walk_at "mem")
    obtain rfl : tl2 = [] := List.map_eq_nil_iff.mp et2
    refine (el_lst (T := T) ea_nil (by simp)) H17 Mv.refl _ fun w H18 e18 hw => ?_
    obtain ⟨ww, rfl, _, hww⟩ := hw
    exact rv_eqDt (T := T) (d := .list []) (.lst (.inl (.inl (e18.at hv17))) .nil) (.lst (.inl (.inl hww)) .nil) rfl H18 Mv.refl _ fun H19 e19 => qq H19
end
end Fp

namespace Fp
open PySem PySem.Spec PyProof.Rows L2 LamX
theorem Df.of {K : PySem.W.Frag} {mg : Str → Option Value} {x : Str} {st : Stmt} (h : ∃ fd, FunD K x x (defArgs st) (defBody st) (defScope st) [] [] (He.fAd K (x, none)) fd) (g : mg x = some (.ref (He.ga K x))) : Df K mg x st := by
  obtain ⟨fd, F⟩ := h
  exact ⟨_, fd, F, g, rfl⟩
/-- what the end wants of the law -/
theorem law_at {l : PySem.W.OpenLaw} {w : World} {K : PySem.W.Frag} {mg : Str → Option Value} {fa : Addr} {h : Heap} {n k : Nat} {N : List Str} {st : Stmt} {sp : Sp} {cs : List (Addr × Addr)} (D : Df K mg "law" st) (hm : mg "law" = some (.ref fa))
    (hT : ∀ p ∈ cs, h.get? p.2 = some { cls := .none, data := .fields #[] }) (nT : ∀ p ∈ cs, K.lookup p.2 = none) (C : ∀ p ∈ cs, PySem.W.CodeHd h p.1 p.2) (S : FnScope N ["_law_script"] (defScope st)) (len : ∀ vs H Q E, sp vs H Q E → vs.length = 1)
    (hb : ∀ (kV doc pm : Value) (an : Option Addr) (cdv ct : Value) (us : List Value), us.length = (["_law_script"] : List Str).length → bindArgs (PySem.W.fnOf "law" "law" (defArgs st) (defBody st) (defScope st) .none kV doc pm an cdv ct) ⟨us, []⟩ = pure ((["_law_script"] : List Str).zip us))
    (hsp : ∀ (H : Hp) (a : Addr) (ns : List Int), ns.length ≤ n → (∀ z ∈ ns, Builtin.Int.intBits z ≤ 1048576) → (∀ p ∈ cs, H p.2 = some (.tbl #[])) → SqL K H a (ns.map V.int) → sp [.ref a] H (fun v _ => v = .bl true) fun _ _ _ => False)
    (hbody : ∀ base : Heap, K.In base → base.Ns mainGlobals mg → (∀ p ∈ cs, TabB base mg p.1 p.2) → ∀ (f : Addr) (cdv : Value) (A : Around) (outer : List Env) (s : Shared) (H : Hp) (vs : List V) (Q : VK) (E : XK), Room k (A.deeper (envOfC "law" (defScope st) s.heap.objs.size f cdv)) → sp vs H Q E →
      ∃ t, PSs (cxOf CX0 l.prog w K mg base N "law" (defScope st) f cdv A outer s H E).nox (defBody st) t ∧ t { nx := fun _ H' => Q .non H', rt := Q } (start N vs) H) : LawAtS l w K CX0 (k + 1) n "_law_script" mg fa h := by
  obtain ⟨f, fd, F, hm', hf⟩ := D.ex
  rw [hm] at hm'
  obtain rfl : fa = f := by cases hm'; rfl
  refine ⟨fd, cs, sp, hT, nT, C, fun s u => F.bindsA hb s [u] rfl, hsp, fun base hK G tb => F.ok S len fun cdv A outer s H vs Q E hr h => ?_⟩
  obtain ⟨t, h1, h2⟩ := hbody base hK G tb fa cdv A outer s H vs Q E hr h
  exact ⟨t, h1.nox, h2⟩
/-! ### the head's hook, the interpreter's own statics among what it reads -/
def asY (g : Addr → Option Obj) (n : Nat) : List Addr := He.asD g n ++ [cStatics]
def obsY (n : Nat) (fa : List He.Fa) (fn : List He.DefD) (tf : List He.Defn) (ex : PySem.W.Frag → Bool) (g : Addr → Option Obj) : He.AlX := (He.obsT fa fn [] (He.frT g (asY g n)), ex (He.frT g (asY g n)) && He.tabsB g tf (He.frT g (asY g n)))
theorem saysY_of {as : List Addr} {fa : List He.Fa} {fn : List He.DefD} {tf : List He.Defn} {ex : PySem.W.Frag → Bool} {w : World} {h : Heap} (e1 : He.obsT fa fn [] (He.frT h.get? as) = He.valT fn [] w) (e2 : (ex (He.frT h.get? as) && He.tabsB h.get? tf (He.frT h.get? as)) = true) : He.SaysX fa fn [] tf ex w h (He.frT h.get? as) := by
  obtain ⟨h1, h2⟩ := He.ba e2
  have key : ∀ p ∈ tf, PySem.W.codeHdIn (He.frT h.get? as) (He.cT (He.frT h.get? as) p).1 (He.cT (He.frT h.get? as) p).2 = true ∧ ∃ o, h.get? (He.cT (He.frT h.get? as) p).2 = some o ∧ He.emptyTab o = true := fun p hp => by
    obtain ⟨h3, h4⟩ := He.ba (List.all_eq_true.mp h2 p hp)
    refine ⟨h3, ?_⟩
    cases q : h.get? (He.cT (He.frT h.get? as) p).2 with
    | none => rw [q] at h4; cases h4
    | some o => rw [q] at h4; exact ⟨o, rfl, h4⟩
  exact ⟨e1, h1, fun p hp => (key p hp).1, fun p hp => by
    obtain ⟨_, o, q, z⟩ := key p hp
    exact He.frT_none q z, fun p hp => by
    obtain ⟨_, o, q, z⟩ := key p hp
    rw [q, He.emptyTab_eq z]⟩
def hookY (n : Nat) (fa : List He.Fa) (fn : List He.DefD) (tf : List He.Defn) (ex : PySem.W.Frag → Bool) : PySem.W.Hook where
  α := He.AlX
  obs := fun s => obsY n fa fn tf ex s.heap.get?
  val := fun w => He.valX fn [] w
  says := fun w h => ∃ K : PySem.W.Frag, K.In h ∧ He.SaysX fa fn [] tf ex w h K
  of := fun _ _ e => ⟨_, He.frT_in, saysY_of (congrArg (fun z : He.AlX => z.1) e) (congrArg (fun z : He.AlX => z.2) e)⟩
  keeps := fun _ _ _ ⟨K, hK, c⟩ k => ⟨K, PySem.W.Frag.In.keeps hK k, ⟨c.t, c.more, c.hd, c.out, fun p hp => k _ _ (c.empty p hp)⟩⟩
theorem obsY_eq {n : Nat} {fa : List He.Fa} {fn : List He.DefD} {tf : List He.Defn} {ex : PySem.W.Frag → Bool} {g : Addr → Option Obj} {s : Shared} (h : ∀ a, g a = s.heap.get? a) : obsY n fa fn tf ex g = (hookY n fa fn tf ex).obs s := by
  have e : g = s.heap.get? := funext h
  rw [e] <;> rfl
end Fp

namespace Fp
open PySem PySem.Spec PyProof.Rows L2 LamX
def top (i : Nat) : Stmt := PySem.Challenge.pw_fewpegs_k10_rows_refused.main.body.getD i (.Pass ⟨0, 0, 0, 0⟩)
abbrev s__wall : Stmt := top 0
abbrev s_parts_of : Stmt := top 11
abbrev s_is_deed : Stmt := top 12
abbrev s_done : Stmt := top 13
abbrev s_answer : Stmt := top 14
abbrev s_play : Stmt := top 15
abbrev s_is_whole : Stmt := top 17
abbrev s_is_rank : Stmt := top 18
abbrev s_is_line : Stmt := top 19
abbrev s_before : Stmt := top 20
abbrev s_in_order : Stmt := top 21
abbrev s_first_of : Stmt := top 22
abbrev s_is_board : Stmt := top 25
abbrev s_is_bar : Stmt := top 26
abbrev s_are_lines : Stmt := top 27
abbrev s_are_rising : Stmt := top 28
abbrev s_are_nested : Stmt := top 29
abbrev s_is_picture : Stmt := top 30
abbrev s_marked : Stmt := top 31
abbrev s_l_cell_at : Stmt := top 41
abbrev s_l_whole : Stmt := top 42
abbrev s_l_ranks : Stmt := top 43
abbrev s_l_picture_by : Stmt := top 44
abbrev s_l_copy : Stmt := top 45
abbrev s_l_bar : Stmt := top 46
abbrev s_l_deed : Stmt := top 47
abbrev s_l_call : Stmt := top 48
abbrev s_l_do : Stmt := top 49
abbrev s_l_names : Stmt := top 50
abbrev s_l_kind : Stmt := top 51
abbrev s_l_alike : Stmt := top 52
abbrev s_l_odd : Stmt := top 53
abbrev s_l_refused : Stmt := top 54
abbrev s_l_caught : Stmt := top 55
abbrev s_l_board : Stmt := top 56
abbrev s_l_spoiled : Stmt := top 57
abbrev s_law : Stmt := top 58
abbrev s_NotTop_init : Stmt := inClass (top 8) 0
abbrev s_NoDeed_init : Stmt := inClass (top 9) 0
abbrev s_Board_init : Stmt := inClass (top 32) 0
abbrev s_Board_enters : Stmt := inClass (top 32) 1
abbrev s_Board_leaves : Stmt := inClass (top 32) 2
abbrev s_Board_look_at : Stmt := inClass (top 32) 3
abbrev s_Board_ring : Stmt := inClass (top 32) 4
abbrev s_Board_calm : Stmt := inClass (top 32) 5
abbrev s_Board_mute : Stmt := inClass (top 32) 6
abbrev s_Board_free : Stmt := inClass (top 32) 7
abbrev s_Board_bar : Stmt := inClass (top 32) 8
abbrev s_Board_upmost : Stmt := inClass (top 32) 9
abbrev s_Board_is_open : Stmt := inClass (top 32) 10
abbrev s_Board_best : Stmt := inClass (top 32) 11
abbrev s_Board_take : Stmt := inClass (top 32) 12
abbrev s_Board_end : Stmt := inClass (top 32) 13
abbrev s_Board_told : Stmt := inClass (top 32) 14
abbrev s_Pegs_init : Stmt := inClass (top 35) 0
abbrev s_Pegs_is_pressing : Stmt := inClass (top 35) 1
abbrev s_Pegs_come : Stmt := inClass (top 35) 2
abbrev s_Pegs_go : Stmt := inClass (top 35) 3
abbrev s_Pegs_call_keeper : Stmt := inClass (top 35) 4
abbrev s_Pegs_on_pegs : Stmt := inClass (top 35) 5
abbrev s_Pegs_waiting : Stmt := inClass (top 35) 6
abbrev s_Pegs_first : Stmt := inClass (top 35) 7
abbrev s_Pegs_tallies : Stmt := inClass (top 35) 8
abbrev s_Few_init : Stmt := inClass (top 37) 0
abbrev s_Few_enters : Stmt := inClass (top 37) 1
abbrev s_Few_leaves : Stmt := inClass (top 37) 2
abbrev s_Few_best : Stmt := inClass (top 37) 3
abbrev s_Few_on_pegs : Stmt := inClass (top 37) 4
abbrev s_Few_waiting : Stmt := inClass (top 37) 5
abbrev s_Few_tallies : Stmt := inClass (top 37) 6
abbrev s_Wide_is_ready : Stmt := inClass (top 39) 0
abbrev s_Wide_best : Stmt := inClass (top 39) 1
theorem sc_parts_of : FnScope ["word"] ["word"] (defScope s_parts_of) := ⟨rfl, rfl, rfl, by decide +kernel, rfl, by decide +kernel, by decide +kernel⟩
theorem g_parts_of {P : Program} {w : World} {K : PySem.W.Frag} {mg : Str → Option Value} {base : Heap} {T : List (Addr × Str)} (B : Bi mg) (D : Df K mg "parts_of" s_parts_of)  : Gd P w K mg base CX0 1 "parts_of" ["word"] (sp_parts_of K T) :=
  D.ok0 sc_parts_of len_parts_of (fun _ _ _ _ _ _ us hl => match us, hl with | [_], _ => rfl) fun f cdv A outer s H vs Q E hr h => ⟨r_parts_of K T,
  (pss_cons (ps_if (pt_cmpR op_in_seq (pv 0) (pe_tup (pa_cons pe_str (pa_cons pe_str (pa_cons pe_str (pa_cons pe_str (pa_cons pe_str (pa_cons pe_str pa_nil))))))) rfl) (pss_one (ps_ret pe_int)) pss_nil)
  (pss_cons (ps_if (pt_cmpR op_in_seq (pv 0) (pe_tup (pa_cons pe_str (pa_cons pe_str pa_nil))) rfl) (pss_one (ps_ret pe_int)) pss_nil)
  (pss_one (ps_ret pe_int)))), p_parts_of h⟩
theorem sc_is_deed : FnScope ["thing"] ["thing"] (defScope s_is_deed) := ⟨rfl, rfl, rfl, by decide +kernel, rfl, by decide +kernel, by decide +kernel⟩
theorem g_is_deed {P : Program} {w : World} {K : PySem.W.Frag} {mg : Str → Option Value} {base : Heap} {T : List (Addr × Str)} (B : Bi mg) (D : Df K mg "is_deed" s_is_deed) (G_parts_of : Gd P w K mg base CX0 1 "parts_of" ["word"] (sp_parts_of K T)) : Gd P w K mg base CX0 2 "is_deed" ["thing"] (sp_is_deed K T) :=
  D.ok0 sc_is_deed len_is_deed (fun _ _ _ _ _ _ us hl => match us, hl with | [_], _ => rfl) fun f cdv A outer s H vs Q E hr h => ⟨r_is_deed K T,
  (pss_cons (ps_if (PW.pt (pw_or (pt_not (pt_val (pe_callB call_is rfl B.isinstance (by decide +kernel) (pa_cons (pv 0) (pa_cons (pe_bltn (v := .ty "tuple") rfl B.tuple (by decide +kernel) rfl) pa_nil))))) (pw_or (pt_cmpR (op_eqD hr.units) (pv 0) (pe_tup pa_nil) (nomark _)) (pw_or1 (pt_not (pt_val (pe_callB call_is rfl B.isinstance (by decide +kernel) (pa_cons (pe_ix ix_tup (pv 0) pe_int (fun _ _ => rfl)) (pa_cons (pe_bltn (v := .ty "str") rfl B.str (by decide +kernel) rfl) pa_nil))))))))) (pss_one (ps_ret pe_bl)) pss_nil)
  (pss_one (ps_ret (pe_cmpR op_eq (pe_callB call_len_seq rfl B.len boot_len (pa_cons (pv 0) pa_nil)) (pe_g G_parts_of (hr.mono (by decide)) rfl pass0 (pa_cons (pe_ix ix_tup (pv 0) pe_int (fun _ _ => rfl)) pa_nil)) (nomark _))))), p_is_deed h⟩
theorem sc_done : FnScope ["board", "deed", "word"] ["board", "deed"] (defScope s_done) := ⟨rfl, rfl, rfl, by decide +kernel, rfl, by decide +kernel, by decide +kernel⟩
theorem g_done {P : Program} {w : World} {K : PySem.W.Frag} {mg : Str → Option Value} {base : Heap} {T : List (Addr × Str)} (B : Bi mg) (D : Df K mg "done" s_done) (G_Few_bar : Gm P w K mg base (L2.CX P w) 3 "Few" "bar" ["self", "rank"] [] (sp_B_bar K T "Few")) (G_Few_best : Gm P w K mg base CX0 3 "Few" "best" ["self"] [] (sp_B_best K T "Few")) (G_Few_calm : Gm P w K mg base (L2.CX P w) 5 "Few" "calm" ["self", "line"] [] (sp_B_calm K T "Few")) (G_Few_end : Gm P w K mg base (L2.CX P w) 4 "Few" "end" ["self", "line"] [] (sp_B_end K T "Few")) (G_Few_free : Gm P w K mg base (L2.CX P w) 5 "Few" "free" ["self", "line"] [] (sp_B_free K T "Few")) (G_Few_mute : Gm P w K mg base (L2.CX P w) 5 "Few" "mute" ["self", "line"] [] (sp_B_mute K T "Few")) (G_Few_ring : Gm P w K mg base (L2.CX P w) 5 "Few" "ring" ["self", "line"] [] (sp_B_ring K T "Few")) (G_Few_take : Gm P w K mg base CX0 5 "Few" "take" ["self"] [] (sp_B_take K T "Few")) (G_Wide_bar : Gm P w K mg base (L2.CX P w) 3 "Wide" "bar" ["self", "rank"] [] (sp_B_bar K T "Wide")) (G_Wide_best : Gm P w K mg base CX0 3 "Wide" "best" ["self"] [] (sp_B_best K T "Wide")) (G_Wide_calm : Gm P w K mg base (L2.CX P w) 5 "Wide" "calm" ["self", "line"] [] (sp_B_calm K T "Wide")) (G_Wide_end : Gm P w K mg base (L2.CX P w) 4 "Wide" "end" ["self", "line"] [] (sp_B_end K T "Wide")) (G_Wide_free : Gm P w K mg base (L2.CX P w) 5 "Wide" "free" ["self", "line"] [] (sp_B_free K T "Wide")) (G_Wide_mute : Gm P w K mg base (L2.CX P w) 5 "Wide" "mute" ["self", "line"] [] (sp_B_mute K T "Wide")) (G_Wide_ring : Gm P w K mg base (L2.CX P w) 5 "Wide" "ring" ["self", "line"] [] (sp_B_ring K T "Wide")) (G_Wide_take : Gm P w K mg base CX0 5 "Wide" "take" ["self"] [] (sp_B_take K T "Wide")) : Gd P w K mg base (L2.CX P w) 6 "done" ["board", "deed"] (sp_done K T) :=
  D.okX sc_done len_done (fun _ _ _ _ _ _ us hl => match us, hl with | [_, _], _ => rfl) fun f cdv A outer s H vs Q E hr h => ⟨r_done K T E,
  (pss_cons (ps_set (i := 2) sc_done.nd rfl (Or.inl rfl) (pe_ix ix_tup (pv 1) pe_int (fun _ _ => rfl)))
  (pss_cons (ps_if (pt_cmpR op_eq (pv 2) pe_str (nomark _)) (pss_one (ps_ret (pe_either (pe_m0 G_Wide_best (hr.mono (by decide)) pass0 (pv 0)) (pe_m0 G_Few_best (hr.mono (by decide)) pass0 (pv 0))))) pss_nil)
  (pss_cons (ps_if (pt_cmpR op_eq (pv 2) pe_str (nomark _)) (pss_one (ps_ret (pe_either (pe_m0 G_Wide_take (hr.mono (by decide)) pass0 (pv 0)) (pe_m0 G_Few_take (hr.mono (by decide)) pass0 (pv 0))))) pss_nil)
  (pss_cons (ps_if (pt_cmpR op_eq (pv 2) pe_str (nomark _)) (pss_one (ps_ret (pe_either (pe_m G_Wide_ring (hr.mono (by decide)) (passE (takes_of rfl rfl rfl rfl)) (pv 0) (pa_cons (pe_ix ix_tup (pv 1) pe_int (fun _ _ => rfl)) pa_nil)) (pe_m G_Few_ring (hr.mono (by decide)) (passE (takes_of rfl rfl rfl rfl)) (pv 0) (pa_cons (pe_ix ix_tup (pv 1) pe_int (fun _ _ => rfl)) pa_nil))))) pss_nil)
  (pss_cons (ps_if (pt_cmpR op_eq (pv 2) pe_str (nomark _)) (pss_one (ps_ret (pe_either (pe_m G_Wide_calm (hr.mono (by decide)) (passE (takes_of rfl rfl rfl rfl)) (pv 0) (pa_cons (pe_ix ix_tup (pv 1) pe_int (fun _ _ => rfl)) pa_nil)) (pe_m G_Few_calm (hr.mono (by decide)) (passE (takes_of rfl rfl rfl rfl)) (pv 0) (pa_cons (pe_ix ix_tup (pv 1) pe_int (fun _ _ => rfl)) pa_nil))))) pss_nil)
  (pss_cons (ps_if (pt_cmpR op_eq (pv 2) pe_str (nomark _)) (pss_one (ps_ret (pe_either (pe_m G_Wide_mute (hr.mono (by decide)) (passE (takes_of rfl rfl rfl rfl)) (pv 0) (pa_cons (pe_ix ix_tup (pv 1) pe_int (fun _ _ => rfl)) pa_nil)) (pe_m G_Few_mute (hr.mono (by decide)) (passE (takes_of rfl rfl rfl rfl)) (pv 0) (pa_cons (pe_ix ix_tup (pv 1) pe_int (fun _ _ => rfl)) pa_nil))))) pss_nil)
  (pss_cons (ps_if (pt_cmpR op_eq (pv 2) pe_str (nomark _)) (pss_one (ps_ret (pe_either (pe_m G_Wide_free (hr.mono (by decide)) (passE (takes_of rfl rfl rfl rfl)) (pv 0) (pa_cons (pe_ix ix_tup (pv 1) pe_int (fun _ _ => rfl)) pa_nil)) (pe_m G_Few_free (hr.mono (by decide)) (passE (takes_of rfl rfl rfl rfl)) (pv 0) (pa_cons (pe_ix ix_tup (pv 1) pe_int (fun _ _ => rfl)) pa_nil))))) pss_nil)
  (pss_cons (ps_if (pt_cmpR op_eq (pv 2) pe_str (nomark _)) (pss_one (ps_ret (pe_either (pe_m G_Wide_bar (hr.mono (by decide)) (passE (takes_of rfl rfl rfl rfl)) (pv 0) (pa_cons (pe_ix ix_tup (pv 1) pe_int (fun _ _ => rfl)) pa_nil)) (pe_m G_Few_bar (hr.mono (by decide)) (passE (takes_of rfl rfl rfl rfl)) (pv 0) (pa_cons (pe_ix ix_tup (pv 1) pe_int (fun _ _ => rfl)) pa_nil))))) pss_nil)
  (pss_one (ps_ret (pe_either (pe_m G_Wide_end (hr.mono (by decide)) (passE (takes_of rfl rfl rfl rfl)) (pv 0) (pa_cons (pe_ix ix_tup (pv 1) pe_int (fun _ _ => rfl)) pa_nil)) (pe_m G_Few_end (hr.mono (by decide)) (passE (takes_of rfl rfl rfl rfl)) (pv 0) (pa_cons (pe_ix ix_tup (pv 1) pe_int (fun _ _ => rfl)) pa_nil))))))))))))), p_done h⟩
theorem sc_answer : FnScope ["board", "deed", "told"] ["board", "deed"] (defScope s_answer) := ⟨rfl, rfl, rfl, by decide +kernel, rfl, by decide +kernel, by decide +kernel⟩
theorem g_answer {P : Program} {w : World} {K : PySem.W.Frag} {mg : Str → Option Value} {base : Heap} {T : List (Addr × Str)} (B : Bi mg) (D : Df K mg "answer" s_answer) (cg_NoBar : mg "NoBar" = some (.ref (He.ga K "NoBar"))) (cg_NoLine : mg "NoLine" = some (.ref (He.ga K "NoLine"))) (cg_NotTop : mg "NotTop" = some (.ref (He.ga K "NotTop"))) (G_done : Gd P w K mg base (L2.CX P w) 6 "done" ["board", "deed"] (sp_done K T)) : Gd P w K mg base CX0 7 "answer" ["board", "deed"] (sp_answer K T) :=
  D.ok0 sc_answer len_answer (fun _ _ _ _ _ _ us hl => match us, hl with | [_, _], _ => rfl) fun f cdv A outer s H vs Q E hr h => ⟨r_answer K T,
  (pss_one (ps_tryManyE (l := [(.ref (He.ga K "NoLine"), (tRet (tTup (tCons (tC (.str "refused")) (tCons (tC (.str "line")) tNil))))), (.ref (He.ga K "NoBar"), (tRet (tTup (tCons (tC (.str "refused")) (tCons (tC (.str "bar")) tNil))))), (.ref (He.ga K "NotTop"), (tRet (tTup (tCons (tC (.str "refused")) (tCons (tC (.str "top")) tNil)))))]) (pss_one (ps_ret (pv 2))) rfl rfl (fun W pn xe tk _ => (pss_one (ps_set (i := 2) sc_answer.nd rfl (Or.inl rfl) (pe_gS G_done (hr.mono (by decide)) rfl (fun σ => passAt tk σ) (pa_cons (pv 0) (pa_cons (pv 1) pa_nil)))))) (hds_cons ⟨rfl, by decide, .inl cg_NoLine⟩ (fun _ _ _ => (pss_one (ps_ret (pe_tup (pa_cons pe_str (pa_cons pe_str pa_nil)))))) (hds_cons ⟨rfl, by decide, .inl cg_NoBar⟩ (fun _ _ _ => (pss_one (ps_ret (pe_tup (pa_cons pe_str (pa_cons pe_str pa_nil)))))) (hds_cons ⟨rfl, by decide, .inl cg_NotTop⟩ (fun _ _ _ => (pss_one (ps_ret (pe_tup (pa_cons pe_str (pa_cons pe_str pa_nil)))))) .nil))))), p_answer h⟩
theorem sc_play : FnScope ["board", "deeds", "place", "thing", "deed"] ["board", "deeds"] (defScope s_play) := ⟨rfl, rfl, rfl, by decide +kernel, rfl, by decide +kernel, by decide +kernel⟩
theorem g_play {P : Program} {w : World} {K : PySem.W.Frag} {mg : Str → Option Value} {base : Heap} {T : List (Addr × Str)} (B : Bi mg) (D : Df K mg "play" s_play) (G_NoDeed : Ge P w K mg base 1 "NoDeed" ["self", "place"] ["place"] (sp_NoDeed_init K T)) (G_answer : Gd P w K mg base CX0 7 "answer" ["board", "deed"] (sp_answer K T)) (G_is_deed : Gd P w K mg base CX0 2 "is_deed" ["thing"] (sp_is_deed K T)) : Gd P w K mg base (L2.CX P w) 8 "play" ["board", "deeds"] (sp_play K T) :=
  D.okX sc_play len_play (fun _ _ _ _ _ _ us hl => match us, hl with | [_, _], _ => rfl) fun f cdv A outer s H vs Q E hr h => ⟨r_play K T E,
  (pss_cons (ps_for (passes_of rfl) rfl (pi_enum rfl B.enumerate (pa_cons (pv 1) pa_nil)) (pg_tup rfl (pgs_cons (pg_name (i := 2) sc_play.nd rfl (Or.inl rfl)) (pgs_cons (pg_name (i := 3) sc_play.nd rfl (Or.inl rfl)) pgs_nil))) (pss_one (ps_if (pt_not (pt_val (pe_g G_is_deed (hr.mono (by decide)) rfl pass0 (pa_cons (pv 3) pa_nil)))) (pss_one (ps_noI G_NoDeed rfl (hr.mono (by decide)) (takes_of rfl rfl rfl rfl) rfl (pa_cons (pv 2) pa_nil))) pss_nil)))
  (PSs.nox (pss_one (ps_ret (pe_lc (own := [("deed", 4)]) rfl sc_play.nd (pi_list (pv 1)) (blkOk_by (own := [("deed", 4)]) (N := ["board", "deeds", "place", "thing", "deed"]) (sc := defScope s_play) (by decide +kernel)) (fun _ _ _ _ _ => (pg_name (i := 4) sc_play.nd rfl (Or.inl rfl))) (fun _ _ _ _ _ => pts_nil) (fun _ _ _ _ _ => (pe_g G_answer (hr.mono (by decide)) rfl pass0 (pa_cons (pv 0) (pa_cons (pv 4) pa_nil))))))))), p_play h⟩
theorem sc_is_whole : FnScope ["thing"] ["thing"] (defScope s_is_whole) := ⟨rfl, rfl, rfl, by decide +kernel, rfl, by decide +kernel, by decide +kernel⟩
theorem g_is_whole {P : Program} {w : World} {K : PySem.W.Frag} {mg : Str → Option Value} {base : Heap} {T : List (Addr × Str)} (B : Bi mg) (D : Df K mg "is_whole" s_is_whole)  : Gd P w K mg base CX0 1 "is_whole" ["thing"] (sp_is_whole K T) :=
  D.ok0 sc_is_whole len_is_whole (fun _ _ _ _ _ _ us hl => match us, hl with | [_], _ => rfl) fun f cdv A outer s H vs Q E hr h => ⟨r_is_whole K T,
  (pss_one (ps_ret (pe_and (pe_callB call_is rfl B.isinstance (by decide +kernel) (pa_cons (pv 0) (pa_cons (pe_bltn (v := .ty "int") rfl B.int (by decide +kernel) rfl) pa_nil))) (pe_one (pe_not (pe_callB call_is rfl B.isinstance (by decide +kernel) (pa_cons (pv 0) (pa_cons (pe_bltn (v := .ty "bool") rfl B.bool (by decide +kernel) rfl) pa_nil)))))))), p_is_whole h⟩
theorem sc_is_rank : FnScope ["thing"] ["thing"] (defScope s_is_rank) := ⟨rfl, rfl, rfl, by decide +kernel, rfl, by decide +kernel, by decide +kernel⟩
theorem g_is_rank {P : Program} {w : World} {K : PySem.W.Frag} {mg : Str → Option Value} {base : Heap} {T : List (Addr × Str)} (B : Bi mg) (D : Df K mg "is_rank" s_is_rank) (G_is_whole : Gd P w K mg base CX0 1 "is_whole" ["thing"] (sp_is_whole K T)) : Gd P w K mg base CX0 2 "is_rank" ["thing"] (sp_is_rank K T) :=
  D.ok0 sc_is_rank len_is_rank (fun _ _ _ _ _ _ us hl => match us, hl with | [_], _ => rfl) fun f cdv A outer s H vs Q E hr h => ⟨r_is_rank K T,
  (pss_one (ps_ret (pe_and (pe_g G_is_whole (hr.mono (by decide)) rfl pass0 (pa_cons (pv 0) pa_nil)) (pe_one (pe_chain op_le op_lt pe_int (pv 0) (pe_op op_pow pe_int pe_int)))))), p_is_rank h⟩
theorem sc_is_line : FnScope ["ranks", "thing"] ["ranks", "thing"] (defScope s_is_line) := ⟨rfl, rfl, rfl, by decide +kernel, rfl, by decide +kernel, by decide +kernel⟩
theorem g_is_line {P : Program} {w : World} {K : PySem.W.Frag} {mg : Str → Option Value} {base : Heap} {T : List (Addr × Str)} (B : Bi mg) (D : Df K mg "is_line" s_is_line) (G_is_whole : Gd P w K mg base CX0 1 "is_whole" ["thing"] (sp_is_whole K T)) : Gd P w K mg base CX0 2 "is_line" ["ranks", "thing"] (sp_is_line K T) :=
  D.ok0 sc_is_line len_is_line (fun _ _ _ _ _ _ us hl => match us, hl with | [_, _], _ => rfl) fun f cdv A outer s H vs Q E hr h => ⟨r_is_line K T,
  (pss_one (ps_ret (pe_and (pe_g G_is_whole (hr.mono (by decide)) rfl pass0 (pa_cons (pv 1) pa_nil)) (pe_one (pe_chain op_le op_lt pe_int (pv 1) (pe_callB call_len_seq rfl B.len boot_len (pa_cons (pv 0) pa_nil))))))), p_is_line h⟩
theorem sc_before : FnScope ["ranks", "one", "other"] ["ranks", "one", "other"] (defScope s_before) := ⟨rfl, rfl, rfl, by decide +kernel, rfl, by decide +kernel, by decide +kernel⟩
theorem g_before {P : Program} {w : World} {K : PySem.W.Frag} {mg : Str → Option Value} {base : Heap} {T : List (Addr × Str)} (B : Bi mg) (D : Df K mg "before" s_before)  : Gd P w K mg base CX0 1 "before" ["ranks", "one", "other"] (sp_before K T) :=
  D.ok0 sc_before len_before (fun _ _ _ _ _ _ us hl => match us, hl with | [_, _, _], _ => rfl) fun f cdv A outer s H vs Q E hr h => ⟨r_before K T,
  (pss_cons (ps_if (pt_cmpR op_ne (pe_ix ix_list (pv 0) (pv 1) (fun _ _ => rfl)) (pe_ix ix_list (pv 0) (pv 2) (fun _ _ => rfl)) (nomark _)) (pss_one (ps_ret (pe_cmpR op_lt (pe_ix ix_list (pv 0) (pv 1) (fun _ _ => rfl)) (pe_ix ix_list (pv 0) (pv 2) (fun _ _ => rfl)) (nomark _)))) pss_nil)
  (pss_one (ps_ret (pe_cmpR op_lt (pv 1) (pv 2) (nomark _))))), p_before h⟩
theorem sc_in_order : FnScope ["ranks", "lines"] ["ranks", "lines"] (defScope s_in_order) := ⟨rfl, rfl, rfl, by decide +kernel, rfl, by decide +kernel, by decide +kernel⟩
theorem g_in_order {P : Program} {w : World} {K : PySem.W.Frag} {mg : Str → Option Value} {base : Heap} {T : List (Addr × Str)} {Pt : Addr} (B : Bi mg) (D : Df K mg "in_order" s_in_order) (TB : TabB base mg (He.codeOf K ("in_order", none)) Pt) (hmT : (Pt, ("in_order" : Str) ++ ".<locals>." ++ "<lambda>") ∈ T) (hu : ∀ p ∈ T, p.1 = Pt → p.2 = ("in_order" : Str) ++ ".<locals>." ++ "<lambda>") : Gd P w K mg base CX0 1 "in_order" ["ranks", "lines"] (sp_in_order K T) :=
  D.okC sc_in_order len_in_order (fun _ _ _ _ _ _ us hl => match us, hl with | [_, _], _ => rfl) fun f cdv A outer s H vs Q E hcode hr h => ⟨r_in_order K T, (pss_one (ps_ret (pe_sortK (ir := 0) (pa_cons (pv 1) pa_nil) hr rfl B.sorted TB hcode hmT hu rfl rfl rfl (fun _ _ _ _ _ _ => rfl)))), p_in_order h⟩
theorem sc_first_of : FnScope ["ranks", "lines", "found", "line"] ["ranks", "lines"] (defScope s_first_of) := ⟨rfl, rfl, rfl, by decide +kernel, rfl, by decide +kernel, by decide +kernel⟩
theorem g_first_of {P : Program} {w : World} {K : PySem.W.Frag} {mg : Str → Option Value} {base : Heap} {T : List (Addr × Str)} (B : Bi mg) (D : Df K mg "first_of" s_first_of) (G_before : Gd P w K mg base CX0 1 "before" ["ranks", "one", "other"] (sp_before K T)) : Gd P w K mg base CX0 2 "first_of" ["ranks", "lines"] (sp_first_of K T) :=
  D.ok0 sc_first_of len_first_of (fun _ _ _ _ _ _ us hl => match us, hl with | [_, _], _ => rfl) fun f cdv A outer s H vs Q E hr h => ⟨r_first_of K T,
  (pss_cons (ps_set (i := 2) sc_first_of.nd rfl (Or.inl rfl) pe_non)
  (pss_cons (ps_for PassesOwn.never rfl (pi_list (pv 1)) (pg_name (i := 3) sc_first_of.nd rfl (Or.inl rfl)) (pss_one (ps_if (PW.pt (pw_or (pt_cmpR op_isN (pv 2) pe_non (nomark _)) (pw_or1 (pt_val (pe_g G_before (hr.mono (by decide)) rfl pass0 (pa_cons (pv 0) (pa_cons (pv 3) (pa_cons (pv 2) pa_nil)))))))) (pss_one (ps_set (i := 2) sc_first_of.nd rfl (Or.inl rfl) (pv 3))) pss_nil)))
  (pss_one (ps_ret (pv 2))))), p_first_of h⟩
theorem sc_is_board : FnScope ["thing", "rank"] ["thing"] (defScope s_is_board) := ⟨rfl, rfl, rfl, by decide +kernel, rfl, by decide +kernel, by decide +kernel⟩
theorem g_is_board {P : Program} {w : World} {K : PySem.W.Frag} {mg : Str → Option Value} {base : Heap} {T : List (Addr × Str)} (B : Bi mg) (D : Df K mg "is_board" s_is_board) (c_MOST_board : ∃ t, mg "MOST_board" = some (.int 60 t)) (G_is_rank : Gd P w K mg base CX0 2 "is_rank" ["thing"] (sp_is_rank K T)) : Gd P w K mg base CX0 3 "is_board" ["thing"] (sp_is_board K T) :=
  D.ok0 sc_is_board len_is_board (fun _ _ _ _ _ _ us hl => match us, hl with | [_], _ => rfl) fun f cdv A outer s H vs Q E hr h => ⟨r_is_board K T,
  (pss_cons (ps_if (PW.pt (pw_or (pt_not (pt_val (pe_callB call_is rfl B.isinstance (by decide +kernel) (pa_cons (pv 0) (pa_cons (pe_bltn (v := .ty "list") rfl B.list (by decide +kernel) rfl) pa_nil))))) (pw_or (pt_cmpR op_lt (pe_callB call_len_seq rfl B.len boot_len (pa_cons (pv 0) pa_nil)) pe_int (nomark _)) (pw_or1 (pt_cmpR op_gt (pe_callB call_len_seq rfl B.len boot_len (pa_cons (pv 0) pa_nil)) (pe_gi c_MOST_board rfl) (nomark _)))))) (pss_one (ps_ret pe_bl)) pss_nil)
  (pss_one (ps_ret (pe_callB (cr_all rfl) rfl B.all (by decide +kernel) (pa_cons (pe_lc (own := [("rank", 1)]) rfl sc_is_board.nd (pi_list (pv 0)) (blkOk_by (own := [("rank", 1)]) (N := ["thing", "rank"]) (sc := defScope s_is_board) (by decide +kernel)) (fun _ _ _ _ _ => (pg_name (i := 1) sc_is_board.nd rfl (Or.inl rfl))) (fun _ _ _ _ _ => pts_nil) (fun _ _ _ _ _ => (pe_g G_is_rank (hr.mono (by decide)) rfl pass0 (pa_cons (pv 1) pa_nil)))) pa_nil))))), p_is_board h⟩
theorem sc_is_bar : FnScope ["thing"] ["thing"] (defScope s_is_bar) := ⟨rfl, rfl, rfl, by decide +kernel, rfl, by decide +kernel, by decide +kernel⟩
theorem g_is_bar {P : Program} {w : World} {K : PySem.W.Frag} {mg : Str → Option Value} {base : Heap} {T : List (Addr × Str)} (B : Bi mg) (D : Df K mg "is_bar" s_is_bar) (G_is_whole : Gd P w K mg base CX0 1 "is_whole" ["thing"] (sp_is_whole K T)) : Gd P w K mg base CX0 2 "is_bar" ["thing"] (sp_is_bar K T) :=
  D.ok0 sc_is_bar len_is_bar (fun _ _ _ _ _ _ us hl => match us, hl with | [_], _ => rfl) fun f cdv A outer s H vs Q E hr h => ⟨r_is_bar K T,
  (pss_one (ps_ret (pe_or (pe_cmpR op_isN (pv 0) pe_non (nomark _)) (pe_one (pe_and (pe_g G_is_whole (hr.mono (by decide)) rfl pass0 (pa_cons (pv 0) pa_nil)) (pe_one (pe_chain op_le op_le pe_int (pv 0) (pe_op op_pow pe_int pe_int)))))))), p_is_bar h⟩
theorem sc_are_lines : FnScope ["ranks", "thing", "line"] ["ranks", "thing"] (defScope s_are_lines) := ⟨rfl, rfl, rfl, by decide +kernel, rfl, by decide +kernel, by decide +kernel⟩
theorem g_are_lines {P : Program} {w : World} {K : PySem.W.Frag} {mg : Str → Option Value} {base : Heap} {T : List (Addr × Str)} (B : Bi mg) (D : Df K mg "are_lines" s_are_lines) (G_is_line : Gd P w K mg base CX0 2 "is_line" ["ranks", "thing"] (sp_is_line K T)) : Gd P w K mg base CX0 3 "are_lines" ["ranks", "thing"] (sp_are_lines K T) :=
  D.ok0 sc_are_lines len_are_lines (fun _ _ _ _ _ _ us hl => match us, hl with | [_, _], _ => rfl) fun f cdv A outer s H vs Q E hr h => ⟨r_are_lines K T,
  (pss_one (ps_ret (pe_and (pe_callB call_is rfl B.isinstance (by decide +kernel) (pa_cons (pv 1) (pa_cons (pe_bltn (v := .ty "list") rfl B.list (by decide +kernel) rfl) pa_nil))) (pe_one (pe_callB (cr_all rfl) rfl B.all (by decide +kernel) (pa_cons (pe_lc (own := [("line", 2)]) rfl sc_are_lines.nd (pi_list (pv 1)) (blkOk_by (own := [("line", 2)]) (N := ["ranks", "thing", "line"]) (sc := defScope s_are_lines) (by decide +kernel)) (fun _ _ _ _ _ => (pg_name (i := 2) sc_are_lines.nd rfl (Or.inl rfl))) (fun _ _ _ _ _ => pts_nil) (fun _ _ _ _ _ => (pe_g G_is_line (hr.mono (by decide)) rfl pass0 (pa_cons (pv 0) (pa_cons (pv 2) pa_nil))))) pa_nil)))))), p_are_lines h⟩
theorem sc_are_rising : FnScope ["ranks", "thing", "one", "other"] ["ranks", "thing"] (defScope s_are_rising) := ⟨rfl, rfl, rfl, by decide +kernel, rfl, by decide +kernel, by decide +kernel⟩
theorem g_are_rising {P : Program} {w : World} {K : PySem.W.Frag} {mg : Str → Option Value} {base : Heap} {T : List (Addr × Str)} (B : Bi mg) (D : Df K mg "are_rising" s_are_rising) (G_are_lines : Gd P w K mg base CX0 3 "are_lines" ["ranks", "thing"] (sp_are_lines K T)) : Gd P w K mg base CX0 4 "are_rising" ["ranks", "thing"] (sp_are_rising K T) :=
  D.ok0 sc_are_rising len_are_rising (fun _ _ _ _ _ _ us hl => match us, hl with | [_, _], _ => rfl) fun f cdv A outer s H vs Q E hr h => ⟨r_are_rising K T,
  (pss_cons (ps_if (pt_not (pt_val (pe_g G_are_lines (hr.mono (by decide)) rfl pass0 (pa_cons (pv 0) (pa_cons (pv 1) pa_nil))))) (pss_one (ps_ret pe_bl)) pss_nil)
  (pss_cons (ps_for PassesOwn.never rfl (pi_zip rfl B.zip (pa_cons (pe_slice sl_list (pv 1) po_none (po_some (pe_un un_neg pe_int))) (pa_cons (pe_slice sl_list (pv 1) (po_some pe_int) po_none) pa_nil))) (pg_tup rfl (pgs_cons (pg_name (i := 2) sc_are_rising.nd rfl (Or.inl rfl)) (pgs_cons (pg_name (i := 3) sc_are_rising.nd rfl (Or.inl rfl)) pgs_nil))) (pss_one (ps_if (pt_cmpR op_ge (pv 2) (pv 3) (nomark _)) (pss_one (ps_ret pe_bl)) pss_nil)))
  (pss_one (ps_ret pe_bl)))), p_are_rising h⟩
theorem sc_are_nested : FnScope ["ranks", "thing", "one", "other"] ["ranks", "thing"] (defScope s_are_nested) := ⟨rfl, rfl, rfl, by decide +kernel, rfl, by decide +kernel, by decide +kernel⟩
theorem g_are_nested {P : Program} {w : World} {K : PySem.W.Frag} {mg : Str → Option Value} {base : Heap} {T : List (Addr × Str)} (B : Bi mg) (D : Df K mg "are_nested" s_are_nested) (G_are_lines : Gd P w K mg base CX0 3 "are_lines" ["ranks", "thing"] (sp_are_lines K T)) : Gd P w K mg base CX0 4 "are_nested" ["ranks", "thing"] (sp_are_nested K T) :=
  D.ok0 sc_are_nested len_are_nested (fun _ _ _ _ _ _ us hl => match us, hl with | [_, _], _ => rfl) fun f cdv A outer s H vs Q E hr h => ⟨r_are_nested K T,
  (pss_cons (ps_if (pt_not (pt_val (pe_g G_are_lines (hr.mono (by decide)) rfl pass0 (pa_cons (pv 0) (pa_cons (pv 1) pa_nil))))) (pss_one (ps_ret pe_bl)) pss_nil)
  (pss_cons (ps_for PassesOwn.never rfl (pi_zip rfl B.zip (pa_cons (pe_slice sl_list (pv 1) po_none (po_some (pe_un un_neg pe_int))) (pa_cons (pe_slice sl_list (pv 1) (po_some pe_int) po_none) pa_nil))) (pg_tup rfl (pgs_cons (pg_name (i := 2) sc_are_nested.nd rfl (Or.inl rfl)) (pgs_cons (pg_name (i := 3) sc_are_nested.nd rfl (Or.inl rfl)) pgs_nil))) (pss_one (ps_if (pt_cmpR op_le (pe_ix ix_list (pv 0) (pv 2) (fun _ _ => rfl)) (pe_ix ix_list (pv 0) (pv 3) (fun _ _ => rfl)) (nomark _)) (pss_one (ps_ret pe_bl)) pss_nil)))
  (pss_one (ps_ret pe_bl)))), p_are_nested h⟩
theorem sc_is_picture : FnScope ["ranks", "thing"] ["ranks", "thing"] (defScope s_is_picture) := ⟨rfl, rfl, rfl, by decide +kernel, rfl, by decide +kernel, by decide +kernel⟩
theorem g_is_picture {P : Program} {w : World} {K : PySem.W.Frag} {mg : Str → Option Value} {base : Heap} {T : List (Addr × Str)} (B : Bi mg) (D : Df K mg "is_picture" s_is_picture) (G_are_nested : Gd P w K mg base CX0 4 "are_nested" ["ranks", "thing"] (sp_are_nested K T)) (G_are_rising : Gd P w K mg base CX0 4 "are_rising" ["ranks", "thing"] (sp_are_rising K T)) (G_is_bar : Gd P w K mg base CX0 2 "is_bar" ["thing"] (sp_is_bar K T)) : Gd P w K mg base CX0 5 "is_picture" ["ranks", "thing"] (sp_is_picture K T) :=
  D.ok0 sc_is_picture len_is_picture (fun _ _ _ _ _ _ us hl => match us, hl with | [_, _], _ => rfl) fun f cdv A outer s H vs Q E hr h => ⟨r_is_picture K T,
  (pss_cons (ps_if (PW.pt (pw_or (pt_not (pt_val (pe_callB call_is rfl B.isinstance (by decide +kernel) (pa_cons (pv 1) (pa_cons (pe_bltn (v := .ty "tuple") rfl B.tuple (by decide +kernel) rfl) pa_nil))))) (pw_or1 (pt_cmpR op_ne (pe_callB call_len_seq rfl B.len boot_len (pa_cons (pv 1) pa_nil)) pe_int (nomark _))))) (pss_one (ps_ret pe_bl)) pss_nil)
  (pss_cons (ps_if (PW.pt (pw_or (pt_not (pt_val (pe_g G_are_rising (hr.mono (by decide)) rfl pass0 (pa_cons (pv 0) (pa_cons (pe_ix ix_tup (pv 1) pe_int (fun _ _ => rfl)) pa_nil))))) (pw_or1 (pt_not (pt_val (pe_g G_are_rising (hr.mono (by decide)) rfl pass0 (pa_cons (pv 0) (pa_cons (pe_ix ix_tup (pv 1) pe_int (fun _ _ => rfl)) pa_nil)))))))) (pss_one (ps_ret pe_bl)) pss_nil)
  (pss_one (ps_ret (pe_and (pe_g G_are_nested (hr.mono (by decide)) rfl pass0 (pa_cons (pv 0) (pa_cons (pe_ix ix_tup (pv 1) pe_int (fun _ _ => rfl)) pa_nil))) (pe_one (pe_g G_is_bar (hr.mono (by decide)) rfl pass0 (pa_cons (pe_ix ix_tup (pv 1) pe_int (fun _ _ => rfl)) pa_nil)))))))), p_is_picture h⟩
theorem sc_marked : FnScope ["many", "lines", "found", "line"] ["many", "lines"] (defScope s_marked) := ⟨rfl, rfl, rfl, by decide +kernel, rfl, by decide +kernel, by decide +kernel⟩
theorem g_marked {P : Program} {w : World} {K : PySem.W.Frag} {mg : Str → Option Value} {base : Heap} {T : List (Addr × Str)} (B : Bi mg) (D : Df K mg "marked" s_marked)  : Gd P w K mg base CX0 1 "marked" ["many", "lines"] (sp_marked K T) :=
  D.ok0 sc_marked len_marked (fun _ _ _ _ _ _ us hl => match us, hl with | [_, _], _ => rfl) fun f cdv A outer s H vs Q E hr h => ⟨r_marked K T,
  (pss_cons (ps_set (i := 2) sc_marked.nd rfl (Or.inl rfl) (pe_op op_rep (pe_lst (pa_cons pe_bl pa_nil)) (pv 0)))
  (pss_cons (ps_for PassesOwn.never rfl (pi_list (pv 1)) (pg_name (i := 3) sc_marked.nd rfl (Or.inl rfl)) (pss_one (ps_asg pe_bl (pg_sub (pv 2) (pv 3) set_list))))
  (pss_one (ps_ret (pv 2))))), p_marked h⟩
theorem sc_NotTop_init : FnScope ["self", "line", "top"] ["self", "line", "top"] (defScope s_NotTop_init) := ⟨rfl, rfl, rfl, by decide +kernel, rfl, by decide +kernel, by decide +kernel⟩
theorem g_NotTop_init {P : Program} {w : World} {K : PySem.W.Frag} {mg : Str → Option Value} {base : Heap} {T : List (Addr × Str)} (B : Bi mg) (D : De K mg "NotTop" "NotTop.__init__" s_NotTop_init ["line", "top"]) (Q_BoardError : Cm K mg "BoardError" "__init__" (.builtin "ValueError.__init__")) : Ge P w K mg base 1 "NotTop" ["self", "line", "top"] ["line", "top"] (sp_NotTop_init K T) :=
  D.ge sc_NotTop_init len_NotTop_init (fun _ _ _ _ _ _ us hl => match us, hl with | [_, _, _], _ => rfl) fun f cdv A outer s H vs Q E hr h => ⟨r_NotTop_init K T,
  (pss_cons (ps_expr (pe_cmV Q_BoardError rfl (pa_cons (pv 0) (pa_cons pe_str pa_nil))))
  (pss_cons (ps_ost (pv 0) (pv 1))
  (pss_one (ps_ost (pv 0) (pv 2))))), p_NotTop_init h⟩
theorem sc_NoDeed_init : FnScope ["self", "place"] ["self", "place"] (defScope s_NoDeed_init) := ⟨rfl, rfl, rfl, by decide +kernel, rfl, by decide +kernel, by decide +kernel⟩
theorem g_NoDeed_init {P : Program} {w : World} {K : PySem.W.Frag} {mg : Str → Option Value} {base : Heap} {T : List (Addr × Str)} (B : Bi mg) (D : De K mg "NoDeed" "NoDeed.__init__" s_NoDeed_init ["place"]) (Q_BoardError : Cm K mg "BoardError" "__init__" (.builtin "ValueError.__init__")) : Ge P w K mg base 1 "NoDeed" ["self", "place"] ["place"] (sp_NoDeed_init K T) :=
  D.ge sc_NoDeed_init len_NoDeed_init (fun _ _ _ _ _ _ us hl => match us, hl with | [_, _], _ => rfl) fun f cdv A outer s H vs Q E hr h => ⟨r_NoDeed_init K T,
  (pss_cons (ps_expr (pe_cmV Q_BoardError rfl (pa_cons (pv 0) (pa_cons pe_str pa_nil))))
  (pss_one (ps_ost (pv 0) (pv 1)))), p_NoDeed_init h⟩
theorem sc_Board_init : FnScope ["self", "ranks", "picture"] ["self", "ranks", "picture"] (defScope s_Board_init) := ⟨rfl, rfl, rfl, by decide +kernel, rfl, by decide +kernel, by decide +kernel⟩
theorem g_Board_init {P : Program} {w : World} {K : PySem.W.Frag} {mg : Str → Option Value} {base : Heap} {T : List (Addr × Str)} {c : Str} (B : Bi mg) (D : Dk K mg c "Board.__init__" s_Board_init [.non]) (R_NoBoard : Ee K mg "NoBoard") (R_NoPicture : Ee K mg "NoPicture") (G_is_board : Gd P w K mg base CX0 3 "is_board" ["thing"] (sp_is_board K T)) (G_is_picture : Gd P w K mg base CX0 5 "is_picture" ["ranks", "thing"] (sp_is_picture K T)) (G_marked : Gd P w K mg base CX0 1 "marked" ["many", "lines"] (sp_marked K T)) : Gk P w K mg base (L2.CX P w) 6 c ["self", "ranks", "picture"] [.non] (sp_B_init K T c) :=
  D.gk (D.dm.fnX sc_Board_init len_B_init (fun _ _ F => by obtain ⟨ds, h1, h2⟩ := F.binds1 (ps := ["self", "ranks", "picture"]) 2 0 (by simp) rfl (fun _ _ _ _ _ _ _ us its hl hi => match us, its, hl, hi with | [_, _], [_], _, _ => ⟨_, rfl, by kernel_rfl⟩); exact ⟨ds, h2, h1⟩) (fun f cdv A outer s H vs Q E hr h => ⟨r_Board_init K T c E,
  (pss_cons (ps_if (pt_not (pt_val (pe_g G_is_board (hr.mono (by decide)) rfl pass0 (pa_cons (pv 1) pa_nil)))) (pss_one (ps_no R_NoBoard rfl (takes_of rfl rfl rfl rfl) rfl)) pss_nil)
  (Evl.pss_cut (ps_if (pt_cmpR op_isN (pv 2) pe_non (nomark _)) (pss_one (ps_set (i := 2) sc_Board_init.nd rfl (Or.inl rfl) (pe_tup (pa_cons (pe_lst pa_nil) (pa_cons (pe_lst pa_nil) (pa_cons (pe_lst pa_nil) (pa_cons pe_non pa_nil))))))) pss_nil)
  (pss_cons (ps_if (pt_not (pt_val (pe_g G_is_picture (hr.mono (by decide)) rfl pass0 (pa_cons (pv 1) (pa_cons (pv 2) pa_nil))))) (pss_one (ps_no R_NoPicture rfl (takes_of rfl rfl rfl rfl) rfl)) pss_nil)
  (PSs.nox (pss_cons (ps_fld (pv 0) (pe_callTy call_list_of rfl B.list (by decide +kernel) (pa_cons (pv 1) pa_nil)) rfl)
  (pss_cons (ps_fld (pv 0) (pe_g G_marked (hr.mono (by decide)) rfl pass0 (pa_cons (pe_callB call_len_seq rfl B.len boot_len (pa_cons (pv 1) pa_nil)) (pa_cons (pe_ix ix_tup (pv 2) pe_int (fun _ _ => rfl)) pa_nil))) rfl)
  (pss_cons (ps_fld (pv 0) (pe_g G_marked (hr.mono (by decide)) rfl pass0 (pa_cons (pe_callB call_len_seq rfl B.len boot_len (pa_cons (pv 1) pa_nil)) (pa_cons (pe_ix ix_tup (pv 2) pe_int (fun _ _ => rfl)) pa_nil))) rfl)
  (pss_cons (ps_fld (pv 0) (pe_callTy call_list_of rfl B.list (by decide +kernel) (pa_cons (pe_ix ix_tup (pv 2) pe_int (fun _ _ => rfl)) pa_nil)) rfl)
  (pss_one (ps_fld (pv 0) (pe_ix ix_tup (pv 2) pe_int (fun _ _ => rfl)) rfl)))))))))), p_B_init h⟩))
theorem g_Board_init_f {P : Program} {w : World} {K : PySem.W.Frag} {mg : Str → Option Value} {base : Heap} {T : List (Addr × Str)} {c : Str} (B : Bi mg) (D : Dk K mg c "Board.__init__" s_Board_init [.non]) (R_NoBoard : Ee K mg "NoBoard") (R_NoPicture : Ee K mg "NoPicture") (G_is_board : Gd P w K mg base CX0 3 "is_board" ["thing"] (sp_is_board K T)) (G_is_picture : Gd P w K mg base CX0 5 "is_picture" ["ranks", "thing"] (sp_is_picture K T)) (G_marked : Gd P w K mg base CX0 1 "marked" ["many", "lines"] (sp_marked K T)) : Gk P w K mg base (L2.CX P w) 6 c ["self", "ranks", "picture"] [] (sp_B_init K T c) :=
  D.gk (D.dm.fnX sc_Board_init len_B_init (fun _ _ F => by obtain ⟨ds, h1, h2⟩ := F.binds1 (ps := ["self", "ranks", "picture"]) 3 1 (by simp) rfl (fun _ _ _ _ _ _ _ us its hl hi => match us, its, hl, hi with | [_, _, _], [_], _, _ => ⟨_, rfl, by kernel_rfl⟩); exact ⟨ds, h2, h1⟩) (fun f cdv A outer s H vs Q E hr h => ⟨r_Board_init K T c E,
  (pss_cons (ps_if (pt_not (pt_val (pe_g G_is_board (hr.mono (by decide)) rfl pass0 (pa_cons (pv 1) pa_nil)))) (pss_one (ps_no R_NoBoard rfl (takes_of rfl rfl rfl rfl) rfl)) pss_nil)
  (Evl.pss_cut (ps_if (pt_cmpR op_isN (pv 2) pe_non (nomark _)) (pss_one (ps_set (i := 2) sc_Board_init.nd rfl (Or.inl rfl) (pe_tup (pa_cons (pe_lst pa_nil) (pa_cons (pe_lst pa_nil) (pa_cons (pe_lst pa_nil) (pa_cons pe_non pa_nil))))))) pss_nil)
  (pss_cons (ps_if (pt_not (pt_val (pe_g G_is_picture (hr.mono (by decide)) rfl pass0 (pa_cons (pv 1) (pa_cons (pv 2) pa_nil))))) (pss_one (ps_no R_NoPicture rfl (takes_of rfl rfl rfl rfl) rfl)) pss_nil)
  (PSs.nox (pss_cons (ps_fld (pv 0) (pe_callTy call_list_of rfl B.list (by decide +kernel) (pa_cons (pv 1) pa_nil)) rfl)
  (pss_cons (ps_fld (pv 0) (pe_g G_marked (hr.mono (by decide)) rfl pass0 (pa_cons (pe_callB call_len_seq rfl B.len boot_len (pa_cons (pv 1) pa_nil)) (pa_cons (pe_ix ix_tup (pv 2) pe_int (fun _ _ => rfl)) pa_nil))) rfl)
  (pss_cons (ps_fld (pv 0) (pe_g G_marked (hr.mono (by decide)) rfl pass0 (pa_cons (pe_callB call_len_seq rfl B.len boot_len (pa_cons (pv 1) pa_nil)) (pa_cons (pe_ix ix_tup (pv 2) pe_int (fun _ _ => rfl)) pa_nil))) rfl)
  (pss_cons (ps_fld (pv 0) (pe_callTy call_list_of rfl B.list (by decide +kernel) (pa_cons (pe_ix ix_tup (pv 2) pe_int (fun _ _ => rfl)) pa_nil)) rfl)
  (pss_one (ps_fld (pv 0) (pe_ix ix_tup (pv 2) pe_int (fun _ _ => rfl)) rfl)))))))))), p_B_init h⟩))
theorem g_Board_init_c {P : Program} {w : World} {K : PySem.W.Frag} {mg : Str → Option Value} {base : Heap} {T : List (Addr × Str)} {c : Str} (B : Bi mg) (D : Dm K "Board" "__init__" "Board.__init__" s_Board_init [.non]) (C : Cm K mg "Board" "__init__" (.ref (He.ma K (He.ga K "Board") "__init__"))) (R_NoBoard : Ee K mg "NoBoard") (R_NoPicture : Ee K mg "NoPicture") (G_is_board : Gd P w K mg base CX0 3 "is_board" ["thing"] (sp_is_board K T)) (G_is_picture : Gd P w K mg base CX0 5 "is_picture" ["ranks", "thing"] (sp_is_picture K T)) (G_marked : Gd P w K mg base CX0 1 "marked" ["many", "lines"] (sp_marked K T)) : Gc P w K mg base (L2.CX P w) 6 "Board" "__init__" ["self", "ranks", "picture"] [] (sp_B_init K T c) :=
  ⟨C, D.meth.kp, D.fnX sc_Board_init len_B_init (fun _ _ F => by obtain ⟨ds, h1, h2⟩ := F.binds1 (ps := ["self", "ranks", "picture"]) 3 1 (by simp) rfl (fun _ _ _ _ _ _ _ us its hl hi => match us, its, hl, hi with | [_, _, _], [_], _, _ => ⟨_, rfl, by kernel_rfl⟩); exact ⟨ds, h2, h1⟩) (fun f cdv A outer s H vs Q E hr h => ⟨r_Board_init K T c E,
  (pss_cons (ps_if (pt_not (pt_val (pe_g G_is_board (hr.mono (by decide)) rfl pass0 (pa_cons (pv 1) pa_nil)))) (pss_one (ps_no R_NoBoard rfl (takes_of rfl rfl rfl rfl) rfl)) pss_nil)
  (Evl.pss_cut (ps_if (pt_cmpR op_isN (pv 2) pe_non (nomark _)) (pss_one (ps_set (i := 2) sc_Board_init.nd rfl (Or.inl rfl) (pe_tup (pa_cons (pe_lst pa_nil) (pa_cons (pe_lst pa_nil) (pa_cons (pe_lst pa_nil) (pa_cons pe_non pa_nil))))))) pss_nil)
  (pss_cons (ps_if (pt_not (pt_val (pe_g G_is_picture (hr.mono (by decide)) rfl pass0 (pa_cons (pv 1) (pa_cons (pv 2) pa_nil))))) (pss_one (ps_no R_NoPicture rfl (takes_of rfl rfl rfl rfl) rfl)) pss_nil)
  (PSs.nox (pss_cons (ps_fld (pv 0) (pe_callTy call_list_of rfl B.list (by decide +kernel) (pa_cons (pv 1) pa_nil)) rfl)
  (pss_cons (ps_fld (pv 0) (pe_g G_marked (hr.mono (by decide)) rfl pass0 (pa_cons (pe_callB call_len_seq rfl B.len boot_len (pa_cons (pv 1) pa_nil)) (pa_cons (pe_ix ix_tup (pv 2) pe_int (fun _ _ => rfl)) pa_nil))) rfl)
  (pss_cons (ps_fld (pv 0) (pe_g G_marked (hr.mono (by decide)) rfl pass0 (pa_cons (pe_callB call_len_seq rfl B.len boot_len (pa_cons (pv 1) pa_nil)) (pa_cons (pe_ix ix_tup (pv 2) pe_int (fun _ _ => rfl)) pa_nil))) rfl)
  (pss_cons (ps_fld (pv 0) (pe_callTy call_list_of rfl B.list (by decide +kernel) (pa_cons (pe_ix ix_tup (pv 2) pe_int (fun _ _ => rfl)) pa_nil)) rfl)
  (pss_one (ps_fld (pv 0) (pe_ix ix_tup (pv 2) pe_int (fun _ _ => rfl)) rfl)))))))))), p_B_init h⟩)⟩
theorem sc_Board_enters : FnScope ["self", "line"] ["self", "line"] (defScope s_Board_enters) := ⟨rfl, rfl, rfl, by decide +kernel, rfl, by decide +kernel, by decide +kernel⟩
theorem g_Board_enters {P : Program} {w : World} {K : PySem.W.Frag} {mg : Str → Option Value} {base : Heap} {T : List (Addr × Str)} (B : Bi mg) (D : Dm K "Wide" "enters" "Board.enters" s_Board_enters [])  : Gm P w K mg base CX0 1 "Wide" "enters" ["self", "line"] [] (sp_B_enters K T "Wide") :=
  D.gm (D.fn0 sc_Board_enters len_B_enters (fun _ _ F => bindN (fun _ _ _ _ _ _ us hl => match us, hl with | [_, _], _ => rfl) F) (fun f cdv A outer s H vs Q E hr h => ⟨r_Board_enters K T "Wide",
  (pss_one ps_pass), p_Wide_enters h⟩))
theorem sc_Board_leaves : FnScope ["self", "line"] ["self", "line"] (defScope s_Board_leaves) := ⟨rfl, rfl, rfl, by decide +kernel, rfl, by decide +kernel, by decide +kernel⟩
theorem g_Board_leaves {P : Program} {w : World} {K : PySem.W.Frag} {mg : Str → Option Value} {base : Heap} {T : List (Addr × Str)} (B : Bi mg) (D : Dm K "Wide" "leaves" "Board.leaves" s_Board_leaves [])  : Gm P w K mg base CX0 1 "Wide" "leaves" ["self", "line"] [] (sp_B_leaves K T "Wide") :=
  D.gm (D.fn0 sc_Board_leaves len_B_leaves (fun _ _ F => bindN (fun _ _ _ _ _ _ us hl => match us, hl with | [_, _], _ => rfl) F) (fun f cdv A outer s H vs Q E hr h => ⟨r_Board_leaves K T "Wide",
  (pss_one ps_pass), p_Wide_leaves h⟩))
theorem sc_Board_look_at : FnScope ["self", "line"] ["self", "line"] (defScope s_Board_look_at) := ⟨rfl, rfl, rfl, by decide +kernel, rfl, by decide +kernel, by decide +kernel⟩
theorem g_Board_look_at {P : Program} {w : World} {K : PySem.W.Frag} {mg : Str → Option Value} {base : Heap} {T : List (Addr × Str)} {c : Str} (B : Bi mg) (D : Dm K c "look_at" "Board.look_at" s_Board_look_at []) (R_NoLine : Ee K mg "NoLine") (G_is_line : Gd P w K mg base CX0 2 "is_line" ["ranks", "thing"] (sp_is_line K T)) : Gm P w K mg base (L2.CX P w) 3 c "look_at" ["self", "line"] [] (sp_B_look_at K T c) :=
  D.gm (D.fnX sc_Board_look_at len_B_look_at (fun _ _ F => bindN (fun _ _ _ _ _ _ us hl => match us, hl with | [_, _], _ => rfl) F) (fun f cdv A outer s H vs Q E hr h => ⟨r_Board_look_at K T c E,
  (pss_one (ps_if (pt_not (pt_val (pe_g G_is_line (hr.mono (by decide)) rfl pass0 (pa_cons (pe_fld (pv 0) rfl) (pa_cons (pv 1) pa_nil))))) (pss_one (ps_no R_NoLine rfl (takes_of rfl rfl rfl rfl) rfl)) pss_nil)), p_B_look_at h⟩))
theorem sc_Board_ring : FnScope ["self", "line"] ["self", "line"] (defScope s_Board_ring) := ⟨rfl, rfl, rfl, by decide +kernel, rfl, by decide +kernel, by decide +kernel⟩
theorem g_Board_ring {P : Program} {w : World} {K : PySem.W.Frag} {mg : Str → Option Value} {base : Heap} {T : List (Addr × Str)} {c : Str} (B : Bi mg) (D : Dm K c "ring" "Board.ring" s_Board_ring []) (G_B_enters : Gm P w K mg base CX0 4 c "enters" ["self", "line"] [] (sp_B_enters K T c)) (G_B_look_at : Gm P w K mg base (L2.CX P w) 3 c "look_at" ["self", "line"] [] (sp_B_look_at K T c)) : Gm P w K mg base (L2.CX P w) 5 c "ring" ["self", "line"] [] (sp_B_ring K T c) :=
  D.gm (D.fnX sc_Board_ring len_B_ring (fun _ _ F => bindN (fun _ _ _ _ _ _ us hl => match us, hl with | [_, _], _ => rfl) F) (fun f cdv A outer s H vs Q E hr h => ⟨r_Board_ring K T c E,
  (pss_cons (ps_expr (pe_m G_B_look_at (hr.mono (by decide)) (passE (takes_of rfl rfl rfl rfl)) (pv 0) (pa_cons (pv 1) pa_nil)))
  (PSs.nox (pss_cons (ps_if (pt_val (pe_ix ix_list (pe_fld (pv 0) rfl) (pv 1) (fun _ _ => rfl))) (pss_one (ps_ret pe_bl)) pss_nil)
  (pss_cons (ps_asg pe_bl (pg_sub (pe_fld (pv 0) rfl) (pv 1) set_list))
  (Evl.pss_cut (ps_if (pt_not (pt_val (pe_ix ix_list (pe_fld (pv 0) rfl) (pv 1) (fun _ _ => rfl)))) (pss_one (ps_expr (pe_m G_B_enters (hr.mono (by decide)) pass0 (pv 0) (pa_cons (pv 1) pa_nil)))) pss_nil)
  (pss_one (ps_ret pe_bl))))))), p_B_ring h⟩))
theorem sc_Board_calm : FnScope ["self", "line"] ["self", "line"] (defScope s_Board_calm) := ⟨rfl, rfl, rfl, by decide +kernel, rfl, by decide +kernel, by decide +kernel⟩
theorem g_Board_calm {P : Program} {w : World} {K : PySem.W.Frag} {mg : Str → Option Value} {base : Heap} {T : List (Addr × Str)} {c : Str} (B : Bi mg) (D : Dm K c "calm" "Board.calm" s_Board_calm []) (G_B_leaves : Gm P w K mg base CX0 4 c "leaves" ["self", "line"] [] (sp_B_leaves K T c)) (G_B_look_at : Gm P w K mg base (L2.CX P w) 3 c "look_at" ["self", "line"] [] (sp_B_look_at K T c)) : Gm P w K mg base (L2.CX P w) 5 c "calm" ["self", "line"] [] (sp_B_calm K T c) :=
  D.gm (D.fnX sc_Board_calm len_B_calm (fun _ _ F => bindN (fun _ _ _ _ _ _ us hl => match us, hl with | [_, _], _ => rfl) F) (fun f cdv A outer s H vs Q E hr h => ⟨r_Board_calm K T c E,
  (pss_cons (ps_expr (pe_m G_B_look_at (hr.mono (by decide)) (passE (takes_of rfl rfl rfl rfl)) (pv 0) (pa_cons (pv 1) pa_nil)))
  (PSs.nox (pss_cons (ps_if (pt_not (pt_val (pe_ix ix_list (pe_fld (pv 0) rfl) (pv 1) (fun _ _ => rfl)))) (pss_one (ps_ret pe_bl)) pss_nil)
  (pss_cons (ps_asg pe_bl (pg_sub (pe_fld (pv 0) rfl) (pv 1) set_list))
  (Evl.pss_cut (ps_if (pt_not (pt_val (pe_ix ix_list (pe_fld (pv 0) rfl) (pv 1) (fun _ _ => rfl)))) (pss_one (ps_expr (pe_m G_B_leaves (hr.mono (by decide)) pass0 (pv 0) (pa_cons (pv 1) pa_nil)))) pss_nil)
  (pss_one (ps_ret pe_bl))))))), p_B_calm h⟩))
theorem sc_Board_mute : FnScope ["self", "line"] ["self", "line"] (defScope s_Board_mute) := ⟨rfl, rfl, rfl, by decide +kernel, rfl, by decide +kernel, by decide +kernel⟩
theorem g_Board_mute {P : Program} {w : World} {K : PySem.W.Frag} {mg : Str → Option Value} {base : Heap} {T : List (Addr × Str)} {c : Str} (B : Bi mg) (D : Dm K c "mute" "Board.mute" s_Board_mute []) (G_B_leaves : Gm P w K mg base CX0 4 c "leaves" ["self", "line"] [] (sp_B_leaves K T c)) (G_B_look_at : Gm P w K mg base (L2.CX P w) 3 c "look_at" ["self", "line"] [] (sp_B_look_at K T c)) : Gm P w K mg base (L2.CX P w) 5 c "mute" ["self", "line"] [] (sp_B_mute K T c) :=
  D.gm (D.fnX sc_Board_mute len_B_mute (fun _ _ F => bindN (fun _ _ _ _ _ _ us hl => match us, hl with | [_, _], _ => rfl) F) (fun f cdv A outer s H vs Q E hr h => ⟨r_Board_mute K T c E,
  (pss_cons (ps_expr (pe_m G_B_look_at (hr.mono (by decide)) (passE (takes_of rfl rfl rfl rfl)) (pv 0) (pa_cons (pv 1) pa_nil)))
  (PSs.nox (pss_cons (ps_if (pt_val (pe_ix ix_list (pe_fld (pv 0) rfl) (pv 1) (fun _ _ => rfl))) (pss_one (ps_ret pe_bl)) pss_nil)
  (pss_cons (ps_asg pe_bl (pg_sub (pe_fld (pv 0) rfl) (pv 1) set_list))
  (Evl.pss_cut (ps_if (pt_val (pe_ix ix_list (pe_fld (pv 0) rfl) (pv 1) (fun _ _ => rfl))) (pss_one (ps_expr (pe_m G_B_leaves (hr.mono (by decide)) pass0 (pv 0) (pa_cons (pv 1) pa_nil)))) pss_nil)
  (pss_one (ps_ret pe_bl))))))), p_B_mute h⟩))
theorem sc_Board_free : FnScope ["self", "line"] ["self", "line"] (defScope s_Board_free) := ⟨rfl, rfl, rfl, by decide +kernel, rfl, by decide +kernel, by decide +kernel⟩
theorem g_Board_free {P : Program} {w : World} {K : PySem.W.Frag} {mg : Str → Option Value} {base : Heap} {T : List (Addr × Str)} {c : Str} (B : Bi mg) (D : Dm K c "free" "Board.free" s_Board_free []) (G_B_enters : Gm P w K mg base CX0 4 c "enters" ["self", "line"] [] (sp_B_enters K T c)) (G_B_look_at : Gm P w K mg base (L2.CX P w) 3 c "look_at" ["self", "line"] [] (sp_B_look_at K T c)) : Gm P w K mg base (L2.CX P w) 5 c "free" ["self", "line"] [] (sp_B_free K T c) :=
  D.gm (D.fnX sc_Board_free len_B_free (fun _ _ F => bindN (fun _ _ _ _ _ _ us hl => match us, hl with | [_, _], _ => rfl) F) (fun f cdv A outer s H vs Q E hr h => ⟨r_Board_free K T c E,
  (pss_cons (ps_expr (pe_m G_B_look_at (hr.mono (by decide)) (passE (takes_of rfl rfl rfl rfl)) (pv 0) (pa_cons (pv 1) pa_nil)))
  (PSs.nox (pss_cons (ps_if (pt_not (pt_val (pe_ix ix_list (pe_fld (pv 0) rfl) (pv 1) (fun _ _ => rfl)))) (pss_one (ps_ret pe_bl)) pss_nil)
  (pss_cons (ps_asg pe_bl (pg_sub (pe_fld (pv 0) rfl) (pv 1) set_list))
  (Evl.pss_cut (ps_if (pt_val (pe_ix ix_list (pe_fld (pv 0) rfl) (pv 1) (fun _ _ => rfl))) (pss_one (ps_expr (pe_m G_B_enters (hr.mono (by decide)) pass0 (pv 0) (pa_cons (pv 1) pa_nil)))) pss_nil)
  (pss_one (ps_ret pe_bl))))))), p_B_free h⟩))
theorem sc_Board_bar : FnScope ["self", "rank", "old"] ["self", "rank"] (defScope s_Board_bar) := ⟨rfl, rfl, rfl, by decide +kernel, rfl, by decide +kernel, by decide +kernel⟩
theorem g_Board_bar {P : Program} {w : World} {K : PySem.W.Frag} {mg : Str → Option Value} {base : Heap} {T : List (Addr × Str)} {c : Str} (B : Bi mg) (D : Dm K c "bar" "Board.bar" s_Board_bar []) (R_NoBar : Ee K mg "NoBar") (G_is_bar : Gd P w K mg base CX0 2 "is_bar" ["thing"] (sp_is_bar K T)) : Gm P w K mg base (L2.CX P w) 3 c "bar" ["self", "rank"] [] (sp_B_bar K T c) :=
  D.gm (D.fnX sc_Board_bar len_B_bar (fun _ _ F => bindN (fun _ _ _ _ _ _ us hl => match us, hl with | [_, _], _ => rfl) F) (fun f cdv A outer s H vs Q E hr h => ⟨r_Board_bar K T c E,
  (pss_cons (ps_if (pt_not (pt_val (pe_g G_is_bar (hr.mono (by decide)) rfl pass0 (pa_cons (pv 1) pa_nil)))) (pss_one (ps_no R_NoBar rfl (takes_of rfl rfl rfl rfl) rfl)) pss_nil)
  (PSs.nox (pss_cons (ps_set (i := 2) sc_Board_bar.nd rfl (Or.inl rfl) (pe_fld (pv 0) rfl))
  (pss_cons (ps_fld (pv 0) (pv 1) rfl)
  (pss_one (ps_ret (pv 2))))))), p_B_bar h⟩))
theorem sc_Board_upmost : FnScope ["self"] ["self"] (defScope s_Board_upmost) := ⟨rfl, rfl, rfl, by decide +kernel, rfl, by decide +kernel, by decide +kernel⟩
theorem g_Board_upmost {P : Program} {w : World} {K : PySem.W.Frag} {mg : Str → Option Value} {base : Heap} {T : List (Addr × Str)} {c : Str} (B : Bi mg) (D : Dm K c "upmost" "Board.upmost" s_Board_upmost [])  : Gm P w K mg base CX0 1 c "upmost" ["self"] [] (sp_B_upmost K T c) :=
  D.gm (D.fn0 sc_Board_upmost len_B_upmost (fun _ _ F => bindN (fun _ _ _ _ _ _ us hl => match us, hl with | [_], _ => rfl) F) (fun f cdv A outer s H vs Q E hr h => ⟨r_Board_upmost K T c,
  (pss_cons (ps_if (pt_cmpR (op_eqD hr.units) (pe_fld (pv 0) rfl) (pe_lst pa_nil) (nomark _)) (pss_one (ps_ret pe_non)) pss_nil)
  (pss_one (ps_ret (pe_ix ix_list (pe_fld (pv 0) rfl) (pe_un un_neg pe_int) (fun _ _ => rfl))))), p_B_upmost h⟩))
theorem sc_Board_is_open : FnScope ["self", "line", "rank"] ["self", "line"] (defScope s_Board_is_open) := ⟨rfl, rfl, rfl, by decide +kernel, rfl, by decide +kernel, by decide +kernel⟩
theorem g_Board_is_open {P : Program} {w : World} {K : PySem.W.Frag} {mg : Str → Option Value} {base : Heap} {T : List (Addr × Str)} {c : Str} (B : Bi mg) (D : Dm K c "is_open" "Board.is_open" s_Board_is_open [])  : Gm P w K mg base CX0 1 c "is_open" ["self", "line"] [] (sp_B_is_open K T c) :=
  D.gm (D.fn0 sc_Board_is_open len_B_is_open (fun _ _ F => bindN (fun _ _ _ _ _ _ us hl => match us, hl with | [_, _], _ => rfl) F) (fun f cdv A outer s H vs Q E hr h => ⟨r_Board_is_open K T c,
  (pss_cons (ps_set (i := 2) sc_Board_is_open.nd rfl (Or.inl rfl) (pe_ix ix_list (pe_fld (pv 0) rfl) (pv 1) (fun _ _ => rfl)))
  (pss_cons (ps_if (PW.pt (pw_and (pt_cmpR op_notN (pe_fld (pv 0) rfl) pe_non (nomark _)) (pw_and1 (pt_cmpR op_ge (pv 2) (pe_fld (pv 0) rfl) (nomark _))))) (pss_one (ps_ret pe_bl)) pss_nil)
  (pss_one (ps_ret (pe_or (pe_cmpR (op_eqD hr.units) (pe_fld (pv 0) rfl) (pe_lst pa_nil) (nomark _)) (pe_one (pe_cmpR op_lt (pv 2) (pe_ix ix_list (pe_fld (pv 0) rfl) (pe_ix ix_list (pe_fld (pv 0) rfl) (pe_un un_neg pe_int) (fun _ _ => rfl)) (fun _ _ => rfl)) (nomark _)))))))), p_B_is_open h⟩))
theorem sc_Board_take : FnScope ["self", "line"] ["self"] (defScope s_Board_take) := ⟨rfl, rfl, rfl, by decide +kernel, rfl, by decide +kernel, by decide +kernel⟩
theorem g_Board_take {P : Program} {w : World} {K : PySem.W.Frag} {mg : Str → Option Value} {base : Heap} {T : List (Addr × Str)} {c : Str} (B : Bi mg) (D : Dm K c "take" "Board.take" s_Board_take []) (G_B_best : Gm P w K mg base CX0 3 c "best" ["self"] [] (sp_B_best K T c)) (G_B_leaves : Gm P w K mg base CX0 4 c "leaves" ["self", "line"] [] (sp_B_leaves K T c)) : Gm P w K mg base CX0 5 c "take" ["self"] [] (sp_B_take K T c) :=
  D.gm (D.fn0 sc_Board_take len_B_take (fun _ _ F => bindN (fun _ _ _ _ _ _ us hl => match us, hl with | [_], _ => rfl) F) (fun f cdv A outer s H vs Q E hr h => ⟨r_Board_take K T c,
  (pss_cons (ps_set (i := 1) sc_Board_take.nd rfl (Or.inl rfl) (pe_m0 G_B_best (hr.mono (by decide)) pass0 (pv 0)))
  (Evl.pss_cut (ps_if (pt_cmpR op_notN (pv 1) pe_non (nomark _)) (pss_cons (ps_asg pe_bl (pg_sub (pe_fld (pv 0) rfl) (pv 1) set_list))
  (pss_cons (ps_expr (pe_m G_B_leaves (hr.mono (by decide)) pass0 (pv 0) (pa_cons (pv 1) pa_nil)))
  (pss_one (ps_expr (pe_bm PySem.F.plainAttrs_list PySem.F.slot_list_append PySem.F.type_list_append mt_append (pe_fld (pv 0) rfl) (pa_cons (pv 1) pa_nil)))))) pss_nil)
  (pss_one (ps_ret (pv 1))))), p_B_take h⟩))
theorem sc_Board_end : FnScope ["self", "line"] ["self", "line"] (defScope s_Board_end) := ⟨rfl, rfl, rfl, by decide +kernel, rfl, by decide +kernel, by decide +kernel⟩
theorem g_Board_end {P : Program} {w : World} {K : PySem.W.Frag} {mg : Str → Option Value} {base : Heap} {T : List (Addr × Str)} {c : Str} (B : Bi mg) (D : Dm K c "end" "Board.end" s_Board_end []) (G_NotTop : Ge P w K mg base 1 "NotTop" ["self", "line", "top"] ["line", "top"] (sp_NotTop_init K T)) (G_B_look_at : Gm P w K mg base (L2.CX P w) 3 c "look_at" ["self", "line"] [] (sp_B_look_at K T c)) (G_B_upmost : Gm P w K mg base CX0 1 c "upmost" ["self"] [] (sp_B_upmost K T c)) : Gm P w K mg base (L2.CX P w) 4 c "end" ["self", "line"] [] (sp_B_end K T c) :=
  D.gm (D.fnX sc_Board_end len_B_end (fun _ _ F => bindN (fun _ _ _ _ _ _ us hl => match us, hl with | [_, _], _ => rfl) F) (fun f cdv A outer s H vs Q E hr h => ⟨r_Board_end K T c E,
  (pss_cons (ps_expr (pe_m G_B_look_at (hr.mono (by decide)) (passE (takes_of rfl rfl rfl rfl)) (pv 0) (pa_cons (pv 1) pa_nil)))
  (pss_cons (ps_if (PW.pt (pw_or (pt_cmpR (op_eqD hr.units) (pe_fld (pv 0) rfl) (pe_lst pa_nil) (nomark _)) (pw_or1 (pt_cmpR op_ne (pv 1) (pe_ix ix_list (pe_fld (pv 0) rfl) (pe_un un_neg pe_int) (fun _ _ => rfl)) (nomark _))))) (pss_one (ps_noI G_NotTop rfl (hr.mono (by decide)) (takes_of rfl rfl rfl rfl) rfl (pa_cons (pv 1) (pa_cons (pe_m0 G_B_upmost (hr.mono (by decide)) pass0 (pv 0)) pa_nil)))) pss_nil)
  (PSs.nox (pss_cons (ps_expr (pe_bm0 PySem.F.plainAttrs_list PySem.F.slot_list_pop PySem.F.type_list_pop mt_pop (pe_fld (pv 0) rfl)))
  (pss_one (ps_ret (pe_m0 G_B_upmost (hr.mono (by decide)) pass0 (pv 0)))))))), p_B_end h⟩))
theorem sc_Board_told : FnScope ["self", "asking", "quiet", "line"] ["self"] (defScope s_Board_told) := ⟨rfl, rfl, rfl, by decide +kernel, rfl, by decide +kernel, by decide +kernel⟩
theorem g_Board_told {P : Program} {w : World} {K : PySem.W.Frag} {mg : Str → Option Value} {base : Heap} {T : List (Addr × Str)} {c : Str} (B : Bi mg) (D : Dm K c "told" "Board.told" s_Board_told [])  : Gm P w K mg base CX0 1 c "told" ["self"] [] (sp_B_told K T c) :=
  D.gm (D.fn0 sc_Board_told len_B_told (fun _ _ F => bindN (fun _ _ _ _ _ _ us hl => match us, hl with | [_], _ => rfl) F) (fun f cdv A outer s H vs Q E hr h => ⟨r_Board_told K T c,
  (pss_cons (ps_setLc (i := 1) (own := [("line", 3)]) rfl sc_Board_told.nd rfl rfl (sw_true rfl rfl rfl (by decide +kernel)) (pi_range1 rfl B.range (pa_cons (pe_callB call_len_seq rfl B.len boot_len (pa_cons (pe_fld (pv 0) rfl) pa_nil)) pa_nil)) (blkOk_by (own := [("line", 3)]) (N := ["self", "asking", "quiet", "line"]) (sc := defScope s_Board_told) (by decide +kernel)) (fun _ _ _ _ _ => (pg_name (i := 3) sc_Board_told.nd rfl (Or.inl rfl))) (fun _ _ _ _ _ => (pts_one (pt_val (pe_ix ix_list (pe_fld (pv 0) rfl) (pv 3) (fun _ _ => rfl))))) (fun _ _ _ _ _ => (pv 3)))
  (pss_cons (ps_setLc (i := 2) (own := [("line", 3)]) rfl sc_Board_told.nd rfl rfl (sw_true rfl rfl rfl (by decide +kernel)) (pi_range1 rfl B.range (pa_cons (pe_callB call_len_seq rfl B.len boot_len (pa_cons (pe_fld (pv 0) rfl) pa_nil)) pa_nil)) (blkOk_by (own := [("line", 3)]) (N := ["self", "asking", "quiet", "line"]) (sc := defScope s_Board_told) (by decide +kernel)) (fun _ _ _ _ _ => (pg_name (i := 3) sc_Board_told.nd rfl (Or.inl rfl))) (fun _ _ _ _ _ => (pts_one (pt_val (pe_ix ix_list (pe_fld (pv 0) rfl) (pv 3) (fun _ _ => rfl))))) (fun _ _ _ _ _ => (pv 3)))
  (pss_one (ps_ret (pe_tup (pa_cons (pv 1) (pa_cons (pv 2) (pa_cons (pe_callTy call_list_of rfl B.list (by decide +kernel) (pa_cons (pe_fld (pv 0) rfl) pa_nil)) (pa_cons (pe_fld (pv 0) rfl) pa_nil))))))))), p_B_told h⟩))
theorem sc_Pegs_init : FnScope ["self", "ranks", "many", "lines", "order"] ["self", "ranks", "many", "lines"] (defScope s_Pegs_init) := ⟨rfl, rfl, rfl, by decide +kernel, rfl, by decide +kernel, by decide +kernel⟩
theorem g_Pegs_init {P : Program} {w : World} {K : PySem.W.Frag} {mg : Str → Option Value} {base : Heap} {T : List (Addr × Str)} (B : Bi mg) (D : Dk K mg "Pegs" "Pegs.__init__" s_Pegs_init []) (c_MOST_pegs : ∃ t, mg "MOST_pegs" = some (.int 16 t)) (R_NoPegs : Ee K mg "NoPegs") (G_in_order : Gd P w K mg base CX0 1 "in_order" ["ranks", "lines"] (sp_in_order K T)) (G_is_whole : Gd P w K mg base CX0 1 "is_whole" ["thing"] (sp_is_whole K T)) : Gk P w K mg base (L2.CX P w) 2 "Pegs" ["self", "ranks", "many", "lines"] [] (sp_Pegs_init K T) :=
  D.gk (D.dm.fnX sc_Pegs_init len_Pegs_init (fun _ _ F => bindN (fun _ _ _ _ _ _ us hl => match us, hl with | [_, _, _, _], _ => rfl) F) fun f cdv A outer s H vs Q E hr h => ⟨r_Pegs_init K T E,
  (pss_cons (ps_if (PW.pt (pw_or (pt_not (pt_val (pe_g G_is_whole (hr.mono (by decide)) rfl pass0 (pa_cons (pv 2) pa_nil)))) (pw_or (pt_cmpR op_lt (pv 2) pe_int (nomark _)) (pw_or1 (pt_cmpR op_gt (pv 2) (pe_gi c_MOST_pegs rfl) (nomark _)))))) (pss_one (ps_no R_NoPegs rfl (takes_of rfl rfl rfl rfl) rfl)) pss_nil)
  (PSs.nox (pss_cons (ps_set (i := 4) sc_Pegs_init.nd rfl (Or.inl rfl) (pe_g G_in_order (hr.mono (by decide)) rfl pass0 (pa_cons (pv 1) (pa_cons (pv 3) pa_nil))))
  (pss_cons (ps_fld (pv 0) (pe_callTy call_list_of rfl B.list (by decide +kernel) (pa_cons (pv 1) pa_nil)) rfl)
  (pss_cons (ps_fld (pv 0) (pv 2) rfl)
  (pss_cons (ps_fld (pv 0) (pe_slice sl_list (pv 4) po_none (po_some (pv 2))) rfl)
  (pss_cons (ps_fld (pv 0) (pe_slice sl_list (pv 4) (po_some (pv 2)) po_none) rfl)
  (pss_cons (ps_fld (pv 0) (pe_callB call_len_seq rfl B.len boot_len (pa_cons (pv 4) pa_nil)) rfl)
  (pss_cons (ps_fld (pv 0) (pe_callB call_len_seq rfl B.len boot_len (pa_cons (pe_fld (pv 0) rfl) pa_nil)) rfl)
  (pss_one (ps_fld (pv 0) pe_int rfl))))))))))), p_Pegs_init h⟩)
theorem sc_Pegs_is_pressing : FnScope ["self", "line"] ["self", "line"] (defScope s_Pegs_is_pressing) := ⟨rfl, rfl, rfl, by decide +kernel, rfl, by decide +kernel, by decide +kernel⟩
theorem g_Pegs_is_pressing {P : Program} {w : World} {K : PySem.W.Frag} {mg : Str → Option Value} {base : Heap} {T : List (Addr × Str)} (B : Bi mg) (D : Dm K "Pegs" "is_pressing" "Pegs.is_pressing" s_Pegs_is_pressing []) (G_before : Gd P w K mg base CX0 1 "before" ["ranks", "one", "other"] (sp_before K T)) : Gm P w K mg base CX0 2 "Pegs" "is_pressing" ["self", "line"] [] (sp_Pegs_is_pressing K T) :=
  D.gm (D.fn0 sc_Pegs_is_pressing len_Pegs_is_pressing (fun _ _ F => bindN (fun _ _ _ _ _ _ us hl => match us, hl with | [_, _], _ => rfl) F) fun f cdv A outer s H vs Q E hr h => ⟨r_Pegs_is_pressing K T,
  (pss_cons (ps_if (PW.pt (pw_and (pt_cmpR (op_neD hr.units) (pe_fld (pv 0) rfl) (pe_lst pa_nil) (nomark _)) (pw_and1 (pt_val (pe_g G_before (hr.mono (by decide)) rfl pass0 (pa_cons (pe_fld (pv 0) rfl) (pa_cons (pv 1) (pa_cons (pe_ix ix_list (pe_fld (pv 0) rfl) (pe_un un_neg pe_int) (fun _ _ => rfl)) pa_nil)))))))) (pss_one (ps_ret pe_bl)) pss_nil)
  (pss_one (ps_ret (pe_and (pe_cmpR (op_eqD hr.units) (pe_fld (pv 0) rfl) (pe_lst pa_nil) (nomark _)) (pe_one (pe_cmpR op_lt (pe_callB call_len_seq rfl B.len boot_len (pa_cons (pe_fld (pv 0) rfl) pa_nil)) (pe_fld (pv 0) rfl) (nomark _))))))), p_Pegs_is_pressing h⟩)
theorem sc_Pegs_come : FnScope ["self", "line"] ["self", "line"] (defScope s_Pegs_come) := ⟨rfl, rfl, rfl, by decide +kernel, rfl, by decide +kernel, by decide +kernel⟩
theorem g_Pegs_come {P : Program} {w : World} {K : PySem.W.Frag} {mg : Str → Option Value} {base : Heap} {T : List (Addr × Str)} (B : Bi mg) (D : Dm K "Pegs" "come" "Pegs.come" s_Pegs_come []) (G_Pegs_is_pressing : Gm P w K mg base CX0 2 "Pegs" "is_pressing" ["self", "line"] [] (sp_Pegs_is_pressing K T)) (G_in_order : Gd P w K mg base CX0 1 "in_order" ["ranks", "lines"] (sp_in_order K T)) : Gm P w K mg base CX0 3 "Pegs" "come" ["self", "line"] [] (sp_Pegs_come K T) :=
  D.gm (D.fn0 sc_Pegs_come len_Pegs_come (fun _ _ F => bindN (fun _ _ _ _ _ _ us hl => match us, hl with | [_, _], _ => rfl) F) fun f cdv A outer s H vs Q E hr h => ⟨r_Pegs_come K T,
  (pss_cons (ps_fld (pv 0) (pe_op op_add (pe_fld (pv 0) rfl) pe_int) rfl)
  (pss_cons (ps_if (pt_not (pt_val (pe_m G_Pegs_is_pressing (hr.mono (by decide)) pass0 (pv 0) (pa_cons (pv 1) pa_nil)))) (pss_cons (ps_expr (pe_bm PySem.F.plainAttrs_list PySem.F.slot_list_append PySem.F.type_list_append mt_append (pe_fld (pv 0) rfl) (pa_cons (pv 1) pa_nil)))
  (pss_one ps_retN)) pss_nil)
  (Evl.pss_cut (ps_if (pt_cmpR op_eq (pe_callB call_len_seq rfl B.len boot_len (pa_cons (pe_fld (pv 0) rfl) pa_nil)) (pe_fld (pv 0) rfl) (nomark _)) (pss_one (ps_expr (pe_bm PySem.F.plainAttrs_list PySem.F.slot_list_append PySem.F.type_list_append mt_append (pe_fld (pv 0) rfl) (pa_cons (pe_bm0 PySem.F.plainAttrs_list PySem.F.slot_list_pop PySem.F.type_list_pop mt_pop (pe_fld (pv 0) rfl)) pa_nil)))) pss_nil)
  (pss_cons (ps_fld (pv 0) (pe_g G_in_order (hr.mono (by decide)) rfl pass0 (pa_cons (pe_fld (pv 0) rfl) (pa_cons (pe_op op_cat (pe_fld (pv 0) rfl) (pe_lst (pa_cons (pv 1) pa_nil))) pa_nil))) rfl)
  (pss_one (ps_fld (pv 0) (pe_op op_add (pe_fld (pv 0) rfl) pe_int) rfl)))))), p_Pegs_come h⟩)
theorem sc_Pegs_go : FnScope ["self", "line"] ["self", "line"] (defScope s_Pegs_go) := ⟨rfl, rfl, rfl, by decide +kernel, rfl, by decide +kernel, by decide +kernel⟩
theorem g_Pegs_go {P : Program} {w : World} {K : PySem.W.Frag} {mg : Str → Option Value} {base : Heap} {T : List (Addr × Str)} (B : Bi mg) (D : Dm K "Pegs" "go" "Pegs.go" s_Pegs_go []) (G_Pegs_call_keeper : Gm P w K mg base CX0 2 "Pegs" "call_keeper" ["self"] [] (sp_Pegs_call_keeper K T)) : Gm P w K mg base CX0 3 "Pegs" "go" ["self", "line"] [] (sp_Pegs_go K T) :=
  D.gm (D.fn0 sc_Pegs_go len_Pegs_go (fun _ _ F => bindN (fun _ _ _ _ _ _ us hl => match us, hl with | [_, _], _ => rfl) F) fun f cdv A outer s H vs Q E hr h => ⟨r_Pegs_go K T,
  (Evl.pss_cut (ps_if (pt_cmpR op_in_seq (pv 1) (pe_fld (pv 0) rfl) rfl) (pss_one (ps_expr (pe_bm PySem.F.plainAttrs_list PySem.F.slot_list_remove PySem.F.type_list_remove mt_remove (pe_fld (pv 0) rfl) (pa_cons (pv 1) pa_nil)))) (pss_one (ps_expr (pe_bm PySem.F.plainAttrs_list PySem.F.slot_list_remove PySem.F.type_list_remove mt_remove (pe_fld (pv 0) rfl) (pa_cons (pv 1) pa_nil)))))
  (pss_one (ps_if (PW.pt (pw_and (pt_cmpR (op_eqD hr.units) (pe_fld (pv 0) rfl) (pe_lst pa_nil) (nomark _)) (pw_and1 (pt_cmpR (op_neD hr.units) (pe_fld (pv 0) rfl) (pe_lst pa_nil) (nomark _))))) (pss_one (ps_expr (pe_m0 G_Pegs_call_keeper (hr.mono (by decide)) pass0 (pv 0)))) pss_nil))), p_Pegs_go h⟩)
theorem sc_Pegs_call_keeper : FnScope ["self", "order"] ["self"] (defScope s_Pegs_call_keeper) := ⟨rfl, rfl, rfl, by decide +kernel, rfl, by decide +kernel, by decide +kernel⟩
theorem g_Pegs_call_keeper {P : Program} {w : World} {K : PySem.W.Frag} {mg : Str → Option Value} {base : Heap} {T : List (Addr × Str)} (B : Bi mg) (D : Dm K "Pegs" "call_keeper" "Pegs.call_keeper" s_Pegs_call_keeper []) (G_in_order : Gd P w K mg base CX0 1 "in_order" ["ranks", "lines"] (sp_in_order K T)) : Gm P w K mg base CX0 2 "Pegs" "call_keeper" ["self"] [] (sp_Pegs_call_keeper K T) :=
  D.gm (D.fn0 sc_Pegs_call_keeper len_Pegs_call_keeper (fun _ _ F => bindN (fun _ _ _ _ _ _ us hl => match us, hl with | [_], _ => rfl) F) fun f cdv A outer s H vs Q E hr h => ⟨r_Pegs_call_keeper K T,
  (pss_cons (ps_set (i := 1) sc_Pegs_call_keeper.nd rfl (Or.inl rfl) (pe_g G_in_order (hr.mono (by decide)) rfl pass0 (pa_cons (pe_fld (pv 0) rfl) (pa_cons (pe_fld (pv 0) rfl) pa_nil))))
  (pss_cons (ps_fld (pv 0) (pe_slice sl_list (pv 1) po_none (po_some (pe_fld (pv 0) rfl))) rfl)
  (pss_cons (ps_fld (pv 0) (pe_slice sl_list (pv 1) (po_some (pe_fld (pv 0) rfl)) po_none) rfl)
  (pss_cons (ps_fld (pv 0) (pe_op op_add (pe_fld (pv 0) rfl) (pe_callB call_len_seq rfl B.len boot_len (pa_cons (pe_fld (pv 0) rfl) pa_nil))) rfl)
  (pss_one (ps_fld (pv 0) (pe_op op_add (pe_fld (pv 0) rfl) pe_int) rfl)))))), p_Pegs_call_keeper h⟩)
theorem sc_Pegs_first : FnScope ["self"] ["self"] (defScope s_Pegs_first) := ⟨rfl, rfl, rfl, by decide +kernel, rfl, by decide +kernel, by decide +kernel⟩
theorem g_Pegs_first {P : Program} {w : World} {K : PySem.W.Frag} {mg : Str → Option Value} {base : Heap} {T : List (Addr × Str)} (B : Bi mg) (D : Dm K "Pegs" "first" "Pegs.first" s_Pegs_first [])  : Gm P w K mg base CX0 1 "Pegs" "first" ["self"] [] (sp_Pegs_first K T) :=
  D.gm (D.fn0 sc_Pegs_first len_Pegs_first (fun _ _ F => bindN (fun _ _ _ _ _ _ us hl => match us, hl with | [_], _ => rfl) F) fun f cdv A outer s H vs Q E hr h => ⟨r_Pegs_first K T,
  (pss_cons (ps_if (pt_cmpR (op_eqD hr.units) (pe_fld (pv 0) rfl) (pe_lst pa_nil) (nomark _)) (pss_one (ps_ret pe_non)) pss_nil)
  (pss_one (ps_ret (pe_ix ix_list (pe_fld (pv 0) rfl) pe_int (fun _ _ => rfl))))), p_Pegs_first h⟩)
theorem sc_Few_init : FnScope ["self", "ranks", "pegs", "picture", "here", "line"] ["self", "ranks", "pegs", "picture"] (defScope s_Few_init) := ⟨rfl, rfl, rfl, by decide +kernel, rfl, by decide +kernel, by decide +kernel⟩
theorem g_Few_init {P : Program} {w : World} {K : PySem.W.Frag} {mg : Str → Option Value} {base : Heap} {T : List (Addr × Str)} (B : Bi mg) (D : Dk K mg "Few" "Few.__init__" s_Few_init [.non]) (G_Board_c : Gc P w K mg base (L2.CX P w) 6 "Board" "__init__" ["self", "ranks", "picture"] [] (sp_B_init K T "Few")) (G_Pegs : Gk P w K mg base (L2.CX P w) 2 "Pegs" ["self", "ranks", "many", "lines"] [] (sp_Pegs_init K T)) : Gk P w K mg base (L2.CX P w) 7 "Few" ["self", "ranks", "pegs", "picture"] [.non] (sp_Few_init K T) :=
  D.gk (D.dm.fnX sc_Few_init len_Few_init (fun _ _ F => by obtain ⟨ds, h1, h2⟩ := F.binds1 (ps := ["self", "ranks", "pegs", "picture"]) 3 0 (by simp) rfl (fun _ _ _ _ _ _ _ us its hl hi => match us, its, hl, hi with | [_, _, _], [_], _, _ => ⟨_, rfl, by kernel_rfl⟩); exact ⟨ds, h2, h1⟩) (fun f cdv A outer s H vs Q E hr h => ⟨r_Few_init K T E,
  (pss_cons (ps_expr (pe_cmG G_Board_c (hr.mono (by decide)) rfl (passE (takes_of rfl rfl rfl rfl)) (pa_cons (pv 0) (pa_cons (pv 1) (pa_cons (pv 3) pa_nil)))))
  (pss_cons (ps_setLc (i := 4) (own := [("line", 5)]) rfl sc_Few_init.nd rfl rfl (sw_true rfl rfl rfl (by decide +kernel)) (pi_range1 rfl B.range (pa_cons (pe_callB call_len_seq rfl B.len boot_len (pa_cons (pe_fld (pv 0) rfl) pa_nil)) pa_nil)) (blkOk_by (own := [("line", 5)]) (N := ["self", "ranks", "pegs", "picture", "here", "line"]) (sc := defScope s_Few_init) (by decide +kernel)) (fun _ _ _ _ _ => (pg_name (i := 5) sc_Few_init.nd rfl (Or.inl rfl))) (fun _ _ _ _ _ => (pts_one (PW.pt (pw_and (pt_val (pe_ix ix_list (pe_fld (pv 0) rfl) (pv 5) (fun _ _ => rfl))) (pw_and1 (pt_not (pt_val (pe_ix ix_list (pe_fld (pv 0) rfl) (pv 5) (fun _ _ => rfl))))))))) (fun _ _ _ _ _ => (pv 5)))
  (pss_one (ps_fld (pv 0) (pe_k G_Pegs (hr.mono (by decide)) rfl (passE (takes_of rfl rfl rfl rfl)) (pa_cons (pe_fld (pv 0) rfl) (pa_cons (pv 2) (pa_cons (pv 4) pa_nil)))) rfl)))), p_Few_init h⟩))
theorem g_Few_init_f {P : Program} {w : World} {K : PySem.W.Frag} {mg : Str → Option Value} {base : Heap} {T : List (Addr × Str)} (B : Bi mg) (D : Dk K mg "Few" "Few.__init__" s_Few_init [.non]) (G_Board_c : Gc P w K mg base (L2.CX P w) 6 "Board" "__init__" ["self", "ranks", "picture"] [] (sp_B_init K T "Few")) (G_Pegs : Gk P w K mg base (L2.CX P w) 2 "Pegs" ["self", "ranks", "many", "lines"] [] (sp_Pegs_init K T)) : Gk P w K mg base (L2.CX P w) 7 "Few" ["self", "ranks", "pegs", "picture"] [] (sp_Few_init K T) :=
  D.gk (D.dm.fnX sc_Few_init len_Few_init (fun _ _ F => by obtain ⟨ds, h1, h2⟩ := F.binds1 (ps := ["self", "ranks", "pegs", "picture"]) 4 1 (by simp) rfl (fun _ _ _ _ _ _ _ us its hl hi => match us, its, hl, hi with | [_, _, _, _], [_], _, _ => ⟨_, rfl, by kernel_rfl⟩); exact ⟨ds, h2, h1⟩) (fun f cdv A outer s H vs Q E hr h => ⟨r_Few_init K T E,
  (pss_cons (ps_expr (pe_cmG G_Board_c (hr.mono (by decide)) rfl (passE (takes_of rfl rfl rfl rfl)) (pa_cons (pv 0) (pa_cons (pv 1) (pa_cons (pv 3) pa_nil)))))
  (pss_cons (ps_setLc (i := 4) (own := [("line", 5)]) rfl sc_Few_init.nd rfl rfl (sw_true rfl rfl rfl (by decide +kernel)) (pi_range1 rfl B.range (pa_cons (pe_callB call_len_seq rfl B.len boot_len (pa_cons (pe_fld (pv 0) rfl) pa_nil)) pa_nil)) (blkOk_by (own := [("line", 5)]) (N := ["self", "ranks", "pegs", "picture", "here", "line"]) (sc := defScope s_Few_init) (by decide +kernel)) (fun _ _ _ _ _ => (pg_name (i := 5) sc_Few_init.nd rfl (Or.inl rfl))) (fun _ _ _ _ _ => (pts_one (PW.pt (pw_and (pt_val (pe_ix ix_list (pe_fld (pv 0) rfl) (pv 5) (fun _ _ => rfl))) (pw_and1 (pt_not (pt_val (pe_ix ix_list (pe_fld (pv 0) rfl) (pv 5) (fun _ _ => rfl))))))))) (fun _ _ _ _ _ => (pv 5)))
  (pss_one (ps_fld (pv 0) (pe_k G_Pegs (hr.mono (by decide)) rfl (passE (takes_of rfl rfl rfl rfl)) (pa_cons (pe_fld (pv 0) rfl) (pa_cons (pv 2) (pa_cons (pv 4) pa_nil)))) rfl)))), p_Few_init h⟩))
theorem sc_Few_enters : FnScope ["self", "line"] ["self", "line"] (defScope s_Few_enters) := ⟨rfl, rfl, rfl, by decide +kernel, rfl, by decide +kernel, by decide +kernel⟩
theorem g_Few_enters {P : Program} {w : World} {K : PySem.W.Frag} {mg : Str → Option Value} {base : Heap} {T : List (Addr × Str)} (B : Bi mg) (D : Dm K "Few" "enters" "Few.enters" s_Few_enters []) (G_Pegs_come : Gm P w K mg base CX0 3 "Pegs" "come" ["self", "line"] [] (sp_Pegs_come K T)) : Gm P w K mg base CX0 4 "Few" "enters" ["self", "line"] [] (sp_B_enters K T "Few") :=
  D.gm (D.fn0 sc_Few_enters len_B_enters (fun _ _ F => bindN (fun _ _ _ _ _ _ us hl => match us, hl with | [_, _], _ => rfl) F) (fun f cdv A outer s H vs Q E hr h => ⟨r_Few_enters K T,
  (pss_one (ps_expr (pe_m G_Pegs_come (hr.mono (by decide)) pass0 (pe_fld (pv 0) rfl) (pa_cons (pv 1) pa_nil)))), p_Few_enters h⟩))
theorem sc_Few_leaves : FnScope ["self", "line"] ["self", "line"] (defScope s_Few_leaves) := ⟨rfl, rfl, rfl, by decide +kernel, rfl, by decide +kernel, by decide +kernel⟩
theorem g_Few_leaves {P : Program} {w : World} {K : PySem.W.Frag} {mg : Str → Option Value} {base : Heap} {T : List (Addr × Str)} (B : Bi mg) (D : Dm K "Few" "leaves" "Few.leaves" s_Few_leaves []) (G_Pegs_go : Gm P w K mg base CX0 3 "Pegs" "go" ["self", "line"] [] (sp_Pegs_go K T)) : Gm P w K mg base CX0 4 "Few" "leaves" ["self", "line"] [] (sp_B_leaves K T "Few") :=
  D.gm (D.fn0 sc_Few_leaves len_B_leaves (fun _ _ F => bindN (fun _ _ _ _ _ _ us hl => match us, hl with | [_, _], _ => rfl) F) (fun f cdv A outer s H vs Q E hr h => ⟨r_Few_leaves K T,
  (pss_one (ps_expr (pe_m G_Pegs_go (hr.mono (by decide)) pass0 (pe_fld (pv 0) rfl) (pa_cons (pv 1) pa_nil)))), p_Few_leaves h⟩))
theorem sc_Few_best : FnScope ["self", "line"] ["self"] (defScope s_Few_best) := ⟨rfl, rfl, rfl, by decide +kernel, rfl, by decide +kernel, by decide +kernel⟩
theorem g_Few_best {P : Program} {w : World} {K : PySem.W.Frag} {mg : Str → Option Value} {base : Heap} {T : List (Addr × Str)} (B : Bi mg) (D : Dm K "Few" "best" "Few.best" s_Few_best []) (G_Few_is_open : Gm P w K mg base CX0 1 "Few" "is_open" ["self", "line"] [] (sp_B_is_open K T "Few")) (G_Pegs_first : Gm P w K mg base CX0 1 "Pegs" "first" ["self"] [] (sp_Pegs_first K T)) : Gm P w K mg base CX0 2 "Few" "best" ["self"] [] (sp_B_best K T "Few") :=
  D.gm (D.fn0 sc_Few_best len_B_best (fun _ _ F => bindN (fun _ _ _ _ _ _ us hl => match us, hl with | [_], _ => rfl) F) (fun f cdv A outer s H vs Q E hr h => ⟨r_Few_best K T,
  (pss_cons (ps_set (i := 1) sc_Few_best.nd rfl (Or.inl rfl) (pe_m0 G_Pegs_first (hr.mono (by decide)) pass0 (pe_fld (pv 0) rfl)))
  (pss_cons (ps_if (PW.pt (pw_or (pt_cmpR op_isN (pv 1) pe_non (nomark _)) (pw_or1 (pt_not (pt_val (pe_m G_Few_is_open (hr.mono (by decide)) pass0 (pv 0) (pa_cons (pv 1) pa_nil))))))) (pss_one (ps_ret pe_non)) pss_nil)
  (pss_one (ps_ret (pv 1))))), p_Few_best h⟩))
theorem sc_Wide_is_ready : FnScope ["self", "line"] ["self", "line"] (defScope s_Wide_is_ready) := ⟨rfl, rfl, rfl, by decide +kernel, rfl, by decide +kernel, by decide +kernel⟩
theorem g_Wide_is_ready {P : Program} {w : World} {K : PySem.W.Frag} {mg : Str → Option Value} {base : Heap} {T : List (Addr × Str)} (B : Bi mg) (D : Dm K "Wide" "is_ready" "Wide.is_ready" s_Wide_is_ready []) (G_Wide_is_open : Gm P w K mg base CX0 1 "Wide" "is_open" ["self", "line"] [] (sp_B_is_open K T "Wide")) : Gm P w K mg base CX0 2 "Wide" "is_ready" ["self", "line"] [] (sp_Wide_is_ready K T) :=
  D.gm (D.fn0 sc_Wide_is_ready len_Wide_is_ready (fun _ _ F => bindN (fun _ _ _ _ _ _ us hl => match us, hl with | [_, _], _ => rfl) F) fun f cdv A outer s H vs Q E hr h => ⟨r_Wide_is_ready K T,
  (pss_one (ps_ret (pe_and (pe_ix ix_list (pe_fld (pv 0) rfl) (pv 1) (fun _ _ => rfl)) (pe_and (pe_not (pe_ix ix_list (pe_fld (pv 0) rfl) (pv 1) (fun _ _ => rfl))) (pe_one (pe_m G_Wide_is_open (hr.mono (by decide)) pass0 (pv 0) (pa_cons (pv 1) pa_nil))))))), p_Wide_is_ready h⟩)
theorem sc_Wide_best : FnScope ["self", "line"] ["self"] (defScope s_Wide_best) := ⟨rfl, rfl, rfl, by decide +kernel, rfl, by decide +kernel, by decide +kernel⟩
theorem g_Wide_best {P : Program} {w : World} {K : PySem.W.Frag} {mg : Str → Option Value} {base : Heap} {T : List (Addr × Str)} (B : Bi mg) (D : Dm K "Wide" "best" "Wide.best" s_Wide_best []) (G_Wide_is_ready : Gm P w K mg base CX0 2 "Wide" "is_ready" ["self", "line"] [] (sp_Wide_is_ready K T)) (G_first_of : Gd P w K mg base CX0 2 "first_of" ["ranks", "lines"] (sp_first_of K T)) : Gm P w K mg base CX0 3 "Wide" "best" ["self"] [] (sp_B_best K T "Wide") :=
  D.gm (D.fn0 sc_Wide_best len_B_best (fun _ _ F => bindN (fun _ _ _ _ _ _ us hl => match us, hl with | [_], _ => rfl) F) (fun f cdv A outer s H vs Q E hr h => ⟨r_Wide_best K T,
  (pss_one (ps_ret (pe_g G_first_of (hr.mono (by decide)) rfl pass0 (pa_cons (pe_fld (pv 0) rfl) (pa_cons (pe_lc (own := [("line", 1)]) rfl sc_Wide_best.nd (pi_range1 rfl B.range (pa_cons (pe_callB call_len_seq rfl B.len boot_len (pa_cons (pe_fld (pv 0) rfl) pa_nil)) pa_nil)) (blkOk_by (own := [("line", 1)]) (N := ["self", "line"]) (sc := defScope s_Wide_best) (by decide +kernel)) (fun _ _ _ _ _ => (pg_name (i := 1) sc_Wide_best.nd rfl (Or.inl rfl))) (fun _ _ _ _ _ => (pts_one (pt_val (pe_m G_Wide_is_ready (hr.mono (by decide)) pass0 (pv 0) (pa_cons (pv 1) pa_nil))))) (fun _ _ _ _ _ => (pv 1))) pa_nil))))), p_Wide_best h⟩))
theorem sc_l_cell_at : FnScope ["_law_script", "_law_k"] ["_law_script", "_law_k"] (defScope s_l_cell_at) := ⟨rfl, rfl, rfl, by decide +kernel, rfl, by decide +kernel, by decide +kernel⟩
theorem g_l_cell_at {P : Program} {w : World} {K : PySem.W.Frag} {mg : Str → Option Value} {base : Heap} {T : List (Addr × Str)} (B : Bi mg) (D : Df K mg "_law_cell_at" s_l_cell_at)  : Gd P w K mg base CX0 1 "_law_cell_at" ["_law_script", "_law_k"] (sp_l_cell_at K T) :=
  D.ok0 sc_l_cell_at len_l_cell_at (fun _ _ _ _ _ _ us hl => match us, hl with | [_, _], _ => rfl) fun f cdv A outer s H vs Q E hr h => ⟨r_l_cell_at K T,
  (pss_cons (ps_if (pt_cmpR op_lt (pv 1) (pe_callB call_len_seq rfl B.len boot_len (pa_cons (pv 0) pa_nil)) (nomark _)) (pss_one (ps_ret (pe_ix ix_list (pv 0) (pv 1) (fun _ _ => rfl)))) pss_nil)
  (pss_one (ps_ret pe_int))), p_l_cell_at h⟩
theorem sc_l_whole : FnScope ["_law_found"] ["_law_found"] (defScope s_l_whole) := ⟨rfl, rfl, rfl, by decide +kernel, rfl, by decide +kernel, by decide +kernel⟩
theorem g_l_whole {P : Program} {w : World} {K : PySem.W.Frag} {mg : Str → Option Value} {base : Heap} {T : List (Addr × Str)} (B : Bi mg) (D : Df K mg "_law_whole" s_l_whole)  : Gd P w K mg base CX0 1 "_law_whole" ["_law_found"] (sp_l_whole K T) :=
  D.ok0 sc_l_whole len_l_whole (fun _ _ _ _ _ _ us hl => match us, hl with | [_], _ => rfl) fun f cdv A outer s H vs Q E hr h => ⟨r_l_whole K T,
  (pss_one (ps_ret (pe_and (pe_callB call_is rfl B.isinstance (by decide +kernel) (pa_cons (pv 0) (pa_cons (pe_bltn (v := .ty "int") rfl B.int (by decide +kernel) rfl) pa_nil))) (pe_one (pe_not (pe_callB call_is rfl B.isinstance (by decide +kernel) (pa_cons (pv 0) (pa_cons (pe_bltn (v := .ty "bool") rfl B.bool (by decide +kernel) rfl) pa_nil)))))))), p_l_whole h⟩
theorem sc_l_ranks : FnScope ["_law_script", "_law_cell", "_law_many", "_law_way", "_law_mixed", "_law_ranks_here", "_law_k", "_law_rank"] ["_law_script"] (defScope s_l_ranks) := ⟨rfl, rfl, rfl, by decide +kernel, rfl, by decide +kernel, by decide +kernel⟩
theorem g_l_ranks {P : Program} {w : World} {K : PySem.W.Frag} {mg : Str → Option Value} {base : Heap} {T : List (Addr × Str)} (B : Bi mg) (D : Df K mg "_law_ranks" s_l_ranks) (G_l_cell_at : Gd P w K mg base CX0 1 "_law_cell_at" ["_law_script", "_law_k"] (sp_l_cell_at K T)) : Gd P w K mg base CX0 2 "_law_ranks" ["_law_script"] (sp_l_ranks K T) :=
  D.ok0 sc_l_ranks len_l_ranks (fun _ _ _ _ _ _ us hl => match us, hl with | [_], _ => rfl) fun f cdv A outer s H vs Q E hr h => ⟨r_l_ranks K T,
  (pss_cons (ps_set (i := 1) sc_l_ranks.nd rfl (Or.inl rfl) (pe_g G_l_cell_at (hr.mono (by decide)) rfl pass0 (pa_cons (pv 0) (pa_cons pe_int pa_nil))))
  (pss_cons (ps_set (i := 2) sc_l_ranks.nd rfl (Or.inl rfl) (pe_op op_add pe_int (pe_op op_mod (pe_op op_mod (pe_op op_mul (pv 1) pe_int) pe_int) pe_int)))
  (Evl.pss_cut (ps_if (pt_cmpR op_eq (pe_op op_mod (pv 1) pe_int) pe_int (nomark _)) (pss_one (ps_set (i := 2) sc_l_ranks.nd rfl (Or.inl rfl) (pe_op op_add pe_int (pe_op op_mod (pe_op op_mod (pe_op op_mul (pv 1) pe_int) pe_int) pe_int)))) pss_nil)
  (pss_cons (ps_set (i := 3) sc_l_ranks.nd rfl (Or.inl rfl) (pe_op op_mod (pe_g G_l_cell_at (hr.mono (by decide)) rfl pass0 (pa_cons (pv 0) (pa_cons pe_int pa_nil))) pe_int))
  (pss_cons (ps_set (i := 4) sc_l_ranks.nd rfl (Or.inl rfl) (pe_op op_add pe_int (pe_op op_mod (pe_op op_mul (pe_g G_l_cell_at (hr.mono (by decide)) rfl pass0 (pa_cons (pv 0) (pa_cons pe_int pa_nil))) pe_int) pe_int)))
  (pss_cons (ps_set (i := 5) sc_l_ranks.nd rfl (Or.inl rfl) (pe_lst pa_nil))
  (pss_cons (ps_for PassesOwn.never rfl (pi_range1 rfl B.range (pa_cons (pv 2) pa_nil)) (pg_name (i := 6) sc_l_ranks.nd rfl (Or.inl rfl)) (pss_cons (ps_set (i := 4) sc_l_ranks.nd rfl (Or.inl rfl) (pe_op op_mod (pe_op op_add (pe_op op_mul (pv 4) pe_int) (pv 6)) pe_int))
  (pss_cons (ps_set (i := 7) sc_l_ranks.nd rfl (Or.inl rfl) (pe_op op_mod (pv 4) pe_int))
  (Evl.pss_cut (ps_if (pt_cmpR op_eq (pv 3) pe_int (nomark _)) (pss_one (ps_set (i := 7) sc_l_ranks.nd rfl (Or.inl rfl) (pe_op op_mod (pe_g G_l_cell_at (hr.mono (by decide)) rfl pass0 (pa_cons (pv 0) (pa_cons (pe_op op_add pe_int (pv 6)) pa_nil))) (pe_op op_pow pe_int pe_int)))) pss_nil)
  (Evl.pss_cut (ps_if (pt_cmpR op_eq (pv 3) pe_int (nomark _)) (pss_one (ps_set (i := 7) sc_l_ranks.nd rfl (Or.inl rfl) (pe_op op_mod (pe_op op_pow (pv 4) pe_int) (pe_op op_pow pe_int pe_int)))) pss_nil)
  (Evl.pss_cut (ps_if (PW.pt (pw_and (pt_cmpR op_eq (pv 3) pe_int (nomark _)) (pw_and1 (pt_cmpR op_eq (pe_op op_mod (pv 4) pe_int) pe_int (nomark _))))) (pss_one (ps_set (i := 7) sc_l_ranks.nd rfl (Or.inl rfl) (pe_op op_sub (pe_op op_sub (pe_op op_pow pe_int pe_int) pe_int) (pe_op op_mod (pe_op op_fdivW (pv 4) pe_int) pe_int)))) pss_nil)
  (Evl.pss_cut (ps_if (pt_cmpR op_eq (pv 3) pe_int (nomark _)) (pss_one (ps_set (i := 7) sc_l_ranks.nd rfl (Or.inl rfl) (pe_op op_mul (pe_op op_sub pe_int (pv 6)) (pe_op op_add (pe_op op_pow pe_int pe_int) (pe_op op_mod (pv 4) pe_int))))) pss_nil)
  (pss_one (ps_expr (pe_bm PySem.F.plainAttrs_list PySem.F.slot_list_append PySem.F.type_list_append mt_append (pv 5) (pa_cons (pv 7) pa_nil)))))))))))
  (pss_one (ps_ret (pv 5)))))))))), p_l_ranks h⟩
theorem sc_l_picture_by : FnScope ["_law_script", "_law_ranks_here", "_law_many", "_law_mixed", "_law_turn", "_law_asking", "_law_muted", "_law_pile", "_law_k", "_law_at", "_law_bar_here"] ["_law_script", "_law_ranks_here"] (defScope s_l_picture_by) := ⟨rfl, rfl, rfl, by decide +kernel, rfl, by decide +kernel, by decide +kernel⟩
theorem g_l_picture_by {P : Program} {w : World} {K : PySem.W.Frag} {mg : Str → Option Value} {base : Heap} {T : List (Addr × Str)} (B : Bi mg) (D : Df K mg "_law_picture_by" s_l_picture_by) (G_l_cell_at : Gd P w K mg base CX0 1 "_law_cell_at" ["_law_script", "_law_k"] (sp_l_cell_at K T)) : Gd P w K mg base CX0 2 "_law_picture_by" ["_law_script", "_law_ranks_here"] (sp_l_picture_by K T) :=
  D.ok0 sc_l_picture_by len_l_picture_by (fun _ _ _ _ _ _ us hl => match us, hl with | [_, _], _ => rfl) fun f cdv A outer s H vs Q E hr h => ⟨r_l_picture_by K T,
  (pss_cons (ps_set (i := 2) sc_l_picture_by.nd rfl (Or.inl rfl) (pe_callB call_len_seq rfl B.len boot_len (pa_cons (pv 1) pa_nil)))
  (pss_cons (ps_set (i := 3) sc_l_picture_by.nd rfl (Or.inl rfl) (pe_op op_add pe_int (pe_op op_mod (pe_op op_mul (pe_g G_l_cell_at (hr.mono (by decide)) rfl pass0 (pa_cons (pv 0) (pa_cons pe_int pa_nil))) pe_int) pe_int)))
  (pss_cons (ps_set (i := 4) sc_l_picture_by.nd rfl (Or.inl rfl) (pe_op op_add pe_int (pe_op op_mod (pv 3) (pv 2))))
  (pss_cons (ps_set (i := 5) sc_l_picture_by.nd rfl (Or.inl rfl) (pe_lst pa_nil))
  (pss_cons (ps_set (i := 6) sc_l_picture_by.nd rfl (Or.inl rfl) (pe_lst pa_nil))
  (pss_cons (ps_set (i := 7) sc_l_picture_by.nd rfl (Or.inl rfl) (pe_lst pa_nil))
  (pss_cons (ps_for PassesOwn.never rfl (pi_range1 rfl B.range (pa_cons (pv 2) pa_nil)) (pg_name (i := 8) sc_l_picture_by.nd rfl (Or.inl rfl)) (pss_cons (ps_set (i := 3) sc_l_picture_by.nd rfl (Or.inl rfl) (pe_op op_mod (pe_op op_add (pe_op op_mul (pv 3) pe_int) (pe_g G_l_cell_at (hr.mono (by decide)) rfl pass0 (pa_cons (pv 0) (pa_cons (pe_op op_add pe_int (pv 8)) pa_nil)))) pe_int))
  (Evl.pss_cut (ps_if (pt_cmpR op_eq (pe_op op_mod (pv 3) pe_int) pe_int (nomark _)) (pss_one (ps_expr (pe_bm PySem.F.plainAttrs_list PySem.F.slot_list_append PySem.F.type_list_append mt_append (pv 5) (pa_cons (pv 8) pa_nil)))) pss_nil)
  (Evl.pss_cut (ps_if (pt_cmpR op_eq (pe_op op_mod (pe_op op_fdivW (pv 3) pe_int) pe_int) pe_int (nomark _)) (pss_one (ps_expr (pe_bm PySem.F.plainAttrs_list PySem.F.slot_list_append PySem.F.type_list_append mt_append (pv 6) (pa_cons (pv 8) pa_nil)))) pss_nil)
  (pss_cons (ps_set (i := 9) sc_l_picture_by.nd rfl (Or.inl rfl) (pe_op op_mod (pe_op op_add (pe_op op_mod (pe_op op_fdivW (pv 3) pe_int) pe_int) (pe_op op_mul (pv 8) (pv 4))) (pv 2)))
  (pss_one (ps_if (PW.pt (pw_and (pt_cmpR op_gt (pe_op op_mod (pe_op op_fdivW (pv 3) pe_int) pe_int) pe_int (nomark _)) (pw_and1 (PW.pt (pw_or (pt_cmpR (op_eqD hr.units) (pv 7) (pe_lst pa_nil) (nomark _)) (pw_or1 (pt_cmpR op_lt (pe_ix ix_list (pv 1) (pv 9) (fun _ _ => rfl)) (pe_ix ix_list (pv 1) (pe_ix ix_list (pv 7) (pe_un un_neg pe_int) (fun _ _ => rfl)) (fun _ _ => rfl)) (nomark _)))))))) (pss_one (ps_expr (pe_bm PySem.F.plainAttrs_list PySem.F.slot_list_append PySem.F.type_list_append mt_append (pv 7) (pa_cons (pv 9) pa_nil)))) pss_nil)))))))
  (pss_cons (ps_set (i := 10) sc_l_picture_by.nd rfl (Or.inl rfl) pe_non)
  (Evl.pss_cut (ps_if (pt_cmpR op_eq (pe_op op_mod (pv 3) pe_int) pe_int (nomark _)) (pss_one (ps_set (i := 10) sc_l_picture_by.nd rfl (Or.inl rfl) (pe_op op_add (pe_ix ix_list (pv 1) (pe_op op_mod (pe_op op_fdivW (pv 3) pe_int) (pv 2)) (fun _ _ => rfl)) (pe_op op_mod (pe_op op_fdivW (pv 3) pe_int) pe_int)))) pss_nil)
  (Evl.pss_cut (ps_if (pt_cmpR op_eq (pe_op op_mod (pv 3) pe_int) pe_int (nomark _)) (pss_one (ps_set (i := 10) sc_l_picture_by.nd rfl (Or.inl rfl) (pe_ix ix_list (pe_lst (pa_cons pe_int (pa_cons (pe_op op_pow pe_int pe_int) pa_nil))) (pe_op op_mod (pe_op op_fdivW (pv 3) pe_int) pe_int) (fun _ _ => rfl)))) pss_nil)
  (pss_one (ps_ret (pe_tup (pa_cons (pv 5) (pa_cons (pv 6) (pa_cons (pv 7) (pa_cons (pv 10) pa_nil))))))))))))))))), p_l_picture_by h⟩
theorem sc_l_copy : FnScope ["_law_picture"] ["_law_picture"] (defScope s_l_copy) := ⟨rfl, rfl, rfl, by decide +kernel, rfl, by decide +kernel, by decide +kernel⟩
theorem g_l_copy {P : Program} {w : World} {K : PySem.W.Frag} {mg : Str → Option Value} {base : Heap} {T : List (Addr × Str)} (B : Bi mg) (D : Df K mg "_law_copy" s_l_copy)  : Gd P w K mg base CX0 1 "_law_copy" ["_law_picture"] (sp_l_copy K T) :=
  D.ok0 sc_l_copy len_l_copy (fun _ _ _ _ _ _ us hl => match us, hl with | [_], _ => rfl) fun f cdv A outer s H vs Q E hr h => ⟨r_l_copy K T,
  (pss_one (ps_ret (pe_tup (pa_cons (pe_callTy call_list_of rfl B.list (by decide +kernel) (pa_cons (pe_ix ix_tup (pv 0) pe_int (fun _ _ => rfl)) pa_nil)) (pa_cons (pe_callTy call_list_of rfl B.list (by decide +kernel) (pa_cons (pe_ix ix_tup (pv 0) pe_int (fun _ _ => rfl)) pa_nil)) (pa_cons (pe_callTy call_list_of rfl B.list (by decide +kernel) (pa_cons (pe_ix ix_tup (pv 0) pe_int (fun _ _ => rfl)) pa_nil)) (pa_cons (pe_ix ix_tup (pv 0) pe_int (fun _ _ => rfl)) pa_nil))))))), p_l_copy h⟩
theorem sc_l_bar : FnScope ["_law_cell", "_law_ranks_here", "_law_pick", "_law_way"] ["_law_cell", "_law_ranks_here"] (defScope s_l_bar) := ⟨rfl, rfl, rfl, by decide +kernel, rfl, by decide +kernel, by decide +kernel⟩
theorem g_l_bar {P : Program} {w : World} {K : PySem.W.Frag} {mg : Str → Option Value} {base : Heap} {T : List (Addr × Str)} (B : Bi mg) (D : Df K mg "_law_bar" s_l_bar)  : Gd P w K mg base CX0 1 "_law_bar" ["_law_cell", "_law_ranks_here"] (sp_l_bar K T) :=
  D.ok0 sc_l_bar len_l_bar (fun _ _ _ _ _ _ us hl => match us, hl with | [_, _], _ => rfl) fun f cdv A outer s H vs Q E hr h => ⟨r_l_bar K T,
  (pss_cons (ps_set (i := 2) sc_l_bar.nd rfl (Or.inl rfl) (pe_op op_mod (pe_op op_mul (pv 0) pe_int) pe_int))
  (pss_cons (ps_set (i := 3) sc_l_bar.nd rfl (Or.inl rfl) (pe_op op_mod (pe_op op_mod (pe_op op_mul (pv 0) pe_int) pe_int) pe_int))
  (pss_cons (ps_if (pt_cmpR op_lt (pv 3) pe_int (nomark _)) (pss_one (ps_ret pe_non)) pss_nil)
  (pss_cons (ps_if (pt_cmpR op_eq (pv 3) pe_int (nomark _)) (pss_one (ps_ret (pe_op op_mod (pv 0) (pe_op op_add (pe_op op_pow pe_int pe_int) pe_int)))) pss_nil)
  (pss_cons (ps_if (pt_cmpR op_eq (pv 3) pe_int (nomark _)) (pss_one (ps_ret (pe_ix ix_list (pe_lst (pa_cons pe_int (pa_cons (pe_op op_pow pe_int pe_int) pa_nil))) (pe_op op_mod (pv 2) pe_int) (fun _ _ => rfl)))) pss_nil)
  (pss_cons (ps_if (pt_cmpR op_eq (pv 3) pe_int (nomark _)) (pss_one (ps_ret (pe_ix ix_list (pe_lst (pa_cons (pe_un un_neg pe_int) (pa_cons (pe_op op_add (pe_op op_pow pe_int pe_int) pe_int) (pa_cons pe_bl (pa_cons pe_bl (pa_cons pe_str (pa_cons (pe_lst (pa_cons pe_int pa_nil)) (pa_cons (pe_tup (pa_cons pe_int pa_nil)) pa_nil)))))))) (pe_op op_mod (pv 2) pe_int) (fun _ _ => rfl)))) pss_nil)
  (pss_one (ps_ret (pe_op op_add (pe_ix ix_list (pv 1) (pe_op op_mod (pv 2) (pe_callB call_len_seq rfl B.len boot_len (pa_cons (pv 1) pa_nil))) (fun _ _ => rfl)) (pe_op op_mod (pv 0) pe_int)))))))))), p_l_bar h⟩
theorem sc_l_deed : FnScope ["_law_cell", "_law_ranks_here", "_law_picture", "_law_some", "_law_word", "_law_pick", "_law_way", "_law_line", "_law_rows"] ["_law_cell", "_law_ranks_here", "_law_picture"] (defScope s_l_deed) := ⟨rfl, rfl, rfl, by decide +kernel, rfl, by decide +kernel, by decide +kernel⟩
theorem g_l_deed {P : Program} {w : World} {K : PySem.W.Frag} {mg : Str → Option Value} {base : Heap} {T : List (Addr × Str)} (B : Bi mg) (D : Df K mg "_law_deed" s_l_deed) (G_l_bar : Gd P w K mg base CX0 1 "_law_bar" ["_law_cell", "_law_ranks_here"] (sp_l_bar K T)) : Gd P w K mg base CX0 2 "_law_deed" ["_law_cell", "_law_ranks_here", "_law_picture"] (sp_l_deed K T) :=
  D.ok0 sc_l_deed len_l_deed (fun _ _ _ _ _ _ us hl => match us, hl with | [_, _, _], _ => rfl) fun f cdv A outer s H vs Q E hr h => ⟨r_l_deed K T,
  (pss_cons (ps_set (i := 3) sc_l_deed.nd rfl (Or.inl rfl) (pe_lst (pa_cons pe_str (pa_cons pe_str (pa_cons pe_str (pa_cons pe_str (pa_cons pe_str (pa_cons pe_str (pa_cons pe_str (pa_cons pe_str pa_nil))))))))))
  (pss_cons (ps_set (i := 3) sc_l_deed.nd rfl (Or.inl rfl) (pe_op op_cat (pv 3) (pe_lst (pa_cons pe_str (pa_cons pe_str (pa_cons pe_str (pa_cons pe_str (pa_cons pe_str (pa_cons pe_str (pa_cons pe_str (pa_cons pe_str pa_nil)))))))))))
  (pss_cons (ps_set (i := 4) sc_l_deed.nd rfl (Or.inl rfl) (pe_ix ix_list (pv 3) (pe_op op_mod (pe_op op_mod (pe_op op_mul (pv 0) pe_int) pe_int) pe_int) (fun _ _ => rfl)))
  (pss_cons (ps_if (PW.pt (pw_or (pt_cmpR op_eq (pv 4) pe_str (nomark _)) (pw_or1 (pt_cmpR op_eq (pv 4) pe_str (nomark _))))) (pss_one (ps_ret (pe_tup (pa_cons (pv 4) pa_nil)))) pss_nil)
  (pss_cons (ps_if (pt_cmpR op_eq (pv 4) pe_str (nomark _)) (pss_one (ps_ret (pe_tup (pa_cons pe_str (pa_cons (pe_g G_l_bar (hr.mono (by decide)) rfl pass0 (pa_cons (pv 0) (pa_cons (pv 1) pa_nil))) pa_nil))))) pss_nil)
  (pss_cons (ps_set (i := 5) sc_l_deed.nd rfl (Or.inl rfl) (pe_op op_mod (pe_op op_mul (pv 0) pe_int) pe_int))
  (pss_cons (ps_set (i := 6) sc_l_deed.nd rfl (Or.inl rfl) (pe_op op_mod (pe_op op_mod (pe_op op_mul (pv 0) pe_int) pe_int) pe_int))
  (pss_cons (ps_set (i := 7) sc_l_deed.nd rfl (Or.inl rfl) (pe_op op_mod (pv 5) (pe_callB call_len_seq rfl B.len boot_len (pa_cons (pv 1) pa_nil))))
  (pss_cons (ps_set (i := 8) sc_l_deed.nd rfl (Or.inl rfl) (pe_disp (pps_cons pe_str (pe_lst pa_nil) (pps_cons pe_str (pe_ix ix_tup (pv 2) pe_int (fun _ _ => rfl)) (pps_cons pe_str (pe_ix ix_tup (pv 2) pe_int (fun _ _ => rfl)) (pps_cons pe_str (pe_ix ix_tup (pv 2) pe_int (fun _ _ => rfl)) (pps_cons pe_str (pe_slice sl_list (pe_ix ix_tup (pv 2) pe_int (fun _ _ => rfl)) (po_some (pe_un un_neg pe_int)) po_none) pps_nil))))) (by rfl) (by rfl) (fun z => by cases z) (by decide)))
  (Evl.pss_cut (ps_if (PW.pt (pw_and (pt_cmpR op_gt (pv 6) pe_int (nomark _)) (pw_and1 (pt_cmpR (op_neD hr.units) (pe_dget (un1 hr.units) (pv 8) (pv 4) (fun _ _ => rfl)) (pe_lst pa_nil) (nomark _))))) (pss_one (ps_set (i := 7) sc_l_deed.nd rfl (Or.inl rfl) (pe_ix ix_list (pe_dget (un1 hr.units) (pv 8) (pv 4) (fun _ _ => rfl)) (pe_op op_mod (pv 5) (pe_callB call_len_seq rfl B.len boot_len (pa_cons (pe_dget (un1 hr.units) (pv 8) (pv 4) (fun _ _ => rfl)) pa_nil))) (fun _ _ => rfl)))) pss_nil)
  (Evl.pss_cut (ps_if (pt_cmpR op_eq (pv 6) pe_int (nomark _)) (pss_one (ps_set (i := 7) sc_l_deed.nd rfl (Or.inl rfl) (pe_ix ix_list (pe_lst (pa_cons (pe_un un_neg pe_int) (pa_cons (pe_callB call_len_seq rfl B.len boot_len (pa_cons (pv 1) pa_nil)) (pa_cons pe_bl (pa_cons pe_non (pa_cons pe_str (pa_cons (pe_lst (pa_cons pe_int pa_nil)) (pa_cons (pe_op op_pow pe_int pe_int) pa_nil)))))))) (pe_op op_mod (pv 5) pe_int) (fun _ _ => rfl)))) pss_nil)
  (pss_one (ps_ret (pe_tup (pa_cons (pv 4) (pa_cons (pv 7) pa_nil)))))))))))))))), p_l_deed h⟩
theorem sc_l_call : FnScope ["_law_board_here", "_law_deed_here"] ["_law_board_here", "_law_deed_here"] (defScope s_l_call) := ⟨rfl, rfl, rfl, by decide +kernel, rfl, by decide +kernel, by decide +kernel⟩
theorem g_l_call {P : Program} {w : World} {K : PySem.W.Frag} {mg : Str → Option Value} {base : Heap} {T : List (Addr × Str)} (B : Bi mg) (D : Df K mg "_law_call" s_l_call) (G_Few_bar : Gm P w K mg base (L2.CX P w) 3 "Few" "bar" ["self", "rank"] [] (sp_B_bar K T "Few")) (G_Few_best : Gm P w K mg base CX0 3 "Few" "best" ["self"] [] (sp_B_best K T "Few")) (G_Few_calm : Gm P w K mg base (L2.CX P w) 5 "Few" "calm" ["self", "line"] [] (sp_B_calm K T "Few")) (G_Few_end : Gm P w K mg base (L2.CX P w) 4 "Few" "end" ["self", "line"] [] (sp_B_end K T "Few")) (G_Few_free : Gm P w K mg base (L2.CX P w) 5 "Few" "free" ["self", "line"] [] (sp_B_free K T "Few")) (G_Few_mute : Gm P w K mg base (L2.CX P w) 5 "Few" "mute" ["self", "line"] [] (sp_B_mute K T "Few")) (G_Few_ring : Gm P w K mg base (L2.CX P w) 5 "Few" "ring" ["self", "line"] [] (sp_B_ring K T "Few")) (G_Few_take : Gm P w K mg base CX0 5 "Few" "take" ["self"] [] (sp_B_take K T "Few")) (G_Wide_bar : Gm P w K mg base (L2.CX P w) 3 "Wide" "bar" ["self", "rank"] [] (sp_B_bar K T "Wide")) (G_Wide_best : Gm P w K mg base CX0 3 "Wide" "best" ["self"] [] (sp_B_best K T "Wide")) (G_Wide_calm : Gm P w K mg base (L2.CX P w) 5 "Wide" "calm" ["self", "line"] [] (sp_B_calm K T "Wide")) (G_Wide_end : Gm P w K mg base (L2.CX P w) 4 "Wide" "end" ["self", "line"] [] (sp_B_end K T "Wide")) (G_Wide_free : Gm P w K mg base (L2.CX P w) 5 "Wide" "free" ["self", "line"] [] (sp_B_free K T "Wide")) (G_Wide_mute : Gm P w K mg base (L2.CX P w) 5 "Wide" "mute" ["self", "line"] [] (sp_B_mute K T "Wide")) (G_Wide_ring : Gm P w K mg base (L2.CX P w) 5 "Wide" "ring" ["self", "line"] [] (sp_B_ring K T "Wide")) (G_Wide_take : Gm P w K mg base CX0 5 "Wide" "take" ["self"] [] (sp_B_take K T "Wide")) : Gd P w K mg base (L2.CX P w) 6 "_law_call" ["_law_board_here", "_law_deed_here"] (sp_l_call K T) :=
  D.okX sc_l_call len_l_call (fun _ _ _ _ _ _ us hl => match us, hl with | [_, _], _ => rfl) fun f cdv A outer s H vs Q E hr h => ⟨r_l_call K T E,
  (pss_cons (ps_if (pt_cmpR op_eq (pe_ix ix_tup (pv 1) pe_int (fun _ _ => rfl)) pe_str (nomark _)) (pss_one (ps_ret (pe_either (pe_m G_Wide_ring (hr.mono (by decide)) (passE (takes_of rfl rfl rfl rfl)) (pv 0) (pa_cons (pe_ix ix_tup (pv 1) pe_int (fun _ _ => rfl)) pa_nil)) (pe_m G_Few_ring (hr.mono (by decide)) (passE (takes_of rfl rfl rfl rfl)) (pv 0) (pa_cons (pe_ix ix_tup (pv 1) pe_int (fun _ _ => rfl)) pa_nil))))) pss_nil)
  (pss_cons (ps_if (pt_cmpR op_eq (pe_ix ix_tup (pv 1) pe_int (fun _ _ => rfl)) pe_str (nomark _)) (pss_one (ps_ret (pe_either (pe_m G_Wide_calm (hr.mono (by decide)) (passE (takes_of rfl rfl rfl rfl)) (pv 0) (pa_cons (pe_ix ix_tup (pv 1) pe_int (fun _ _ => rfl)) pa_nil)) (pe_m G_Few_calm (hr.mono (by decide)) (passE (takes_of rfl rfl rfl rfl)) (pv 0) (pa_cons (pe_ix ix_tup (pv 1) pe_int (fun _ _ => rfl)) pa_nil))))) pss_nil)
  (pss_cons (ps_if (pt_cmpR op_eq (pe_ix ix_tup (pv 1) pe_int (fun _ _ => rfl)) pe_str (nomark _)) (pss_one (ps_ret (pe_either (pe_m G_Wide_mute (hr.mono (by decide)) (passE (takes_of rfl rfl rfl rfl)) (pv 0) (pa_cons (pe_ix ix_tup (pv 1) pe_int (fun _ _ => rfl)) pa_nil)) (pe_m G_Few_mute (hr.mono (by decide)) (passE (takes_of rfl rfl rfl rfl)) (pv 0) (pa_cons (pe_ix ix_tup (pv 1) pe_int (fun _ _ => rfl)) pa_nil))))) pss_nil)
  (pss_cons (ps_if (pt_cmpR op_eq (pe_ix ix_tup (pv 1) pe_int (fun _ _ => rfl)) pe_str (nomark _)) (pss_one (ps_ret (pe_either (pe_m G_Wide_free (hr.mono (by decide)) (passE (takes_of rfl rfl rfl rfl)) (pv 0) (pa_cons (pe_ix ix_tup (pv 1) pe_int (fun _ _ => rfl)) pa_nil)) (pe_m G_Few_free (hr.mono (by decide)) (passE (takes_of rfl rfl rfl rfl)) (pv 0) (pa_cons (pe_ix ix_tup (pv 1) pe_int (fun _ _ => rfl)) pa_nil))))) pss_nil)
  (pss_cons (ps_if (pt_cmpR op_eq (pe_ix ix_tup (pv 1) pe_int (fun _ _ => rfl)) pe_str (nomark _)) (pss_one (ps_ret (pe_either (pe_m G_Wide_bar (hr.mono (by decide)) (passE (takes_of rfl rfl rfl rfl)) (pv 0) (pa_cons (pe_ix ix_tup (pv 1) pe_int (fun _ _ => rfl)) pa_nil)) (pe_m G_Few_bar (hr.mono (by decide)) (passE (takes_of rfl rfl rfl rfl)) (pv 0) (pa_cons (pe_ix ix_tup (pv 1) pe_int (fun _ _ => rfl)) pa_nil))))) pss_nil)
  (pss_cons (ps_if (pt_cmpR op_eq (pe_ix ix_tup (pv 1) pe_int (fun _ _ => rfl)) pe_str (nomark _)) (pss_one (ps_ret (pe_either (pe_m G_Wide_end (hr.mono (by decide)) (passE (takes_of rfl rfl rfl rfl)) (pv 0) (pa_cons (pe_ix ix_tup (pv 1) pe_int (fun _ _ => rfl)) pa_nil)) (pe_m G_Few_end (hr.mono (by decide)) (passE (takes_of rfl rfl rfl rfl)) (pv 0) (pa_cons (pe_ix ix_tup (pv 1) pe_int (fun _ _ => rfl)) pa_nil))))) pss_nil)
  (PSs.nox (pss_cons (ps_if (pt_cmpR op_eq (pe_ix ix_tup (pv 1) pe_int (fun _ _ => rfl)) pe_str (nomark _)) (pss_one (ps_ret (pe_either (pe_m0 G_Wide_take (hr.mono (by decide)) pass0 (pv 0)) (pe_m0 G_Few_take (hr.mono (by decide)) pass0 (pv 0))))) pss_nil)
  (pss_one (ps_ret (pe_either (pe_m0 G_Wide_best (hr.mono (by decide)) pass0 (pv 0)) (pe_m0 G_Few_best (hr.mono (by decide)) pass0 (pv 0))))))))))))), p_l_call h⟩
theorem sc_l_do : FnScope ["_law_board_here", "_law_deed_here", "_law_told", "_law_refused_here"] ["_law_board_here", "_law_deed_here"] (defScope s_l_do) := ⟨rfl, rfl, rfl, by decide +kernel, rfl, by decide +kernel, by decide +kernel⟩
theorem g_l_do {P : Program} {w : World} {K : PySem.W.Frag} {mg : Str → Option Value} {base : Heap} {T : List (Addr × Str)} (B : Bi mg) (D : Df K mg "_law_do" s_l_do) (cg_NoBar : mg "NoBar" = some (.ref (He.ga K "NoBar"))) (cg_NoLine : mg "NoLine" = some (.ref (He.ga K "NoLine"))) (cg_NotTop : mg "NotTop" = some (.ref (He.ga K "NotTop"))) (G_l_call : Gd P w K mg base (L2.CX P w) 6 "_law_call" ["_law_board_here", "_law_deed_here"] (sp_l_call K T)) : Gd P w K mg base CX0 7 "_law_do" ["_law_board_here", "_law_deed_here"] (sp_l_do K T) :=
  D.ok0 sc_l_do len_l_do (fun _ _ _ _ _ _ us hl => match us, hl with | [_, _], _ => rfl) fun f cdv A outer s H vs Q E hr h => ⟨r_l_do K T,
  (pss_cons (ps_set (i := 2) sc_l_do.nd rfl (Or.inl rfl) pe_non)
  (pss_cons (ps_set (i := 3) sc_l_do.nd rfl (Or.inl rfl) pe_str)
  (pss_cons (ps_tryMany (l := [(.ref (He.ga K "NoLine"), (tAsg (tC (.str "line")) (gName 3))), (.ref (He.ga K "NoBar"), (tAsg (tC (.str "bar")) (gName 3))), (.ref (He.ga K "NotTop"), (tAsg (tC (.str "top")) (gName 3)))]) rfl rfl (fun W pn xe tk _ => (pss_one (ps_set (i := 2) sc_l_do.nd rfl (Or.inl rfl) (pe_gS G_l_call (hr.mono (by decide)) rfl (fun σ => passAt tk σ) (pa_cons (pv 0) (pa_cons (pv 1) pa_nil)))))) (hds_cons ⟨rfl, by decide, .inl cg_NoLine⟩ (fun _ _ _ => (pss_one (ps_set (i := 3) sc_l_do.nd rfl (Or.inl rfl) pe_str))) (hds_cons ⟨rfl, by decide, .inl cg_NoBar⟩ (fun _ _ _ => (pss_one (ps_set (i := 3) sc_l_do.nd rfl (Or.inl rfl) pe_str))) (hds_cons ⟨rfl, by decide, .inl cg_NotTop⟩ (fun _ _ _ => (pss_one (ps_set (i := 3) sc_l_do.nd rfl (Or.inl rfl) pe_str))) .nil))))
  (pss_cons (ps_if (pt_cmpR op_ne (pv 3) pe_str (nomark _)) (pss_one (ps_ret (pe_tup (pa_cons pe_str (pa_cons (pv 3) pa_nil))))) pss_nil)
  (pss_one (ps_ret (pv 2))))))), p_l_do h⟩
theorem sc_l_names : FnScope ["_law_e", "_law_some"] ["_law_e"] (defScope s_l_names) := ⟨rfl, rfl, rfl, by decide +kernel, rfl, by decide +kernel, by decide +kernel⟩
theorem g_l_names {P : Program} {w : World} {K : PySem.W.Frag} {mg : Str → Option Value} {base : Heap} {T : List (Addr × Str)} (B : Bi mg) (D : Df K mg "_law_names" s_l_names) (cg_NoBar : mg "NoBar" = some (.ref (He.ga K "NoBar"))) (cg_NoBoard : mg "NoBoard" = some (.ref (He.ga K "NoBoard"))) (cg_NoDeed : mg "NoDeed" = some (.ref (He.ga K "NoDeed"))) (cg_NoLine : mg "NoLine" = some (.ref (He.ga K "NoLine"))) (cg_NoPegs : mg "NoPegs" = some (.ref (He.ga K "NoPegs"))) (cg_NoPicture : mg "NoPicture" = some (.ref (He.ga K "NoPicture"))) (cg_NotTop : mg "NotTop" = some (.ref (He.ga K "NotTop"))) : GdE P w K mg base 1 "_law_names" ["_law_e"] (sp_l_names K T) :=
  D.okE sc_l_names len_l_names (fun _ _ _ _ _ _ us hl => match us, hl with | [_], _ => rfl) fun ⟨a, oe⟩ f cdv A outer s H vs Q E hr h => by
    obtain ⟨D, d, h1, hz, hf, hE, h2⟩ := h
    exact ⟨r_l_names K T D a d,
  (pss_cons (ps_set (i := 1) sc_l_names.nd rfl (Or.inl rfl) (pe_lst pa_nil))
  (Evl.pss_cut (ps_if (pt_val (pe_callB (call_isP (a := a) (oe := oe) List.mem_cons_self hE.exc hz hf) rfl B.isinstance (by decide +kernel) (pa_cons (pv 0) (pa_cons (pe_glob (v := .ref (He.ga K "NoBoard")) rfl cg_NoBoard rfl) pa_nil)))) (pss_one (ps_expr (pe_bm PySem.F.plainAttrs_list PySem.F.slot_list_append PySem.F.type_list_append mt_append (pv 1) (pa_cons pe_str pa_nil)))) pss_nil)
  (Evl.pss_cut (ps_if (pt_val (pe_callB (call_isP (a := a) (oe := oe) List.mem_cons_self hE.exc hz hf) rfl B.isinstance (by decide +kernel) (pa_cons (pv 0) (pa_cons (pe_glob (v := .ref (He.ga K "NoPicture")) rfl cg_NoPicture rfl) pa_nil)))) (pss_one (ps_expr (pe_bm PySem.F.plainAttrs_list PySem.F.slot_list_append PySem.F.type_list_append mt_append (pv 1) (pa_cons pe_str pa_nil)))) pss_nil)
  (Evl.pss_cut (ps_if (pt_val (pe_callB (call_isP (a := a) (oe := oe) List.mem_cons_self hE.exc hz hf) rfl B.isinstance (by decide +kernel) (pa_cons (pv 0) (pa_cons (pe_glob (v := .ref (He.ga K "NoPegs")) rfl cg_NoPegs rfl) pa_nil)))) (pss_one (ps_expr (pe_bm PySem.F.plainAttrs_list PySem.F.slot_list_append PySem.F.type_list_append mt_append (pv 1) (pa_cons pe_str pa_nil)))) pss_nil)
  (Evl.pss_cut (ps_if (PW.pt (pw_or (pt_val (pe_callB (call_isP (a := a) (oe := oe) List.mem_cons_self hE.exc hz hf) rfl B.isinstance (by decide +kernel) (pa_cons (pv 0) (pa_cons (pe_glob (v := .ref (He.ga K "NoLine")) rfl cg_NoLine rfl) pa_nil)))) (pw_or (pt_val (pe_callB (call_isP (a := a) (oe := oe) List.mem_cons_self hE.exc hz hf) rfl B.isinstance (by decide +kernel) (pa_cons (pv 0) (pa_cons (pe_glob (v := .ref (He.ga K "NoBar")) rfl cg_NoBar rfl) pa_nil)))) (pw_or1 (pt_val (pe_callB (call_isP (a := a) (oe := oe) List.mem_cons_self hE.exc hz hf) rfl B.isinstance (by decide +kernel) (pa_cons (pv 0) (pa_cons (pe_glob (v := .ref (He.ga K "NotTop")) rfl cg_NotTop rfl) pa_nil)))))))) (pss_one (ps_expr (pe_bm PySem.F.plainAttrs_list PySem.F.slot_list_append PySem.F.type_list_append mt_append (pv 1) (pa_cons pe_str pa_nil)))) pss_nil)
  (Evl.pss_cut (ps_if (pt_val (pe_callB (call_isP (a := a) (oe := oe) List.mem_cons_self hE.exc hz hf) rfl B.isinstance (by decide +kernel) (pa_cons (pv 0) (pa_cons (pe_glob (v := .ref (He.ga K "NoDeed")) rfl cg_NoDeed rfl) pa_nil)))) (pss_one (ps_expr (pe_bm PySem.F.plainAttrs_list PySem.F.slot_list_append PySem.F.type_list_append mt_append (pv 1) (pa_cons pe_str pa_nil)))) pss_nil)
  (Evl.pss_cut (ps_if (pt_val (pe_callB (call_isP (a := a) (oe := oe) List.mem_cons_self hE.exc hz hf) rfl B.isinstance (by decide +kernel) (pa_cons (pv 0) (pa_cons (pe_bltn (v := .ty "ValueError") rfl B.ve (by decide +kernel) rfl) pa_nil)))) (pss_one (ps_expr (pe_bm PySem.F.plainAttrs_list PySem.F.slot_list_append PySem.F.type_list_append mt_append (pv 1) (pa_cons pe_str pa_nil)))) pss_nil)
  (pss_one (ps_ret (pv 1)))))))))), p_l_names h1 h2⟩
theorem sc_l_kind : FnScope ["_law_found"] ["_law_found"] (defScope s_l_kind) := ⟨rfl, rfl, rfl, by decide +kernel, rfl, by decide +kernel, by decide +kernel⟩
theorem g_l_kind {P : Program} {w : World} {K : PySem.W.Frag} {mg : Str → Option Value} {base : Heap} {T : List (Addr × Str)} (B : Bi mg) (D : Df K mg "_law_kind" s_l_kind)  : Gd P w K mg base CX0 1 "_law_kind" ["_law_found"] (sp_l_kind K T) :=
  D.ok0 sc_l_kind len_l_kind (fun _ _ _ _ _ _ us hl => match us, hl with | [_], _ => rfl) fun f cdv A outer s H vs Q E hr h => ⟨r_l_kind K T,
  (pss_cons (ps_if (pt_cmpR op_isN (pv 0) pe_non (nomark _)) (pss_one (ps_ret pe_str)) pss_nil)
  (pss_cons (ps_if (pt_val (pe_callB call_is rfl B.isinstance (by decide +kernel) (pa_cons (pv 0) (pa_cons (pe_bltn (v := .ty "bool") rfl B.bool (by decide +kernel) rfl) pa_nil)))) (pss_one (ps_ret pe_str)) pss_nil)
  (pss_cons (ps_if (pt_val (pe_callB call_is rfl B.isinstance (by decide +kernel) (pa_cons (pv 0) (pa_cons (pe_bltn (v := .ty "int") rfl B.int (by decide +kernel) rfl) pa_nil)))) (pss_one (ps_ret pe_str)) pss_nil)
  (pss_cons (ps_if (pt_val (pe_callB call_is rfl B.isinstance (by decide +kernel) (pa_cons (pv 0) (pa_cons (pe_bltn (v := .ty "tuple") rfl B.tuple (by decide +kernel) rfl) pa_nil)))) (pss_one (ps_ret pe_str)) pss_nil)
  (pss_one (ps_ret pe_str)))))), p_l_kind h⟩
theorem sc_l_alike : FnScope ["_law_found", "_law_due"] ["_law_found", "_law_due"] (defScope s_l_alike) := ⟨rfl, rfl, rfl, by decide +kernel, rfl, by decide +kernel, by decide +kernel⟩
theorem g_l_alike {P : Program} {w : World} {K : PySem.W.Frag} {mg : Str → Option Value} {base : Heap} {T : List (Addr × Str)} (B : Bi mg) (D : Df K mg "_law_alike" s_l_alike) (G_l_kind : Gd P w K mg base CX0 1 "_law_kind" ["_law_found"] (sp_l_kind K T)) : Gd P w K mg base CX0 2 "_law_alike" ["_law_found", "_law_due"] (sp_l_alike K T) :=
  D.ok0 sc_l_alike len_l_alike (fun _ _ _ _ _ _ us hl => match us, hl with | [_, _], _ => rfl) fun f cdv A outer s H vs Q E hr h => ⟨r_l_alike K T,
  (pss_one (ps_ret (pe_and (pe_cmpR op_eq (pe_g G_l_kind (hr.mono (by decide)) rfl pass0 (pa_cons (pv 0) pa_nil)) (pe_g G_l_kind (hr.mono (by decide)) rfl pass0 (pa_cons (pv 1) pa_nil)) (nomark _)) (pe_one (pe_cmpR (op_eqD hr.units) (pv 0) (pv 1) (nomark _)))))), p_l_alike h⟩
theorem sc_l_odd : FnScope ["_law_cell", "_law_some"] ["_law_cell"] (defScope s_l_odd) := ⟨rfl, rfl, rfl, by decide +kernel, rfl, by decide +kernel, by decide +kernel⟩
theorem g_l_odd {P : Program} {w : World} {K : PySem.W.Frag} {mg : Str → Option Value} {base : Heap} {T : List (Addr × Str)} (B : Bi mg) (D : Df K mg "_law_odd" s_l_odd)  : Gd P w K mg base CX0 1 "_law_odd" ["_law_cell"] (sp_l_odd K T) :=
  D.ok0 sc_l_odd len_l_odd (fun _ _ _ _ _ _ us hl => match us, hl with | [_], _ => rfl) fun f cdv A outer s H vs Q E hr h => ⟨r_l_odd K T,
  (pss_cons (ps_set (i := 1) sc_l_odd.nd rfl (Or.inl rfl) (pe_lst (pa_cons pe_non (pa_cons pe_str (pa_cons (pe_tup (pa_cons pe_str (pa_cons pe_int pa_nil))) (pa_cons (pe_tup (pa_cons pe_str pa_nil)) (pa_cons (pe_tup (pa_cons pe_str (pa_cons pe_int (pa_cons pe_int pa_nil)))) (pa_cons (pe_lst (pa_cons pe_str pa_nil)) (pa_cons (pe_tup pa_nil) (pa_cons (pe_tup (pa_cons pe_str (pa_cons pe_int pa_nil))) (pa_cons (pe_tup (pa_cons pe_str pa_nil)) (pa_cons (pe_tup (pa_cons pe_str pa_nil)) pa_nil))))))))))))
  (pss_cons (ps_set (i := 1) sc_l_odd.nd rfl (Or.inl rfl) (pe_op op_cat (pv 1) (pe_lst (pa_cons (pe_tup (pa_cons pe_int (pa_cons pe_int pa_nil))) (pa_cons (pe_tup (pa_cons pe_str (pa_cons pe_non pa_nil))) (pa_cons (pe_tup (pa_cons pe_str (pa_cons pe_int pa_nil))) (pa_cons (pe_tup (pa_cons (pe_lst pa_nil) pa_nil)) (pa_cons (pe_tup (pa_cons (pe_tup (pa_cons pe_str pa_nil)) pa_nil)) (pa_cons pe_bl (pa_cons pe_dnewK (pa_cons (pe_tup (pa_cons pe_str pa_nil)) pa_nil)))))))))))
  (pss_one (ps_ret (pe_ix ix_list (pv 1) (pe_op op_mod (pe_op op_mod (pe_op op_mul (pv 0) pe_int) pe_int) pe_int) (fun _ _ => rfl)))))), p_l_odd h⟩
theorem sc_l_refused : FnScope ["_law_board_here", "_law_row", "_law_found", "_law_place", "_law_e"] ["_law_board_here", "_law_row"] (defScope s_l_refused) := ⟨rfl, rfl, rfl, by decide +kernel, rfl, by decide +kernel, by decide +kernel⟩
theorem g_l_refused {P : Program} {w : World} {K : PySem.W.Frag} {mg : Str → Option Value} {base : Heap} {T : List (Addr × Str)} (B : Bi mg) (D : Df K mg "_law_refused" s_l_refused) (cg_NoDeed : mg "NoDeed" = some (.ref (He.ga K "NoDeed"))) (G_l_names : GdE P w K mg base 1 "_law_names" ["_law_e"] (sp_l_names K T)) (G_play : Gd P w K mg base (L2.CX P w) 8 "play" ["board", "deeds"] (sp_play K T)) : Gd P w K mg base CX0 9 "_law_refused" ["_law_board_here", "_law_row"] (sp_l_refused K T) :=
  D.ok0 sc_l_refused len_l_refused (fun _ _ _ _ _ _ us hl => match us, hl with | [_, _], _ => rfl) fun f cdv A outer s H vs Q E hr h => ⟨r_l_refused K T,
  (pss_cons (ps_set (i := 2) sc_l_refused.nd rfl (Or.inl rfl) (pe_lst pa_nil))
  (pss_cons (ps_set (i := 3) sc_l_refused.nd rfl (Or.inl rfl) pe_non)
  (pss_cons (ps_tryAs (i := 4) rfl rfl sc_l_refused.nd rfl rfl ⟨rfl, by decide, .inl cg_NoDeed⟩ (fun W pn xe tk _ => (pss_one (ps_expr (pe_gS G_play (hr.mono (by decide)) rfl (fun σ => passAt tk σ) (pa_cons (pv 0) (pa_cons (pv 1) pa_nil)))))) (fun a oe cls d pn hz hf => pss_ex (p := fun D : Addr => cls = .ref D ∧ ErrC K D ["place"]) (t := fun D => (tSeq (tAsg (tCallE a (.ref D) d (sp_l_names K T) (tVar 4)) (gName 2))
  (tAsg (tXf a (.ref D) d D "place" (tVar 4)) (gName 3)))) (fun D hp => by obtain ⟨rfl, hE⟩ := hp; exact (pss_cons (ps_set (i := 2) sc_l_refused.nd rfl (Or.inl rfl) (pe_gE G_l_names (hr.mono (by decide)) rfl hz hf (pv 4)))
  (pss_one (ps_set (i := 3) sc_l_refused.nd rfl (Or.inl rfl) (pe_xf hE.xf (hE.no "place" (by simp)) hz hf (pv 4))))))))
  (pss_one (ps_ret (pe_tup (pa_cons (pv 2) (pa_cons (pv 3) pa_nil)))))))), p_l_refused h⟩
theorem sc_l_caught : FnScope ["_law_board_here", "_law_row", "_law_found", "_law_e"] ["_law_board_here", "_law_row"] (defScope s_l_caught) := ⟨rfl, rfl, rfl, by decide +kernel, rfl, by decide +kernel, by decide +kernel⟩
theorem g_l_caught {P : Program} {w : World} {K : PySem.W.Frag} {mg : Str → Option Value} {base : Heap} {T : List (Addr × Str)} (B : Bi mg) (D : Df K mg "_law_caught" s_l_caught) (cg_BoardError : mg "BoardError" = some (.ref (He.ga K "BoardError"))) (G_l_names : GdE P w K mg base 1 "_law_names" ["_law_e"] (sp_l_names K T)) (G_play : Gd P w K mg base (L2.CX P w) 8 "play" ["board", "deeds"] (sp_play K T)) : Gd P w K mg base CX0 9 "_law_caught" ["_law_board_here", "_law_row"] (sp_l_caught K T) :=
  D.ok0 sc_l_caught len_l_caught (fun _ _ _ _ _ _ us hl => match us, hl with | [_, _], _ => rfl) fun f cdv A outer s H vs Q E hr h => ⟨r_l_caught K T,
  (pss_cons (ps_set (i := 2) sc_l_caught.nd rfl (Or.inl rfl) (pe_lst pa_nil))
  (pss_cons (ps_tryAs (i := 3) rfl rfl sc_l_caught.nd rfl rfl ⟨rfl, by decide, .inl cg_BoardError⟩ (fun W pn xe tk _ => (pss_one (ps_expr (pe_gS G_play (hr.mono (by decide)) rfl (fun σ => passAt tk σ) (pa_cons (pv 0) (pa_cons (pv 1) pa_nil)))))) (fun a oe cls d pn hz hf => pss_ex (p := fun D : Addr => cls = .ref D ∧ ErrC K D []) (t := fun D => (tAsg (tCallE a (.ref D) d (sp_l_names K T) (tVar 3)) (gName 2))) (fun D hp => by obtain ⟨rfl, hE⟩ := hp; exact (pss_one (ps_set (i := 2) sc_l_caught.nd rfl (Or.inl rfl) (pe_gE G_l_names (hr.mono (by decide)) rfl hz hf (pv 3)))))))
  (pss_one (ps_ret (pv 2))))), p_l_caught h⟩
theorem sc_l_board : FnScope ["_law_script", "_law_ranks_here", "_law_picture", "_law_pegs"] ["_law_script", "_law_ranks_here", "_law_picture"] (defScope s_l_board) := ⟨rfl, rfl, rfl, by decide +kernel, rfl, by decide +kernel, by decide +kernel⟩
theorem g_l_board {P : Program} {w : World} {K : PySem.W.Frag} {mg : Str → Option Value} {base : Heap} {T : List (Addr × Str)} (B : Bi mg) (D : Df K mg "_law_board" s_l_board) (G_Few_f : Gk P w K mg base (L2.CX P w) 7 "Few" ["self", "ranks", "pegs", "picture"] [] (sp_Few_init K T)) (G_Wide_f : Gk P w K mg base (L2.CX P w) 6 "Wide" ["self", "ranks", "picture"] [] (sp_B_init K T "Wide")) (G_l_cell_at : Gd P w K mg base CX0 1 "_law_cell_at" ["_law_script", "_law_k"] (sp_l_cell_at K T)) (G_l_copy : Gd P w K mg base CX0 1 "_law_copy" ["_law_picture"] (sp_l_copy K T)) : Gd P w K mg base CX0 9 "_law_board" ["_law_script", "_law_ranks_here", "_law_picture"] (sp_l_board K T) :=
  D.ok0 sc_l_board len_l_board (fun _ _ _ _ _ _ us hl => match us, hl with | [_, _, _], _ => rfl) fun f cdv A outer s H vs Q E hr h => ⟨r_l_board K T,
  (pss_cons (ps_set (i := 3) sc_l_board.nd rfl (Or.inl rfl) (pe_op op_add pe_int (pe_op op_mod (pe_op op_mod (pe_op op_mul (pe_g G_l_cell_at (hr.mono (by decide)) rfl pass0 (pa_cons (pv 0) (pa_cons pe_int pa_nil))) pe_int) pe_int) pe_int)))
  (pss_cons (ps_if (pt_cmpR op_eq (pe_op op_mod (pe_g G_l_cell_at (hr.mono (by decide)) rfl pass0 (pa_cons (pv 0) (pa_cons pe_int pa_nil))) pe_int) pe_int (nomark _)) (pss_one (ps_ret (pe_k G_Few_f (hr.mono (by decide)) rfl (passN fun _ _ _ h => h) (pa_cons (pe_callTy call_list_of rfl B.list (by decide +kernel) (pa_cons (pv 1) pa_nil)) (pa_cons (pv 3) (pa_cons (pe_g G_l_copy (hr.mono (by decide)) rfl pass0 (pa_cons (pv 2) pa_nil)) pa_nil)))))) pss_nil)
  (pss_one (ps_ret (pe_k G_Wide_f (hr.mono (by decide)) rfl (passN fun _ _ _ h => h) (pa_cons (pe_callTy call_list_of rfl B.list (by decide +kernel) (pa_cons (pv 1) pa_nil)) (pa_cons (pe_g G_l_copy (hr.mono (by decide)) rfl pass0 (pa_cons (pv 2) pa_nil)) pa_nil))))))), p_l_board h⟩
theorem sc_l_spoiled : FnScope ["_law_row", "_law_script", "_law_cell", "_law_at", "_law_bad", "_law_other"] ["_law_row", "_law_script"] (defScope s_l_spoiled) := ⟨rfl, rfl, rfl, by decide +kernel, rfl, by decide +kernel, by decide +kernel⟩
theorem g_l_spoiled {P : Program} {w : World} {K : PySem.W.Frag} {mg : Str → Option Value} {base : Heap} {T : List (Addr × Str)} (B : Bi mg) (D : Df K mg "_law_spoiled" s_l_spoiled) (G_l_cell_at : Gd P w K mg base CX0 1 "_law_cell_at" ["_law_script", "_law_k"] (sp_l_cell_at K T)) (G_l_odd : Gd P w K mg base CX0 1 "_law_odd" ["_law_cell"] (sp_l_odd K T)) : Gd P w K mg base CX0 2 "_law_spoiled" ["_law_row", "_law_script"] (sp_l_spoiled K T) :=
  D.ok0 sc_l_spoiled len_l_spoiled (fun _ _ _ _ _ _ us hl => match us, hl with | [_, _], _ => rfl) fun f cdv A outer s H vs Q E hr h => ⟨r_l_spoiled K T,
  (pss_cons (ps_set (i := 2) sc_l_spoiled.nd rfl (Or.inl rfl) (pe_g G_l_cell_at (hr.mono (by decide)) rfl pass0 (pa_cons (pv 1) (pa_cons pe_int pa_nil))))
  (pss_cons (ps_set (i := 3) sc_l_spoiled.nd rfl (Or.inl rfl) (pe_op op_mod (pe_op op_mod (pe_op op_mul (pv 2) pe_int) pe_int) (pe_op op_add (pe_callB call_len_seq rfl B.len boot_len (pa_cons (pv 0) pa_nil)) pe_int)))
  (pss_cons (ps_set (i := 4) sc_l_spoiled.nd rfl (Or.inl rfl) (pe_op op_cat (pe_op op_cat (pe_slice sl_list (pv 0) po_none (po_some (pv 3))) (pe_lst (pa_cons (pe_g G_l_odd (hr.mono (by decide)) rfl pass0 (pa_cons (pv 2) pa_nil)) pa_nil))) (pe_slice sl_list (pv 0) (po_some (pv 3)) po_none)))
  (Evl.pss_cut (ps_if (pt_cmpR op_eq (pe_op op_mod (pv 2) pe_int) pe_int (nomark _)) (pss_cons (ps_set (i := 5) sc_l_spoiled.nd rfl (Or.inl rfl) (pe_op op_add (pe_op op_add (pv 3) pe_int) (pe_op op_mod (pe_op op_mod (pe_op op_mul (pv 2) pe_int) pe_int) (pe_op op_sub (pe_callB call_len_seq rfl B.len boot_len (pa_cons (pv 4) pa_nil)) (pv 3)))))
  (pss_one (ps_set (i := 4) sc_l_spoiled.nd rfl (Or.inl rfl) (pe_op op_cat (pe_op op_cat (pe_slice sl_list (pv 4) po_none (po_some (pv 5))) (pe_lst (pa_cons (pe_g G_l_odd (hr.mono (by decide)) rfl pass0 (pa_cons (pe_g G_l_cell_at (hr.mono (by decide)) rfl pass0 (pa_cons (pv 1) (pa_cons pe_int pa_nil))) pa_nil)) pa_nil))) (pe_slice sl_list (pv 4) (po_some (pv 5)) po_none))))) pss_nil)
  (pss_one (ps_ret (pe_tup (pa_cons (pv 3) (pa_cons (pv 4) pa_nil))))))))), p_l_spoiled h⟩
theorem sc_law : FnScope ["_law_script", "_law_ranks_here", "_law_picture", "_law_board_here", "_law_beside", "_law_row", "_law_at", "_law_bad", "_law_handed", "_law_k", "_law_names_here", "_law_place", "_law_found", "_law_cell"] ["_law_script"] (defScope s_law) := ⟨rfl, rfl, rfl, by decide +kernel, rfl, by decide +kernel, by decide +kernel⟩
theorem w_law {P : Program} {w : World} {K : PySem.W.Frag} {mg : Str → Option Value} {base : Heap} {T : List (Addr × Str)} (B : Bi mg) (G_Few_told : Gm P w K mg base CX0 1 "Few" "told" ["self"] [] (sp_B_told K T "Few")) (G_Wide_told : Gm P w K mg base CX0 1 "Wide" "told" ["self"] [] (sp_B_told K T "Wide")) (G_l_alike : Gd P w K mg base CX0 2 "_law_alike" ["_law_found", "_law_due"] (sp_l_alike K T)) (G_l_board : Gd P w K mg base CX0 9 "_law_board" ["_law_script", "_law_ranks_here", "_law_picture"] (sp_l_board K T)) (G_l_caught : Gd P w K mg base CX0 9 "_law_caught" ["_law_board_here", "_law_row"] (sp_l_caught K T)) (G_l_deed : Gd P w K mg base CX0 2 "_law_deed" ["_law_cell", "_law_ranks_here", "_law_picture"] (sp_l_deed K T)) (G_l_do : Gd P w K mg base CX0 7 "_law_do" ["_law_board_here", "_law_deed_here"] (sp_l_do K T)) (G_l_picture_by : Gd P w K mg base CX0 2 "_law_picture_by" ["_law_script", "_law_ranks_here"] (sp_l_picture_by K T)) (G_l_ranks : Gd P w K mg base CX0 2 "_law_ranks" ["_law_script"] (sp_l_ranks K T)) (G_l_refused : Gd P w K mg base CX0 9 "_law_refused" ["_law_board_here", "_law_row"] (sp_l_refused K T)) (G_l_spoiled : Gd P w K mg base CX0 2 "_law_spoiled" ["_law_row", "_law_script"] (sp_l_spoiled K T)) (G_l_whole : Gd P w K mg base CX0 1 "_law_whole" ["_law_found"] (sp_l_whole K T)) (G_play : Gd P w K mg base (L2.CX P w) 8 "play" ["board", "deeds"] (sp_play K T)) : ∀ (f : Addr) (cdv : Value) (A : Around) (outer : List Env) (s : Shared) (H : Hp) (vs : List V) (Q : VK) (E : XK), Room 9 (A.deeper (envOfC "law" (defScope s_law) s.heap.objs.size f cdv)) → sp_law K T vs H Q E →
    ∃ t, PSs (cxOf CX0 P w K mg base ["_law_script", "_law_ranks_here", "_law_picture", "_law_board_here", "_law_beside", "_law_row", "_law_at", "_law_bad", "_law_handed", "_law_k", "_law_names_here", "_law_place", "_law_found", "_law_cell"] "law" (defScope s_law) f cdv A outer s H E).nox (defBody s_law) t ∧ t { nx := fun _ H' => Q .non H', rt := Q } (start ["_law_script", "_law_ranks_here", "_law_picture", "_law_board_here", "_law_beside", "_law_row", "_law_at", "_law_bad", "_law_handed", "_law_k", "_law_names_here", "_law_place", "_law_found", "_law_cell"] vs) H := fun f cdv A outer s H vs Q E hr h => ⟨r_law K T,
  (pss_cons (ps_set (i := 1) sc_law.nd rfl (Or.inr rfl) (pe_g G_l_ranks (hr.mono (by decide)) rfl pass0 (pa_cons (pv 0) pa_nil)))
  (pss_cons (ps_set (i := 2) sc_law.nd rfl (Or.inr rfl) (pe_g G_l_picture_by (hr.mono (by decide)) rfl pass0 (pa_cons (pv 0) (pa_cons (pv 1) pa_nil))))
  (pss_cons (ps_set (i := 3) sc_law.nd rfl (Or.inl rfl) (pe_g G_l_board (hr.mono (by decide)) rfl pass0 (pa_cons (pv 0) (pa_cons (pv 1) (pa_cons (pv 2) pa_nil)))))
  (pss_cons (ps_set (i := 4) sc_law.nd rfl (Or.inl rfl) (pe_g G_l_board (hr.mono (by decide)) rfl pass0 (pa_cons (pv 0) (pa_cons (pv 1) (pa_cons (pv 2) pa_nil)))))
  (pss_cons (ps_setLc (i := 5) (own := [("_law_cell", 13)]) rfl sc_law.nd rfl rfl (sw_true rfl rfl rfl (by decide +kernel)) (pi_list (pe_slice sl_list (pv 0) (po_some pe_int) (po_some pe_int))) (blkOk_by (own := [("_law_cell", 13)]) (N := ["_law_script", "_law_ranks_here", "_law_picture", "_law_board_here", "_law_beside", "_law_row", "_law_at", "_law_bad", "_law_handed", "_law_k", "_law_names_here", "_law_place", "_law_found", "_law_cell"]) (sc := defScope s_law) (by decide +kernel)) (fun _ _ _ _ _ => (pg_name (i := 13) sc_law.nd rfl (Or.inl rfl))) (fun _ _ _ _ _ => pts_nil) (fun _ _ _ _ _ => (pe_g G_l_deed (hr.mono (by decide)) rfl pass0 (pa_cons (pv 13) (pa_cons (pv 1) (pa_cons (pv 2) pa_nil))))))
  (pss_cons (ps_asg (pe_g G_l_spoiled (hr.mono (by decide)) rfl pass0 (pa_cons (pv 5) (pa_cons (pv 0) pa_nil))) (pg_tup rfl (pgs_cons (pg_name (i := 6) sc_law.nd rfl (Or.inl rfl)) (pgs_cons (pg_name (i := 7) sc_law.nd rfl (Or.inl rfl)) pgs_nil))))
  (pss_cons (ps_set (i := 8) sc_law.nd rfl (Or.inl rfl) (pe_callTy call_list_of rfl B.list (by decide +kernel) (pa_cons (pv 7) pa_nil)))
  (pss_cons (ps_for PassesOwn.never rfl (pi_range1 rfl B.range (pa_cons pe_int pa_nil)) (pg_name (i := 9) sc_law.nd rfl (Or.inl rfl)) (pss_cons (ps_asg (pe_g G_l_refused (hr.mono (by decide)) rfl pass0 (pa_cons (pv 3) (pa_cons (pv 8) pa_nil))) (pg_tup rfl (pgs_cons (pg_name (i := 10) sc_law.nd rfl (Or.inl rfl)) (pgs_cons (pg_name (i := 11) sc_law.nd rfl (Or.inl rfl)) pgs_nil))))
  (pss_cons (ps_if (PW.pt (pw_or (pt_cmpR (op_neD hr.units) (pv 10) (pe_lst (pa_cons pe_str (pa_cons pe_str pa_nil))) (nomark _)) (pw_or (pt_not (pt_val (pe_g G_l_whole (hr.mono (by decide)) rfl pass0 (pa_cons (pv 11) pa_nil)))) (pw_or1 (pt_cmpR op_ne (pv 11) (pv 6) (nomark _)))))) (pss_one (ps_ret pe_bl)) pss_nil)
  (pss_one (ps_if (PW.pt (pw_or (pt_cmpR (op_neI hr.units) (pv 8) (pv 7) (nomark _)) (pw_or (pt_cmpR (op_neD hr.units) (pe_either (pe_m0 G_Wide_told (hr.mono (by decide)) pass0 (pv 3)) (pe_m0 G_Few_told (hr.mono (by decide)) pass0 (pv 3))) (pv 2) (nomark _)) (pw_or1 (pt_cmpR (op_neD hr.units) (pe_g G_l_caught (hr.mono (by decide)) rfl pass0 (pa_cons (pv 3) (pa_cons (pv 8) pa_nil))) (pe_lst (pa_cons pe_str (pa_cons pe_str pa_nil))) (nomark _)))))) (pss_one (ps_ret pe_bl)) pss_nil)))))
  (pss_cons (ps_set (i := 12) sc_law.nd rfl (Or.inl rfl) (pe_g G_play (hr.mono (by decide)) rfl (passN fun _ _ _ h => h) (pa_cons (pv 3) (pa_cons (pv 5) pa_nil))))
  (pss_cons (ps_if (PW.pt (pw_or (pt_not (pt_val (pe_callB call_is rfl B.isinstance (by decide +kernel) (pa_cons (pv 12) (pa_cons (pe_bltn (v := .ty "list") rfl B.list (by decide +kernel) rfl) pa_nil))))) (pw_or1 (pt_cmpR op_ne (pe_callB call_len_seq rfl B.len boot_len (pa_cons (pv 12) pa_nil)) (pe_callB call_len_seq rfl B.len boot_len (pa_cons (pv 5) pa_nil)) (nomark _))))) (pss_one (ps_ret pe_bl)) pss_nil)
  (pss_cons (ps_for PassesOwn.never rfl (pi_range1 rfl B.range (pa_cons (pe_callB call_len_seq rfl B.len boot_len (pa_cons (pv 5) pa_nil)) pa_nil)) (pg_name (i := 9) sc_law.nd rfl (Or.inl rfl)) (pss_one (ps_if (pt_not (pt_val (pe_g G_l_alike (hr.mono (by decide)) rfl pass0 (pa_cons (pe_ix ix_list (pv 12) (pv 9) (fun _ _ => rfl)) (pa_cons (pe_g G_l_do (hr.mono (by decide)) rfl pass0 (pa_cons (pv 4) (pa_cons (pe_ix ix_list (pv 5) (pv 9) (fun _ _ => rfl)) pa_nil))) pa_nil))))) (pss_one (ps_ret pe_bl)) pss_nil)))
  (pss_one (ps_ret (pe_and (pe_cmpR (op_eqD hr.units) (pe_either (pe_m0 G_Wide_told (hr.mono (by decide)) pass0 (pv 3)) (pe_m0 G_Few_told (hr.mono (by decide)) pass0 (pv 3))) (pe_either (pe_m0 G_Wide_told (hr.mono (by decide)) pass0 (pv 4)) (pe_m0 G_Few_told (hr.mono (by decide)) pass0 (pv 4))) (nomark _)) (pe_one (pe_cmpR (op_eqD hr.units) (pe_g G_play (hr.mono (by decide)) rfl (passN fun _ _ _ h => h) (pa_cons (pv 3) (pa_cons (pe_lst pa_nil) pa_nil))) (pe_lst pa_nil) (nomark _))))))))))))))))), p_law h⟩
end Fp

namespace Fp
open PySem PySem.Spec PyProof.Rows L2 LamX
def mkD (x : Str) (s : Stmt) : He.DefD := ⟨(x, none), x, x, defArgs s, defBody s, defScope s, [], []⟩
def mkM (c m q : Str) (s : Stmt) (dv : List He.Dv) : He.DefD := ⟨(c, some m), m, q, defArgs s, defBody s, defScope s, dv, []⟩
def names0 : List Str := ["_wall", "BoardError", "NoLine", "NoBoard", "NoPegs", "NoPicture", "NoBar", "NotTop", "NoDeed", "parts_of", "is_deed", "done", "answer", "play", "is_whole", "is_rank", "is_line", "before", "in_order", "first_of", "MOST_board", "is_board", "is_bar", "are_lines", "are_rising", "are_nested", "is_picture", "marked", "Board", "MOST_pegs"]
def names1 : List Str := ["Pegs", "Few", "Wide", "_law_cell_at", "_law_whole", "_law_ranks", "_law_picture_by", "_law_copy", "_law_bar", "_law_deed", "_law_call", "_law_do", "_law_names", "_law_kind", "_law_alike", "_law_odd", "_law_refused", "_law_caught", "_law_board", "_law_spoiled"]
def names : List Str := names0 ++ names1
def fn0 : List He.DefD := [mkD "_wall" s__wall, mkD "parts_of" s_parts_of, mkD "is_deed" s_is_deed, mkD "done" s_done, mkD "answer" s_answer, mkD "play" s_play, mkD "is_whole" s_is_whole, mkD "is_rank" s_is_rank, mkD "is_line" s_is_line, mkD "before" s_before, mkD "in_order" s_in_order, mkD "first_of" s_first_of, mkD "is_board" s_is_board, mkD "is_bar" s_is_bar, mkD "are_lines" s_are_lines, mkD "are_rising" s_are_rising, mkD "are_nested" s_are_nested, mkD "is_picture" s_is_picture, mkD "marked" s_marked, mkD "_law_cell_at" s_l_cell_at]
def fn1 : List He.DefD := [mkD "_law_whole" s_l_whole, mkD "_law_ranks" s_l_ranks, mkD "_law_picture_by" s_l_picture_by, mkD "_law_copy" s_l_copy, mkD "_law_bar" s_l_bar, mkD "_law_deed" s_l_deed, mkD "_law_call" s_l_call, mkD "_law_do" s_l_do, mkD "_law_names" s_l_names, mkD "_law_kind" s_l_kind, mkD "_law_alike" s_l_alike, mkD "_law_odd" s_l_odd, mkD "_law_refused" s_l_refused, mkD "_law_caught" s_l_caught, mkD "_law_board" s_l_board, mkD "_law_spoiled" s_l_spoiled, mkD "law" s_law, mkM "NotTop" "__init__" "NotTop.__init__" s_NotTop_init [], mkM "NoDeed" "__init__" "NoDeed.__init__" s_NoDeed_init [], mkM "Board" "__init__" "Board.__init__" s_Board_init [.non]]
def fn2 : List He.DefD := [mkM "Board" "enters" "Board.enters" s_Board_enters [], mkM "Board" "leaves" "Board.leaves" s_Board_leaves [], mkM "Board" "look_at" "Board.look_at" s_Board_look_at [], mkM "Board" "ring" "Board.ring" s_Board_ring [], mkM "Board" "calm" "Board.calm" s_Board_calm [], mkM "Board" "mute" "Board.mute" s_Board_mute [], mkM "Board" "free" "Board.free" s_Board_free [], mkM "Board" "bar" "Board.bar" s_Board_bar [], mkM "Board" "upmost" "Board.upmost" s_Board_upmost [], mkM "Board" "is_open" "Board.is_open" s_Board_is_open [], mkM "Board" "best" "Board.best" s_Board_best [], mkM "Board" "take" "Board.take" s_Board_take [], mkM "Board" "end" "Board.end" s_Board_end [], mkM "Board" "told" "Board.told" s_Board_told [], mkM "Pegs" "__init__" "Pegs.__init__" s_Pegs_init [], mkM "Pegs" "is_pressing" "Pegs.is_pressing" s_Pegs_is_pressing [], mkM "Pegs" "come" "Pegs.come" s_Pegs_come [], mkM "Pegs" "go" "Pegs.go" s_Pegs_go [], mkM "Pegs" "call_keeper" "Pegs.call_keeper" s_Pegs_call_keeper [], mkM "Pegs" "on_pegs" "Pegs.on_pegs" s_Pegs_on_pegs []]
def fn3 : List He.DefD := [mkM "Pegs" "waiting" "Pegs.waiting" s_Pegs_waiting [], mkM "Pegs" "first" "Pegs.first" s_Pegs_first [], mkM "Pegs" "tallies" "Pegs.tallies" s_Pegs_tallies [], mkM "Few" "__init__" "Few.__init__" s_Few_init [.non], mkM "Few" "enters" "Few.enters" s_Few_enters [], mkM "Few" "leaves" "Few.leaves" s_Few_leaves [], mkM "Few" "best" "Few.best" s_Few_best [], mkM "Few" "on_pegs" "Few.on_pegs" s_Few_on_pegs [], mkM "Few" "waiting" "Few.waiting" s_Few_waiting [], mkM "Few" "tallies" "Few.tallies" s_Few_tallies [], mkM "Wide" "is_ready" "Wide.is_ready" s_Wide_is_ready [], mkM "Wide" "best" "Wide.best" s_Wide_best [], mkM "Few" "look_at" "Board.look_at" s_Board_look_at [], mkM "Few" "ring" "Board.ring" s_Board_ring [], mkM "Few" "calm" "Board.calm" s_Board_calm [], mkM "Few" "mute" "Board.mute" s_Board_mute [], mkM "Few" "free" "Board.free" s_Board_free [], mkM "Few" "bar" "Board.bar" s_Board_bar [], mkM "Few" "upmost" "Board.upmost" s_Board_upmost [], mkM "Few" "is_open" "Board.is_open" s_Board_is_open []]
def fn4 : List He.DefD := [mkM "Few" "take" "Board.take" s_Board_take [], mkM "Few" "end" "Board.end" s_Board_end [], mkM "Few" "told" "Board.told" s_Board_told [], mkM "Wide" "__init__" "Board.__init__" s_Board_init [.non], mkM "Wide" "enters" "Board.enters" s_Board_enters [], mkM "Wide" "leaves" "Board.leaves" s_Board_leaves [], mkM "Wide" "look_at" "Board.look_at" s_Board_look_at [], mkM "Wide" "ring" "Board.ring" s_Board_ring [], mkM "Wide" "calm" "Board.calm" s_Board_calm [], mkM "Wide" "mute" "Board.mute" s_Board_mute [], mkM "Wide" "free" "Board.free" s_Board_free [], mkM "Wide" "bar" "Board.bar" s_Board_bar [], mkM "Wide" "upmost" "Board.upmost" s_Board_upmost [], mkM "Wide" "is_open" "Board.is_open" s_Board_is_open [], mkM "Wide" "take" "Board.take" s_Board_take [], mkM "Wide" "end" "Board.end" s_Board_end [], mkM "Wide" "told" "Board.told" s_Board_told []]
def fn : List He.DefD := fn0 ++ fn1 ++ fn2 ++ fn3 ++ fn4
def fa0 : List He.Fa := [.glo "_wall", .glo "parts_of", .glo "is_deed", .glo "done", .glo "answer", .glo "play", .glo "is_whole", .glo "is_rank", .glo "is_line", .glo "before", .glo "in_order", .glo "first_of", .glo "is_board", .glo "is_bar", .glo "are_lines", .glo "are_rising", .glo "are_nested", .glo "is_picture", .glo "marked", .glo "_law_cell_at", .glo "_law_whole", .glo "_law_ranks", .glo "_law_picture_by", .glo "_law_copy", .glo "_law_bar", .glo "_law_deed", .glo "_law_call", .glo "_law_do", .glo "_law_names", .glo "_law_kind"]
def fa1 : List He.Fa := [.glo "_law_alike", .glo "_law_odd", .glo "_law_refused", .glo "_law_caught", .glo "_law_board", .glo "_law_spoiled", .glo "law", .glo "BoardError", .glo "NoLine", .glo "NoBoard", .glo "NoPegs", .glo "NoPicture", .glo "NoBar", .glo "NotTop", .glo "NoDeed", .glo "Board", .glo "Pegs", .glo "Few", .glo "Wide", .free "len", .free "isinstance", .free "sorted", .free "range", .free "list", .free "int", .free "bool", .free "all", .free "zip", .free "tuple", .free "str"]
def fa2 : List He.Fa := [.free "enumerate", .free "min", .free "ValueError", .exc "NoLine", .exc "NoBoard", .exc "NoPegs", .exc "NoPicture", .exc "NoBar", .cls "Board", .mkr "Board", .meth "Board" "__init__", .meth "Board" "enters", .meth "Board" "leaves", .meth "Board" "look_at", .meth "Board" "ring", .meth "Board" "calm", .meth "Board" "mute", .meth "Board" "free", .meth "Board" "bar", .meth "Board" "upmost", .meth "Board" "is_open", .meth "Board" "best", .meth "Board" "take", .meth "Board" "end", .meth "Board" "told", .cls "Pegs", .mkr "Pegs", .meth "Pegs" "__init__", .meth "Pegs" "is_pressing", .meth "Pegs" "come"]
def fa3 : List He.Fa := [.meth "Pegs" "go", .meth "Pegs" "call_keeper", .meth "Pegs" "on_pegs", .meth "Pegs" "waiting", .meth "Pegs" "first", .meth "Pegs" "tallies", .noat "Pegs" "ranks", .noat "Pegs" "many", .noat "Pegs" "hung", .noat "Pegs" "book", .noat "Pegs" "came", .noat "Pegs" "laid", .noat "Pegs" "calls", .cls "Few", .mkr "Few", .meth "Few" "__init__", .meth "Few" "enters", .meth "Few" "leaves", .meth "Few" "best", .meth "Few" "on_pegs", .meth "Few" "waiting", .meth "Few" "tallies", .meth "Few" "look_at", .meth "Few" "ring", .meth "Few" "calm", .meth "Few" "mute", .meth "Few" "free", .meth "Few" "bar", .meth "Few" "upmost", .meth "Few" "is_open"]
def fa4 : List He.Fa := [.meth "Few" "take", .meth "Few" "end", .meth "Few" "told", .noat "Few" "ranks", .noat "Few" "asking", .noat "Few" "quiet", .noat "Few" "pile", .noat "Few" "edge", .noat "Few" "pegs", .cls "Wide", .mkr "Wide", .meth "Wide" "is_ready", .meth "Wide" "best", .meth "Wide" "__init__", .meth "Wide" "enters", .meth "Wide" "leaves", .meth "Wide" "look_at", .meth "Wide" "ring", .meth "Wide" "calm", .meth "Wide" "mute", .meth "Wide" "free", .meth "Wide" "bar", .meth "Wide" "upmost", .meth "Wide" "is_open", .meth "Wide" "take", .meth "Wide" "end", .meth "Wide" "told", .noat "Wide" "ranks", .noat "Wide" "asking", .noat "Wide" "quiet"]
def fa5 : List He.Fa := [.noat "Wide" "pile", .noat "Wide" "edge", .noat "Wide" "pegs", .int "MOST_board" 60, .int "MOST_pegs" 16]
def fa : List He.Fa := fa0 ++ fa1 ++ fa2 ++ fa3 ++ fa4 ++ fa5
def tf : List He.Defn := [("in_order", none)]
def ex (K : PySem.W.Frag) : Bool := xk2B K eight "NoLine" && (xk2B K eight "NoBar" && (xk2B K eight "NotTop" && (xk2B K eight "NoDeed" && (xoB K "NotTop" ["line", "top"] && (xoB K "NoDeed" ["place"] && (cmB K "BoardError" "__init__" (.builtin "ValueError.__init__") && (cmB K "Board" "__init__" (.ref (He.ma K (He.ga K "Board") "__init__")))))))))
theorem ex_0 {K : PySem.W.Frag} (h : ex K = true) : xk2B K eight "NoLine" = true := (He.ba h).1
theorem ex_1 {K : PySem.W.Frag} (h : ex K = true) : xk2B K eight "NoBar" = true := (He.ba (He.ba h).2).1
theorem ex_2 {K : PySem.W.Frag} (h : ex K = true) : xk2B K eight "NotTop" = true := (He.ba (He.ba (He.ba h).2).2).1
theorem ex_3 {K : PySem.W.Frag} (h : ex K = true) : xk2B K eight "NoDeed" = true := (He.ba (He.ba (He.ba (He.ba h).2).2).2).1
theorem ex_4 {K : PySem.W.Frag} (h : ex K = true) : xoB K "NotTop" ["line", "top"] = true := (He.ba (He.ba (He.ba (He.ba (He.ba h).2).2).2).2).1
theorem ex_5 {K : PySem.W.Frag} (h : ex K = true) : xoB K "NoDeed" ["place"] = true := (He.ba (He.ba (He.ba (He.ba (He.ba (He.ba h).2).2).2).2).2).1
theorem ex_6 {K : PySem.W.Frag} (h : ex K = true) : cmB K "BoardError" "__init__" (.builtin "ValueError.__init__") = true := (He.ba (He.ba (He.ba (He.ba (He.ba (He.ba (He.ba h).2).2).2).2).2).2).1
theorem ex_7 {K : PySem.W.Frag} (h : ex K = true) : cmB K "Board" "__init__" (.ref (He.ma K (He.ga K "Board") "__init__")) = true := (He.ba (He.ba (He.ba (He.ba (He.ba (He.ba (He.ba h).2).2).2).2).2).2).2
theorem x2_NoLine {K : PySem.W.Frag} (m : ex K = true) : Xk2 K eight "NoLine" := xk2B_ok ((ex_0 m))
theorem x2_NoBar {K : PySem.W.Frag} (m : ex K = true) : Xk2 K eight "NoBar" := xk2B_ok ((ex_1 m))
theorem x2_NotTop {K : PySem.W.Frag} (m : ex K = true) : Xk2 K eight "NotTop" := xk2B_ok ((ex_2 m))
theorem x2_NoDeed {K : PySem.W.Frag} (m : ex K = true) : Xk2 K eight "NoDeed" := xk2B_ok ((ex_3 m))
section
variable {K : PySem.W.Frag} {h : Heap} {mg : Str → Option Value}
theorem bi_ok (c : He.SaysD fa fn K) (X : K.In h) (G : h.Ns mainGlobals mg) : Bi mg := ⟨He.free_ok X G (c.fact 49 (f := .free "len")), He.free_ok X G (c.fact 50 (f := .free "isinstance")), He.free_ok X G (c.fact 51 (f := .free "sorted")), He.free_ok X G (c.fact 52 (f := .free "range")), He.free_ok X G (c.fact 53 (f := .free "list")), He.free_ok X G (c.fact 54 (f := .free "int")), He.free_ok X G (c.fact 55 (f := .free "bool")), He.free_ok X G (c.fact 56 (f := .free "all")), He.free_ok X G (c.fact 57 (f := .free "zip")), He.free_ok X G (c.fact 58 (f := .free "tuple")), He.free_ok X G (c.fact 59 (f := .free "str")), He.free_ok X G (c.fact 60 (f := .free "enumerate")), He.free_ok X G (c.fact 61 (f := .free "min")), He.free_ok X G (c.fact 62 (f := .free "ValueError"))⟩
theorem cg_BoardError (c : He.SaysD fa fn K) (X : K.In h) (G : h.Ns mainGlobals mg) : mg "BoardError" = some (.ref (He.ga K "BoardError")) := He.glo_ok X G (c.fact 37 (f := .glo "BoardError"))
theorem cg_NoLine (c : He.SaysD fa fn K) (X : K.In h) (G : h.Ns mainGlobals mg) : mg "NoLine" = some (.ref (He.ga K "NoLine")) := He.glo_ok X G (c.fact 38 (f := .glo "NoLine"))
theorem R_NoLine (c : He.SaysD fa fn K) (X : K.In h) (G : h.Ns mainGlobals mg) : Ee K mg "NoLine" := by
  obtain ⟨h1, h2, h3, h4⟩ := He.exc_ok (c.fact 63 (f := .exc "NoLine"))
  exact ⟨cg_NoLine c X G, h1, h2, h3, h4⟩
theorem cg_NoBoard (c : He.SaysD fa fn K) (X : K.In h) (G : h.Ns mainGlobals mg) : mg "NoBoard" = some (.ref (He.ga K "NoBoard")) := He.glo_ok X G (c.fact 39 (f := .glo "NoBoard"))
theorem R_NoBoard (c : He.SaysD fa fn K) (X : K.In h) (G : h.Ns mainGlobals mg) : Ee K mg "NoBoard" := by
  obtain ⟨h1, h2, h3, h4⟩ := He.exc_ok (c.fact 64 (f := .exc "NoBoard"))
  exact ⟨cg_NoBoard c X G, h1, h2, h3, h4⟩
theorem cg_NoPegs (c : He.SaysD fa fn K) (X : K.In h) (G : h.Ns mainGlobals mg) : mg "NoPegs" = some (.ref (He.ga K "NoPegs")) := He.glo_ok X G (c.fact 40 (f := .glo "NoPegs"))
theorem R_NoPegs (c : He.SaysD fa fn K) (X : K.In h) (G : h.Ns mainGlobals mg) : Ee K mg "NoPegs" := by
  obtain ⟨h1, h2, h3, h4⟩ := He.exc_ok (c.fact 65 (f := .exc "NoPegs"))
  exact ⟨cg_NoPegs c X G, h1, h2, h3, h4⟩
theorem cg_NoPicture (c : He.SaysD fa fn K) (X : K.In h) (G : h.Ns mainGlobals mg) : mg "NoPicture" = some (.ref (He.ga K "NoPicture")) := He.glo_ok X G (c.fact 41 (f := .glo "NoPicture"))
theorem R_NoPicture (c : He.SaysD fa fn K) (X : K.In h) (G : h.Ns mainGlobals mg) : Ee K mg "NoPicture" := by
  obtain ⟨h1, h2, h3, h4⟩ := He.exc_ok (c.fact 66 (f := .exc "NoPicture"))
  exact ⟨cg_NoPicture c X G, h1, h2, h3, h4⟩
theorem cg_NoBar (c : He.SaysD fa fn K) (X : K.In h) (G : h.Ns mainGlobals mg) : mg "NoBar" = some (.ref (He.ga K "NoBar")) := He.glo_ok X G (c.fact 42 (f := .glo "NoBar"))
theorem R_NoBar (c : He.SaysD fa fn K) (X : K.In h) (G : h.Ns mainGlobals mg) : Ee K mg "NoBar" := by
  obtain ⟨h1, h2, h3, h4⟩ := He.exc_ok (c.fact 67 (f := .exc "NoBar"))
  exact ⟨cg_NoBar c X G, h1, h2, h3, h4⟩
theorem cg_NotTop (c : He.SaysD fa fn K) (X : K.In h) (G : h.Ns mainGlobals mg) : mg "NotTop" = some (.ref (He.ga K "NotTop")) := He.glo_ok X G (c.fact 43 (f := .glo "NotTop"))
theorem cg_NoDeed (c : He.SaysD fa fn K) (X : K.In h) (G : h.Ns mainGlobals mg) : mg "NoDeed" = some (.ref (He.ga K "NoDeed")) := He.glo_ok X G (c.fact 44 (f := .glo "NoDeed"))
theorem cg_Board (c : He.SaysD fa fn K) (X : K.In h) (G : h.Ns mainGlobals mg) : mg "Board" = some (.ref (He.ga K "Board")) := He.glo_ok X G (c.fact 45 (f := .glo "Board"))
theorem d_Board_init (c : He.SaysD fa fn K) : Dm K "Board" "__init__" "Board.__init__" s_Board_init [.non] := ⟨He.cls_ok (c.fact 68 (f := .cls "Board")), He.meth_ok (c.fact 70 (f := .meth "Board" "__init__")), c.def_ 39 (d := mkM "Board" "__init__" "Board.__init__" s_Board_init [.non])⟩
theorem k_Board (c : He.SaysD fa fn K) (X : K.In h) (G : h.Ns mainGlobals mg) : Dk K mg "Board" "Board.__init__" s_Board_init [.non] := ⟨He.mkr_ok (c.fact 69 (f := .mkr "Board")), cg_Board c X G, d_Board_init c⟩
theorem d_Board_enters (c : He.SaysD fa fn K) : Dm K "Board" "enters" "Board.enters" s_Board_enters [] := ⟨He.cls_ok (c.fact 68 (f := .cls "Board")), He.meth_ok (c.fact 71 (f := .meth "Board" "enters")), c.def_ 40 (d := mkM "Board" "enters" "Board.enters" s_Board_enters [])⟩
theorem d_Board_leaves (c : He.SaysD fa fn K) : Dm K "Board" "leaves" "Board.leaves" s_Board_leaves [] := ⟨He.cls_ok (c.fact 68 (f := .cls "Board")), He.meth_ok (c.fact 72 (f := .meth "Board" "leaves")), c.def_ 41 (d := mkM "Board" "leaves" "Board.leaves" s_Board_leaves [])⟩
theorem d_Board_look_at (c : He.SaysD fa fn K) : Dm K "Board" "look_at" "Board.look_at" s_Board_look_at [] := ⟨He.cls_ok (c.fact 68 (f := .cls "Board")), He.meth_ok (c.fact 73 (f := .meth "Board" "look_at")), c.def_ 42 (d := mkM "Board" "look_at" "Board.look_at" s_Board_look_at [])⟩
theorem d_Board_ring (c : He.SaysD fa fn K) : Dm K "Board" "ring" "Board.ring" s_Board_ring [] := ⟨He.cls_ok (c.fact 68 (f := .cls "Board")), He.meth_ok (c.fact 74 (f := .meth "Board" "ring")), c.def_ 43 (d := mkM "Board" "ring" "Board.ring" s_Board_ring [])⟩
theorem d_Board_calm (c : He.SaysD fa fn K) : Dm K "Board" "calm" "Board.calm" s_Board_calm [] := ⟨He.cls_ok (c.fact 68 (f := .cls "Board")), He.meth_ok (c.fact 75 (f := .meth "Board" "calm")), c.def_ 44 (d := mkM "Board" "calm" "Board.calm" s_Board_calm [])⟩
theorem d_Board_mute (c : He.SaysD fa fn K) : Dm K "Board" "mute" "Board.mute" s_Board_mute [] := ⟨He.cls_ok (c.fact 68 (f := .cls "Board")), He.meth_ok (c.fact 76 (f := .meth "Board" "mute")), c.def_ 45 (d := mkM "Board" "mute" "Board.mute" s_Board_mute [])⟩
theorem d_Board_free (c : He.SaysD fa fn K) : Dm K "Board" "free" "Board.free" s_Board_free [] := ⟨He.cls_ok (c.fact 68 (f := .cls "Board")), He.meth_ok (c.fact 77 (f := .meth "Board" "free")), c.def_ 46 (d := mkM "Board" "free" "Board.free" s_Board_free [])⟩
theorem d_Board_bar (c : He.SaysD fa fn K) : Dm K "Board" "bar" "Board.bar" s_Board_bar [] := ⟨He.cls_ok (c.fact 68 (f := .cls "Board")), He.meth_ok (c.fact 78 (f := .meth "Board" "bar")), c.def_ 47 (d := mkM "Board" "bar" "Board.bar" s_Board_bar [])⟩
theorem d_Board_upmost (c : He.SaysD fa fn K) : Dm K "Board" "upmost" "Board.upmost" s_Board_upmost [] := ⟨He.cls_ok (c.fact 68 (f := .cls "Board")), He.meth_ok (c.fact 79 (f := .meth "Board" "upmost")), c.def_ 48 (d := mkM "Board" "upmost" "Board.upmost" s_Board_upmost [])⟩
theorem d_Board_is_open (c : He.SaysD fa fn K) : Dm K "Board" "is_open" "Board.is_open" s_Board_is_open [] := ⟨He.cls_ok (c.fact 68 (f := .cls "Board")), He.meth_ok (c.fact 80 (f := .meth "Board" "is_open")), c.def_ 49 (d := mkM "Board" "is_open" "Board.is_open" s_Board_is_open [])⟩
theorem d_Board_best (c : He.SaysD fa fn K) : Dm K "Board" "best" "Board.best" s_Board_best [] := ⟨He.cls_ok (c.fact 68 (f := .cls "Board")), He.meth_ok (c.fact 81 (f := .meth "Board" "best")), c.def_ 50 (d := mkM "Board" "best" "Board.best" s_Board_best [])⟩
theorem d_Board_take (c : He.SaysD fa fn K) : Dm K "Board" "take" "Board.take" s_Board_take [] := ⟨He.cls_ok (c.fact 68 (f := .cls "Board")), He.meth_ok (c.fact 82 (f := .meth "Board" "take")), c.def_ 51 (d := mkM "Board" "take" "Board.take" s_Board_take [])⟩
theorem d_Board_end (c : He.SaysD fa fn K) : Dm K "Board" "end" "Board.end" s_Board_end [] := ⟨He.cls_ok (c.fact 68 (f := .cls "Board")), He.meth_ok (c.fact 83 (f := .meth "Board" "end")), c.def_ 52 (d := mkM "Board" "end" "Board.end" s_Board_end [])⟩
theorem d_Board_told (c : He.SaysD fa fn K) : Dm K "Board" "told" "Board.told" s_Board_told [] := ⟨He.cls_ok (c.fact 68 (f := .cls "Board")), He.meth_ok (c.fact 84 (f := .meth "Board" "told")), c.def_ 53 (d := mkM "Board" "told" "Board.told" s_Board_told [])⟩
theorem cg_Pegs (c : He.SaysD fa fn K) (X : K.In h) (G : h.Ns mainGlobals mg) : mg "Pegs" = some (.ref (He.ga K "Pegs")) := He.glo_ok X G (c.fact 46 (f := .glo "Pegs"))
theorem d_Pegs_init (c : He.SaysD fa fn K) : Dm K "Pegs" "__init__" "Pegs.__init__" s_Pegs_init [] := ⟨He.cls_ok (c.fact 85 (f := .cls "Pegs")), He.meth_ok (c.fact 87 (f := .meth "Pegs" "__init__")), c.def_ 54 (d := mkM "Pegs" "__init__" "Pegs.__init__" s_Pegs_init [])⟩
theorem k_Pegs (c : He.SaysD fa fn K) (X : K.In h) (G : h.Ns mainGlobals mg) : Dk K mg "Pegs" "Pegs.__init__" s_Pegs_init [] := ⟨He.mkr_ok (c.fact 86 (f := .mkr "Pegs")), cg_Pegs c X G, d_Pegs_init c⟩
theorem d_Pegs_is_pressing (c : He.SaysD fa fn K) : Dm K "Pegs" "is_pressing" "Pegs.is_pressing" s_Pegs_is_pressing [] := ⟨He.cls_ok (c.fact 85 (f := .cls "Pegs")), He.meth_ok (c.fact 88 (f := .meth "Pegs" "is_pressing")), c.def_ 55 (d := mkM "Pegs" "is_pressing" "Pegs.is_pressing" s_Pegs_is_pressing [])⟩
theorem d_Pegs_come (c : He.SaysD fa fn K) : Dm K "Pegs" "come" "Pegs.come" s_Pegs_come [] := ⟨He.cls_ok (c.fact 85 (f := .cls "Pegs")), He.meth_ok (c.fact 89 (f := .meth "Pegs" "come")), c.def_ 56 (d := mkM "Pegs" "come" "Pegs.come" s_Pegs_come [])⟩
theorem d_Pegs_go (c : He.SaysD fa fn K) : Dm K "Pegs" "go" "Pegs.go" s_Pegs_go [] := ⟨He.cls_ok (c.fact 85 (f := .cls "Pegs")), He.meth_ok (c.fact 90 (f := .meth "Pegs" "go")), c.def_ 57 (d := mkM "Pegs" "go" "Pegs.go" s_Pegs_go [])⟩
theorem d_Pegs_call_keeper (c : He.SaysD fa fn K) : Dm K "Pegs" "call_keeper" "Pegs.call_keeper" s_Pegs_call_keeper [] := ⟨He.cls_ok (c.fact 85 (f := .cls "Pegs")), He.meth_ok (c.fact 91 (f := .meth "Pegs" "call_keeper")), c.def_ 58 (d := mkM "Pegs" "call_keeper" "Pegs.call_keeper" s_Pegs_call_keeper [])⟩
theorem d_Pegs_on_pegs (c : He.SaysD fa fn K) : Dm K "Pegs" "on_pegs" "Pegs.on_pegs" s_Pegs_on_pegs [] := ⟨He.cls_ok (c.fact 85 (f := .cls "Pegs")), He.meth_ok (c.fact 92 (f := .meth "Pegs" "on_pegs")), c.def_ 59 (d := mkM "Pegs" "on_pegs" "Pegs.on_pegs" s_Pegs_on_pegs [])⟩
theorem d_Pegs_waiting (c : He.SaysD fa fn K) : Dm K "Pegs" "waiting" "Pegs.waiting" s_Pegs_waiting [] := ⟨He.cls_ok (c.fact 85 (f := .cls "Pegs")), He.meth_ok (c.fact 93 (f := .meth "Pegs" "waiting")), c.def_ 60 (d := mkM "Pegs" "waiting" "Pegs.waiting" s_Pegs_waiting [])⟩
theorem d_Pegs_first (c : He.SaysD fa fn K) : Dm K "Pegs" "first" "Pegs.first" s_Pegs_first [] := ⟨He.cls_ok (c.fact 85 (f := .cls "Pegs")), He.meth_ok (c.fact 94 (f := .meth "Pegs" "first")), c.def_ 61 (d := mkM "Pegs" "first" "Pegs.first" s_Pegs_first [])⟩
theorem d_Pegs_tallies (c : He.SaysD fa fn K) : Dm K "Pegs" "tallies" "Pegs.tallies" s_Pegs_tallies [] := ⟨He.cls_ok (c.fact 85 (f := .cls "Pegs")), He.meth_ok (c.fact 95 (f := .meth "Pegs" "tallies")), c.def_ 62 (d := mkM "Pegs" "tallies" "Pegs.tallies" s_Pegs_tallies [])⟩
theorem pgc_ok (c : He.SaysD fa fn K) : PgC K := by
  refine ⟨He.cls_ok (c.fact 85 (f := .cls "Pegs")), fun f hf => ?_⟩
  simp only [List.mem_cons, List.not_mem_nil, or_false] at hf
  rcases hf with rfl | rfl | rfl | rfl | rfl | rfl | rfl
  · exact He.noat_ok (c.fact 96 (f := .noat "Pegs" "ranks"))
  · exact He.noat_ok (c.fact 97 (f := .noat "Pegs" "many"))
  · exact He.noat_ok (c.fact 98 (f := .noat "Pegs" "hung"))
  · exact He.noat_ok (c.fact 99 (f := .noat "Pegs" "book"))
  · exact He.noat_ok (c.fact 100 (f := .noat "Pegs" "came"))
  · exact He.noat_ok (c.fact 101 (f := .noat "Pegs" "laid"))
  · exact He.noat_ok (c.fact 102 (f := .noat "Pegs" "calls"))
theorem cg_Few (c : He.SaysD fa fn K) (X : K.In h) (G : h.Ns mainGlobals mg) : mg "Few" = some (.ref (He.ga K "Few")) := He.glo_ok X G (c.fact 47 (f := .glo "Few"))
theorem d_Few_init (c : He.SaysD fa fn K) : Dm K "Few" "__init__" "Few.__init__" s_Few_init [.non] := ⟨He.cls_ok (c.fact 103 (f := .cls "Few")), He.meth_ok (c.fact 105 (f := .meth "Few" "__init__")), c.def_ 63 (d := mkM "Few" "__init__" "Few.__init__" s_Few_init [.non])⟩
theorem k_Few (c : He.SaysD fa fn K) (X : K.In h) (G : h.Ns mainGlobals mg) : Dk K mg "Few" "Few.__init__" s_Few_init [.non] := ⟨He.mkr_ok (c.fact 104 (f := .mkr "Few")), cg_Few c X G, d_Few_init c⟩
theorem d_Few_enters (c : He.SaysD fa fn K) : Dm K "Few" "enters" "Few.enters" s_Few_enters [] := ⟨He.cls_ok (c.fact 103 (f := .cls "Few")), He.meth_ok (c.fact 106 (f := .meth "Few" "enters")), c.def_ 64 (d := mkM "Few" "enters" "Few.enters" s_Few_enters [])⟩
theorem d_Few_leaves (c : He.SaysD fa fn K) : Dm K "Few" "leaves" "Few.leaves" s_Few_leaves [] := ⟨He.cls_ok (c.fact 103 (f := .cls "Few")), He.meth_ok (c.fact 107 (f := .meth "Few" "leaves")), c.def_ 65 (d := mkM "Few" "leaves" "Few.leaves" s_Few_leaves [])⟩
theorem d_Few_best (c : He.SaysD fa fn K) : Dm K "Few" "best" "Few.best" s_Few_best [] := ⟨He.cls_ok (c.fact 103 (f := .cls "Few")), He.meth_ok (c.fact 108 (f := .meth "Few" "best")), c.def_ 66 (d := mkM "Few" "best" "Few.best" s_Few_best [])⟩
theorem d_Few_on_pegs (c : He.SaysD fa fn K) : Dm K "Few" "on_pegs" "Few.on_pegs" s_Few_on_pegs [] := ⟨He.cls_ok (c.fact 103 (f := .cls "Few")), He.meth_ok (c.fact 109 (f := .meth "Few" "on_pegs")), c.def_ 67 (d := mkM "Few" "on_pegs" "Few.on_pegs" s_Few_on_pegs [])⟩
theorem d_Few_waiting (c : He.SaysD fa fn K) : Dm K "Few" "waiting" "Few.waiting" s_Few_waiting [] := ⟨He.cls_ok (c.fact 103 (f := .cls "Few")), He.meth_ok (c.fact 110 (f := .meth "Few" "waiting")), c.def_ 68 (d := mkM "Few" "waiting" "Few.waiting" s_Few_waiting [])⟩
theorem d_Few_tallies (c : He.SaysD fa fn K) : Dm K "Few" "tallies" "Few.tallies" s_Few_tallies [] := ⟨He.cls_ok (c.fact 103 (f := .cls "Few")), He.meth_ok (c.fact 111 (f := .meth "Few" "tallies")), c.def_ 69 (d := mkM "Few" "tallies" "Few.tallies" s_Few_tallies [])⟩
theorem d_Few_look_at (c : He.SaysD fa fn K) : Dm K "Few" "look_at" "Board.look_at" s_Board_look_at [] := ⟨He.cls_ok (c.fact 103 (f := .cls "Few")), He.meth_ok (c.fact 112 (f := .meth "Few" "look_at")), c.def_ 72 (d := mkM "Few" "look_at" "Board.look_at" s_Board_look_at [])⟩
theorem d_Few_ring (c : He.SaysD fa fn K) : Dm K "Few" "ring" "Board.ring" s_Board_ring [] := ⟨He.cls_ok (c.fact 103 (f := .cls "Few")), He.meth_ok (c.fact 113 (f := .meth "Few" "ring")), c.def_ 73 (d := mkM "Few" "ring" "Board.ring" s_Board_ring [])⟩
theorem d_Few_calm (c : He.SaysD fa fn K) : Dm K "Few" "calm" "Board.calm" s_Board_calm [] := ⟨He.cls_ok (c.fact 103 (f := .cls "Few")), He.meth_ok (c.fact 114 (f := .meth "Few" "calm")), c.def_ 74 (d := mkM "Few" "calm" "Board.calm" s_Board_calm [])⟩
theorem d_Few_mute (c : He.SaysD fa fn K) : Dm K "Few" "mute" "Board.mute" s_Board_mute [] := ⟨He.cls_ok (c.fact 103 (f := .cls "Few")), He.meth_ok (c.fact 115 (f := .meth "Few" "mute")), c.def_ 75 (d := mkM "Few" "mute" "Board.mute" s_Board_mute [])⟩
theorem d_Few_free (c : He.SaysD fa fn K) : Dm K "Few" "free" "Board.free" s_Board_free [] := ⟨He.cls_ok (c.fact 103 (f := .cls "Few")), He.meth_ok (c.fact 116 (f := .meth "Few" "free")), c.def_ 76 (d := mkM "Few" "free" "Board.free" s_Board_free [])⟩
theorem d_Few_bar (c : He.SaysD fa fn K) : Dm K "Few" "bar" "Board.bar" s_Board_bar [] := ⟨He.cls_ok (c.fact 103 (f := .cls "Few")), He.meth_ok (c.fact 117 (f := .meth "Few" "bar")), c.def_ 77 (d := mkM "Few" "bar" "Board.bar" s_Board_bar [])⟩
theorem d_Few_upmost (c : He.SaysD fa fn K) : Dm K "Few" "upmost" "Board.upmost" s_Board_upmost [] := ⟨He.cls_ok (c.fact 103 (f := .cls "Few")), He.meth_ok (c.fact 118 (f := .meth "Few" "upmost")), c.def_ 78 (d := mkM "Few" "upmost" "Board.upmost" s_Board_upmost [])⟩
theorem d_Few_is_open (c : He.SaysD fa fn K) : Dm K "Few" "is_open" "Board.is_open" s_Board_is_open [] := ⟨He.cls_ok (c.fact 103 (f := .cls "Few")), He.meth_ok (c.fact 119 (f := .meth "Few" "is_open")), c.def_ 79 (d := mkM "Few" "is_open" "Board.is_open" s_Board_is_open [])⟩
theorem d_Few_take (c : He.SaysD fa fn K) : Dm K "Few" "take" "Board.take" s_Board_take [] := ⟨He.cls_ok (c.fact 103 (f := .cls "Few")), He.meth_ok (c.fact 120 (f := .meth "Few" "take")), c.def_ 80 (d := mkM "Few" "take" "Board.take" s_Board_take [])⟩
theorem d_Few_end (c : He.SaysD fa fn K) : Dm K "Few" "end" "Board.end" s_Board_end [] := ⟨He.cls_ok (c.fact 103 (f := .cls "Few")), He.meth_ok (c.fact 121 (f := .meth "Few" "end")), c.def_ 81 (d := mkM "Few" "end" "Board.end" s_Board_end [])⟩
theorem d_Few_told (c : He.SaysD fa fn K) : Dm K "Few" "told" "Board.told" s_Board_told [] := ⟨He.cls_ok (c.fact 103 (f := .cls "Few")), He.meth_ok (c.fact 122 (f := .meth "Few" "told")), c.def_ 82 (d := mkM "Few" "told" "Board.told" s_Board_told [])⟩
theorem cg_Wide (c : He.SaysD fa fn K) (X : K.In h) (G : h.Ns mainGlobals mg) : mg "Wide" = some (.ref (He.ga K "Wide")) := He.glo_ok X G (c.fact 48 (f := .glo "Wide"))
theorem d_Wide_is_ready (c : He.SaysD fa fn K) : Dm K "Wide" "is_ready" "Wide.is_ready" s_Wide_is_ready [] := ⟨He.cls_ok (c.fact 129 (f := .cls "Wide")), He.meth_ok (c.fact 131 (f := .meth "Wide" "is_ready")), c.def_ 70 (d := mkM "Wide" "is_ready" "Wide.is_ready" s_Wide_is_ready [])⟩
theorem d_Wide_best (c : He.SaysD fa fn K) : Dm K "Wide" "best" "Wide.best" s_Wide_best [] := ⟨He.cls_ok (c.fact 129 (f := .cls "Wide")), He.meth_ok (c.fact 132 (f := .meth "Wide" "best")), c.def_ 71 (d := mkM "Wide" "best" "Wide.best" s_Wide_best [])⟩
theorem d_Wide_init (c : He.SaysD fa fn K) : Dm K "Wide" "__init__" "Board.__init__" s_Board_init [.non] := ⟨He.cls_ok (c.fact 129 (f := .cls "Wide")), He.meth_ok (c.fact 133 (f := .meth "Wide" "__init__")), c.def_ 83 (d := mkM "Wide" "__init__" "Board.__init__" s_Board_init [.non])⟩
theorem k_Wide (c : He.SaysD fa fn K) (X : K.In h) (G : h.Ns mainGlobals mg) : Dk K mg "Wide" "Board.__init__" s_Board_init [.non] := ⟨He.mkr_ok (c.fact 130 (f := .mkr "Wide")), cg_Wide c X G, d_Wide_init c⟩
theorem d_Wide_enters (c : He.SaysD fa fn K) : Dm K "Wide" "enters" "Board.enters" s_Board_enters [] := ⟨He.cls_ok (c.fact 129 (f := .cls "Wide")), He.meth_ok (c.fact 134 (f := .meth "Wide" "enters")), c.def_ 84 (d := mkM "Wide" "enters" "Board.enters" s_Board_enters [])⟩
theorem d_Wide_leaves (c : He.SaysD fa fn K) : Dm K "Wide" "leaves" "Board.leaves" s_Board_leaves [] := ⟨He.cls_ok (c.fact 129 (f := .cls "Wide")), He.meth_ok (c.fact 135 (f := .meth "Wide" "leaves")), c.def_ 85 (d := mkM "Wide" "leaves" "Board.leaves" s_Board_leaves [])⟩
theorem d_Wide_look_at (c : He.SaysD fa fn K) : Dm K "Wide" "look_at" "Board.look_at" s_Board_look_at [] := ⟨He.cls_ok (c.fact 129 (f := .cls "Wide")), He.meth_ok (c.fact 136 (f := .meth "Wide" "look_at")), c.def_ 86 (d := mkM "Wide" "look_at" "Board.look_at" s_Board_look_at [])⟩
theorem d_Wide_ring (c : He.SaysD fa fn K) : Dm K "Wide" "ring" "Board.ring" s_Board_ring [] := ⟨He.cls_ok (c.fact 129 (f := .cls "Wide")), He.meth_ok (c.fact 137 (f := .meth "Wide" "ring")), c.def_ 87 (d := mkM "Wide" "ring" "Board.ring" s_Board_ring [])⟩
theorem d_Wide_calm (c : He.SaysD fa fn K) : Dm K "Wide" "calm" "Board.calm" s_Board_calm [] := ⟨He.cls_ok (c.fact 129 (f := .cls "Wide")), He.meth_ok (c.fact 138 (f := .meth "Wide" "calm")), c.def_ 88 (d := mkM "Wide" "calm" "Board.calm" s_Board_calm [])⟩
theorem d_Wide_mute (c : He.SaysD fa fn K) : Dm K "Wide" "mute" "Board.mute" s_Board_mute [] := ⟨He.cls_ok (c.fact 129 (f := .cls "Wide")), He.meth_ok (c.fact 139 (f := .meth "Wide" "mute")), c.def_ 89 (d := mkM "Wide" "mute" "Board.mute" s_Board_mute [])⟩
theorem d_Wide_free (c : He.SaysD fa fn K) : Dm K "Wide" "free" "Board.free" s_Board_free [] := ⟨He.cls_ok (c.fact 129 (f := .cls "Wide")), He.meth_ok (c.fact 140 (f := .meth "Wide" "free")), c.def_ 90 (d := mkM "Wide" "free" "Board.free" s_Board_free [])⟩
theorem d_Wide_bar (c : He.SaysD fa fn K) : Dm K "Wide" "bar" "Board.bar" s_Board_bar [] := ⟨He.cls_ok (c.fact 129 (f := .cls "Wide")), He.meth_ok (c.fact 141 (f := .meth "Wide" "bar")), c.def_ 91 (d := mkM "Wide" "bar" "Board.bar" s_Board_bar [])⟩
theorem d_Wide_upmost (c : He.SaysD fa fn K) : Dm K "Wide" "upmost" "Board.upmost" s_Board_upmost [] := ⟨He.cls_ok (c.fact 129 (f := .cls "Wide")), He.meth_ok (c.fact 142 (f := .meth "Wide" "upmost")), c.def_ 92 (d := mkM "Wide" "upmost" "Board.upmost" s_Board_upmost [])⟩
theorem d_Wide_is_open (c : He.SaysD fa fn K) : Dm K "Wide" "is_open" "Board.is_open" s_Board_is_open [] := ⟨He.cls_ok (c.fact 129 (f := .cls "Wide")), He.meth_ok (c.fact 143 (f := .meth "Wide" "is_open")), c.def_ 93 (d := mkM "Wide" "is_open" "Board.is_open" s_Board_is_open [])⟩
theorem d_Wide_take (c : He.SaysD fa fn K) : Dm K "Wide" "take" "Board.take" s_Board_take [] := ⟨He.cls_ok (c.fact 129 (f := .cls "Wide")), He.meth_ok (c.fact 144 (f := .meth "Wide" "take")), c.def_ 94 (d := mkM "Wide" "take" "Board.take" s_Board_take [])⟩
theorem d_Wide_end (c : He.SaysD fa fn K) : Dm K "Wide" "end" "Board.end" s_Board_end [] := ⟨He.cls_ok (c.fact 129 (f := .cls "Wide")), He.meth_ok (c.fact 145 (f := .meth "Wide" "end")), c.def_ 95 (d := mkM "Wide" "end" "Board.end" s_Board_end [])⟩
theorem d_Wide_told (c : He.SaysD fa fn K) : Dm K "Wide" "told" "Board.told" s_Board_told [] := ⟨He.cls_ok (c.fact 129 (f := .cls "Wide")), He.meth_ok (c.fact 146 (f := .meth "Wide" "told")), c.def_ 96 (d := mkM "Wide" "told" "Board.told" s_Board_told [])⟩
theorem bdc_Wide (c : He.SaysD fa fn K) : BdC K "Wide" := by
  refine ⟨He.cls_ok (c.fact 129 (f := .cls "Wide")), fun f hf => ?_⟩
  simp only [List.mem_cons, List.not_mem_nil, or_false] at hf
  rcases hf with rfl | rfl | rfl | rfl | rfl | rfl
  · exact He.noat_ok (c.fact 147 (f := .noat "Wide" "ranks"))
  · exact He.noat_ok (c.fact 148 (f := .noat "Wide" "asking"))
  · exact He.noat_ok (c.fact 149 (f := .noat "Wide" "quiet"))
  · exact He.noat_ok (c.fact 150 (f := .noat "Wide" "pile"))
  · exact He.noat_ok (c.fact 151 (f := .noat "Wide" "edge"))
  · exact He.noat_ok (c.fact 152 (f := .noat "Wide" "pegs"))
theorem bdc_Few (c : He.SaysD fa fn K) : BdC K "Few" := by
  refine ⟨He.cls_ok (c.fact 103 (f := .cls "Few")), fun f hf => ?_⟩
  simp only [List.mem_cons, List.not_mem_nil, or_false] at hf
  rcases hf with rfl | rfl | rfl | rfl | rfl | rfl
  · exact He.noat_ok (c.fact 123 (f := .noat "Few" "ranks"))
  · exact He.noat_ok (c.fact 124 (f := .noat "Few" "asking"))
  · exact He.noat_ok (c.fact 125 (f := .noat "Few" "quiet"))
  · exact He.noat_ok (c.fact 126 (f := .noat "Few" "pile"))
  · exact He.noat_ok (c.fact 127 (f := .noat "Few" "edge"))
  · exact He.noat_ok (c.fact 128 (f := .noat "Few" "pegs"))
theorem d_NotTop (c : He.SaysD fa fn K) (X : K.In h) (G : h.Ns mainGlobals mg) (m : ex K = true) : De K mg "NotTop" "NotTop.__init__" s_NotTop_init ["line", "top"] := ⟨xoB_ok (cg_NotTop c X G) (ex_4 m), c.def_ 37 (d := mkM "NotTop" "__init__" "NotTop.__init__" s_NotTop_init [])⟩
theorem d_NoDeed (c : He.SaysD fa fn K) (X : K.In h) (G : h.Ns mainGlobals mg) (m : ex K = true) : De K mg "NoDeed" "NoDeed.__init__" s_NoDeed_init ["place"] := ⟨xoB_ok (cg_NoDeed c X G) (ex_5 m), c.def_ 38 (d := mkM "NoDeed" "__init__" "NoDeed.__init__" s_NoDeed_init [])⟩
theorem ntc (c : He.SaysD fa fn K) (X : K.In h) (G : h.Ns mainGlobals mg) (m : ex K = true) : NtC K := ⟨(d_NotTop c X G m).xo.ox, (d_NotTop c X G m).xo.no⟩
theorem c_MOST_board (c : He.SaysD fa fn K) (X : K.In h) (G : h.Ns mainGlobals mg) : ∃ t, mg "MOST_board" = some (.int 60 t) := He.int_ok X G (c.fact 153 (f := .int "MOST_board" 60))
theorem c_MOST_pegs (c : He.SaysD fa fn K) (X : K.In h) (G : h.Ns mainGlobals mg) : ∃ t, mg "MOST_pegs" = some (.int 16 t) := He.int_ok X G (c.fact 154 (f := .int "MOST_pegs" 16))
theorem d__wall (c : He.SaysD fa fn K) (X : K.In h) (G : h.Ns mainGlobals mg) : Df K mg "_wall" s__wall := .of (c.def_ 0 (d := mkD "_wall" s__wall)) (He.glo_ok X G (c.fact 0 (f := .glo "_wall")))
theorem d_parts_of (c : He.SaysD fa fn K) (X : K.In h) (G : h.Ns mainGlobals mg) : Df K mg "parts_of" s_parts_of := .of (c.def_ 1 (d := mkD "parts_of" s_parts_of)) (He.glo_ok X G (c.fact 1 (f := .glo "parts_of")))
theorem d_is_deed (c : He.SaysD fa fn K) (X : K.In h) (G : h.Ns mainGlobals mg) : Df K mg "is_deed" s_is_deed := .of (c.def_ 2 (d := mkD "is_deed" s_is_deed)) (He.glo_ok X G (c.fact 2 (f := .glo "is_deed")))
theorem d_done (c : He.SaysD fa fn K) (X : K.In h) (G : h.Ns mainGlobals mg) : Df K mg "done" s_done := .of (c.def_ 3 (d := mkD "done" s_done)) (He.glo_ok X G (c.fact 3 (f := .glo "done")))
theorem d_answer (c : He.SaysD fa fn K) (X : K.In h) (G : h.Ns mainGlobals mg) : Df K mg "answer" s_answer := .of (c.def_ 4 (d := mkD "answer" s_answer)) (He.glo_ok X G (c.fact 4 (f := .glo "answer")))
theorem d_play (c : He.SaysD fa fn K) (X : K.In h) (G : h.Ns mainGlobals mg) : Df K mg "play" s_play := .of (c.def_ 5 (d := mkD "play" s_play)) (He.glo_ok X G (c.fact 5 (f := .glo "play")))
theorem d_is_whole (c : He.SaysD fa fn K) (X : K.In h) (G : h.Ns mainGlobals mg) : Df K mg "is_whole" s_is_whole := .of (c.def_ 6 (d := mkD "is_whole" s_is_whole)) (He.glo_ok X G (c.fact 6 (f := .glo "is_whole")))
theorem d_is_rank (c : He.SaysD fa fn K) (X : K.In h) (G : h.Ns mainGlobals mg) : Df K mg "is_rank" s_is_rank := .of (c.def_ 7 (d := mkD "is_rank" s_is_rank)) (He.glo_ok X G (c.fact 7 (f := .glo "is_rank")))
theorem d_is_line (c : He.SaysD fa fn K) (X : K.In h) (G : h.Ns mainGlobals mg) : Df K mg "is_line" s_is_line := .of (c.def_ 8 (d := mkD "is_line" s_is_line)) (He.glo_ok X G (c.fact 8 (f := .glo "is_line")))
theorem d_before (c : He.SaysD fa fn K) (X : K.In h) (G : h.Ns mainGlobals mg) : Df K mg "before" s_before := .of (c.def_ 9 (d := mkD "before" s_before)) (He.glo_ok X G (c.fact 9 (f := .glo "before")))
theorem d_in_order (c : He.SaysD fa fn K) (X : K.In h) (G : h.Ns mainGlobals mg) : Df K mg "in_order" s_in_order := .of (c.def_ 10 (d := mkD "in_order" s_in_order)) (He.glo_ok X G (c.fact 10 (f := .glo "in_order")))
theorem d_first_of (c : He.SaysD fa fn K) (X : K.In h) (G : h.Ns mainGlobals mg) : Df K mg "first_of" s_first_of := .of (c.def_ 11 (d := mkD "first_of" s_first_of)) (He.glo_ok X G (c.fact 11 (f := .glo "first_of")))
theorem d_is_board (c : He.SaysD fa fn K) (X : K.In h) (G : h.Ns mainGlobals mg) : Df K mg "is_board" s_is_board := .of (c.def_ 12 (d := mkD "is_board" s_is_board)) (He.glo_ok X G (c.fact 12 (f := .glo "is_board")))
theorem d_is_bar (c : He.SaysD fa fn K) (X : K.In h) (G : h.Ns mainGlobals mg) : Df K mg "is_bar" s_is_bar := .of (c.def_ 13 (d := mkD "is_bar" s_is_bar)) (He.glo_ok X G (c.fact 13 (f := .glo "is_bar")))
theorem d_are_lines (c : He.SaysD fa fn K) (X : K.In h) (G : h.Ns mainGlobals mg) : Df K mg "are_lines" s_are_lines := .of (c.def_ 14 (d := mkD "are_lines" s_are_lines)) (He.glo_ok X G (c.fact 14 (f := .glo "are_lines")))
theorem d_are_rising (c : He.SaysD fa fn K) (X : K.In h) (G : h.Ns mainGlobals mg) : Df K mg "are_rising" s_are_rising := .of (c.def_ 15 (d := mkD "are_rising" s_are_rising)) (He.glo_ok X G (c.fact 15 (f := .glo "are_rising")))
theorem d_are_nested (c : He.SaysD fa fn K) (X : K.In h) (G : h.Ns mainGlobals mg) : Df K mg "are_nested" s_are_nested := .of (c.def_ 16 (d := mkD "are_nested" s_are_nested)) (He.glo_ok X G (c.fact 16 (f := .glo "are_nested")))
theorem d_is_picture (c : He.SaysD fa fn K) (X : K.In h) (G : h.Ns mainGlobals mg) : Df K mg "is_picture" s_is_picture := .of (c.def_ 17 (d := mkD "is_picture" s_is_picture)) (He.glo_ok X G (c.fact 17 (f := .glo "is_picture")))
theorem d_marked (c : He.SaysD fa fn K) (X : K.In h) (G : h.Ns mainGlobals mg) : Df K mg "marked" s_marked := .of (c.def_ 18 (d := mkD "marked" s_marked)) (He.glo_ok X G (c.fact 18 (f := .glo "marked")))
theorem d_l_cell_at (c : He.SaysD fa fn K) (X : K.In h) (G : h.Ns mainGlobals mg) : Df K mg "_law_cell_at" s_l_cell_at := .of (c.def_ 19 (d := mkD "_law_cell_at" s_l_cell_at)) (He.glo_ok X G (c.fact 19 (f := .glo "_law_cell_at")))
theorem d_l_whole (c : He.SaysD fa fn K) (X : K.In h) (G : h.Ns mainGlobals mg) : Df K mg "_law_whole" s_l_whole := .of (c.def_ 20 (d := mkD "_law_whole" s_l_whole)) (He.glo_ok X G (c.fact 20 (f := .glo "_law_whole")))
theorem d_l_ranks (c : He.SaysD fa fn K) (X : K.In h) (G : h.Ns mainGlobals mg) : Df K mg "_law_ranks" s_l_ranks := .of (c.def_ 21 (d := mkD "_law_ranks" s_l_ranks)) (He.glo_ok X G (c.fact 21 (f := .glo "_law_ranks")))
theorem d_l_picture_by (c : He.SaysD fa fn K) (X : K.In h) (G : h.Ns mainGlobals mg) : Df K mg "_law_picture_by" s_l_picture_by := .of (c.def_ 22 (d := mkD "_law_picture_by" s_l_picture_by)) (He.glo_ok X G (c.fact 22 (f := .glo "_law_picture_by")))
theorem d_l_copy (c : He.SaysD fa fn K) (X : K.In h) (G : h.Ns mainGlobals mg) : Df K mg "_law_copy" s_l_copy := .of (c.def_ 23 (d := mkD "_law_copy" s_l_copy)) (He.glo_ok X G (c.fact 23 (f := .glo "_law_copy")))
theorem d_l_bar (c : He.SaysD fa fn K) (X : K.In h) (G : h.Ns mainGlobals mg) : Df K mg "_law_bar" s_l_bar := .of (c.def_ 24 (d := mkD "_law_bar" s_l_bar)) (He.glo_ok X G (c.fact 24 (f := .glo "_law_bar")))
theorem d_l_deed (c : He.SaysD fa fn K) (X : K.In h) (G : h.Ns mainGlobals mg) : Df K mg "_law_deed" s_l_deed := .of (c.def_ 25 (d := mkD "_law_deed" s_l_deed)) (He.glo_ok X G (c.fact 25 (f := .glo "_law_deed")))
theorem d_l_call (c : He.SaysD fa fn K) (X : K.In h) (G : h.Ns mainGlobals mg) : Df K mg "_law_call" s_l_call := .of (c.def_ 26 (d := mkD "_law_call" s_l_call)) (He.glo_ok X G (c.fact 26 (f := .glo "_law_call")))
theorem d_l_do (c : He.SaysD fa fn K) (X : K.In h) (G : h.Ns mainGlobals mg) : Df K mg "_law_do" s_l_do := .of (c.def_ 27 (d := mkD "_law_do" s_l_do)) (He.glo_ok X G (c.fact 27 (f := .glo "_law_do")))
theorem d_l_names (c : He.SaysD fa fn K) (X : K.In h) (G : h.Ns mainGlobals mg) : Df K mg "_law_names" s_l_names := .of (c.def_ 28 (d := mkD "_law_names" s_l_names)) (He.glo_ok X G (c.fact 28 (f := .glo "_law_names")))
theorem d_l_kind (c : He.SaysD fa fn K) (X : K.In h) (G : h.Ns mainGlobals mg) : Df K mg "_law_kind" s_l_kind := .of (c.def_ 29 (d := mkD "_law_kind" s_l_kind)) (He.glo_ok X G (c.fact 29 (f := .glo "_law_kind")))
theorem d_l_alike (c : He.SaysD fa fn K) (X : K.In h) (G : h.Ns mainGlobals mg) : Df K mg "_law_alike" s_l_alike := .of (c.def_ 30 (d := mkD "_law_alike" s_l_alike)) (He.glo_ok X G (c.fact 30 (f := .glo "_law_alike")))
theorem d_l_odd (c : He.SaysD fa fn K) (X : K.In h) (G : h.Ns mainGlobals mg) : Df K mg "_law_odd" s_l_odd := .of (c.def_ 31 (d := mkD "_law_odd" s_l_odd)) (He.glo_ok X G (c.fact 31 (f := .glo "_law_odd")))
theorem d_l_refused (c : He.SaysD fa fn K) (X : K.In h) (G : h.Ns mainGlobals mg) : Df K mg "_law_refused" s_l_refused := .of (c.def_ 32 (d := mkD "_law_refused" s_l_refused)) (He.glo_ok X G (c.fact 32 (f := .glo "_law_refused")))
theorem d_l_caught (c : He.SaysD fa fn K) (X : K.In h) (G : h.Ns mainGlobals mg) : Df K mg "_law_caught" s_l_caught := .of (c.def_ 33 (d := mkD "_law_caught" s_l_caught)) (He.glo_ok X G (c.fact 33 (f := .glo "_law_caught")))
theorem d_l_board (c : He.SaysD fa fn K) (X : K.In h) (G : h.Ns mainGlobals mg) : Df K mg "_law_board" s_l_board := .of (c.def_ 34 (d := mkD "_law_board" s_l_board)) (He.glo_ok X G (c.fact 34 (f := .glo "_law_board")))
theorem d_l_spoiled (c : He.SaysD fa fn K) (X : K.In h) (G : h.Ns mainGlobals mg) : Df K mg "_law_spoiled" s_l_spoiled := .of (c.def_ 35 (d := mkD "_law_spoiled" s_l_spoiled)) (He.glo_ok X G (c.fact 35 (f := .glo "_law_spoiled")))
theorem d_law (c : He.SaysD fa fn K) (X : K.In h) (G : h.Ns mainGlobals mg) : Df K mg "law" s_law := .of (c.def_ 36 (d := mkD "law" s_law)) (He.glo_ok X G (c.fact 36 (f := .glo "law")))
end
abbrev R : PySem.W.OpenRow := PySem.W.OpenLaw.row PySem.Challenge.rw_fewpegs_k10_rows_refused
abbrev hk : PySem.W.Hook := hookY 5 fa fn tf ex
def ob (s : PySem.W.SharedT) : He.AlX := obsY 5 fa fn tf ex (HandSHeadRun.getT s)
theorem ob_eq (s : PySem.W.SharedT) : ob s = hk.obs s.abs := obsY_eq (HandSHeadRun.getT_eq s)
theorem run (w : World) : HandSHeadRun.RunEq R (PySem.W.view R.prog [58]) hk ob 20000 names w := by
  intro os
  kernel_rfl
abbrev l0 : PySem.W.OpenLaw := PySem.Challenge.rw_fewpegs_k10_rows_refused
def tT (K : PySem.W.Frag) : List (Addr × Str) := [((He.cT K ("in_order", none)).2, ("in_order" : Str) ++ ".<locals>." ++ "<lambda>")]
theorem lawF (w : World) (mg : Str → Option Value) (fa : Addr) (h : Heap) (Y : hk.says w h) (G : h.Ns mainGlobals mg) (e : mg "law" = some (.ref fa)) : ∃ K : PySem.W.Frag, K.In h ∧ LawAtS l0 w K CX0 10 63 "_law_script" mg fa h := by
  obtain ⟨K, X, c⟩ := Y
  have cd := c.t.d
  have B := bi_ok cd X G
  refine ⟨K, X, law_at (cs := tf.map (He.cT K)) (sp := sp_law K (tT K)) (k := 9) (d_law cd X G) e (List.forall_mem_map.mpr c.empty) (List.forall_mem_map.mpr c.out) (List.forall_mem_map.mpr fun p hp => PySem.W.codeHd_of_K X (c.hd p hp)) sc_law len_law (fun _ _ _ _ _ _ us hl => match us, hl with | [_], _ => rfl) (fun H a ns hn hbits ht hs => ⟨a, ns, rfl, hs, fun p hp => ?_, ⟨bdc_Wide cd, bdc_Few cd, pgc_ok cd⟩, ⟨ntc cd X G c.more, xk3 (x2_NoLine c.more), xk3 (x2_NoBar c.more), xk3 (x2_NotTop c.more)⟩, ⟨(d_NoDeed cd X G c.more).xo.ox, (d_NoDeed cd X G c.more).xo.no, x2_NoDeed c.more⟩, fun _ => rfl⟩) fun base hK Gb tb => ?_⟩
  · rw [List.mem_singleton.mp hp]
    exact TabS.nil (ht _ (List.mem_singleton.mpr rfl))
  ·
    have G_Few_told := g_Board_told (P := l0.prog) (w := w) (base := base) (T := tT K) B (c := "Few") (d_Few_told cd) 
    have G_Wide_told := g_Board_told (P := l0.prog) (w := w) (base := base) (T := tT K) B (c := "Wide") (d_Wide_told cd) 
    have G_l_kind := g_l_kind (P := l0.prog) (w := w) (base := base) (T := tT K) B (d_l_kind cd X G) 
    have G_l_alike := g_l_alike (P := l0.prog) (w := w) (base := base) (T := tT K) B (d_l_alike cd X G) G_l_kind
    have G_is_whole := g_is_whole (P := l0.prog) (w := w) (base := base) (T := tT K) B (d_is_whole cd X G) 
    have G_is_rank := g_is_rank (P := l0.prog) (w := w) (base := base) (T := tT K) B (d_is_rank cd X G) G_is_whole
    have G_is_board := g_is_board (P := l0.prog) (w := w) (base := base) (T := tT K) B (d_is_board cd X G) (c_MOST_board cd X G) G_is_rank
    have G_is_line := g_is_line (P := l0.prog) (w := w) (base := base) (T := tT K) B (d_is_line cd X G) G_is_whole
    have G_are_lines := g_are_lines (P := l0.prog) (w := w) (base := base) (T := tT K) B (d_are_lines cd X G) G_is_line
    have G_are_nested := g_are_nested (P := l0.prog) (w := w) (base := base) (T := tT K) B (d_are_nested cd X G) G_are_lines
    have G_are_rising := g_are_rising (P := l0.prog) (w := w) (base := base) (T := tT K) B (d_are_rising cd X G) G_are_lines
    have G_is_bar := g_is_bar (P := l0.prog) (w := w) (base := base) (T := tT K) B (d_is_bar cd X G) G_is_whole
    have G_is_picture := g_is_picture (P := l0.prog) (w := w) (base := base) (T := tT K) B (d_is_picture cd X G) G_are_nested G_are_rising G_is_bar
    have G_marked := g_marked (P := l0.prog) (w := w) (base := base) (T := tT K) B (d_marked cd X G) 
    have G_Board_c := g_Board_init_c (P := l0.prog) (w := w) (base := base) (T := tT K) B (c := "Few") (d_Board_init cd) (cmB_ok (cg_Board cd X G) (ex_7 c.more)) (R_NoBoard cd X G) (R_NoPicture cd X G) G_is_board G_is_picture G_marked
    have G_in_order := g_in_order (P := l0.prog) (w := w) (base := base) (T := tT K) B (d_in_order cd X G) (tb _ (List.mem_singleton.mpr rfl)) (List.mem_singleton.mpr rfl) (fun p hp _ => by rw [List.mem_singleton.mp hp])
    have G_Pegs := g_Pegs_init (P := l0.prog) (w := w) (base := base) (T := tT K) B (k_Pegs cd X G) (c_MOST_pegs cd X G) (R_NoPegs cd X G) G_in_order G_is_whole
    have G_Few_f := g_Few_init_f (P := l0.prog) (w := w) (base := base) (T := tT K) B (k_Few cd X G) G_Board_c G_Pegs
    have G_Wide_f := g_Board_init_f (P := l0.prog) (w := w) (base := base) (T := tT K) B (c := "Wide") (k_Wide cd X G) (R_NoBoard cd X G) (R_NoPicture cd X G) G_is_board G_is_picture G_marked
    have G_l_cell_at := g_l_cell_at (P := l0.prog) (w := w) (base := base) (T := tT K) B (d_l_cell_at cd X G) 
    have G_l_copy := g_l_copy (P := l0.prog) (w := w) (base := base) (T := tT K) B (d_l_copy cd X G) 
    have G_l_board := g_l_board (P := l0.prog) (w := w) (base := base) (T := tT K) B (d_l_board cd X G) G_Few_f G_Wide_f G_l_cell_at G_l_copy
    have G_l_names := g_l_names (P := l0.prog) (w := w) (base := base) (T := tT K) B (d_l_names cd X G) (cg_NoBar cd X G) (cg_NoBoard cd X G) (cg_NoDeed cd X G) (cg_NoLine cd X G) (cg_NoPegs cd X G) (cg_NoPicture cd X G) (cg_NotTop cd X G)
    have G_NoDeed := g_NoDeed_init (P := l0.prog) (w := w) (base := base) (T := tT K) B (d_NoDeed cd X G c.more) (cmB_ok (cg_BoardError cd X G) (ex_6 c.more))
    have G_Few_bar := g_Board_bar (P := l0.prog) (w := w) (base := base) (T := tT K) B (c := "Few") (d_Few_bar cd) (R_NoBar cd X G) G_is_bar
    have G_Few_is_open := g_Board_is_open (P := l0.prog) (w := w) (base := base) (T := tT K) B (c := "Few") (d_Few_is_open cd) 
    have G_Pegs_first := g_Pegs_first (P := l0.prog) (w := w) (base := base) (T := tT K) B (d_Pegs_first cd) 
    have G_Few_best := g_Few_best (P := l0.prog) (w := w) (base := base) (T := tT K) B (d_Few_best cd) (G_Few_is_open.mono (k := 1) (by decide)) G_Pegs_first
    have G_Pegs_call_keeper := g_Pegs_call_keeper (P := l0.prog) (w := w) (base := base) (T := tT K) B (d_Pegs_call_keeper cd) G_in_order
    have G_Pegs_go := g_Pegs_go (P := l0.prog) (w := w) (base := base) (T := tT K) B (d_Pegs_go cd) G_Pegs_call_keeper
    have G_Few_leaves := g_Few_leaves (P := l0.prog) (w := w) (base := base) (T := tT K) B (d_Few_leaves cd) G_Pegs_go
    have G_Few_look_at := g_Board_look_at (P := l0.prog) (w := w) (base := base) (T := tT K) B (c := "Few") (d_Few_look_at cd) (R_NoLine cd X G) G_is_line
    have G_Few_calm := g_Board_calm (P := l0.prog) (w := w) (base := base) (T := tT K) B (c := "Few") (d_Few_calm cd) (G_Few_leaves.mono (k := 4) (by decide)) (G_Few_look_at.mono (k := 3) (by decide))
    have G_NotTop := g_NotTop_init (P := l0.prog) (w := w) (base := base) (T := tT K) B (d_NotTop cd X G c.more) (cmB_ok (cg_BoardError cd X G) (ex_6 c.more))
    have G_Few_upmost := g_Board_upmost (P := l0.prog) (w := w) (base := base) (T := tT K) B (c := "Few") (d_Few_upmost cd) 
    have G_Few_end := g_Board_end (P := l0.prog) (w := w) (base := base) (T := tT K) B (c := "Few") (d_Few_end cd) G_NotTop (G_Few_look_at.mono (k := 3) (by decide)) (G_Few_upmost.mono (k := 1) (by decide))
    have G_before := g_before (P := l0.prog) (w := w) (base := base) (T := tT K) B (d_before cd X G) 
    have G_Pegs_is_pressing := g_Pegs_is_pressing (P := l0.prog) (w := w) (base := base) (T := tT K) B (d_Pegs_is_pressing cd) G_before
    have G_Pegs_come := g_Pegs_come (P := l0.prog) (w := w) (base := base) (T := tT K) B (d_Pegs_come cd) G_Pegs_is_pressing G_in_order
    have G_Few_enters := g_Few_enters (P := l0.prog) (w := w) (base := base) (T := tT K) B (d_Few_enters cd) G_Pegs_come
    have G_Few_free := g_Board_free (P := l0.prog) (w := w) (base := base) (T := tT K) B (c := "Few") (d_Few_free cd) (G_Few_enters.mono (k := 4) (by decide)) (G_Few_look_at.mono (k := 3) (by decide))
    have G_Few_mute := g_Board_mute (P := l0.prog) (w := w) (base := base) (T := tT K) B (c := "Few") (d_Few_mute cd) (G_Few_leaves.mono (k := 4) (by decide)) (G_Few_look_at.mono (k := 3) (by decide))
    have G_Few_ring := g_Board_ring (P := l0.prog) (w := w) (base := base) (T := tT K) B (c := "Few") (d_Few_ring cd) (G_Few_enters.mono (k := 4) (by decide)) (G_Few_look_at.mono (k := 3) (by decide))
    have G_Few_take := g_Board_take (P := l0.prog) (w := w) (base := base) (T := tT K) B (c := "Few") (d_Few_take cd) (G_Few_best.mono (k := 3) (by decide)) (G_Few_leaves.mono (k := 4) (by decide))
    have G_Wide_bar := g_Board_bar (P := l0.prog) (w := w) (base := base) (T := tT K) B (c := "Wide") (d_Wide_bar cd) (R_NoBar cd X G) G_is_bar
    have G_Wide_is_open := g_Board_is_open (P := l0.prog) (w := w) (base := base) (T := tT K) B (c := "Wide") (d_Wide_is_open cd) 
    have G_Wide_is_ready := g_Wide_is_ready (P := l0.prog) (w := w) (base := base) (T := tT K) B (d_Wide_is_ready cd) (G_Wide_is_open.mono (k := 1) (by decide))
    have G_first_of := g_first_of (P := l0.prog) (w := w) (base := base) (T := tT K) B (d_first_of cd X G) G_before
    have G_Wide_best := g_Wide_best (P := l0.prog) (w := w) (base := base) (T := tT K) B (d_Wide_best cd) G_Wide_is_ready G_first_of
    have G_Wide_leaves := g_Board_leaves (P := l0.prog) (w := w) (base := base) (T := tT K) B (d_Wide_leaves cd) 
    have G_Wide_look_at := g_Board_look_at (P := l0.prog) (w := w) (base := base) (T := tT K) B (c := "Wide") (d_Wide_look_at cd) (R_NoLine cd X G) G_is_line
    have G_Wide_calm := g_Board_calm (P := l0.prog) (w := w) (base := base) (T := tT K) B (c := "Wide") (d_Wide_calm cd) (G_Wide_leaves.mono (k := 4) (by decide)) (G_Wide_look_at.mono (k := 3) (by decide))
    have G_Wide_upmost := g_Board_upmost (P := l0.prog) (w := w) (base := base) (T := tT K) B (c := "Wide") (d_Wide_upmost cd) 
    have G_Wide_end := g_Board_end (P := l0.prog) (w := w) (base := base) (T := tT K) B (c := "Wide") (d_Wide_end cd) G_NotTop (G_Wide_look_at.mono (k := 3) (by decide)) (G_Wide_upmost.mono (k := 1) (by decide))
    have G_Wide_enters := g_Board_enters (P := l0.prog) (w := w) (base := base) (T := tT K) B (d_Wide_enters cd) 
    have G_Wide_free := g_Board_free (P := l0.prog) (w := w) (base := base) (T := tT K) B (c := "Wide") (d_Wide_free cd) (G_Wide_enters.mono (k := 4) (by decide)) (G_Wide_look_at.mono (k := 3) (by decide))
    have G_Wide_mute := g_Board_mute (P := l0.prog) (w := w) (base := base) (T := tT K) B (c := "Wide") (d_Wide_mute cd) (G_Wide_leaves.mono (k := 4) (by decide)) (G_Wide_look_at.mono (k := 3) (by decide))
    have G_Wide_ring := g_Board_ring (P := l0.prog) (w := w) (base := base) (T := tT K) B (c := "Wide") (d_Wide_ring cd) (G_Wide_enters.mono (k := 4) (by decide)) (G_Wide_look_at.mono (k := 3) (by decide))
    have G_Wide_take := g_Board_take (P := l0.prog) (w := w) (base := base) (T := tT K) B (c := "Wide") (d_Wide_take cd) (G_Wide_best.mono (k := 3) (by decide)) (G_Wide_leaves.mono (k := 4) (by decide))
    have G_done := g_done (P := l0.prog) (w := w) (base := base) (T := tT K) B (d_done cd X G) (G_Few_bar.mono (k := 3) (by decide)) (G_Few_best.mono (k := 3) (by decide)) (G_Few_calm.mono (k := 5) (by decide)) (G_Few_end.mono (k := 4) (by decide)) (G_Few_free.mono (k := 5) (by decide)) (G_Few_mute.mono (k := 5) (by decide)) (G_Few_ring.mono (k := 5) (by decide)) (G_Few_take.mono (k := 5) (by decide)) (G_Wide_bar.mono (k := 3) (by decide)) (G_Wide_best.mono (k := 3) (by decide)) (G_Wide_calm.mono (k := 5) (by decide)) (G_Wide_end.mono (k := 4) (by decide)) (G_Wide_free.mono (k := 5) (by decide)) (G_Wide_mute.mono (k := 5) (by decide)) (G_Wide_ring.mono (k := 5) (by decide)) (G_Wide_take.mono (k := 5) (by decide))
    have G_answer := g_answer (P := l0.prog) (w := w) (base := base) (T := tT K) B (d_answer cd X G) (cg_NoBar cd X G) (cg_NoLine cd X G) (cg_NotTop cd X G) G_done
    have G_parts_of := g_parts_of (P := l0.prog) (w := w) (base := base) (T := tT K) B (d_parts_of cd X G) 
    have G_is_deed := g_is_deed (P := l0.prog) (w := w) (base := base) (T := tT K) B (d_is_deed cd X G) G_parts_of
    have G_play := g_play (P := l0.prog) (w := w) (base := base) (T := tT K) B (d_play cd X G) G_NoDeed G_answer G_is_deed
    have G_l_caught := g_l_caught (P := l0.prog) (w := w) (base := base) (T := tT K) B (d_l_caught cd X G) (cg_BoardError cd X G) G_l_names G_play
    have G_l_bar := g_l_bar (P := l0.prog) (w := w) (base := base) (T := tT K) B (d_l_bar cd X G) 
    have G_l_deed := g_l_deed (P := l0.prog) (w := w) (base := base) (T := tT K) B (d_l_deed cd X G) G_l_bar
    have G_l_call := g_l_call (P := l0.prog) (w := w) (base := base) (T := tT K) B (d_l_call cd X G) (G_Few_bar.mono (k := 3) (by decide)) (G_Few_best.mono (k := 3) (by decide)) (G_Few_calm.mono (k := 5) (by decide)) (G_Few_end.mono (k := 4) (by decide)) (G_Few_free.mono (k := 5) (by decide)) (G_Few_mute.mono (k := 5) (by decide)) (G_Few_ring.mono (k := 5) (by decide)) (G_Few_take.mono (k := 5) (by decide)) (G_Wide_bar.mono (k := 3) (by decide)) (G_Wide_best.mono (k := 3) (by decide)) (G_Wide_calm.mono (k := 5) (by decide)) (G_Wide_end.mono (k := 4) (by decide)) (G_Wide_free.mono (k := 5) (by decide)) (G_Wide_mute.mono (k := 5) (by decide)) (G_Wide_ring.mono (k := 5) (by decide)) (G_Wide_take.mono (k := 5) (by decide))
    have G_l_do := g_l_do (P := l0.prog) (w := w) (base := base) (T := tT K) B (d_l_do cd X G) (cg_NoBar cd X G) (cg_NoLine cd X G) (cg_NotTop cd X G) G_l_call
    have G_l_picture_by := g_l_picture_by (P := l0.prog) (w := w) (base := base) (T := tT K) B (d_l_picture_by cd X G) G_l_cell_at
    have G_l_ranks := g_l_ranks (P := l0.prog) (w := w) (base := base) (T := tT K) B (d_l_ranks cd X G) G_l_cell_at
    have G_l_refused := g_l_refused (P := l0.prog) (w := w) (base := base) (T := tT K) B (d_l_refused cd X G) (cg_NoDeed cd X G) G_l_names G_play
    have G_l_odd := g_l_odd (P := l0.prog) (w := w) (base := base) (T := tT K) B (d_l_odd cd X G) 
    have G_l_spoiled := g_l_spoiled (P := l0.prog) (w := w) (base := base) (T := tT K) B (d_l_spoiled cd X G) G_l_cell_at G_l_odd
    have G_l_whole := g_l_whole (P := l0.prog) (w := w) (base := base) (T := tT K) B (d_l_whole cd X G) 
    exact w_law B (G_Few_told.mono (k := 1) (by decide)) (G_Wide_told.mono (k := 1) (by decide)) G_l_alike G_l_board G_l_caught G_l_deed G_l_do G_l_picture_by G_l_ranks G_l_refused G_l_spoiled G_l_whole G_play
end Fp
open PySem PySem.W PySem.Calls PyProof.Rows
theorem PySem.Challenge.cw_fewpegs_k10_rows_refused_holds : PySem.Challenge.rw_fewpegs_k10_rows_refused.Holds := by
  w_on; o_law
  refine HandSHeadRun.head_any (r := OpenLaw.row PySem.Challenge.rw_fewpegs_k10_rows_refused) (q := view (OpenLaw.row PySem.Challenge.rw_fewpegs_k10_rows_refused).prog [58]) (H := Fp.hk) (ob := Fp.ob) (M := 20000) (loose := Fp.names) (d := HandSHeadRun.topDef (OpenLaw.row PySem.Challenge.rw_fewpegs_k10_rows_refused).prog 58) (kwd := []) Fp.ob_eq
    (by kernel_rfl) (fun s => by kernel_rfl) Fp.run (by kernel_rfl) (by kernel_rfl) (by kernel_rfl) (by rfl) (by first | assumption | decide +kernel) (by decide +kernel) ⟨rfl, rfl, rfl, rfl, rfl, by decide +kernel⟩ ?hw ?hc
  case hw => w_witness2
  case hc => exact LamX.walk_ofTsE (l := PySem.Challenge.rw_fewpegs_k10_rows_refused) (n := 63) (k := 10) (CX := fun _ => L2.CX0) (x := "_law_script") rfl (by decide) rfl ⟨rfl, by decide +kernel, by decide +kernel⟩ (fun w mg fa h Y G e => Fp.lawF w mg fa h Y G e) (fun _ _ _ _ _ h => h)

