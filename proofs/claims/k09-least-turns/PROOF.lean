import PyProof.Rows.All
import HandS.ForMost
import HandS.Exc
import HandS.ExcInit
import HandS.More
import KE.KExcIs
import KE.KDictKeyed
import KE.KeyNested
import HandS.TupAny
import HandS.Deep
import HandS.Style
import HandS.TupLe
import HandS.TupMul
import HandS.StrMore
import HandS.ForDict
import HandS.IsInst
import HandS.Strs
import KE.KIsAll
import KE.SortCalls
import KE.SortKeyed
import KE.DataMinMax
import KE.KEqDict
import HandS.Iter
import HandS.Zip
import KE.GoesMore
import KE.GoesZip
import KE.GoesEnum
import KE.KDictWalk
import HandS.Walk
import HandS.NoneIn
import KE.KDictDisplayH
import HandS.Flow
import HandS.CallSlots
import HandS.ForExc
import HandS.WordsExc
import HandS.ExcValue
import KE.KExcStr
import HandS.Words
import HandS.TryMany
import HandS.FStrTup
import HandS.RaiseMore
import KE.SortData
import PySem.Challenge.RW_fewturns_k09_least_turns
set_option Elab.async false
set_option linter.all false
set_option maxRecDepth 100000
/-! VL1: values as plain data (D), how they lie in the abstract heap (Rep), what a step may change. -/
namespace VL
open PySem PySem.Spec PyProof.Rows L2

/-- the written part, with the program and the world -/
structure KW where
  f : PySem.W.Frag
  P : Program
  w : World
instance : Coe KW PySem.W.Frag := ⟨KW.f⟩
abbrev KW.lookup (K : KW) (a : Addr) : Option Obj := List.lookup a K.f
abbrev _root_.L2.Cx.kw (X : L2.Cx) : KW := ⟨X.K, X.prog, X.w⟩

inductive D where
  | non
  | bl (b : Bool)
  | int (i : Int)
  | str (s : List Nat)
  | tup (xs : List D)
  | lst (o : Bool) (xs : List D)
  /-- an exception of an own class; its one field, or "" -/
  | exc (c f : String) (x : D)
  /-- an own exception class; whether it is made by a text alone; the names of those that are under it, and of those that are not -/
  | cls (c : String) (mk : String) (yes no : List String)
  /-- a dict whose keys are tuples: its keys, its values -/
  | dic (o : Bool) (ks vs : List D)
  /-- a dict whose keys are texts; it never changes -/
  | dks (ks : List (List Nat)) (vs : List D)
  /-- an instance of an own class: its attributes -/
  | obj (o : Bool) (c : String) (fs : List String) (vs : List D)
  deriving Inhabited, Repr

mutual
def D.beq : D → D → Bool
  | .non, .non => true
  | .bl a, .bl b => decide (a = b)
  | .int a, .int b => decide (a = b)
  | .str a, .str b => decide (a = b)
  | .tup a, .tup b => beqs a b
  | .lst o a, .lst p b => decide (o = p) && beqs a b
  | .exc c f x, .exc c' f' x' => decide (c = c') && decide (f = f') && D.beq x x'
  | .cls c m y n, .cls c' m' y' n' => decide (c = c') && decide (m = m') && decide (y = y') && decide (n = n')
  | .dic o a c, .dic p b d => decide (o = p) && beqs a b && beqs c d
  | .dks a c, .dks b d => decide (a = b) && beqs c d
  | .obj o k a c, .obj p l b d => decide (o = p) && decide (k = l) && decide (a = b) && beqs c d
  | _, _ => false
def beqs : List D → List D → Bool
  | [], [] => true
  | a :: as, b :: bs => D.beq a b && beqs as bs
  | _, _ => false
end
mutual
theorem D.beq_self : ∀ a : D, D.beq a a = true
  | .non => rfl
  | .bl _ => by simp [D.beq]
  | .int _ => by simp [D.beq]
  | .str _ => by simp [D.beq]
  | .tup a => by simp [D.beq, beqs_self a]
  | .lst o a => by simp [D.beq, beqs_self a]
  | .exc c f x => by simp [D.beq, D.beq_self x]
  | .cls c m y n => by simp [D.beq]
  | .dic o a c => by simp [D.beq, beqs_self a, beqs_self c]
  | .dks a c => by simp [D.beq, beqs_self c]
  | .obj o k a c => by simp [D.beq, beqs_self c]
theorem beqs_self : ∀ a : List D, beqs a a = true
  | [] => rfl
  | a :: as => by simp [beqs, D.beq_self a, beqs_self as]
end
mutual
theorem D.eq_of_beq : ∀ a b : D, D.beq a b = true → a = b
  | .non, b, h => by cases b <;> simp_all [D.beq]
  | .bl a, b, h => by cases b <;> simp_all [D.beq]
  | .int a, b, h => by cases b <;> simp_all [D.beq]
  | .str a, b, h => by cases b <;> simp_all [D.beq]
  | .tup a, b, h => by
    cases b with
    | tup c => rw [eq_of_beqs a c (by simpa [D.beq] using h)]
    | _ => simp [D.beq] at h
  | .lst o a, b, h => by
    cases b with
    | lst p c =>
      simp only [D.beq, Bool.and_eq_true, decide_eq_true_eq] at h
      rw [eq_of_beqs a c h.2, h.1]
    | _ => simp [D.beq] at h
  | .exc c f x, b, h => by
    cases b with
    | exc c' f' x' =>
      simp only [D.beq, Bool.and_eq_true, decide_eq_true_eq] at h
      rw [D.eq_of_beq x x' h.2, h.1.1, h.1.2]
    | _ => simp [D.beq] at h
  | .cls c m y n, b, h => by
    cases b with
    | cls c' m' y' n' =>
      simp only [D.beq, Bool.and_eq_true, decide_eq_true_eq] at h
      rw [h.1.1.1, h.1.1.2, h.1.2, h.2]
    | _ => simp [D.beq] at h
  | .dic o a c, b, h => by
    cases b with
    | dic p b d =>
      simp only [D.beq, Bool.and_eq_true, decide_eq_true_eq] at h
      rw [eq_of_beqs a b h.1.2, eq_of_beqs c d h.2, h.1.1]
    | _ => simp [D.beq] at h
  | .dks a c, b, h => by
    cases b with
    | dks b d =>
      simp only [D.beq, Bool.and_eq_true, decide_eq_true_eq] at h
      rw [eq_of_beqs c d h.2, h.1]
    | _ => simp [D.beq] at h
  | .obj o k a c, b, h => by
    cases b with
    | obj p l b d =>
      simp only [D.beq, Bool.and_eq_true, decide_eq_true_eq] at h
      rw [eq_of_beqs c d h.2, h.1.1.1, h.1.1.2, h.1.2]
    | _ => simp [D.beq] at h
theorem eq_of_beqs : ∀ a b : List D, beqs a b = true → a = b
  | [], [], _ => rfl
  | a :: as, b :: bs, h => by
    simp only [beqs, Bool.and_eq_true] at h
    rw [D.eq_of_beq a b h.1, eq_of_beqs as bs h.2]
  | [], _ :: _, h => by simp [beqs] at h
  | _ :: _, [], h => by simp [beqs] at h
end
instance : DecidableEq D := fun a b => if h : D.beq a b = true then .isTrue (D.eq_of_beq a b h) else .isFalse fun e => h (e ▸ D.beq_self a)

mutual
def D.imm : D → Bool
  | .non => true
  | .bl _ => true
  | .int _ => true
  | .str _ => true
  | .tup xs => immL xs
  | .lst o xs => !o && immL xs
  | .exc _ _ _ => true
  | .cls _ _ _ _ => true
  | .dic o ks vs => !o && (immL ks && immL vs)
  | .dks _ vs => immL vs
  | .obj o _ _ vs => !o && immL vs
def immL : List D → Bool
  | [] => true
  | x :: xs => x.imm && immL xs
end
def D.flat : D → Bool
  | .lst true xs => immL xs
  | d => d.imm

/-- a text as texts are: its codes, its length -/
def okS (s : List Nat) : Bool := s.all (fun c => decide (c < 1114112)) && decide (s.length ≤ 16777216)
theorem okS_iff {s : List Nat} : okS s = true ↔ (∀ c ∈ s, c < 1114112) ∧ s.length ≤ 16777216 := by
  simp [okS]
/-- a dict with such keys, which stand at such places, and such values -/
def DkP (K : KW) (a : Addr) (kvs : List (NestedKey × Addr × V)) : Heap → Prop := fun h => (a == sysModules) = false ∧ ∃ xs : List (NestedKey × Addr × Value),
  Paired (fun (p : NestedKey × Addr × V) (q : NestedKey × Addr × Value) => p.1 = q.1 ∧ p.2.1 = q.2.1 ∧ RelV p.2.2 q.2.2) kvs xs ∧
    ∃ o es ep, h.get? a = some o ∧ o.ExactDict ∧ o.data = .dict es ep ∧ es.toList = xs.map (entryOfKey (nestedKind K.P K.w)) ∧ (xs.map (·.1)).Nodup
def DkO (K : KW) (a : Addr) (kvs : List (NestedKey × Addr × V)) : HO := .ext (DkP K a kvs)
/-- what never changes, at a -/
def Fixed (a : Addr) : HO → Prop
  | .tup _ => True
  | .frz _ _ => True
  | .xd _ => True
  | .ext φ => ¬ ∃ K kvs, φ = DkP K a kvs
  | _ => False
/-- the classes by their names -/
def clsOf (K : KW) : String → Option Addr := fun x => match PySem.W.nsIn K mainGlobals (Str.ofString x) with
  | some (some (.ref C)) => some C
  | _ => none
/-- an exception of the class, its dict at d -/
def XcP (cls : Value) (d : Option Addr) (a : Addr) : Heap → Prop := fun h => ∃ (oe : Obj) (vs : Array Value), h.get? a = some oe ∧ Zc cls d oe ∧ oe.data = .fields vs
def XcO (cls : Value) (d : Option Addr) (a : Addr) : HO := .ext (XcP cls d a)
/-- .. somewhere there is such a one -/
def XcE (cls : Value) (d : Option Addr) (a : Addr) : Prop := ∃ h, XcP cls d a h
theorem XcE.fixed {cls : Value} {d : Option Addr} {a : Addr} (x : XcE cls d a) : Fixed a (XcO cls d a) := fun ⟨K, kvs, e⟩ => by
  obtain ⟨h, q⟩ := x
  have q2 := q
  rw [e] at q2
  obtain ⟨_, xs, _, o, es, ep, ho, _, hd, _⟩ := q2
  obtain ⟨oe, vs, he, _, hf⟩ := q
  rw [ho] at he
  cases he
  rw [hd] at hf
  cases hf
theorem dk_free {K : KW} {a : Addr} {kvs : List (NestedKey × Addr × V)} : ¬ Fixed a (DkO K a kvs) := fun n => n ⟨K, kvs, rfl⟩
/-- what is known of an own exception class, at C -/
structure XIs (K : KW) (c : String) (C : Addr) : Prop where
  gc : clsOf K c = some C
  cl : (PySem.W.clsIn K C).isSome = true
  ga : PySem.W.findIn K (.ref C) "__getattribute__" = some (some (.builtin "BaseException.__getattribute__"))
  gt : PySem.W.findIn K (.ref C) "__getattr__" = some none
  sub : PySem.W.subIn K (.ref C) (.type "BaseException") = some true
  hd : PySem.W.hasDictIn K C = true
  ha : PySem.W.findIn K (.ref C) "__class__" = some (some (.builtin "object.__class__"))
  hn : PySem.W.specialIn K (.builtin "object.__class__") "__get__" = some (some (.builtin "getset_descriptor.__get__"))
  ht : PySem.W.takesIn K (.builtin "object.__class__") = some true
  hm : PySem.W.mroIn K C (.type "object") = some true
  ve : PySem.W.kitOne K (.ref C) (.type "ValueError") = some true
  ty : PySem.W.typeIn K (.ref C) = some (.type "type")
  kp : PySem.W.keepIn K (.ref C) = true
/-- a whole number whose text is short -/
def iniI (i : Int) : Bool := decide (i.natAbs.log2 < 1920) && (okS (Str.ofString (toString i)).cps.toList && decide ((Str.ofString (toString i)).cps.toList.length ≤ 1000000))
/-- what an own __init__ does: it keeps its number as f -/
def iniV (K : KW) (H : Hp) (v : V) : Prop := (∃ i, v = .int i ∧ iniI i = true) ∨ ∃ (b : Addr) (i j : Int), v = .ref b ∧ SqT K H b [.int i, .int j] ∧ iniI i = true ∧ iniI j = true
def spIni (K : KW) (f : Str) : Sp := fun vs H Q _ => ∃ (a C : Addr) (v : V), vs = [.ref a, v] ∧ OexC K C ∧ PySem.W.findIn K (.ref C) f = some none ∧ H a = some (exo a C none) ∧ iniV K H v ∧
  ∀ (H' : Hp) (dx : Addr), (∀ b o, H b = some o → H' b = some o) → H' dx = none → dx ≠ a → Q .non (upd (upd H' dx (exd dx [(f, v)])) a (exo a C (some dx)))
/-- the built-ins that are used -/
def bnames : List Str := ["len", "int", "str", "tuple", "list", "abs", "max", "min", "sum", "isinstance", "bool", "dict", "range", "enumerate", "zip", "sorted", "set", "ValueError"]
/-- a class with an own __init__ -/
structure IniK (K : KW) (C : Addr) (f : String) : Prop where
  ne : f ≠ ""
  ox : OexC K C
  fo : PySem.W.findIn K (.ref C) (Str.ofString f) = some none
  ex : ∃ (fI C0 : Addr) (fd : FuncData) (ps : List Str), PySem.W.findIn K (.ref C) "__init__" = some (some (.ref fI)) ∧ PySem.W.typeIn K (.ref fI) = some (.type "function") ∧ Binds K fd ps [] ∧ clsOf K "TurnError" = some C0 ∧
    ∀ (mg : Str → Option Value) (base : Heap) (k : Nat), (∀ y ∈ bnames, mg y = none) → mg "TurnError" = some (.ref C0) → FnOk K.P K.w K mg base (L2.CX K.P K.w) (k + 1) fI fd ps (spIni K (Str.ofString f))
/-- .. as a value: who is under it -/
structure XCl (K : KW) (c : String) (C : Addr) (mk : String) (yes no : List String) : Prop extends XIs K c C where
  y : ∀ s ∈ yes, ∃ E, clsOf K s = some E ∧ PySem.W.kitOne K (.ref E) (.ref C) = some true ∧ PySem.W.exmOne K (.ref E) (.ref C) = some true
  n : ∀ s ∈ no, ∃ E, clsOf K s = some E ∧ PySem.W.kitOne K (.ref E) (.ref C) = some false ∧ PySem.W.exmOne K (.ref E) (.ref C) = some false
  mki : mk ≠ "" → mk ≠ "=" → IniK K C mk
  mkd : mk = "=" → PySem.W.excIn K C [.type "ValueError", .type "Exception", .type "BaseException", .type "object"] "ValueError.__new__" = true ∧ PySem.W.findIn K (.ref C) "__str__" = some (some (.builtin "BaseException.__str__"))
def FzL (K : KW) (H : Hp) (a : Addr) (xs : List V) : Prop :=
  (∃ o, H a = some (.frz o (.lst xs))) ∨
    ∃ (o : Obj) (its : Array Value) (n : Nat), K.lookup a = some o ∧ o.cls = .type "list" ∧ o.dict = none ∧ o.data = .seq its n ∧ its.size ≤ sizeLine ∧ Vals xs its.toList
/-- a dict with texts as keys that stands so for ever -/
def FzK (K : KW) (H : Hp) (a : Addr) (kvs : List (Str × V)) : Prop :=
  (∃ o, H a = some (.frz o (.dK (kvs.map fun p => (.inr p.1, p.2))))) ∨
    ∀ p ∈ kvs, KDct K K.w a p.1 p.2
/-- what an own class must be -/
structure OCl (K : KW) (c : String) (C : Addr) : Prop where
  gc : clsOf K c = some C
  cl : Cls K C
mutual
/-- a key's reading -/
def keyOf : D → Option NestedKey
  | .non => some .none
  | .int i => some (.num i)
  | .str s => some (.text ⟨s.toArray⟩)
  | .tup xs => (keysOf xs).map .tup
  | _ => none
def keysOf : List D → Option (List NestedKey)
  | [] => some []
  | x :: xs => match keyOf x with
    | some k => (keysOf xs).map (k :: ·)
    | none => none
end
/-- a dict's key: a tuple -/
def keyT (d : D) : Option NestedKey := match d with
  | .tup xs => (keysOf xs).bind fun ks => if (NestedKey.tup ks).depth ≤ 8 then some (.tup ks) else none
  | _ => none
/-- the keys are told -/
def KeysR (ks : List D) (kvs : List (NestedKey × Addr × V)) : Prop := ks.map keyT = kvs.map fun p => some p.1
def kRef (p : NestedKey × Addr × V) : V := .ref p.2.1
def kVal (p : NestedKey × Addr × V) : V := p.2.2
/-- a dict that never changes -/
def FzD (K : KW) (H : Hp) (a : Addr) (kvs : List (NestedKey × Addr × V)) : Prop := ∃ o, H a = some (.frz o (DkO K a kvs))
/-- attributes by names -/
def fsOf (fs : List String) (vs : List V) : List (Str × V) := (fs.map Str.ofString).zip vs
mutual
inductive Rep (K : KW) (H : Hp) : D → V → List Addr → Prop
  | non : Rep K H .non .non []
  | bl (b : Bool) : Rep K H (.bl b) (.bl b) []
  | int (i : Int) : Rep K H (.int i) (.int i) []
  | str (s : List Nat) : okS s = true → Rep K H (.str s) (.str ⟨s.toArray⟩) []
  | tup {a : Addr} {vs : List V} {ds : List D} {f : List Addr} : SqT K H a vs → Reps K H ds vs f → Rep K H (.tup ds) (.ref a) f
  | own {a : Addr} {vs : List V} {ds : List D} {f : List Addr} : H a = some (.lst vs) → Reps K H ds vs f → a ∉ f → Rep K H (.lst true ds) (.ref a) (a :: f)
  | frz {a : Addr} {vs : List V} {ds : List D} : FzL K H a vs → Reps K H ds vs [] → Rep K H (.lst false ds) (.ref a) []
  | exc0 {a C : Addr} {c : String} : XIs K c C → XcE (.ref C) none a → H a = some (XcO (.ref C) none a) → Rep K H (.exc c "" .non) (.ref a) []
  | exc1 {a C dx : Addr} {c f : String} {x : D} {v : V} : XIs K c C → PySem.W.findIn K (.ref C) (Str.ofString f) = some none → f ≠ "" → XcE (.ref C) (some dx) a → H a = some (XcO (.ref C) (some dx) a) → H dx = some (.xd [(Str.ofString f, v)]) → x.imm = true → Rep K H x v [] → Rep K H (.exc c f x) (.ref a) []
  | cls {C : Addr} {c : String} {mk : String} {yes no : List String} : XCl K c C mk yes no → Rep K H (.cls c mk yes no) (.ref C) []
  | dicO {a : Addr} {kvs : List (NestedKey × Addr × V)} {ks vs : List D} {f : List Addr} : H a = some (DkO K a kvs) → KeysR ks kvs → Reps K H ks (kvs.map kRef) [] → Reps K H vs (kvs.map kVal) f → a ∉ f → Rep K H (.dic true ks vs) (.ref a) (a :: f)
  | dicF {a : Addr} {kvs : List (NestedKey × Addr × V)} {ks vs : List D} : FzD K H a kvs → KeysR ks kvs → Reps K H ks (kvs.map kRef) [] → Reps K H vs (kvs.map kVal) [] → Rep K H (.dic false ks vs) (.ref a) []
  | dks {a : Addr} {kvs : List (Str × V)} {ks : List (List Nat)} {vs : List D} : FzK K H a kvs → ks = kvs.map (fun p => p.1.cps.toList) → Reps K H vs (kvs.map (·.2)) [] → Rep K H (.dks ks vs) (.ref a) []
  | objO {a C dx : Addr} {c : String} {fs : List String} {vs : List D} {us : List V} {f : List Addr} : OCl K c C → (∀ x ∈ fs, NoAttr K C (Str.ofString x)) → fs.length = us.length → fs.length ≤ 900 → H a = some (.ins C dx (fsOf fs us)) → Reps K H vs us f → a ∉ f → Rep K H (.obj true c fs vs) (.ref a) (a :: f)
  | objF {a C dx : Addr} {c : String} {fs : List String} {vs : List D} {us : List V} : OCl K c C → (∀ x ∈ fs, NoAttr K C (Str.ofString x)) → fs.length = us.length → fs.length ≤ 900 → (∃ o, H a = some (.frz o (.ins C dx (fsOf fs us)))) → Reps K H vs us [] → Rep K H (.obj false c fs vs) (.ref a) []
inductive Reps (K : KW) (H : Hp) : List D → List V → List Addr → Prop
  | nil : Reps K H [] [] []
  | cons {d : D} {ds : List D} {v : V} {vs : List V} {f g : List Addr} : Rep K H d v f → Reps K H ds vs g → (∀ a ∈ f, a ∉ g) → Reps K H (d :: ds) (v :: vs) (f ++ g)
end
def W1 (K : KW) (H : Hp) (d : D) (v : V) : Prop := ∃ f, Rep K H d v f
abbrev WL (K : KW) (H : Hp) : List D → List V → Prop := Paired (W1 K H)

section
variable {K : KW} {H H' : Hp}
/-- all that stood and is not in W is as it was -/
def Frm (W : Addr → Prop) (H H' : Hp) : Prop := ∀ a o, H a = some o → ¬ W a → H' a = some o
theorem Frm.refl (W : Addr → Prop) (H : Hp) : Frm W H H := fun _ _ h _ => h
theorem Frm.mono {W W' : Addr → Prop} (h : Frm W H H') (w : ∀ a, W a → W' a) : Frm W' H H' := fun a o e n => h a o e fun q => n (w a q)
theorem Frm.trans {W W1 : Addr → Prop} {H1 H2 : Hp} (h : Frm W H H1) (h1 : Frm W1 H1 H2) (w : ∀ a, W1 a → W a ∨ H a = none) : Frm W H H2 := fun a o e n => by
  refine h1 a o (h a o e n) fun q => ?_
  rcases w a q with z | z
  · exact n z
  · rw [e] at z; cases z
theorem same_frm {W : Addr → Prop} (h : Same H H') : Frm W H H' := fun a o e _ => h a o e
theorem Frm.same (h : Frm (fun _ => False) H H') : Same H H' := fun a o e => h a o e fun q => q
/-- what may be written -/
def OwnW (W : Addr → Prop) (H : Hp) : Prop := ∀ a, W a → ∃ o, H a = some o ∧ ¬ Fixed a o
theorem Frm.fix {W : Addr → Prop} (h : Frm W H H') (w : OwnW W H) {a : Addr} {o : HO} (e : H a = some o) (p : Fixed a o) : H' a = some o :=
  h a o e fun q => by
    obtain ⟨o', e', n⟩ := w a q
    rw [e] at e'; cases e'
    exact n p
theorem SqT.frm {W : Addr → Prop} (h : Frm W H H') (w : OwnW W H) {a : Addr} {xs : List V} (q : SqT K H a xs) : SqT K H' a xs := by
  rcases q with (q | ⟨o, q⟩) | q
  · exact .inl (.inl (h.fix w q trivial))
  · exact .inl (.inr ⟨o, h.fix w q trivial⟩)
  · exact .inr q
theorem FzL.frm {W : Addr → Prop} (h : Frm W H H') (w : OwnW W H) {a : Addr} {xs : List V} (q : FzL K H a xs) : FzL K H' a xs := by
  rcases q with ⟨o, q⟩ | q
  · exact .inl ⟨o, h.fix w q trivial⟩
  · exact .inr q
theorem FzK.frm {W : Addr → Prop} (h : Frm W H H') (w : OwnW W H) {a : Addr} {xs : List (Str × V)} (q : FzK K H a xs) : FzK K H' a xs := by
  rcases q with ⟨o, q⟩ | q
  · exact .inl ⟨o, h.fix w q trivial⟩
  · exact .inr q
theorem FzD.frm {W : Addr → Prop} (h : Frm W H H') (w : OwnW W H) {a : Addr} {xs : List (NestedKey × Addr × V)} (q : FzD K H a xs) : FzD K H' a xs := let ⟨o, q⟩ := q; ⟨o, h.fix w q trivial⟩
theorem FzL.sq {a : Addr} {xs : List V} (q : FzL K H a xs) : SqL K H a xs := by
  rcases q with ⟨o, q⟩ | q
  · exact .inl (.inr ⟨o, q⟩)
  · exact .inr q

mutual
theorem Rep.own_ok : ∀ {d : D} {v : V} {f : List Addr}, Rep K H d v f → (∀ a ∈ f, ∃ o, H a = some o ∧ ¬ Fixed a o) ∧ f.Nodup
  | _, _, _, .non => ⟨fun _ h => (nomatch h), List.Pairwise.nil⟩
  | _, _, _, .bl _ => ⟨fun _ h => (nomatch h), List.Pairwise.nil⟩
  | _, _, _, .int _ => ⟨fun _ h => (nomatch h), List.Pairwise.nil⟩
  | _, _, _, .str _ _ => ⟨fun _ h => (nomatch h), List.Pairwise.nil⟩
  | _, _, _, .tup _ r => r.own_ok
  | _, _, _, .own e r n => ⟨fun b hb => by
      rcases List.mem_cons.mp hb with rfl | hb
      · exact ⟨_, e, id⟩
      · exact r.own_ok.1 b hb, List.nodup_cons.mpr ⟨n, r.own_ok.2⟩⟩
  | _, _, _, .frz _ _ => ⟨fun _ h => (nomatch h), List.Pairwise.nil⟩
  | _, _, _, .exc0 _ _ _ => ⟨fun _ h => (nomatch h), List.Pairwise.nil⟩
  | _, _, _, .exc1 _ _ _ _ _ _ _ _ => ⟨fun _ h => (nomatch h), List.Pairwise.nil⟩
  | _, _, _, .cls _ => ⟨fun _ h => (nomatch h), List.Pairwise.nil⟩
  | _, _, _, .dicO e _ _ r n => ⟨fun b hb => by
      rcases List.mem_cons.mp hb with rfl | hb
      · exact ⟨_, e, dk_free⟩
      · exact r.own_ok.1 b hb, List.nodup_cons.mpr ⟨n, r.own_ok.2⟩⟩
  | _, _, _, .dicF _ _ _ _ => ⟨fun _ h => (nomatch h), List.Pairwise.nil⟩
  | _, _, _, .dks _ _ _ => ⟨fun _ h => (nomatch h), List.Pairwise.nil⟩
  | _, _, _, .objO _ _ _ _ e r n => ⟨fun b hb => by
      rcases List.mem_cons.mp hb with rfl | hb
      · exact ⟨_, e, id⟩
      · exact r.own_ok.1 b hb, List.nodup_cons.mpr ⟨n, r.own_ok.2⟩⟩
  | _, _, _, .objF _ _ _ _ _ _ => ⟨fun _ h => (nomatch h), List.Pairwise.nil⟩
theorem Reps.own_ok : ∀ {ds : List D} {vs : List V} {f : List Addr}, Reps K H ds vs f → (∀ a ∈ f, ∃ o, H a = some o ∧ ¬ Fixed a o) ∧ f.Nodup
  | _, _, _, .nil => ⟨fun _ h => (nomatch h), List.Pairwise.nil⟩
  | _, _, _, .cons r rs n => ⟨fun b hb => by
      rcases List.mem_append.mp hb with hb | hb
      · exact r.own_ok.1 b hb
      · exact rs.own_ok.1 b hb, List.nodup_append.mpr ⟨r.own_ok.2, rs.own_ok.2, fun a ha b hb e => n a ha (e ▸ hb)⟩⟩
end
mutual
theorem Rep.frm {W : Addr → Prop} (h : Frm W H H') (w : OwnW W H) : ∀ {d : D} {v : V} {f : List Addr}, Rep K H d v f → (∀ a ∈ f, ¬ W a) → Rep K H' d v f
  | _, _, _, .non, _ => .non
  | _, _, _, .bl b, _ => .bl b
  | _, _, _, .int b, _ => .int b
  | _, _, _, .str b h, _ => .str b h
  | _, _, _, .tup q r, n => .tup (SqT.frm h w q) (r.frm h w n)
  | _, _, _, .own e r na, n => .own (h _ _ e (n _ List.mem_cons_self)) (r.frm h w fun a ha => n a (List.mem_cons_of_mem _ ha)) na
  | _, _, _, .frz q r, _ => .frz (FzL.frm h w q) (r.frm h w fun _ z => nomatch z)
  | _, _, _, .exc0 c x e, _ => .exc0 c x (h.fix w e x.fixed)
  | _, _, _, .exc1 c n f x e e' i r, _ => .exc1 c n f x (h.fix w e x.fixed) (h.fix w e' trivial) i (r.frm h w fun _ z => nomatch z)
  | _, _, _, .cls c, _ => .cls c
  | _, _, _, .dicO e k r r2 na, n => .dicO (h _ _ e (n _ List.mem_cons_self)) k (r.frm h w fun _ z => nomatch z) (r2.frm h w fun a ha => n a (List.mem_cons_of_mem _ ha)) na
  | _, _, _, .dicF e k r r2, _ => .dicF (FzD.frm h w e) k (r.frm h w fun _ z => nomatch z) (r2.frm h w fun _ z => nomatch z)
  | _, _, _, .dks e k r, _ => .dks (FzK.frm h w e) k (r.frm h w fun _ z => nomatch z)
  | _, _, _, .objO c z l l2 e r na, n => .objO c z l l2 (h _ _ e (n _ List.mem_cons_self)) (r.frm h w fun a ha => n a (List.mem_cons_of_mem _ ha)) na
  | _, _, _, .objF c z l l2 e r, _ => .objF c z l l2 (let ⟨o, q⟩ := e; ⟨o, h.fix w q trivial⟩) (r.frm h w fun _ z => nomatch z)
theorem Reps.frm {W : Addr → Prop} (h : Frm W H H') (w : OwnW W H) : ∀ {ds : List D} {vs : List V} {f : List Addr}, Reps K H ds vs f → (∀ a ∈ f, ¬ W a) → Reps K H' ds vs f
  | _, _, _, .nil, _ => .nil
  | _, _, _, .cons r rs n, m => .cons (r.frm h w fun a ha => m a (List.mem_append_left _ ha)) (rs.frm h w fun a ha => m a (List.mem_append_right _ ha)) n
end
theorem ownW_false : OwnW (fun _ => False) H := fun _ h => h.elim
theorem Rep.same {d : D} {v : V} {f : List Addr} (h : Same H H') (r : Rep K H d v f) : Rep K H' d v f := r.frm (W := fun _ => False) (same_frm h) ownW_false fun _ _ => id
theorem Reps.same {d : List D} {v : List V} {f : List Addr} (h : Same H H') (r : Reps K H d v f) : Reps K H' d v f := r.frm (W := fun _ => False) (same_frm h) ownW_false fun _ _ => id
theorem W1.same {d : D} {v : V} (h : Same H H') : W1 K H d v → W1 K H' d v := fun ⟨f, r⟩ => ⟨f, r.same h⟩
theorem WL.same (h : Same H H') : ∀ {ds : List D} {vs : List V}, WL K H ds vs → WL K H' ds vs
  | _, _, .nil => .nil
  | _, _, .cons r rs => .cons (r.same h) (WL.same h rs)
mutual
theorem Rep.imm_nil : ∀ {d : D} {v : V} {f : List Addr}, Rep K H d v f → d.imm = true → f = []
  | _, _, _, .non, _ => rfl
  | _, _, _, .bl _, _ => rfl
  | _, _, _, .int _, _ => rfl
  | _, _, _, .str _ _, _ => rfl
  | _, _, _, .tup _ r, h => r.imm_nil (by simpa [D.imm] using h)
  | _, _, _, .own _ _ _, h => by simp [D.imm] at h
  | _, _, _, .frz _ _, _ => rfl
  | _, _, _, .exc0 _ _ _, _ => rfl
  | _, _, _, .exc1 _ _ _ _ _ _ _ _, _ => rfl
  | _, _, _, .cls _, _ => rfl
  | _, _, _, .dicO _ _ _ _ _, h => by simp [D.imm] at h
  | _, _, _, .dicF _ _ _ _, _ => rfl
  | _, _, _, .dks _ _ _, _ => rfl
  | _, _, _, .objO _ _ _ _ _ _ _, h => by simp [D.imm] at h
  | _, _, _, .objF _ _ _ _ _ _, _ => rfl
theorem Reps.imm_nil : ∀ {ds : List D} {vs : List V} {f : List Addr}, Reps K H ds vs f → immL ds = true → f = []
  | _, _, _, .nil, _ => rfl
  | _, _, _, .cons r rs _, h => by
    simp only [immL, Bool.and_eq_true] at h
    rw [r.imm_nil h.1, rs.imm_nil h.2]; rfl
end
theorem Reps.wl : ∀ {ds : List D} {vs : List V} {f : List Addr}, Reps K H ds vs f → WL K H ds vs
  | _, _, _, .nil => .nil
  | _, _, _, .cons r rs _ => .cons ⟨_, r⟩ rs.wl
/-- things without owned parts -/
theorem WL.reps : ∀ {ds : List D} {vs : List V}, WL K H ds vs → immL ds = true → Reps K H ds vs []
  | _, _, .nil, _ => .nil
  | _, _, .cons ⟨f, r⟩ rs, h => by
    simp only [immL, Bool.and_eq_true] at h
    have e := r.imm_nil h.1
    subst e
    exact Reps.cons (f := []) (g := []) r (WL.reps rs h.2) fun _ z => nomatch z
theorem Reps.length : ∀ {ds : List D} {vs : List V} {f : List Addr}, Reps K H ds vs f → ds.length = vs.length
  | _, _, _, .nil => rfl
  | _, _, _, .cons _ rs _ => by simp [rs.length]
theorem WL.length : ∀ {ds : List D} {vs : List V}, WL K H ds vs → ds.length = vs.length
  | _, _, .nil => rfl
  | _, _, .cons _ rs => by simp [WL.length rs]
theorem WL.get : ∀ {ds : List D} {vs : List V} {i : Nat} {d : D}, WL K H ds vs → ds[i]? = some d → ∃ v, vs[i]? = some v ∧ W1 K H d v
  | _, _, _, _, .nil, e => by simp at e
  | _, _, 0, _, .cons r _, e => by simp at e; subst e; exact ⟨_, rfl, r⟩
  | _, _, i + 1, d, .cons _ t, e => by
    obtain ⟨u, h1, h2⟩ := WL.get (i := i) (d := d) t (by simpa using e)
    exact ⟨u, by simpa using h1, h2⟩
theorem WL.append : ∀ {xs ys : List D} {us ws : List V}, WL K H xs us → WL K H ys ws → WL K H (xs ++ ys) (us ++ ws)
  | _, _, _, _, .nil, s => s
  | _, _, _, _, .cons r t, s => .cons r (WL.append t s)
theorem WL.take : ∀ {xs : List D} {us : List V} (n : Nat), WL K H xs us → WL K H (xs.take n) (us.take n)
  | _, _, 0, _ => .nil
  | _, _, _ + 1, .nil => .nil
  | _, _, n + 1, .cons r t => .cons r (WL.take n t)
theorem WL.drop : ∀ {xs : List D} {us : List V} (n : Nat), WL K H xs us → WL K H (xs.drop n) (us.drop n)
  | _, _, 0, r => r
  | _, _, _ + 1, .nil => .nil
  | _, _, n + 1, .cons _ t => WL.drop n t
theorem WL.reverse : ∀ {xs : List D} {us : List V}, WL K H xs us → WL K H xs.reverse us.reverse
  | _, _, .nil => .nil
  | _, _, .cons r t => by
    rw [List.reverse_cons, List.reverse_cons]
    exact WL.append (WL.reverse t) (.cons r .nil)
theorem immL_iff : ∀ {xs : List D}, immL xs = true ↔ ∀ x ∈ xs, x.imm = true
  | [] => by simp [immL]
  | x :: xs => by simp [immL, immL_iff (xs := xs)]
end
end VL

/-! VL2: operations on data, and that the machine's operations do them. -/
namespace VL
open PySem PySem.Spec PyProof.Rows L2

/-! ### reading a value's data back -/
section
variable {K : KW} {H : Hp} {v : V}
theorem W1.non (w : W1 K H .non v) : v = .non := by obtain ⟨f, r⟩ := w; cases r; rfl
theorem W1.bl {b : Bool} (w : W1 K H (.bl b) v) : v = .bl b := by obtain ⟨f, r⟩ := w; cases r; rfl
theorem W1.int {i : Int} (w : W1 K H (.int i) v) : v = .int i := by obtain ⟨f, r⟩ := w; cases r; rfl
theorem W1.str {s : List Nat} (w : W1 K H (.str s) v) : v = .str ⟨s.toArray⟩ ∧ okS s = true := by obtain ⟨f, r⟩ := w; cases r; exact ⟨rfl, by assumption⟩
theorem W1.tup {xs : List D} (w : W1 K H (.tup xs) v) : ∃ a vs, v = .ref a ∧ SqT K H a vs ∧ WL K H xs vs := by
  obtain ⟨f, r⟩ := w
  cases r with
  | tup q rs => exact ⟨_, _, rfl, q, rs.wl⟩
theorem W1.lst {o : Bool} {xs : List D} (w : W1 K H (.lst o xs) v) : ∃ a vs, v = .ref a ∧ SqL K H a vs ∧ WL K H xs vs := by
  obtain ⟨f, r⟩ := w
  cases r with
  | own q rs _ => exact ⟨_, _, rfl, .inl (.inl q), rs.wl⟩
  | frz q rs => exact ⟨_, _, rfl, q.sq, rs.wl⟩
theorem WL.one {ds : List D} {x : V} (w : WL K H ds [x]) : ∃ a, ds = [a] ∧ W1 K H a x := by
  cases w with
  | cons r t => cases t; exact ⟨_, rfl, r⟩
theorem WL.two {ds : List D} {x y : V} (w : WL K H ds [x, y]) : ∃ a b, ds = [a, b] ∧ W1 K H a x ∧ W1 K H b y := by
  cases w with
  | cons r t => cases t with
    | cons r2 t => cases t; exact ⟨_, _, rfl, r, r2⟩
theorem WL.three {ds : List D} {x y z : V} (w : WL K H ds [x, y, z]) : ∃ a b c, ds = [a, b, c] ∧ W1 K H a x ∧ W1 K H b y ∧ W1 K H c z := by
  cases w with
  | cons r t => cases t with
    | cons r2 t => cases t with
      | cons r3 t => cases t; exact ⟨_, _, _, rfl, r, r2, r3⟩
theorem WL.ofOne {vs : List V} {a : D} (w : WL K H [a] vs) : ∃ x, vs = [x] ∧ W1 K H a x := by
  cases w with
  | cons r t => cases t; exact ⟨_, rfl, r⟩
theorem WL.nil_iff {ds : List D} {vs : List V} (w : WL K H ds vs) : ds = [] ↔ vs = [] := by
  cases w with
  | nil => simp
  | cons _ _ => simp
/-- an imm thing has no part that is written -/
theorem W1.rep {d : D} (w : W1 K H d v) (h : d.imm = true) : Rep K H d v [] := by
  obtain ⟨f, r⟩ := w
  have := r.imm_nil h
  subst this
  exact r
end

/-- what an operation makes of data; k: its result is new -/
def rD (K : KW) (g : List D → Option D) (k : Bool) : List V → Hp → VK → Prop := fun vs H Q =>
  ∃ ds d, WL K H ds vs ∧ g ds = some d ∧ ∀ z H' f, Same H H' → Rep K H' d z f → (k = true → ∀ c ∈ f, H c = none) → Q z H'
theorem same_upd {H : Hp} {p : Addr} {o : HO} (h : H p = none) : Same H (upd H p o) := fun b x e => by
  rw [upd_ne (ne_of_none e h)]
  exact e
theorem nilF {α : Type} {P : α → Prop} : ∀ c ∈ ([] : List α), P c := fun _ h => nomatch h
/-- a result without parts of its own -/
theorem rep_tup {K : KW} {H' : Hp} {a : Addr} {vs : List V} {ds : List D} (h : SqT K H' a vs) (w : WL K H' ds vs) (i : immL ds = true) : Rep K H' (.tup ds) (.ref a) [] := .tup h (w.reps i)
theorem rep_lst {K : KW} {H' : Hp} {a : Addr} {vs : List V} {ds : List D} (h : H' a = some (.lst vs)) (w : WL K H' ds vs) (i : immL ds = true) : Rep K H' (.lst true ds) (.ref a) [a] := .own h (w.reps i) (by simp)

/-! ### parts -/
def cutL {α : Type} (xs : List α) (lo hi : Option Int) : List α := (xs.drop (HT.sIx xs.length 0 lo)).take (HT.sIx xs.length xs.length hi - HT.sIx xs.length 0 lo)
theorem WL.cut {K : KW} {H : Hp} {ds : List D} {vs : List V} (w : WL K H ds vs) (lo hi : Option Int) : WL K H (cutL ds lo hi) (cutV vs lo hi) := by
  unfold cutL cutV
  rw [w.length]
  exact (w.drop _).take _
theorem mem_cutL {α : Type} {xs : List α} {lo hi : Option Int} {x : α} (h : x ∈ cutL xs lo hi) : x ∈ xs := List.mem_of_mem_drop (List.mem_of_mem_take h)
theorem cutL_len {α : Type} (xs : List α) (lo hi : Option Int) : (cutL xs lo hi).length ≤ xs.length := by
  unfold cutL
  rw [List.length_take, List.length_drop]
  omega
theorem immL_cut {xs : List D} (h : immL xs = true) (lo hi : Option Int) : immL (cutL xs lo hi) = true := immL_iff.mpr fun x hx => immL_iff.mp h x (mem_cutL hx)
theorem immL_append {xs ys : List D} (h : immL xs = true) (h' : immL ys = true) : immL (xs ++ ys) = true := immL_iff.mpr fun x hx => by
  rcases List.mem_append.mp hx with q | q
  · exact immL_iff.mp h x q
  · exact immL_iff.mp h' x q
theorem immL_rev {xs : List D} (h : immL xs = true) : immL xs.reverse = true := immL_iff.mpr fun x hx => immL_iff.mp h x (List.mem_reverse.mp hx)
theorem immL_mem {xs : List D} (h : immL xs = true) {x : D} (hx : x ∈ xs) : x.imm = true := immL_iff.mp h x hx
theorem okS_sub {s t : List Nat} (h : okS s = true) (m : ∀ c ∈ t, c ∈ s) (l : t.length ≤ s.length) : okS t = true := by
  rw [okS_iff] at h ⊢
  exact ⟨fun c hc => h.1 c (m c hc), by omega⟩

/-! ### == -/
mutual
def toPy : D → PyData
  | .non => .none
  | .bl b => .bool b
  | .int i => .int i
  | .str s => .str ⟨s.toArray⟩
  | .tup xs => .tuple (toPys xs)
  | .lst _ xs => .list (toPys xs)
  | .exc _ _ _ => .none
  | .cls _ _ _ _ => .none
  | .dic _ _ _ => .none
  | .dks _ _ => .none
  | .obj _ _ _ _ => .none
def toPys : List D → List PyData
  | [] => []
  | x :: xs => toPy x :: toPys xs
end
mutual
def eqD : D → D → Bool
  | .non, .non => true
  | .bl a, .bl b => a == b
  | .bl a, .int j => (if a then 1 else 0) == j
  | .int i, .bl b => i == (if b then 1 else 0)
  | .int i, .int j => i == j
  | .str x, .str y => x == y
  | .lst _ xs, .lst _ ys => eqDs xs ys
  | .tup xs, .tup ys => eqDs xs ys
  | _, _ => false
def eqDs : List D → List D → Bool
  | [], [] => true
  | x :: xs, y :: ys => eqD x y && eqDs xs ys
  | _, _ => false
end
mutual
def D.depth : D → Nat
  | .tup xs => depthL xs + 1
  | .lst _ xs => depthL xs + 1
  | .exc _ _ _ => 100
  | .cls _ _ _ _ => 100
  | .dic _ _ _ => 100
  | .dks _ _ => 100
  | .obj _ _ _ _ => 100
  | _ => 0
def depthL : List D → Nat
  | [] => 0
  | x :: xs => max x.depth (depthL xs)
end
mutual
theorem eqv_toPy : ∀ a b : D, a.depth < 100 → b.depth < 100 → PyData.eqv (toPy a) (toPy b) = eqD a b
  | .non, b, _, hb => by cases b <;> first | simp [toPy, PyData.eqv, eqD]; done | exact absurd hb (by simp [D.depth])
  | .bl a, b, _, hb => by cases b <;> first | simp [toPy, PyData.eqv, eqD]; done | exact absurd hb (by simp [D.depth])
  | .int a, b, _, hb => by cases b <;> first | simp [toPy, PyData.eqv, eqD]; done | exact absurd hb (by simp [D.depth])
  | .exc _ _ _, _, ha, _ => absurd ha (by simp [D.depth])
  | .cls _ _ _ _, _, ha, _ => absurd ha (by simp [D.depth])
  | .dic _ _ _, _, ha, _ => absurd ha (by simp [D.depth])
  | .dks _ _, _, ha, _ => absurd ha (by simp [D.depth])
  | .obj _ _ _ _, _, ha, _ => absurd ha (by simp [D.depth])
  | .str a, b, _, hb => by
    cases b with
    | str b =>
      simp only [toPy, PyData.eqv, eqD]
      by_cases h : a = b
      · subst h; simp
      · have h2 : (⟨a.toArray⟩ : Str) ≠ ⟨b.toArray⟩ := fun e => h (by simpa using e)
        rw [beq_eq_false_iff_ne.mpr h2, beq_eq_false_iff_ne.mpr h]
    | _ => first | simp [toPy, PyData.eqv, eqD]; done | exact absurd hb (by simp [D.depth])
  | .tup a, b, ha, hb => by
    cases b with
    | tup b =>
      simp only [D.depth] at ha hb
      simp only [toPy, PyData.eqv, eqD]
      exact eqvAll_toPy a b (by omega) (by omega)
    | _ => first | simp [toPy, PyData.eqv, eqD]; done | exact absurd hb (by simp [D.depth])
  | .lst _ a, b, ha, hb => by
    cases b with
    | lst _ b =>
      simp only [D.depth] at ha hb
      simp only [toPy, PyData.eqv, eqD]
      exact eqvAll_toPy a b (by omega) (by omega)
    | _ => first | simp [toPy, PyData.eqv, eqD]; done | exact absurd hb (by simp [D.depth])
theorem eqvAll_toPy : ∀ a b : List D, depthL a < 100 → depthL b < 100 → PyData.eqvAll (toPys a) (toPys b) = eqDs a b
  | [], [], _, _ => rfl
  | x :: xs, y :: ys, ha, hb => by
    simp only [depthL] at ha hb
    simp only [toPys, PyData.eqvAll, eqDs, eqv_toPy x y (by omega) (by omega), eqvAll_toPy xs ys (by omega) (by omega)]
  | [], _ :: _, _, _ => rfl
  | _ :: _, [], _, _ => rfl
end
mutual
theorem depth_toPy : ∀ a : D, (toPy a).depth ≤ a.depth
  | .non => by simp [toPy, PyData.depth, D.depth]
  | .bl a => by simp [toPy, PyData.depth, D.depth]
  | .int a => by simp [toPy, PyData.depth, D.depth]
  | .str a => by simp [toPy, PyData.depth, D.depth]
  | .exc _ _ _ => by simp [toPy, PyData.depth, D.depth]
  | .cls _ _ _ _ => by simp [toPy, PyData.depth, D.depth]
  | .dic _ _ _ => by simp [toPy, PyData.depth, D.depth]
  | .dks _ _ => by simp [toPy, PyData.depth, D.depth]
  | .obj _ _ _ _ => by simp [toPy, PyData.depth, D.depth]
  | .tup a => by
    have := depthAll_toPy a
    simp only [toPy, PyData.depth, D.depth]
    omega
  | .lst _ a => by
    have := depthAll_toPy a
    simp only [toPy, PyData.depth, D.depth]
    omega
theorem depthAll_toPy : ∀ a : List D, PyData.depthAll (toPys a) ≤ depthL a
  | [] => by simp [toPys, PyData.depthAll, depthL]
  | x :: xs => by
    have h1 := depth_toPy x
    have h2 := depthAll_toPy xs
    simp only [toPys, PyData.depthAll, depthL]
    omega
end
theorem toPys_map : ∀ xs : List D, toPys xs = xs.map toPy
  | [] => rfl
  | x :: xs => by simp [toPys, toPys_map xs]
section
variable {K : KW} {H : Hp}
theorem W1.sql {o : Bool} {xs : List D} {a : Addr} (w : W1 K H (.lst o xs) (.ref a)) : ∃ vs, SqL K H a vs ∧ WL K H xs vs := by
  obtain ⟨a', vs, e, h1, h2⟩ := w.lst
  cases e
  exact ⟨vs, h1, h2⟩
mutual
theorem Rep.dp : ∀ {d : D} {v : V} {f : List Addr}, Rep K H d v f → d.depth < 100 → Dp K H v (toPy d) ∧ PyData.canLay0 (toPy d) = true
  | _, _, _, .exc0 _ _ _, h => absurd h (by simp [D.depth])
  | _, _, _, .exc1 _ _ _ _ _ _ _ _, h => absurd h (by simp [D.depth])
  | _, _, _, .dicO _ _ _ _ _, h => absurd h (by simp [D.depth])
  | _, _, _, .dicF _ _ _ _, h => absurd h (by simp [D.depth])
  | _, _, _, .dks _ _ _, h => absurd h (by simp [D.depth])
  | _, _, _, .objO _ _ _ _ _ _ _, h => absurd h (by simp [D.depth])
  | _, _, _, .objF _ _ _ _ _ _, h => absurd h (by simp [D.depth])
  | _, _, _, .cls _, h => absurd h (by simp [D.depth])
  | _, _, _, .non, _ => by simp only [toPy, PyData.canLay0]; exact ⟨.non, trivial⟩
  | _, _, _, .bl b, _ => by simp only [toPy, PyData.canLay0]; exact ⟨.bl b, trivial⟩
  | _, _, _, .int b, _ => by simp only [toPy, PyData.canLay0]; exact ⟨.int b, trivial⟩
  | _, _, _, .str b h, _ => by
    simp only [toPy, PyData.canLay0]
    refine ⟨.str _, ?_⟩
    have := (okS_iff.mp h).1
    unfold PyData.strOk
    rw [Array.all_eq_true]
    intro i hi
    simpa using this _ (List.getElem_mem (l := b) (by simpa using hi))
  | _, _, _, .tup q r, h => by
    simp only [D.depth] at h
    obtain ⟨h1, h2⟩ := r.dps (by omega)
    simp only [toPy, PyData.canLay0]
    exact ⟨.tup q h1, h2⟩
  | _, _, _, .own q r _, h => by
    simp only [D.depth] at h
    obtain ⟨h1, h2⟩ := r.dps (by omega)
    simp only [toPy, PyData.canLay0]
    exact ⟨.lst (.inl (.inl q)) h1, h2⟩
  | _, _, _, .frz q r, h => by
    simp only [D.depth] at h
    obtain ⟨h1, h2⟩ := r.dps (by omega)
    simp only [toPy, PyData.canLay0]
    exact ⟨.lst q.sq h1, h2⟩
theorem Reps.dps : ∀ {ds : List D} {vs : List V} {f : List Addr}, Reps K H ds vs f → depthL ds < 100 → DpAll K H vs (toPys ds) ∧ PyData.canLayAll0 (toPys ds) = true
  | _, _, _, .nil, _ => by simp only [toPys, PyData.canLayAll0]; exact ⟨.nil, trivial⟩
  | _, _, _, .cons r rs _, h => by
    simp only [depthL] at h
    obtain ⟨h1, h2⟩ := r.dp (by omega)
    obtain ⟨h3, h4⟩ := rs.dps (by omega)
    simp only [toPys, PyData.canLayAll0]
    exact ⟨.cons h1 h3, by rw [h2, h4]; rfl⟩
end
end
def dEq (neg : Bool) : List D → Option D
  | [a, b] => if a.depth ≤ 64 ∧ b.depth ≤ 64 then some (.bl (if neg then !eqD a b else eqD a b)) else none
  | _ => none
section
variable {X : Cx}
theorem eq_ok (hu : X.A.units + 64 < cLine) : OpR X (compareOp .Eq) (fun x y => rD X.kw (dEq false) true [x, y]) := by
  intro pins s σ H x y v u Q I rx ry h
  obtain ⟨ds, d, w, e, q⟩ := h
  obtain ⟨a, b, rfl, ⟨fa, ra⟩, ⟨fb, rb⟩⟩ := w.two
  simp only [dEq] at e
  split at e
  · rename_i hd
    cases e
    obtain ⟨pa, la⟩ := ra.dp (by omega)
    obtain ⟨pb, lb⟩ := rb.dp (by omega)
    obtain ⟨as, r1⟩ := Dp.reads I _ x v pa rx
    obtain ⟨bs, r2⟩ := Dp.reads I _ y u pb ry
    refine SeqAt.compareEq_reads r1 r2 la lb ?_ ?_
    · have h1 := depth_toPy a
      have h2 := depth_toPy b
      omega
    · rw [eqv_toPy a b (by omega) (by omega)]
      exact ⟨.bl _, H, I, rfl, q _ _ _ (Same.refl H) (.bl _) fun _ => nilF⟩
  · cases e
theorem ne_ok (hu : X.A.units + 64 < cLine) : OpR X (compareOp .NotEq) (fun x y => rD X.kw (dEq true) true [x, y]) := by
  intro pins s σ H x y v u Q I rx ry h
  obtain ⟨ds, d, w, e, q⟩ := h
  obtain ⟨a, b, rfl, ⟨fa, ra⟩, ⟨fb, rb⟩⟩ := w.two
  simp only [dEq] at e
  split at e
  · rename_i hd
    cases e
    obtain ⟨pa, la⟩ := ra.dp (by omega)
    obtain ⟨pb, lb⟩ := rb.dp (by omega)
    obtain ⟨as, r1⟩ := Dp.reads I _ x v pa rx
    obtain ⟨bs, r2⟩ := Dp.reads I _ y u pb ry
    refine SeqAt.compareNe_reads r1 r2 la lb ?_ ?_
    · have h1 := depth_toPy a
      have h2 := depth_toPy b
      omega
    · rw [eqv_toPy a b (by omega) (by omega)]
      exact ⟨.bl _, H, I, rfl, q _ _ _ (Same.refl H) (.bl _) fun _ => nilF⟩
  · cases e
end
end VL

/-! VL3: numbers, sequences, texts. -/
namespace VL
open PySem PySem.Spec PyProof.Rows L2

def LIM : Nat := 16777216
theorem lim_eq : (sizeLine : Nat) = LIM := sizeLine_eq
/-! ### numbers -/
def big (i : Int) : Bool := decide (-(2 ^ 64) < i ∧ i < 2 ^ 64)
def dAdd : List D → Option D
  | [.int a, .int b] => some (.int (a + b))
  | [.str a, .str b] => if a.length + b.length ≤ LIM then some (.str (a ++ b)) else none
  | [.lst _ a, .lst _ b] => if a.length + b.length ≤ LIM ∧ immL a = true ∧ immL b = true then some (.lst true (a ++ b)) else none
  | [.tup a, .tup b] => if a.length + b.length ≤ LIM ∧ immL a = true ∧ immL b = true then some (.tup (a ++ b)) else none
  | _ => none
def dSub : List D → Option D
  | [.int a, .int b] => some (.int (a - b))
  | _ => none
def dMul : List D → Option D
  | [.int a, .int b] => if (-(2 ^ 64) < a ∧ a < 2 ^ 64) ∨ (-(2 ^ 64) < b ∧ b < 2 ^ 64) then some (.int (a * b)) else none
  | [.lst true a, .int k] => if a.length * k.toNat ≤ LIM ∧ immL a = true ∧ -(2 ^ 63) ≤ k ∧ k < 2 ^ 63 then some (.lst true (List.replicate k.toNat a).flatten) else none
  | [.str a, .int k] => if a.length * k.toNat ≤ LIM ∧ 2 ≤ k ∧ k ≤ 1000 ∧ a ≠ [] then some (.str (List.replicate k.toNat a).flatten) else none
  | _ => none
def dFdiv : List D → Option D
  | [.int a, .int b] => if 0 < b ∧ b < 1073741824 then some (.int (a / b)) else none
  | _ => none
def dMod : List D → Option D
  | [.int a, .int b] => if 0 < b then some (.int (a % b)) else none
  | _ => none
def dPow : List D → Option D
  | [.int a, .int b] => if 0 ≤ b ∧ b ≤ 1000000 ∧ a.natAbs < 2 ^ 64 then some (.int (a ^ b.toNat)) else none
  | _ => none
def dNeg : List D → Option D
  | [.int a] => some (.int (-a))
  | _ => none
def dCmp (p : Int → Int → Bool) : List D → Option D
  | [.int a, .int b] => some (.bl (p a b))
  | _ => none
section
variable {X : Cx}
theorem okS_append {a b : List Nat} (h : okS a = true) (h' : okS b = true) (l : a.length + b.length ≤ LIM) : okS (a ++ b) = true := by
  rw [okS_iff] at h h' ⊢
  refine ⟨fun c hc => ?_, by rw [List.length_append]; exact l⟩
  rcases List.mem_append.mp hc with q | q
  · exact h.1 c q
  · exact h'.1 c q
theorem str_append (a b : List Nat) : ((⟨a.toArray⟩ : Str) ++ (⟨b.toArray⟩ : Str)) = ⟨(a ++ b).toArray⟩ := by
  show Str.append _ _ = _
  unfold Str.append
  simp
theorem str_len (a : List Nat) : (⟨a.toArray⟩ : Str).length = a.length := by simp [Str.length]
/-- two lists that stand, tracked or frozen, one behind the other: a new list -/
theorem op_catL : OpR X (binaryOp .Add) (fun x y H Q => ∃ l b xs zs, x = .ref l ∧ y = .ref b ∧ SqL X.kw H l xs ∧ SqL X.kw H b zs ∧ xs.length + zs.length ≤ sizeLine ∧ ∀ p, H p = none → Q (.ref p) (upd H p (.lst (xs ++ zs)))) := by
  intro pins s σ H x y v u Q I rx ry h
  obtain ⟨l, b, xs, zs, rfl, rfl, hH, hB, hz, q⟩ := h
  cases rx
  cases ry
  obtain ⟨its, r, ⟨⟨c1, d1, t1, sl1⟩, n, e, hc, hd, hs⟩, z⟩ := I.list hH
  obtain ⟨its2, r2, ⟨⟨c2, d2, t2, sl2⟩, n2, e2, hc2, hd2, hs2⟩, z2⟩ := I.list hB
  have hl := r.length
  have hl2 := r2.length
  cases hc; cases hd; cases hs
  cases hc2; cases hd2; cases hs2
  refine PySem.concat_meets (T := "list") ⟨_, e, rfl⟩ ⟨_, e2, rfl⟩ noFill_list_add seq_list_add PySem.F.slot_list_add PySem.F.entry_list_add (PySem.F.args_list_add_2 _ _)
    (list_addW l b its.toArray its2.toArray n n2 none none sl1 sl2 (by simp only [List.size_toArray]; omega)) ⟨e, e2, ?_⟩
  have ea : its.toArray ++ its2.toArray = (its ++ its2).toArray := by simp
  rw [ea]
  exact ⟨.ref _, _, I.lnew (t' := s.toks) (r.append r2) (by rw [List.length_append]; omega), rfl, q _ I.fresh⟩
/-- a scalar result -/
theorem scal_int {i : Int} {K : KW} {H : Hp} {Q : VK} (q : ∀ z H' f, Same H H' → Rep K H' (.int i) z f → (true = true → ∀ c ∈ f, H c = none) → Q z H') : Q (.int i) H := q _ _ _ (Same.refl H) (.int i) fun _ => nilF
theorem scal_bl {i : Bool} {K : KW} {H : Hp} {Q : VK} (q : ∀ z H' f, Same H H' → Rep K H' (.bl i) z f → (true = true → ∀ c ∈ f, H c = none) → Q z H') : Q (.bl i) H := q _ _ _ (Same.refl H) (.bl i) fun _ => nilF
theorem scal_str {i : List Nat} {K : KW} {H : Hp} {Q : VK} (h : okS i = true) (q : ∀ z H' f, Same H H' → Rep K H' (.str i) z f → (true = true → ∀ c ∈ f, H c = none) → Q z H') : Q (.str ⟨i.toArray⟩) H := q _ _ _ (Same.refl H) (.str i h) fun _ => nilF
/-- a new list, a new tuple of things without own parts -/
theorem new_lst {ds : List D} {vs : List V} {K : KW} {H : Hp} {Q : VK} (i : immL ds = true) (w : WL K H ds vs) (q : ∀ z H' f, Same H H' → Rep K H' (.lst true ds) z f → (true = true → ∀ c ∈ f, H c = none) → Q z H') :
    ∀ p, H p = none → Q (.ref p) (upd H p (.lst vs)) := fun p hp =>
  q _ _ [p] (same_upd hp) (rep_lst upd_same (w.same (same_upd hp)) i) fun _ c hc => by
    rw [List.mem_singleton] at hc
    rw [hc]; exact hp
theorem new_tup {ds : List D} {vs : List V} {K : KW} {H : Hp} {Q : VK} (i : immL ds = true) (w : WL K H ds vs) (q : ∀ z H' f, Same H H' → Rep K H' (.tup ds) z f → (true = true → ∀ c ∈ f, H c = none) → Q z H') :
    ∀ p, H p = none → Q (.ref p) (upd H p (.tup vs)) := fun p hp =>
  q _ _ [] (same_upd hp) (rep_tup (.inl (.inl upd_same)) (w.same (same_upd hp)) i) fun _ => nilF
theorem same_tup {ds : List D} {vs : List V} {a : Addr} {K : KW} {H : Hp} {Q : VK} (h : SqT K H a vs) (i : immL ds = true) (w : WL K H ds vs) (q : ∀ z H' f, Same H H' → Rep K H' (.tup ds) z f → (true = true → ∀ c ∈ f, H c = none) → Q z H') :
    Q (.ref a) H := q _ _ [] (Same.refl H) (rep_tup h w i) fun _ => nilF

theorem add_ok : OpR X (binaryOp .Add) (fun x y => rD X.kw dAdd true [x, y]) := by
  intro pins s σ H x y v u Q I rx ry h
  obtain ⟨ds, d, w, e, q⟩ := h
  obtain ⟨a, b, rfl, wa, wb⟩ := w.two
  unfold dAdd at e
  split at e
  · rename_i i j h0
    simp only [List.cons.injEq, and_true] at h0
    obtain ⟨rfl, rfl⟩ := h0
    cases e
    exact op_add pins s σ H x y v u Q I rx ry ⟨_, _, wa.int, wb.int, scal_int q⟩
  · rename_i i j h0
    simp only [List.cons.injEq, and_true] at h0
    obtain ⟨rfl, rfl⟩ := h0
    split at e
    · rename_i hl
      cases e
      obtain ⟨e1, o1⟩ := wa.str
      obtain ⟨e2, o2⟩ := wb.str
      refine op_add_str pins s σ H x y v u Q I rx ry ⟨_, _, e1, e2, by rw [str_len, str_len]; exact hl, ?_⟩
      rw [str_append]
      exact scal_str (okS_append o1 o2 hl) q
    · cases e
  · rename_i o i o2 j h0
    simp only [List.cons.injEq, and_true] at h0
    obtain ⟨rfl, rfl⟩ := h0
    split at e
    · rename_i hl
      cases e
      obtain ⟨p, vs, e1, s1, w1⟩ := wa.lst
      obtain ⟨p2, vs2, e2, s2, w2⟩ := wb.lst
      refine op_catL pins s σ H x y v u Q I rx ry ⟨_, _, _, _, e1, e2, s1, s2, by rw [← w1.length, ← w2.length]; exact hl.1, ?_⟩
      exact new_lst (immL_append hl.2.1 hl.2.2) (w1.append w2) q
    · cases e
  · rename_i i j h0
    simp only [List.cons.injEq, and_true] at h0
    obtain ⟨rfl, rfl⟩ := h0
    split at e
    · rename_i hl
      cases e
      obtain ⟨p, vs, e1, s1, w1⟩ := wa.tup
      obtain ⟨p2, vs2, e2, s2, w2⟩ := wb.tup
      have im := immL_append hl.2.1 hl.2.2
      refine op_catA pins s σ H x y v u Q I rx ry ⟨_, _, _, _, e1, e2, s1, s2, by rw [← w1.length, ← w2.length]; exact hl.1, fun h0 => ?_, fun _ h1 => ?_, fun _ _ => new_tup im (w1.append w2) q⟩
      · have := w1.nil_iff.mpr h0
        subst this
        exact same_tup s2 hl.2.2 w2 q
      · have := w2.nil_iff.mpr h1
        subst this
        rw [List.append_nil] at q
        exact same_tup s1 hl.2.1 w1 q
    · cases e
  · cases e
theorem sub_ok : OpR X (binaryOp .Sub) (fun x y => rD X.kw dSub true [x, y]) := by
  intro pins s σ H x y v u Q I rx ry h
  obtain ⟨ds, d, w, e, q⟩ := h
  obtain ⟨a, b, rfl, wa, wb⟩ := w.two
  unfold dSub at e
  split at e
  · rename_i i j h0
    simp only [List.cons.injEq, and_true] at h0
    obtain ⟨rfl, rfl⟩ := h0
    cases e
    exact op_sub pins s σ H x y v u Q I rx ry ⟨_, _, wa.int, wb.int, scal_int q⟩
  · cases e
theorem WL.rep {K : KW} {H : Hp} {ds : List D} {vs : List V} (w : WL K H ds vs) : ∀ k : Nat, WL K H (List.replicate k ds).flatten (List.replicate k vs).flatten
  | 0 => .nil
  | k + 1 => by
    rw [List.replicate_succ, List.replicate_succ, List.flatten_cons, List.flatten_cons]
    exact WL.append w (WL.rep w k)
theorem immL_rep {ds : List D} (h : immL ds = true) (k : Nat) : immL (List.replicate k ds).flatten = true := immL_iff.mpr fun x hx => by
  obtain ⟨l, hl, hx⟩ := List.mem_flatten.mp hx
  rw [List.eq_of_mem_replicate hl] at hx
  exact immL_iff.mp h x hx
theorem foldl_rep (n : Nat) (a : List Nat) : (List.replicate n (⟨a.toArray⟩ : Str).cps).foldl (· ++ ·) #[] = (List.replicate n a).flatten.toArray := by
  have key : ∀ (n : Nat) (acc : List Nat), (List.replicate n a.toArray).foldl (· ++ ·) acc.toArray = (acc ++ (List.replicate n a).flatten).toArray := by
    intro n
    induction n with
    | zero => intro acc; simp
    | succ n ih =>
      intro acc
      rw [List.replicate_succ, List.foldl_cons, show acc.toArray ++ a.toArray = (acc ++ a).toArray by simp, ih, List.replicate_succ, List.flatten_cons, List.append_assoc]
  have := key n []
  rw [List.nil_append] at this
  exact this
theorem flat_rep_len (n : Nat) (a : List Nat) : (List.replicate n a).flatten.length = n * a.length := by
  induction n with
  | zero => simp
  | succ n ih => rw [List.replicate_succ, List.flatten_cons, List.length_append, ih, Nat.succ_mul]; omega
theorem mul_ok : OpR X (binaryOp .Mult) (fun x y => rD X.kw dMul true [x, y]) := by
  intro pins s σ H x y v u Q I rx ry h
  obtain ⟨ds, d, w, e, q⟩ := h
  obtain ⟨a, b, rfl, wa, wb⟩ := w.two
  unfold dMul at e
  split at e
  · rename_i i j h0
    simp only [List.cons.injEq, and_true] at h0
    obtain ⟨rfl, rfl⟩ := h0
    split at e
    · rename_i hl
      cases e
      exact op_mul pins s σ H x y v u Q I rx ry ⟨_, _, wa.int, wb.int, hl, scal_int q⟩
    · cases e
  · rename_i i j h0
    simp only [List.cons.injEq, and_true] at h0
    obtain ⟨rfl, rfl⟩ := h0
    split at e
    · rename_i hl
      cases e
      obtain ⟨f, r⟩ := wa
      cases r with
      | own hH rs _ =>
        refine op_rep pins s σ H _ y v u Q I rx ry ⟨_, _, _, rfl, wb.int, hH, hl.2.2.1, hl.2.2.2, by rw [← rs.length]; exact hl.1, ?_⟩
        exact new_lst (immL_rep hl.2.1 _) (rs.wl.rep _) q
    · cases e
  · rename_i i j h0
    simp only [List.cons.injEq, and_true] at h0
    obtain ⟨rfl, rfl⟩ := h0
    split at e
    · rename_i hl
      cases e
      obtain ⟨e1, o1⟩ := wa.str
      have e2 := wb.int
      subst e1 e2
      obtain ⟨t1, rfl⟩ := rx
      obtain ⟨t2, rfl⟩ := ry
      obtain ⟨l1, l2, l3, l4⟩ := hl
      have hlen : (⟨i.toArray⟩ : Str).length = i.length := str_len _
      have oi := (okS_iff.mp o1).2
      refine P.mul_str ?_ ?_ ?_ ?_
      · rw [decide_eq_false (by omega), decide_eq_false (by omega)]; rfl
      · intro _ _ hgt
        rw [hlen] at hgt
        have h1 : (i.length : Int) ≤ (2 ^ 63 - 1) / j := (Int.le_ediv_iff_mul_le (by omega)).mpr (by
          have h2 : (i.length : Int) * j = ((i.length * j.toNat : Nat) : Int) := by rw [Int.natCast_mul, Int.toNat_of_nonneg (by omega)]
          rw [h2]
          have : ((i.length * j.toNat : Nat) : Int) ≤ ((LIM : Nat) : Int) := Int.ofNat_le.mpr l1
          have h3 : ((LIM : Nat) : Int) = 16777216 := rfl
          omega)
        omega
      · intro _ _
        rw [hlen]
        unfold Builtin.Str.tooLong
        have := lim_eq
        simp only [decide_eq_false_iff_not]
        omega
      · have hn1 : ¬ j < 1 := by omega
        have hn2 : ¬ ((j == 1 || (⟨i.toArray⟩ : Str).length == 0) = true) := by
          rw [hlen]
          intro z
          rcases Bool.or_eq_true _ _ ▸ z with z | z
          · have := eq_of_beq z; omega
          · exact l4 (List.eq_nil_of_length_eq_zero (eq_of_beq z))
        rw [if_neg hn1, if_neg hn2, foldl_rep]
        have hok : okS (List.replicate j.toNat i).flatten = true := by
          refine okS_iff.mpr ⟨fun c hc => ?_, ?_⟩
          · obtain ⟨z, hz, hc⟩ := List.mem_flatten.mp hc
            rw [List.eq_of_mem_replicate hz] at hc
            exact (okS_iff.mp o1).1 c hc
          · rw [flat_rep_len, Nat.mul_comm]
            exact l1
        exact ⟨by show (List.replicate j.toNat i).flatten.toArray.size ≤ sizeLine; rw [List.size_toArray, lim_eq]; exact (okS_iff.mp hok).2, .str _, H, I.tok _, ⟨_, rfl⟩, scal_str hok q⟩
    · cases e
  · cases e
theorem fdiv_ok : OpR X (binaryOp .FloorDiv) (fun x y => rD X.kw dFdiv true [x, y]) := by
  intro pins s σ H x y v u Q I rx ry h
  obtain ⟨ds, d, w, e, q⟩ := h
  obtain ⟨a, b, rfl, wa, wb⟩ := w.two
  unfold dFdiv at e
  split at e
  · rename_i i j h0
    simp only [List.cons.injEq, and_true] at h0
    obtain ⟨rfl, rfl⟩ := h0
    split at e
    · rename_i hl
      cases e
      exact op_fdiv pins s σ H x y v u Q I rx ry ⟨_, _, wa.int, wb.int, hl, scal_int q⟩
    · cases e
  · cases e
theorem mod_ok : OpR X (binaryOp .Mod) (fun x y => rD X.kw dMod true [x, y]) := by
  intro pins s σ H x y v u Q I rx ry h
  obtain ⟨ds, d, w, e, q⟩ := h
  obtain ⟨a, b, rfl, wa, wb⟩ := w.two
  unfold dMod at e
  split at e
  · rename_i i j h0
    simp only [List.cons.injEq, and_true] at h0
    obtain ⟨rfl, rfl⟩ := h0
    split at e
    · rename_i hl
      cases e
      exact op_mod pins s σ H x y v u Q I rx ry ⟨_, _, wa.int, wb.int, hl, scal_int q⟩
    · cases e
  · cases e
theorem pow_ok : OpR X (binaryOp .Pow) (fun x y => rD X.kw dPow true [x, y]) := by
  intro pins s σ H x y v u Q I rx ry h
  obtain ⟨ds, d, w, e, q⟩ := h
  obtain ⟨a, b, rfl, wa, wb⟩ := w.two
  unfold dPow at e
  split at e
  · rename_i i j h0
    simp only [List.cons.injEq, and_true] at h0
    obtain ⟨rfl, rfl⟩ := h0
    split at e
    · rename_i hl
      cases e
      exact op_pow pins s σ H x y v u Q I rx ry ⟨_, _, wa.int, wb.int, hl, scal_int q⟩
    · cases e
  · cases e
theorem lt_ok : OpR X (compareOp .Lt) (fun x y => rD X.kw (dCmp fun i j => decide (i < j)) true [x, y]) := by
  intro pins s σ H x y v u Q I rx ry h
  obtain ⟨ds, d, w, e, q⟩ := h
  obtain ⟨a, b, rfl, wa, wb⟩ := w.two
  unfold dCmp at e
  split at e
  · rename_i i j h0
    simp only [List.cons.injEq, and_true] at h0
    obtain ⟨rfl, rfl⟩ := h0
    cases e
    exact op_lt pins s σ H x y v u Q I rx ry ⟨_, _, wa.int, wb.int, scal_bl q⟩
  · cases e
theorem le_ok : OpR X (compareOp .LtE) (fun x y => rD X.kw (dCmp fun i j => decide (i ≤ j)) true [x, y]) := by
  intro pins s σ H x y v u Q I rx ry h
  obtain ⟨ds, d, w, e, q⟩ := h
  obtain ⟨a, b, rfl, wa, wb⟩ := w.two
  unfold dCmp at e
  split at e
  · rename_i i j h0
    simp only [List.cons.injEq, and_true] at h0
    obtain ⟨rfl, rfl⟩ := h0
    cases e
    exact op_le pins s σ H x y v u Q I rx ry ⟨_, _, wa.int, wb.int, scal_bl q⟩
  · cases e
theorem gt_ok : OpR X (compareOp .Gt) (fun x y => rD X.kw (dCmp fun i j => decide (j < i)) true [x, y]) := by
  intro pins s σ H x y v u Q I rx ry h
  obtain ⟨ds, d, w, e, q⟩ := h
  obtain ⟨a, b, rfl, wa, wb⟩ := w.two
  unfold dCmp at e
  split at e
  · rename_i i j h0
    simp only [List.cons.injEq, and_true] at h0
    obtain ⟨rfl, rfl⟩ := h0
    cases e
    exact op_gt pins s σ H x y v u Q I rx ry ⟨_, _, wa.int, wb.int, scal_bl q⟩
  · cases e
theorem ge_ok : OpR X (compareOp .GtE) (fun x y => rD X.kw (dCmp fun i j => decide (j ≤ i)) true [x, y]) := by
  intro pins s σ H x y v u Q I rx ry h
  obtain ⟨ds, d, w, e, q⟩ := h
  obtain ⟨a, b, rfl, wa, wb⟩ := w.two
  unfold dCmp at e
  split at e
  · rename_i i j h0
    simp only [List.cons.injEq, and_true] at h0
    obtain ⟨rfl, rfl⟩ := h0
    cases e
    exact op_ge pins s σ H x y v u Q I rx ry ⟨_, _, wa.int, wb.int, scal_bl q⟩
  · cases e
theorem neg_ok : UnR X (unaryOp .USub) (fun x => rD X.kw dNeg true [x]) := by
  intro pins s σ H x v Q I rx h
  obtain ⟨ds, d, w, e, q⟩ := h
  obtain ⟨a, rfl, wa⟩ := w.one
  unfold dNeg at e
  split at e
  · rename_i i h0
    simp only [List.cons.injEq, and_true] at h0
    subst h0
    cases e
    exact un_neg pins s σ H x v Q I rx ⟨_, wa.int, scal_int q⟩
  · cases e
end
end VL

/-! VLD: dicts whose keys are tuples: look-ups, stores. -/
namespace VL
open PySem PySem.Spec PyProof.Rows L2

mutual
def unKey : NestedKey → D
  | .none => .non
  | .num i => .int i
  | .text s => .str s.cps.toList
  | .tup ks => .tup (unKeys ks)
def unKeys : List NestedKey → List D
  | [] => []
  | k :: ks => unKey k :: unKeys ks
end
mutual
theorem unKey_of : ∀ {d : D} {k : NestedKey}, keyOf d = some k → unKey k = d
  | .non, _, h => by cases h; rfl
  | .int _, _, h => by cases h; rfl
  | .str s, _, h => by cases h; simp [unKey]
  | .tup xs, _, h => by
    simp only [keyOf, Option.map_eq_some_iff] at h
    obtain ⟨ks, h, rfl⟩ := h
    simp only [unKey, unKeys_of h]
  | .bl _, _, h => by simp [keyOf] at h
  | .lst _ _, _, h => by simp [keyOf] at h
  | .exc _ _ _, _, h => by simp [keyOf] at h
  | .cls _ _ _ _, _, h => by simp [keyOf] at h
  | .dic _ _ _, _, h => by simp [keyOf] at h
  | .dks _ _, _, h => by simp [keyOf] at h
  | .obj _ _ _ _, _, h => by simp [keyOf] at h
theorem unKeys_of : ∀ {ds : List D} {ks : List NestedKey}, keysOf ds = some ks → unKeys ks = ds
  | [], _, h => by cases h; rfl
  | x :: xs, _, h => by
    unfold keysOf at h
    split at h
    · rename_i k e
      simp only [Option.map_eq_some_iff] at h
      obtain ⟨ks, h, rfl⟩ := h
      simp only [unKeys, unKey_of e, unKeys_of h]
    · cases h
end
theorem keyT_of {d : D} {k : NestedKey} (h : keyT d = some k) : keyOf d = some k ∧ k.depth ≤ 8 ∧ ∃ xs, d = .tup xs := by
  unfold keyT at h
  split at h
  · simp only [Option.bind_eq_some_iff] at h
    obtain ⟨ks, h1, h2⟩ := h
    split at h2
    · rename_i hd
      cases h2
      exact ⟨by simp only [keyOf, h1, Option.map_some], hd, _, rfl⟩
    · cases h2
  · cases h
theorem keyT_inj {a b : D} {k : NestedKey} (h : keyT a = some k) (h' : keyT b = some k) : a = b := by
  rw [← unKey_of (keyT_of h).1, ← unKey_of (keyT_of h').1]
/-- what a dict holds -/
def lkD : List D → List D → D → Option D
  | k :: ks, v :: vs, x => if k = x then some v else lkD ks vs x
  | _, _, _ => none
/-- .. with one more -/
def stD : List D → List D → D → D → List D × List D
  | k :: ks, v :: vs, x, d => if k = x then (k :: ks, d :: vs) else (k :: (stD ks vs x d).1, v :: (stD ks vs x d).2)
  | _, _, x, d => ([x], [d])
section
variable {α : Type}
def atR : List (NestedKey × Addr × α) → NestedKey → Option (Addr × α)
  | [], _ => none
  | p :: r, k => if p.1 = k then some p.2 else atR r k
def stR : List (NestedKey × Addr × α) → NestedKey → Addr → α → List (NestedKey × Addr × α)
  | [], k, a, v => [(k, a, v)]
  | p :: r, k, a, v => if p.1 = k then (p.1, p.2.1, v) :: r else p :: stR r k a v
theorem stR_keys : ∀ (xs : List (NestedKey × Addr × α)) (k : NestedKey) (a : Addr) (v : α), (stR xs k a v).map (·.1) = if k ∈ xs.map (·.1) then xs.map (·.1) else xs.map (·.1) ++ [k]
  | [], k, a, v => by simp [stR]
  | p :: r, k, a, v => by
    unfold stR
    by_cases h : p.1 = k
    · rw [if_pos h]
      simp [h]
    · rw [if_neg h, List.map_cons, stR_keys r k a v, List.map_cons]
      by_cases h2 : k ∈ r.map (·.1)
      · rw [if_pos h2, if_pos (List.mem_cons_of_mem _ h2)]
      · rw [if_neg h2, if_neg (fun z => (List.mem_cons.mp z).elim (fun q => h q.symm) h2)]
        rfl
theorem stR_len : ∀ (xs : List (NestedKey × Addr × α)) (k : NestedKey) (a : Addr) (v : α), (stR xs k a v).length ≤ xs.length + 1
  | [], k, a, v => by simp [stR]
  | p :: r, k, a, v => by
    unfold stR
    have := stR_len r k a v
    split <;> simp <;> omega
end
theorem atR_val : ∀ (xs : List (NestedKey × Addr × Value)) (k : NestedKey), atKey xs k = atR xs k
  | [], _ => rfl
  | p :: r, k => by
    have := atR_val r k
    unfold atR
    by_cases h : p.1 = k
    · rw [if_pos h]; simp [atKey, h]
    · rw [if_neg h, ← this]; simp [atKey, h]
theorem stR_val : ∀ (xs : List (NestedKey × Addr × Value)) (k : NestedKey) (a : Addr) (v : Value), (xs.map (·.1)).Nodup → storedH xs k a v = stR xs k a v
  | [], _, _, _, _ => rfl
  | p :: r, k, a, v, hn => by
    rw [List.map_cons, List.nodup_cons] at hn
    have ih := stR_val r k a v hn.2
    unfold stR
    by_cases h : p.1 = k
    · rw [if_pos h]
      have e : atKey (p :: r) k = some p.2 := by rw [atR_val]; unfold atR; rw [if_pos h]
      rw [storedH_old e, List.map_cons, map_putAt_of_not_mem r k v (by rw [← h]; exact hn.1)]
      unfold putAt
      rw [if_pos h]
    · rw [if_neg h, ← ih]
      have e : atKey (p :: r) k = atKey r k := by rw [atR_val, atR_val]; conv => lhs; unfold atR; rw [if_neg h]
      have e2 : putAt k v p = p := by unfold putAt; rw [if_neg h]
      unfold storedH
      rw [e]
      split
      · rw [List.map_cons, e2]
      · rfl
/-- entries by values -/
abbrev KvR : List (NestedKey × Addr × V) → List (NestedKey × Addr × Value) → Prop := Paired (fun (p : NestedKey × Addr × V) (q : NestedKey × Addr × Value) => p.1 = q.1 ∧ p.2.1 = q.2.1 ∧ RelV p.2.2 q.2.2)
theorem KvR.keys {kvs : List (NestedKey × Addr × V)} {xs : List (NestedKey × Addr × Value)} (r : KvR kvs xs) : kvs.map (·.1) = xs.map (·.1) := by
  induction r with
  | nil => rfl
  | cons h _ ih => rw [List.map_cons, List.map_cons, h.1, ih]
theorem KvR.at_ {kvs : List (NestedKey × Addr × V)} {xs : List (NestedKey × Addr × Value)} (r : KvR kvs xs) (k : NestedKey) : (∀ b v, atR kvs k = some (b, v) → ∃ u, atKey xs k = some (b, u) ∧ RelV v u) ∧ (atR kvs k = none → atKey xs k = none) := by
  rw [atR_val]
  induction r with
  | nil => exact ⟨fun b v e => (by cases e), fun _ => rfl⟩
  | @cons p q ps qs h t ih =>
    obtain ⟨h1, h2, h3⟩ := h
    unfold atR
    rw [← h1]
    by_cases e : p.1 = k
    · rw [if_pos e, if_pos e]
      refine ⟨fun b v z => ?_, fun z => by cases z⟩
      cases p with
      | mk a1 a2 =>
        cases q with
        | mk b1 b2 =>
          obtain ⟨a2, a3⟩ := a2
          obtain ⟨b2, b3⟩ := b2
          cases z
          simp only at h2 h3
          subst h2
          exact ⟨b3, rfl, h3⟩
    · rw [if_neg e, if_neg e]
      exact ih
theorem KvR.st {kvs : List (NestedKey × Addr × V)} {xs : List (NestedKey × Addr × Value)} (r : KvR kvs xs) (k : NestedKey) (b : Addr) {v : V} {u : Value} (rv : RelV v u) : KvR (stR kvs k b v) (stR xs k b u) := by
  induction r with
  | nil => exact .cons ⟨rfl, rfl, rv⟩ .nil
  | @cons p q ps qs h t ih =>
    obtain ⟨h1, h2, h3⟩ := h
    unfold stR
    rw [← h1]
    by_cases e : p.1 = k
    · rw [if_pos e, if_pos e]
      exact .cons ⟨rfl, h2, rv⟩ t
    · rw [if_neg e, if_neg e]
      exact .cons ⟨h1, h2, h3⟩ ih
section
variable {K : KW} {H : Hp}
/-- the dict stands, one's own or shared -/
def DkAt (K : KW) (H : Hp) (a : Addr) (kvs : List (NestedKey × Addr × V)) : Prop := H a = some (DkO K a kvs) ∨ FzD K H a kvs
theorem W1.dic {o : Bool} {ks vs : List D} {v : V} (w : W1 K H (.dic o ks vs) v) : ∃ a kvs, v = .ref a ∧ DkAt K H a kvs ∧ KeysR ks kvs ∧ WL K H ks (kvs.map kRef) ∧ WL K H vs (kvs.map kVal) := by
  obtain ⟨f, r⟩ := w
  cases r with
  | dicO h k r1 r2 _ => exact ⟨_, _, rfl, .inl h, k, r1.wl, r2.wl⟩
  | dicF h k r1 r2 => exact ⟨_, _, rfl, .inr h, k, r1.wl, r2.wl⟩
theorem KeysR.cons_inv {k : D} {ks : List D} {p : NestedKey × Addr × V} {kvs : List (NestedKey × Addr × V)} (h : KeysR (k :: ks) (p :: kvs)) : keyT k = some p.1 ∧ KeysR ks kvs := by
  simpa [KeysR] using h
theorem KeysR.len {ks : List D} {kvs : List (NestedKey × Addr × V)} (h : KeysR ks kvs) : ks.length = kvs.length := by
  have := congrArg List.length h
  simpa using this
theorem lk_at : ∀ {ks vs : List D} {kvs : List (NestedKey × Addr × V)} {x : D} {k : NestedKey}, KeysR ks kvs → WL K H vs (kvs.map kVal) → keyT x = some k →
    (∀ d, lkD ks vs x = some d → ∃ b v, atR kvs k = some (b, v) ∧ W1 K H d v) ∧ (lkD ks vs x = none → atR kvs k = none)
  | [], vs, [], x, k, _, _, _ => ⟨fun d e => (by simp [lkD] at e), fun _ => rfl⟩
  | [], _, _ :: _, _, _, h, _, _ => by simp [KeysR] at h
  | _ :: _, _, [], _, _, h, _, _ => by simp [KeysR] at h
  | k0 :: ks, vs, p :: kvs, x, k, h, w, hx => by
    obtain ⟨h1, h2⟩ := h.cons_inv
    rw [List.map_cons] at w
    cases w with
    | @cons v0 _ vs _ w1 w2 =>
      have ih := lk_at h2 w2 hx
      unfold lkD atR
      by_cases e : k0 = x
      · subst e
        rw [hx] at h1
        cases h1
        rw [if_pos rfl, if_pos rfl]
        exact ⟨fun d z => by cases z; exact ⟨_, _, rfl, w1⟩, fun z => by cases z⟩
      · have e2 : ¬ p.1 = k := fun z => e (keyT_inj h1 (by rw [hx, z]))
        rw [if_neg e, if_neg e2]
        exact ih
end
section
variable {X : Cx} {pins : List (Addr × Obj)} {σ : L2.St} {H : Hp} {s : Shared}
mutual
theorem key_is (I : Inv X pins σ H s) : ∀ {d : D} {v : V} {u : Value} {k : NestedKey}, W1 X.kw H d v → keyOf d = some k → RelV v u → NestedIs s.heap k u
  | .non, v, u, k, w, h, r => by
    cases h
    have := w.non
    subst this
    cases r
    exact .none
  | .int i, v, u, k, w, h, r => by
    cases h
    have := w.int
    subst this
    obtain ⟨t, rfl⟩ := r
    exact .int _ _
  | .str x, v, u, k, w, h, r => by
    cases h
    have := w.str.1
    subst this
    obtain ⟨t, rfl⟩ := r
    exact .text _ _
  | .tup xs, v, u, k, w, h, r => by
    simp only [keyOf, Option.map_eq_some_iff] at h
    obtain ⟨ks, h, rfl⟩ := h
    obtain ⟨a, vs, rfl, sq, wl⟩ := w.tup
    cases r
    obtain ⟨its, rv, ⟨o, ho, hc, n, hd⟩, _⟩ := I.tuple sq
    refine .tup ho hc hd ?_
    rw [List.toList_toArray]
    exact keys_is I wl h rv
  | .bl _, _, _, _, _, h, _ => by simp [keyOf] at h
  | .lst _ _, _, _, _, _, h, _ => by simp [keyOf] at h
  | .exc _ _ _, _, _, _, _, h, _ => by simp [keyOf] at h
  | .cls _ _ _ _, _, _, _, _, h, _ => by simp [keyOf] at h
  | .dic _ _ _, _, _, _, _, h, _ => by simp [keyOf] at h
  | .dks _ _, _, _, _, _, h, _ => by simp [keyOf] at h
  | .obj _ _ _ _, _, _, _, _, h, _ => by simp [keyOf] at h
theorem keys_is (I : Inv X pins σ H s) : ∀ {ds : List D} {vs : List V} {us : List Value} {ks : List NestedKey}, WL X.kw H ds vs → keysOf ds = some ks → Vals vs us → NestedAll s.heap ks us
  | [], _, _, _, w, h, r => by
    cases h
    cases w
    cases r
    exact .nil
  | x :: xs, _, _, _, w, h, r => by
    unfold keysOf at h
    split at h
    · rename_i k e
      simp only [Option.map_eq_some_iff] at h
      obtain ⟨ks, h, rfl⟩ := h
      cases w with
      | cons w1 w2 =>
        cases r with
        | cons r1 r2 => exact .cons (key_is I w1 e r1) (keys_is I w2 h r2)
    · cases h
end
/-- a key, as the machine sees it -/
theorem key_at (I : Inv X pins σ H s) {d : D} {v : V} {u : Value} {k : NestedKey} (w : W1 X.kw H d v) (h : keyT d = some k) (r : RelV v u) : ∃ b, v = .ref b ∧ u = .ref b ∧ (nestedKind X.prog X.w).is s.heap k b := by
  obtain ⟨h1, h2, xs, rfl⟩ := keyT_of h
  have n := key_is I w h1 r
  obtain ⟨a, vs, rfl, _, _⟩ := w.tup
  cases r
  exact ⟨a, rfl, rfl, n, h2⟩
theorem keys_at (I : Inv X pins σ H s) : ∀ {ks : List D} {kvs : List (NestedKey × Addr × V)}, KeysR ks kvs → WL X.kw H ks (kvs.map kRef) → ∀ p ∈ kvs, (nestedKind X.prog X.w).is s.heap p.1 p.2.1
  | [], [], _, _, p, hp => by cases hp
  | [], _ :: _, h, _, _, _ => by simp [KeysR] at h
  | _ :: _, [], h, _, _, _ => by simp [KeysR] at h
  | k :: ks, q :: kvs, h, w, p, hp => by
    obtain ⟨h1, h2⟩ := h.cons_inv
    rw [List.map_cons] at w
    cases w with
    | cons w1 w2 =>
      rcases List.mem_cons.mp hp with e | e
      · subst e
        obtain ⟨b, e1, _, n⟩ := key_at I w1 h1 (show RelV (kRef p) (.ref p.2.1) from rfl)
        cases e1
        exact n
      · exact keys_at I h2 w2 p e
/-- what stands there -/
theorem dk_at (I : Inv X pins σ H s) {a : Addr} {ks : List D} {kvs : List (NestedKey × Addr × V)} (h : DkAt X.kw H a kvs) (k : KeysR ks kvs) (w : WL X.kw H ks (kvs.map kRef)) :
    (a == sysModules) = false ∧ ∃ xs, KvR kvs xs ∧ s.heap.DictOfH (nestedKind X.prog X.w) a xs := by
  have ob : ObjOk X.prog X.w H s.heap a (DkO X.kw a kvs) := by
    rcases h with h | ⟨o, h⟩
    · exact I.hok a _ h
    · exact (I.hok a _ h).2
  obtain ⟨⟨hs, xs, rel, o, es, ep, h1, h2, h3, h4, h5⟩, _, _⟩ := ob
  refine ⟨hs, xs, rel, o, es, ep, h1, h2, h3, h4, fun x hx => ?_, h5⟩
  have all : ∀ {l : List (NestedKey × Addr × V)} {m : List (NestedKey × Addr × Value)}, KvR l m → ∀ x ∈ m, ∃ p ∈ l, p.1 = x.1 ∧ p.2.1 = x.2.1 := by
    intro l m q
    induction q with
    | nil => intro x hx; cases hx
    | @cons p q ps qs hq t ih =>
      intro x hx
      rcases List.mem_cons.mp hx with e | hx
      · subst e
        exact ⟨p, List.mem_cons_self, hq.1, hq.2.1⟩
      · obtain ⟨p', hp, z⟩ := ih x hx
        exact ⟨p', List.mem_cons_of_mem _ hp, z⟩
  obtain ⟨p, hp, e1, e2⟩ := all rel x hx
  have := keys_at I k w p hp
  rw [e1, e2] at this
  exact this
theorem room8 {A : Around} (hu : A.units + 65 < cLine) : (nestedKind X.prog X.w).room A.in1 := by
  show A.units + 1 + 8 < cLine
  omega
/-- d[x], there -/
theorem ix_dic (hu : X.A.units + 65 < cLine) : IxR X (fun x y H Q => ∃ o ks vs z d, W1 X.kw H (.dic o ks vs) x ∧ W1 X.kw H z y ∧ (keyT z).isSome = true ∧ lkD ks vs z = some d ∧ ∀ v, W1 X.kw H d v → Q v H) := by
  intro value slice pins s σ H x y v u Q I rx ry h hs
  obtain ⟨o, ks, vs, z, d, w1, w2, hk, hl, q⟩ := h
  obtain ⟨a, kvs, rfl, da, kr, wk, wv⟩ := w1.dic
  obtain ⟨k, hk⟩ := Option.isSome_iff_exists.mp hk
  obtain ⟨b, rfl, rfl, ki⟩ := key_at I w2 hk ry
  cases rx
  obtain ⟨hs0, xs, rel, dd⟩ := dk_at I da kr wk
  obtain ⟨b2, v2, e1, w3⟩ := (lk_at kr wv hk).1 d hl
  obtain ⟨u2, e2, r2⟩ := (rel.at_ k).1 b2 v2 e1
  refine tail_any dd.typeIs slot_dict_getitem.lookup ?_ hs
  exact wpAny_getItem_heap (room8 hu) ki dd e2 ⟨v2, H, I.tok _, r2, q v2 w3⟩
/-- x in d -/
theorem in_dic (neg : Bool) (op : CmpOp) (hop : op = if neg then .NotIn else .In) (hu : X.A.units + 65 < cLine) : OpR X (compareOp op) (fun y x H Q => ∃ o ks vs z, W1 X.kw H (.dic o ks vs) x ∧ W1 X.kw H z y ∧ (keyT z).isSome = true ∧ Q (.bl (if neg then !(lkD ks vs z).isSome else (lkD ks vs z).isSome)) H) := by
  intro pins s σ H y x u v Q I ry rx h
  obtain ⟨o, ks, vs, z, w1, w2, hk, q⟩ := h
  obtain ⟨a, kvs, rfl, da, kr, wk, wv⟩ := w1.dic
  obtain ⟨k, hk⟩ := Option.isSome_iff_exists.mp hk
  obtain ⟨b, rfl, rfl, ki⟩ := key_at I w2 hk ry
  cases rx
  obtain ⟨hs0, xs, rel, dd⟩ := dk_at I da kr wk
  have e : (atKey xs k).isSome = (lkD ks vs z).isSome := by
    cases el : lkD ks vs z with
    | none => rw [(rel.at_ k).2 ((lk_at kr wv hk).2 el)]; rfl
    | some d =>
      obtain ⟨b2, v2, e1, _⟩ := (lk_at kr wv hk).1 d el
      obtain ⟨u2, e2, _⟩ := (rel.at_ k).1 b2 v2 e1
      rw [e2]; rfl
  have dk : s.heap.DictKeyed (nestedKind X.prog X.w) a (pairsH xs) := ⟨xs, dd, rfl⟩
  have e3 : (valueAt (pairsH xs) k).isSome = (lkD ks vs z).isSome := by rw [valueAt_pairsH, Option.isSome_map, e]
  cases neg with
  | false =>
    subst hop
    refine in_keyed (room8 hu) ki hs0 dk ?_
    rw [e3]
    exact ⟨.bl _, H, I.tok _, rfl, q⟩
  | true =>
    subst hop
    refine notIn_keyed (room8 hu) ki hs0 dk ?_
    rw [e3]
    exact ⟨.bl _, H, I.tok _, rfl, q⟩
/-- {} -/
theorem dk_none {P : Program} {w : World} {H : Hp} {f : PySem.W.Frag} (h : Heap) (hb : sysModules < h.objs.size) : ObjOk P w H (h.push { cls := .type "dict", data := .dict #[] }) h.objs.size (DkO ⟨f, P, w⟩ h.objs.size []) := by
  have e := Heap.get?_push_size h (o := { cls := .type "dict", data := .dict #[] }) rfl
  refine ⟨⟨beq_eq_false_iff_ne.mpr (Ne.symm (Nat.ne_of_lt hb)), [], .nil, _, #[], 0, e, ⟨rfl, rfl, rfl⟩, rfl, rfl, List.nodup_nil⟩, ⟨_, e⟩, ?_⟩
  intro h1 h2 ⟨a, xs, r, o, es, ep, x, y⟩ k
  exact ⟨a, xs, r, o, es, ep, k o x, y⟩
theorem pe_dnewD {pos : Pos} : PE X (.Dict [] [] pos) (fun _ H Q => ∀ p, H p = none → Q (.ref p) (upd H p (DkO X.kw p []))) := ⟨fun pins s σ H Q I h =>
  wpAny_Dict_empty ⟨.ref s.heap.objs.size, _, I.laid (a := s.heap.objs.size) (o := DkO X.kw s.heap.objs.size []) (t' := s.toks) (fun _ _ q => Heap.get?_push_of_some _ q) (Nat.le_refl _) (dk_none s.heap I.big), rfl, h _ (I.hok.fresh (Nat.le_refl _))⟩⟩
theorem dk_ok {P : Program} {w : World} {H : Hp} {f : PySem.W.Frag} {h : Heap} {a : Addr} {kvs : List (NestedKey × Addr × V)} {xs : List (NestedKey × Addr × Value)} (hs : (a == sysModules) = false) (rel : KvR kvs xs) (dd : h.DictOfH (nestedKind P w) a xs) : ObjOk P w H h a (DkO ⟨f, P, w⟩ a kvs) := by
  obtain ⟨o, es, ep, h1, h2, h3, h4, _, h5⟩ := dd
  refine ⟨⟨hs, xs, rel, o, es, ep, h1, h2, h3, h4, h5⟩, ⟨o, h1⟩, ?_⟩
  intro h1 h2 ⟨a, xs, r, o, es, ep, x, y⟩ k
  exact ⟨a, xs, r, o, es, ep, k o x, y⟩
/-- d[x] = y -/
def rSetD (K : KW) : V → V → V → Hp → (Hp → Prop) → Prop := fun ob ix v H Q => ∃ a kvs ks z k b, ob = .ref a ∧ H a = some (DkO K a kvs) ∧ KeysR ks kvs ∧ WL K H ks (kvs.map kRef) ∧ W1 K H z ix ∧ keyT z = some k ∧ ix = .ref b ∧ kvs.length < sizeLine ∧ Q (upd H a (DkO K a (stR kvs k b v)))
theorem set_dic (hu : X.A.units + 65 < cLine) : PSet X (rSetD X.kw) := by
  intro pins s σ H o i v ov iv u Q I ro ri rv h
  obtain ⟨a, kvs, ks, z, k, b, rfl, ha, kr, wk, wz, hk, rfl, hl, q⟩ := h
  cases ro
  obtain ⟨b', eb, rfl, ki⟩ := key_at I wz hk ri
  cases eb
  obtain ⟨hs0, xs, rel, dd⟩ := dk_at I (.inl ha) kr wk
  have hz : xs.length ≤ sizeLine := by rw [← Paired.length rel]; exact Nat.le_of_lt hl
  refine wpAny_setItem_heap (hsz := hz) (room8 hu) ki dd fun h' dd' hs => ?_
  obtain ⟨_, _, _, _, _, _, _, _, hn⟩ := id dd
  rw [stR_val _ _ _ _ hn] at dd'
  have hex : ∃ q, h'.get? a = some q := let ⟨q, _, _, hq, _⟩ := dd'; ⟨q, hq⟩
  exact ⟨_, d_write (t' := s.toks + (nestedKind X.prog X.w).draws k) I (by rw [ha]; exact True.intro) hs hex (dk_ok hs0 (rel.st k b rv) dd'), q⟩
end
/-! ### texts as keys -/
def lkS : List (List Nat) → List D → List Nat → Option D
  | k :: ks, v :: vs, x => if k = x then some v else lkS ks vs x
  | _, _, _ => none
section
variable {K : KW} {H : Hp}
theorem W1.dks {ks : List (List Nat)} {vs : List D} {v : V} (w : W1 K H (.dks ks vs) v) : ∃ a kvs, v = .ref a ∧ FzK K H a kvs ∧ ks = kvs.map (fun p => p.1.cps.toList) ∧ WL K H vs (kvs.map (·.2)) := by
  obtain ⟨f, r⟩ := w
  cases r with
  | dks h k r1 => exact ⟨_, _, rfl, h, k, r1.wl⟩
theorem lkS_at : ∀ {vs : List D} {kvs : List (Str × V)} {x : List Nat} {d : D}, WL K H vs (kvs.map (·.2)) → lkS (kvs.map fun p => p.1.cps.toList) vs x = some d →
    ∃ v, valV (kvs.map fun p => ((.inr p.1 : Key), p.2)) (.inr ⟨x.toArray⟩) = some v ∧ W1 K H d v ∧ ((⟨x.toArray⟩ : Str), v) ∈ kvs
  | vs, [], x, d, w, h => by simp [lkS] at h
  | vs, p :: kvs, x, d, w, h => by
    rw [List.map_cons] at w
    cases w with
    | @cons d0 _ vs _ w1 w2 =>
      rw [List.map_cons] at h
      unfold lkS at h
      by_cases e : p.1.cps.toList = x
      · rw [if_pos e] at h
        cases h
        have e2 : p.1 = ⟨x.toArray⟩ := by
          obtain ⟨⟨c⟩, v⟩ := p
          simp only at e
          rw [← e]
        refine ⟨p.2, ?_, w1, by rw [← e2]; exact List.mem_cons_self⟩
        unfold valV
        rw [List.map_cons, List.find?_cons_of_pos (by simp [e2])]
        rfl
      · rw [if_neg e] at h
        obtain ⟨v, h1, h2, h3⟩ := lkS_at w2 h
        refine ⟨v, ?_, h2, List.mem_cons_of_mem _ h3⟩
        unfold valV at h1 ⊢
        rw [List.map_cons, List.find?_cons_of_neg (by
          simp only [decide_eq_true_eq]
          intro z
          cases p with
          | mk a b =>
            simp only [Sum.inr.injEq] at z
            subst z
            exact e (by simp))]
        exact h1
end
theorem ix_dks {X : Cx} (hu : X.A.units + 65 < cLine) : IxR X (fun x y H Q => ∃ ks vs t d, W1 X.kw H (.dks ks vs) x ∧ y = .str ⟨t.toArray⟩ ∧ lkS ks vs t = some d ∧ ∀ v, W1 X.kw H d v → Q v H) := by
  intro value slice pins s σ H x y v u Q I rx ry h hs
  obtain ⟨ks, vs, t, d, w, rfl, hl, q⟩ := h
  obtain ⟨a, kvs, rfl, fz, rfl, wl⟩ := w.dks
  obtain ⟨v1, h1, w1, hm⟩ := lkS_at wl hl
  rcases fz with ⟨o, fz⟩ | fz
  · have g : DGet H a (.str ⟨t.toArray⟩) (some v1) := .inl ⟨_, .inr ⟨t.toArray⟩, .inr ⟨o, fz⟩, rfl, h1.symm⟩
    cases rx
    refine tail_any (dict_typeIs I g) slot_dict_getitem.lookup ?_ hs
    exact d_getItem (by omega) I g ry fun w' s' I' r' => ⟨v1, H, I', r', q v1 w1⟩
  · exact ix_kdict value slice pins s σ H _ _ v u Q I rx ry ⟨a, _, v1, rfl, rfl, fz _ hm, q v1 w1⟩ hs
end VL

/-! VL4: in, is, subscripts, slices. -/
namespace VL
open PySem PySem.Spec PyProof.Rows L2
def xor (a b : Bool) : Bool := if a then !b else b
def dIn (neg : Bool) : List D → Option D
  | [.str [c], .str s] => some (.bl (xor neg (decide (c ∈ s))))
  | [a, .lst _ xs] => if a.depth ≤ 64 ∧ depthL xs ≤ 64 then some (.bl (xor neg (xs.any fun y => eqD y a))) else none
  | [a, .tup xs] => if a.depth ≤ 64 ∧ depthL xs ≤ 64 then some (.bl (xor neg (xs.any fun y => eqD y a))) else none
  | [a, .dic _ ks vs] => if (keyT a).isSome = true then some (.bl (xor neg (lkD ks vs a).isSome)) else none
  | _ => none
def D.isNon : D → Bool
  | .non => true
  | _ => false
def dIs (neg : Bool) : List D → Option D
  | [a, .non] => some (.bl (xor neg a.isNon))
  | [.bl a, .bl b] => some (.bl (xor neg (decide (a = b))))
  | _ => none
def dIx : List D → Option D
  | [.lst _ xs, .int i] => atI xs i
  | [.tup xs, .int i] => atI xs i
  | [.str s, .int i] => (atI s i).map fun c => .str [c]
  | [.dic _ ks vs, x] => if (keyT x).isSome = true then lkD ks vs x else none
  | [.dks ks vs, .str t] => lkS ks vs t
  | _ => none
def dSlc1 (lo hi : Option Int) : D → Option D
  | .str s => some (.str (cutL s lo hi))
  | .tup xs => if immL xs = true then some (.tup (cutL xs lo hi)) else none
  | .lst _ xs => if immL xs = true then some (.lst true (cutL xs lo hi)) else none
  | _ => none
section
variable {X : Cx}
theorem anyE (a : D) (ha : a.depth < 100) : ∀ xs : List D, depthL xs < 100 → ((toPys xs).any fun z => PyData.eqv z (toPy a)) = xs.any fun y => eqD y a
  | [], _ => rfl
  | x :: xs, h => by
    simp only [depthL] at h
    simp only [toPys, List.any_cons, eqv_toPy x a (by omega) ha, anyE a ha xs (by omega)]
theorem room_in {A : Around} {n d : Nat} (hd : d ≤ 64) (hu : A.units + 65 < cLine) : A.units + 1 + min n d < cLine := by
  have := Nat.min_le_right n d
  omega
theorem in_core (neg : Bool) (op : CmpOp) (hop : op = if neg then .NotIn else .In) (hu : X.A.units + 65 < cLine) : OpR X (compareOp op) (fun x y => rD X.kw (dIn neg) true [x, y]) := by
  intro pins s σ H x y v u Q I rx ry h
  obtain ⟨ds, d, w, e, q⟩ := h
  obtain ⟨a, b, rfl, wa, wb⟩ := w.two
  unfold dIn at e
  split at e
  · rename_i c t h0
    simp only [List.cons.injEq, and_true] at h0
    obtain ⟨rfl, rfl⟩ := h0
    cases e
    obtain ⟨e1, _⟩ := wa.str
    obtain ⟨e2, _⟩ := wb.str
    cases neg with
    | false => subst hop; exact op_in_sign pins s σ H x y v u Q I rx ry ⟨c, _, e1, e2, scal_bl q⟩
    | true => subst hop; exact op_notIn_sign pins s σ H x y v u Q I rx ry ⟨c, _, e1, e2, scal_bl q⟩
  · rename_i a' o xs _ h0
    simp only [List.cons.injEq, and_true] at h0
    obtain ⟨rfl, rfl⟩ := h0
    split at e
    · rename_i hd
      cases e
      obtain ⟨fa, ra⟩ := wa
      obtain ⟨fb, rb⟩ := wb
      obtain ⟨pa, la⟩ := ra.dp (by omega)
      obtain ⟨pb, lb⟩ := rb.dp (by simp only [D.depth]; omega)
      have hda := Nat.le_trans (depth_toPy _) hd.1
      obtain ⟨as, r1⟩ := Dp.reads I _ x v pa rx
      obtain ⟨bs, r2⟩ := Dp.reads I _ y u pb ry
      simp only [toPy] at r2 lb
      cases neg with
      | false =>
        subst hop
        refine SeqAt.in_list_reads r2 r1 lb la (room_in hda hu) ?_
        rw [anyE _ (Nat.lt_of_le_of_lt hd.1 (by decide)) _ (Nat.lt_of_le_of_lt hd.2 (by decide))]
        exact ⟨.bl _, H, I, rfl, scal_bl q⟩
      | true =>
        subst hop
        refine SeqAt.notIn_list_reads r2 r1 lb la (room_in hda hu) ?_
        rw [anyE _ (Nat.lt_of_le_of_lt hd.1 (by decide)) _ (Nat.lt_of_le_of_lt hd.2 (by decide))]
        exact ⟨.bl _, H, I, rfl, scal_bl q⟩
    · cases e
  · rename_i a' xs _ h0
    simp only [List.cons.injEq, and_true] at h0
    obtain ⟨rfl, rfl⟩ := h0
    split at e
    · rename_i hd
      cases e
      obtain ⟨fa, ra⟩ := wa
      obtain ⟨fb, rb⟩ := wb
      obtain ⟨pa, la⟩ := ra.dp (by omega)
      obtain ⟨pb, lb⟩ := rb.dp (by simp only [D.depth]; omega)
      have hda := Nat.le_trans (depth_toPy _) hd.1
      obtain ⟨as, r1⟩ := Dp.reads I _ x v pa rx
      obtain ⟨bs, r2⟩ := Dp.reads I _ y u pb ry
      simp only [toPy] at r2 lb
      cases neg with
      | false =>
        subst hop
        refine SeqAt.in_tuple_reads r2 r1 lb la (room_in hda hu) ?_
        rw [anyE _ (Nat.lt_of_le_of_lt hd.1 (by decide)) _ (Nat.lt_of_le_of_lt hd.2 (by decide))]
        exact ⟨.bl _, H, I, rfl, scal_bl q⟩
      | true =>
        subst hop
        refine SeqAt.notIn_tuple_reads r2 r1 lb la (room_in hda hu) ?_
        rw [anyE _ (Nat.lt_of_le_of_lt hd.1 (by decide)) _ (Nat.lt_of_le_of_lt hd.2 (by decide))]
        exact ⟨.bl _, H, I, rfl, scal_bl q⟩
    · cases e
  · rename_i a' o ks vs _ h0
    simp only [List.cons.injEq, and_true] at h0
    obtain ⟨rfl, rfl⟩ := h0
    split at e
    · rename_i hk
      cases e
      exact in_dic neg op hop hu pins s σ H x y v u Q I rx ry ⟨_, _, _, _, wb, wa, hk, by cases neg <;> exact scal_bl q⟩
    · cases e
  · cases e
theorem in_ok (hu : X.A.units + 65 < cLine) : OpR X (compareOp .In) (fun x y => rD X.kw (dIn false) true [x, y]) := in_core false .In rfl hu
theorem notIn_ok (hu : X.A.units + 65 < cLine) : OpR X (compareOp .NotIn) (fun x y => rD X.kw (dIn true) true [x, y]) := in_core true .NotIn rfl hu
theorem W1.isNon {K : KW} {H : Hp} {a : D} {x : V} (w : W1 K H a x) : decide (x = .non) = a.isNon := by
  obtain ⟨f, r⟩ := w
  cases r <;> rfl
theorem is_ok : OpR X (compareOp .Is) (fun x y => rD X.kw (dIs false) true [x, y]) := by
  intro pins s σ H x y v u Q I rx ry h
  obtain ⟨ds, d, w, e, q⟩ := h
  obtain ⟨a, b, rfl, wa, wb⟩ := w.two
  unfold dIs at e
  split at e
  · rename_i a' h0
    simp only [List.cons.injEq, and_true] at h0
    obtain ⟨rfl, rfl⟩ := h0
    cases e
    refine op_isN pins s σ H x y v u Q I rx ry ⟨wb.non, ?_⟩
    rw [wa.isNon]
    exact scal_bl q
  · rename_i i j h0
    simp only [List.cons.injEq, and_true] at h0
    obtain ⟨rfl, rfl⟩ := h0
    cases e
    exact op_isBl pins s σ H x y v u Q I rx ry ⟨_, _, wa.bl, wb.bl, scal_bl q⟩
  · cases e
theorem isNot_ok : OpR X (compareOp .IsNot) (fun x y => rD X.kw (dIs true) true [x, y]) := by
  intro pins s σ H x y v u Q I rx ry h
  obtain ⟨ds, d, w, e, q⟩ := h
  obtain ⟨a, b, rfl, wa, wb⟩ := w.two
  unfold dIs at e
  split at e
  · rename_i a' h0
    simp only [List.cons.injEq, and_true] at h0
    obtain ⟨rfl, rfl⟩ := h0
    cases e
    refine op_notN pins s σ H x y v u Q I rx ry ⟨wb.non, ?_⟩
    rw [wa.isNon]
    exact scal_bl q
  · rename_i i j h0
    simp only [List.cons.injEq, and_true] at h0
    obtain ⟨rfl, rfl⟩ := h0
    cases e
    exact op_notBl pins s σ H x y v u Q I rx ry ⟨_, _, wa.bl, wb.bl, scal_bl q⟩
  · cases e

/-! ### subscripts -/
theorem WL.atI {K : KW} {H : Hp} {ds : List D} {vs : List V} {i : Int} {d : D} (w : WL K H ds vs) (h : atI ds i = some d) : ∃ v, L2.atI vs i = some v ∧ W1 K H d v := by
  unfold L2.atI at h ⊢
  rw [← w.length]
  cases e : ixN ds.length i with
  | none => rw [e] at h; cases h
  | some j =>
    rw [e] at h
    exact w.get h
theorem ix_okD (hu : X.A.units + 65 < cLine) : IxR X (fun x y => rD X.kw dIx false [x, y]) := by
  intro value slice pins s σ H x y v u Q I rx ry h hs
  obtain ⟨ds, d, w, e, q⟩ := h
  obtain ⟨a, b, rfl, wa, wb⟩ := w.two
  unfold dIx at e
  split at e
  · rename_i o xs i h0
    simp only [List.cons.injEq, and_true] at h0
    obtain ⟨rfl, rfl⟩ := h0
    obtain ⟨p, vs, e1, s1, w1⟩ := wa.lst
    obtain ⟨z, ez, f, rz⟩ := w1.atI e
    exact ix_list value slice pins s σ H x y v u Q I rx ry ⟨_, _, _, z, e1, wb.int, s1, ez, q _ _ _ (Same.refl H) rz fun z => by cases z⟩ hs
  · rename_i xs i h0
    simp only [List.cons.injEq, and_true] at h0
    obtain ⟨rfl, rfl⟩ := h0
    obtain ⟨p, vs, e1, s1, w1⟩ := wa.tup
    obtain ⟨z, ez, f, rz⟩ := w1.atI e
    exact ix_tup value slice pins s σ H x y v u Q I rx ry ⟨_, _, _, z, e1, wb.int, s1, ez, q _ _ _ (Same.refl H) rz fun z => by cases z⟩ hs
  · rename_i t i h0
    simp only [List.cons.injEq, and_true] at h0
    obtain ⟨rfl, rfl⟩ := h0
    cases ec : L2.atI t i with
    | none => rw [ec] at e; cases e
    | some c =>
      rw [ec] at e
      cases e
      obtain ⟨e1, o1⟩ := wa.str
      have hc : c ∈ t := by
        obtain ⟨j, _, hj, _⟩ := atI_get ec
        exact List.mem_of_getElem? hj
      refine ix_str value slice pins s σ H x y v u Q I rx ry ⟨_, _, c, e1, wb.int, by rw [str_len]; exact (okS_iff.mp o1).2, ec, ?_⟩ hs
      refine q _ _ _ (Same.refl H) (Rep.str [c] (okS_iff.mpr ⟨fun c' hc' => ?_, by simp⟩)) fun z => by cases z
      rw [List.mem_singleton] at hc'
      rw [hc']
      exact (okS_iff.mp o1).1 c hc
  · rename_i o ks vs z h0
    simp only [List.cons.injEq, and_true] at h0
    obtain ⟨rfl, rfl⟩ := h0
    split at e
    · rename_i hk
      exact ix_dic hu value slice pins s σ H x y v u Q I rx ry ⟨_, _, _, _, _, wa, wb, hk, e, fun v1 ⟨f1, r1⟩ => q _ _ _ (Same.refl H) r1 fun z => by cases z⟩ hs
    · cases e
  · rename_i ks vs t h0
    simp only [List.cons.injEq, and_true] at h0
    obtain ⟨rfl, rfl⟩ := h0
    exact ix_dks hu value slice pins s σ H x y v u Q I rx ry ⟨_, _, _, _, wa, wb.str.1, e, fun v1 ⟨f1, r1⟩ => q _ _ _ (Same.refl H) r1 fun z => by cases z⟩ hs
  · cases e
/-- a part, by values -/
def rSl (K : KW) : V → Option Int → Option Int → Hp → VK → Prop := fun x lo hi => rD K (fun ds => match ds with | [a] => dSlc1 lo hi a | _ => none) true [x]
theorem slc_ok : SlR X (rSl X.kw) := by
  intro pins s σ H x v vl vu lo hi sl Q I rx hs pl pu h
  obtain ⟨ds, d, w, e, q⟩ := h
  obtain ⟨a, rfl, wa⟩ := w.one
  simp only at e
  unfold dSlc1 at e
  split at e
  · rename_i t
    cases e
    obtain ⟨e1, o1⟩ := wa.str
    refine sl_str pins s σ H x v vl vu lo hi sl Q I rx hs pl pu ⟨_, e1, by rw [str_len]; exact (okS_iff.mp o1).2, ?_⟩
    have e3 : cutS ⟨t.toArray⟩ lo hi = ⟨(cutL t lo hi).toArray⟩ := by
      unfold cutS cutL
      rw [str_len]
    rw [e3]
    exact scal_str (okS_sub o1 (fun c hc => mem_cutL hc) (cutL_len _ _ _)) q
  · rename_i xs
    split at e
    · rename_i im
      cases e
      obtain ⟨p, vs, e1, s1, w1⟩ := wa.tup
      refine sl_tupA pins s σ H x v vl vu lo hi sl Q I rx hs pl pu ⟨_, _, e1, s1, fun hw => ?_, fun _ => new_tup (immL_cut im _ _) (w1.cut _ _) q⟩
      have e2 : cutL xs lo hi = xs := by
        unfold cutL
        rw [w1.length, hw.1, hw.2, List.drop_zero, Nat.sub_zero, ← w1.length, List.take_length]
      rw [e2] at q
      exact same_tup s1 im w1 q
    · cases e
  · split at e
    · rename_i im
      cases e
      obtain ⟨p, vs, e1, s1, w1⟩ := wa.lst
      exact sl_list pins s σ H x v vl vu lo hi sl Q I rx hs pl pu ⟨_, _, e1, s1, new_lst (immL_cut im _ _) (w1.cut _ _) q⟩
    · cases e
  · cases e
end
end VL

/-! VL5: calls of built-ins and of texts' methods. -/
namespace VL
open PySem PySem.Spec PyProof.Rows L2 TL
def intsOf : List D → Option (List Int)
  | [] => some []
  | .int i :: r => (intsOf r).map (i :: ·)
  | _ :: _ => none
def strsOf : List D → Option (List (List Nat))
  | [] => some []
  | .str i :: r => (strsOf r).map (i :: ·)
  | _ :: _ => none
def dLen : List D → Option D
  | [.str s] => some (.int s.length)
  | [.lst _ s] => some (.int s.length)
  | [.tup s] => some (.int s.length)
  | [.dic _ ks _] => if ks.length ≤ LIM then some (.int ks.length) else none
  | _ => none
/-- d.get(x), d.get(x, y) -/
def dGet : List D → Option D
  | [.dic _ ks vs, x] => if (keyT x).isSome = true then some ((lkD ks vs x).getD .non) else none
  | [.dic _ ks vs, x, y] => if (keyT x).isSome = true then some ((lkD ks vs x).getD y) else none
  | _ => none
def dInt : List D → Option D
  | [.bl b] => some (.int (if b then 1 else 0))
  | [.int i] => some (.int i)
  | [.str s] => if s.length ≤ 640 then (PySem.intText? ⟨s.toArray⟩).map .int else none
  | _ => none
def strI (i : Int) : List Nat := (Str.ofString (toString i)).cps.toList
def dStr : List D → Option D
  | [.int i] => if i.natAbs.log2 < 1920 ∧ okS (strI i) = true then some (.str (strI i)) else none
  | _ => none
def dTuple : List D → Option D
  | [.lst _ xs] => if immL xs = true then some (.tup xs) else none
  | [.tup xs] => if immL xs = true then some (.tup xs) else none
  | _ => none
def dList : List D → Option D
  | [.lst _ xs] => if immL xs = true then some (.lst true xs) else none
  | [.tup xs] => if immL xs = true then some (.lst true xs) else none
  | _ => none
def dAbs : List D → Option D
  | [.int i] => some (.int (if i < 0 then -i else i))
  | _ => none
def dMax2 : List D → Option D
  | [.int i, .int j] => some (.int (if j > i then j else i))
  | _ => none
def dMin2 : List D → Option D
  | [.int i, .int j] => some (.int (if j < i then j else i))
  | _ => none
def dSum : List D → Option D
  | [.lst _ xs] => (intsOf xs).map fun ns => .int ns.sum
  | _ => none
def tyD : D → String
  | .non => "NoneType"
  | .bl _ => "bool"
  | .int _ => "int"
  | .str _ => "str"
  | .tup _ => "tuple"
  | .lst _ _ => "list"
  | .exc _ _ _ => ""
  | .cls _ _ _ _ => ""
  | .dic _ _ _ => ""
  | .dks _ _ => ""
  | .obj _ _ _ _ => ""
def D.plain : D → Bool
  | .exc _ _ _ => false
  | .cls _ _ _ _ => false
  | .dic _ _ _ => false
  | .dks _ _ => false
  | .obj _ _ _ _ => false
  | _ => true
def dIsi (T : String) : List D → Option D
  | [a] => if a.plain = true then (kitB (tyD a) T).map .bl else match a with
    | .exc _ _ _ => if T = "ValueError" then some (.bl true) else none
    | _ => none
  | _ => none
/-- isinstance(e, C), e an exception, C an own class -/
def dIsx : List D → Option D
  | [.exc c _ _, .cls _ _ yes no] => if yes.contains c = true then some (.bl true) else if no.contains c = true then some (.bl false) else none
  | _ => none
/-- e.f -/
def dFld (f : String) : List D → Option D
  | [.exc _ g x] => if g = f ∧ f ≠ "" then some x else none
  | _ => none
/-- the first place of an equal one -/
def idxD (y : D) : List D → Option Nat
  | [] => none
  | x :: xs => if eqD x y = true then some 0 else (idxD y xs).map (· + 1)
/-- (a, b, ..).index(y) -/
def dIdx (ds : List D) : Option D := match ds.getLast? with
  | some y => if depthL ds.dropLast ≤ 64 ∧ y.depth ≤ 64 then (idxD y ds.dropLast).map fun (j : Nat) => D.int (j : Int) else none
  | none => none
def dCntL : List D → Option D
  | [.lst _ xs, y] => if depthL xs ≤ 64 ∧ y.depth ≤ 64 then some (.int (xs.countP fun x => eqD x y)) else none
  | _ => none
def dIdxL : List D → Option D
  | [.lst _ xs, y] => if depthL xs ≤ 64 ∧ y.depth ≤ 64 then (idxD y xs).map fun (j : Nat) => D.int (j : Int) else none
  | _ => none
def dJoin : List D → Option D
  | [.str a, .lst _ xs] => (strsOf xs).bind fun ys => if (ys.map List.length).sum + ys.length * a.length ≤ LIM then some (.str (joinL a ys)) else none
  | [.str a, .tup xs] => (strsOf xs).bind fun ys => if (ys.map List.length).sum + ys.length * a.length ≤ LIM then some (.str (joinL a ys)) else none
  | _ => none
def dSplit : List D → Option D
  | [.str a, .str b] => if b ≠ [] ∧ b.all (fun c => decide (c < 256)) = true ∧ a.length + 2 ≤ LIM then some (.lst true ((spl b 0 [] a).map .str)) else none
  | _ => none
def dFind : List D → Option D
  | [.str a, .str b] => some (.int (Txt.find ⟨a.toArray⟩ ⟨b.toArray⟩))
  | _ => none
def dCount : List D → Option D
  | [.str a, .str b] => some (.int (Txt.count ⟨a.toArray⟩ ⟨b.toArray⟩))
  | _ => none
section
variable {K : KW} {H : Hp}
theorem WL.ints : ∀ {ds : List D} {vs : List V} {ns : List Int}, WL K H ds vs → intsOf ds = some ns → vs = ns.map V.int
  | _, _, _, .nil, e => by cases e; rfl
  | .int i :: r, v :: vs, ns, .cons w t, e => by
    simp only [intsOf, Option.map_eq_some_iff] at e
    obtain ⟨ms, e1, rfl⟩ := e
    rw [w.int, WL.ints t e1]; rfl
  | .non :: _, _, _, .cons _ _, e => by cases e
  | .bl _ :: _, _, _, .cons _ _, e => by cases e
  | .str _ :: _, _, _, .cons _ _, e => by cases e
  | .tup _ :: _, _, _, .cons _ _, e => by cases e
  | .lst _ _ :: _, _, _, .cons _ _, e => by cases e
  | .exc _ _ _ :: _, _, _, .cons _ _, e => by cases e
  | .cls _ _ _ _ :: _, _, _, .cons _ _, e => by cases e
  | .dic _ _ _ :: _, _, _, .cons _ _, e => by cases e
  | .dks _ _ :: _, _, _, .cons _ _, e => by cases e
  | .obj _ _ _ _ :: _, _, _, .cons _ _, e => by cases e
theorem WL.strs : ∀ {ds : List D} {vs : List V} {ns : List (List Nat)}, WL K H ds vs → strsOf ds = some ns → vs = (ns.map fun l => (⟨l.toArray⟩ : Str)).map V.str ∧ ∀ l ∈ ns, okS l = true
  | _, _, _, .nil, e => by cases e; exact ⟨rfl, by simp⟩
  | .str i :: r, v :: vs, ns, .cons w t, e => by
    simp only [strsOf, Option.map_eq_some_iff] at e
    obtain ⟨ms, e1, rfl⟩ := e
    obtain ⟨e2, o⟩ := w.str
    obtain ⟨e3, o2⟩ := WL.strs t e1
    refine ⟨by rw [e2, e3]; rfl, fun l hl => ?_⟩
    rcases List.mem_cons.mp hl with q | q
    · rw [q]; exact o
    · exact o2 l q
  | .non :: _, _, _, .cons _ _, e => by cases e
  | .bl _ :: _, _, _, .cons _ _, e => by cases e
  | .int _ :: _, _, _, .cons _ _, e => by cases e
  | .tup _ :: _, _, _, .cons _ _, e => by cases e
  | .lst _ _ :: _, _, _, .cons _ _, e => by cases e
  | .exc _ _ _ :: _, _, _, .cons _ _, e => by cases e
  | .cls _ _ _ _ :: _, _, _, .cons _ _, e => by cases e
  | .dic _ _ _ :: _, _, _, .cons _ _, e => by cases e
  | .dks _ _ :: _, _, _, .cons _ _, e => by cases e
  | .obj _ _ _ _ :: _, _, _, .cons _ _, e => by cases e
theorem WL.ofStrs : ∀ {ns : List (List Nat)}, (∀ l ∈ ns, okS l = true) → WL K H (ns.map .str) ((ns.map fun l => (⟨l.toArray⟩ : Str)).map V.str)
  | [], _ => .nil
  | l :: r, h => .cons ⟨[], .str l (h l List.mem_cons_self)⟩ (WL.ofStrs fun m hm => h m (List.mem_cons_of_mem _ hm))
theorem immL_strs (ns : List (List Nat)) : immL (ns.map .str) = true := immL_iff.mpr fun x hx => by
  obtain ⟨l, _, rfl⟩ := List.mem_map.mp hx
  rfl
theorem W1.ty {d : D} {x : V} (w : W1 K H d x) (h : d.plain = true) : TyX K H x (.type (tyD d)) := by
  obtain ⟨f, r⟩ := w
  cases r with
  | exc0 _ _ _ => cases h
  | exc1 _ _ _ _ _ _ _ _ => cases h
  | cls _ => cases h
  | dicO _ _ _ _ _ => cases h
  | dicF _ _ _ _ => cases h
  | dks _ _ _ => cases h
  | objO _ _ _ _ _ _ _ => cases h
  | objF _ _ _ _ _ _ => cases h
  | non => exact .base .non
  | bl b => exact .base (.bl b)
  | int b => exact .base (.int b)
  | str b _ => exact .base (.str _)
  | tup q _ =>
    rcases q with (q | ⟨o, q⟩) | ⟨o, its, n, q, c, _⟩
    · exact .base (.tup q)
    · exact .fTuple q
    · exact .kTuple q c
  | own q _ _ => exact .base (.lst q)
  | frz q _ =>
    rcases q with ⟨o, q⟩ | ⟨o, its, n, q, c, _⟩
    · exact .base (.frz q)
    · exact .kList q c
theorem joinL_mem : ∀ {S : List Nat} {ps : List (List Nat)} {c : Nat}, c ∈ joinL S ps → c ∈ S ∨ ∃ p ∈ ps, c ∈ p
  | S, [], c, h => by simp [joinL] at h
  | S, [p], c, h => .inr ⟨p, by simp, by simpa [joinL] using h⟩
  | S, p :: q :: r, c, h => by
    simp only [joinL, List.mem_append] at h
    rcases h with h | h | h
    · exact .inr ⟨p, by simp, h⟩
    · exact .inl h
    · rcases joinL_mem h with h | ⟨p', hp, h⟩
      · exact .inl h
      · exact .inr ⟨p', List.mem_cons_of_mem _ hp, h⟩
theorem joinL_len : ∀ (S : List Nat) (ps : List (List Nat)), (joinL S ps).length ≤ (ps.map List.length).sum + ps.length * S.length
  | S, [] => by simp [joinL]
  | S, [p] => by simp [joinL]
  | S, p :: q :: r => by
    have := joinL_len S (q :: r)
    simp only [joinL, List.length_append, List.map_cons, List.sum_cons, List.length_cons, Nat.add_mul] at this ⊢
    omega
theorem spl_mem {S : List Nat} : ∀ (l : List Nat) (k : Nat) (acc : List Nat), ∀ p ∈ spl S k acc l, (∀ c ∈ p, c ∈ acc ∨ c ∈ l) ∧ p.length ≤ acc.length + l.length
  | [], k, acc, p, h => by
    rw [spl_nil] at h
    simp only [List.mem_singleton] at h
    subst h
    exact ⟨fun c hc => .inl hc, by simp⟩
  | c :: r, 0, acc, p, h => by
    simp only [spl] at h
    split at h
    · rcases List.mem_cons.mp h with e | h
      · subst e
        exact ⟨fun c hc => .inl hc, by simp⟩
      · obtain ⟨h1, h2⟩ := spl_mem r _ _ p h
        refine ⟨fun d hd => ?_, by simp only [List.length_nil, List.length_cons] at h2 ⊢; omega⟩
        rcases h1 d hd with z | z
        · cases z
        · exact .inr (List.mem_cons_of_mem _ z)
    · obtain ⟨h1, h2⟩ := spl_mem r _ _ p h
      refine ⟨fun d hd => ?_, by simp only [List.length_append, List.length_cons, List.length_nil] at h2 ⊢; omega⟩
      rcases h1 d hd with z | z
      · rcases List.mem_append.mp z with z | z
        · exact .inl z
        · simp only [List.mem_singleton] at z
          exact .inr (by rw [z]; exact List.mem_cons_self)
      · exact .inr (List.mem_cons_of_mem _ z)
  | c :: r, k + 1, acc, p, h => by
    simp only [spl] at h
    obtain ⟨h1, h2⟩ := spl_mem r _ _ p h
    refine ⟨fun d hd => ?_, by simp only [List.length_cons] at h2 ⊢; omega⟩
    rcases h1 d hd with z | z
    · exact .inl z
    · exact .inr (List.mem_cons_of_mem _ z)
theorem spl_ok {S l : List Nat} (h : okS l = true) : ∀ p ∈ spl S 0 [] l, okS p = true := fun p hp => by
  obtain ⟨h1, h2⟩ := spl_mem l 0 [] p hp
  refine okS_sub h (fun c hc => ?_) (by simpa using h2)
  rcases h1 c hc with z | z
  · cases z
  · exact z
theorem spl_len (S : List Nat) : ∀ (l : List Nat) (k : Nat) (acc : List Nat), (spl S k acc l).length ≤ l.length + 1
  | [], k, acc => by rw [spl_nil]; simp
  | c :: r, 0, acc => by
    simp only [spl]
    split
    · have := spl_len S r (S.length - 1) []
      simp only [List.length_cons]
      omega
    · have := spl_len S r 0 (acc ++ [c])
      simp only [List.length_cons]
      omega
  | c :: r, k + 1, acc => by
    have := spl_len S r k acc
    simp only [spl, List.length_cons]
    omega
end
section
variable {X : Cx}
theorem WL.ofTwo {K : KW} {H : Hp} {a b : D} {vs : List V} (w : WL K H [a, b] vs) : ∃ x y, vs = [x, y] ∧ W1 K H a x ∧ W1 K H b y := by
  cases w with
  | cons r t => cases t with
    | cons r2 t => cases t; exact ⟨_, _, rfl, r, r2⟩
theorem len_ok : CallR X (.builtin "len") (rD X.kw dLen true) := by
  intro pins s σ H xs us Q I r h
  obtain ⟨ds, d, w, e, q⟩ := h
  unfold dLen at e
  split at e
  · obtain ⟨x, rfl, w1⟩ := w.ofOne
    cases e
    obtain ⟨e1, o1⟩ := w1.str
    exact call_len_str pins s σ H [x] us Q I r ⟨_, by rw [e1], by rw [str_len]; exact (okS_iff.mp o1).2, by rw [str_len]; exact scal_int q⟩
  · obtain ⟨x, rfl, w1⟩ := w.ofOne
    cases e
    obtain ⟨p, vs, e1, s1, w2⟩ := w1.lst
    exact call_len_seq pins s σ H [x] us Q I r ⟨p, vs, by rw [e1], .inl s1, by rw [← w2.length]; exact scal_int q⟩
  · obtain ⟨x, rfl, w1⟩ := w.ofOne
    cases e
    obtain ⟨p, vs, e1, s1, w2⟩ := w1.tup
    exact call_len_seq pins s σ H [x] us Q I r ⟨p, vs, by rw [e1], .inr s1, by rw [← w2.length]; exact scal_int q⟩
  · obtain ⟨x, rfl, w1⟩ := w.ofOne
    split at e
    · rename_i hl
      cases e
      obtain ⟨a, kvs, rfl, da, kr, wk, wv⟩ := w1.dic
      obtain ⟨hs0, xs, rel, dd⟩ := dk_at I da kr wk
      cases r with
      | cons r1 rn =>
        cases rn
        cases r1
        have dk : s.heap.DictKeyed (nestedKind X.prog X.w) a (pairsH xs) := ⟨xs, dd, rfl⟩
        have en : (pairsH xs).length = kvs.length := by rw [pairsH_length, ← Paired.length rel]
        have hz : kvs.length ≤ LIM := by rw [← kr.len]; exact hl
        have := lim_eq
        have l3 : (LIM : Nat) = 16777216 := rfl
        refine PyProof.Rows.call_len_slot (n := (pairsH xs).length) dk.typeIs F.slot_dict_len (fun Q' hq => len_keyed hs0 dk hq) (by omega) (by omega) ?_
        rw [en, ← kr.len]
        exact ⟨.int _, H, I.tok _, ⟨_, rfl⟩, scal_int q⟩
    · cases e
  · cases e
theorem get_ok (hu : X.A.units + 65 < cLine) : MtR X "dict.get" (fun x xs => rD X.kw dGet false (x :: xs)) := by
  intro pins s σ H x xs v us Q I rx rs h
  obtain ⟨ds, d, w, e, q⟩ := h
  have look : ∀ {o : Bool} {ks vs : List D} {y : D} {yv : V} {yu : Value}, W1 X.kw H (.dic o ks vs) x → W1 X.kw H y yv → RelV yv yu → (keyT y).isSome = true →
      ∃ (a : Addr) (k : NestedKey) (b : Addr) (kv : List (NestedKey × Value)), v = .ref a ∧ yu = .ref b ∧ (nestedKind X.prog X.w).is s.heap k b ∧ (a == sysModules) = false ∧ s.heap.DictKeyed (nestedKind X.prog X.w) a kv ∧
        (∀ (zd : D) (zv : V) (zu : Value), W1 X.kw H zd zv → RelV zv zu → ∃ rv, RelV rv ((valueAt kv k).getD zu) ∧ W1 X.kw H ((lkD ks vs y).getD zd) rv) := by
    intro o ks vs y yv yu w1 w2 ry hk
    obtain ⟨a, kvs, rfl, da, kr, wk, wv⟩ := w1.dic
    obtain ⟨k, hk⟩ := Option.isSome_iff_exists.mp hk
    obtain ⟨b, rfl, rfl, ki⟩ := key_at I w2 hk ry
    cases rx
    obtain ⟨hs0, xs, rel, dd⟩ := dk_at I da kr wk
    refine ⟨a, k, b, pairsH xs, rfl, rfl, ki, hs0, ⟨xs, dd, rfl⟩, fun zd zv zu wz rz => ?_⟩
    rw [valueAt_pairsH]
    cases el : lkD ks vs y with
    | none =>
      rw [(rel.at_ k).2 ((lk_at kr wv hk).2 el)]
      exact ⟨zv, rz, wz⟩
    | some d1 =>
      obtain ⟨b2, v2, e1, w3⟩ := (lk_at kr wv hk).1 d1 el
      obtain ⟨u2, e2, r2⟩ := (rel.at_ k).1 b2 v2 e1
      rw [e2]
      exact ⟨v2, r2, w3⟩
  unfold dGet at e
  split at e
  · rename_i o ks vs y
    split at e
    rotate_left
    · cases e
    rename_i hk
    cases e
    obtain ⟨x', yv, ex, w1, w2⟩ := w.ofTwo
    cases ex
    cases rs with
    | cons ry rn =>
      cases rn
      obtain ⟨a, k, b, kv, rfl, rfl, ki, hs0, dk, out⟩ := look w1 w2 ry hk
      obtain ⟨rv, r1, f1, w3⟩ := out .non .non .none ⟨[], .non⟩ rfl
      exact get_keyed (room8 hu) ki hs0 dk ⟨rv, H, I.tok _, r1, q _ _ _ (Same.refl H) w3 fun z => by cases z⟩
  · rename_i o ks vs y z
    split at e
    rotate_left
    · cases e
    rename_i hk
    cases e
    cases w with
    | cons w1 wr =>
      obtain ⟨yv, zv, ex, w2, w3⟩ := WL.ofTwo wr
      subst ex
      cases rs with
      | cons ry rn =>
        cases rn with
        | cons rz rn =>
          cases rn
          obtain ⟨a, k, b, kv, rfl, rfl, ki, hs0, dk, out⟩ := look w1 w2 ry hk
          obtain ⟨rv, r1, f1, w4⟩ := out z zv _ w3 rz
          exact getOr_keyed (room8 hu) ki hs0 dk ⟨rv, H, I.tok _, r1, q _ _ _ (Same.refl H) w4 fun z => by cases z⟩
  · cases e
theorem int_ok : CallR X (.type "int") (rD X.kw dInt true) := by
  intro pins s σ H xs us Q I r h
  obtain ⟨ds, d, w, e, q⟩ := h
  unfold dInt at e
  split at e
  · obtain ⟨x, rfl, w1⟩ := w.ofOne
    cases e
    exact call_int1 pins s σ H [x] us Q I r (.inr ⟨_, by rw [w1.bl], scal_int q⟩)
  · obtain ⟨x, rfl, w1⟩ := w.ofOne
    cases e
    exact call_int1 pins s σ H [x] us Q I r (.inl ⟨_, by rw [w1.int], scal_int q⟩)
  · obtain ⟨x, rfl, w1⟩ := w.ofOne
    split at e
    · rename_i hl
      simp only [Option.map_eq_some_iff] at e
      obtain ⟨n, en, rfl⟩ := e
      obtain ⟨e1, _⟩ := w1.str
      exact call_int_str pins s σ H [x] us Q I r ⟨_, n, by rw [e1], en, by rw [str_len]; exact hl, scal_int q⟩
    · cases e
  · cases e
theorem str_ok : CallR X (.type "str") (rD X.kw dStr true) := by
  intro pins s σ H xs us Q I r h
  obtain ⟨ds, d, w, e, q⟩ := h
  unfold dStr at e
  split at e
  · obtain ⟨x, rfl, w1⟩ := w.ofOne
    split at e
    · rename_i hl
      cases e
      exact call_str_int pins s σ H [x] us Q I r ⟨_, by rw [w1.int], hl.1, scal_str hl.2 q⟩
    · cases e
  · cases e
theorem tuple_ok : CallR X (.type "tuple") (rD X.kw dTuple true) := by
  intro pins s σ H xs us Q I r h
  obtain ⟨ds, d, w, e, q⟩ := h
  unfold dTuple at e
  split at e
  · obtain ⟨x, rfl, w1⟩ := w.ofOne
    split at e
    · rename_i im
      cases e
      obtain ⟨p, vs, e1, s1, w2⟩ := w1.lst
      exact call_tuple_of pins s σ H [x] us Q I r ⟨p, vs, by rw [e1], .inl ⟨s1, new_tup im w2 q⟩⟩
    · cases e
  · obtain ⟨x, rfl, w1⟩ := w.ofOne
    split at e
    · rename_i im
      cases e
      obtain ⟨p, vs, e1, s1, w2⟩ := w1.tup
      exact call_tuple_of pins s σ H [x] us Q I r ⟨p, vs, by rw [e1], .inr ⟨s1, same_tup s1 im w2 q⟩⟩
    · cases e
  · cases e
theorem list_ok : CallR X (.type "list") (rD X.kw dList true) := by
  intro pins s σ H xs us Q I r h
  obtain ⟨ds, d, w, e, q⟩ := h
  unfold dList at e
  split at e
  · obtain ⟨x, rfl, w1⟩ := w.ofOne
    split at e
    · rename_i im
      cases e
      obtain ⟨p, vs, e1, s1, w2⟩ := w1.lst
      exact call_list_of pins s σ H [x] us Q I r ⟨p, vs, by rw [e1], .inl s1, new_lst im w2 q⟩
    · cases e
  · obtain ⟨x, rfl, w1⟩ := w.ofOne
    split at e
    · rename_i im
      cases e
      obtain ⟨p, vs, e1, s1, w2⟩ := w1.tup
      exact call_list_of pins s σ H [x] us Q I r ⟨p, vs, by rw [e1], .inr s1, new_lst im w2 q⟩
    · cases e
  · cases e
theorem abs_ok : CallR X (.builtin "abs") (rD X.kw dAbs true) := by
  intro pins s σ H xs us Q I r h
  obtain ⟨ds, d, w, e, q⟩ := h
  unfold dAbs at e
  split at e
  · obtain ⟨x, rfl, w1⟩ := w.ofOne
    cases e
    exact call_abs pins s σ H [x] us Q I r ⟨_, by rw [w1.int], scal_int q⟩
  · cases e
theorem max2_ok (hc : X.calm = true) : CallR X (.builtin "max") (rD X.kw dMax2 true) := by
  intro pins s σ H xs us Q I r h
  obtain ⟨ds, d, w, e, q⟩ := h
  unfold dMax2 at e
  split at e
  · obtain ⟨x, y, rfl, w1, w2⟩ := w.ofTwo
    cases e
    exact call_max2 hc pins s σ H [x, y] us Q I r ⟨_, _, by rw [w1.int, w2.int], scal_int q⟩
  · cases e
theorem min2_ok (hc : X.calm = true) : CallR X (.builtin "min") (rD X.kw dMin2 true) := by
  intro pins s σ H xs us Q I r h
  obtain ⟨ds, d, w, e, q⟩ := h
  unfold dMin2 at e
  split at e
  · obtain ⟨x, y, rfl, w1, w2⟩ := w.ofTwo
    cases e
    exact call_min2 hc pins s σ H [x, y] us Q I r ⟨_, _, by rw [w1.int, w2.int], scal_int q⟩
  · cases e
theorem sum_ok (hc : X.calm = true) : CallR X (.builtin "sum") (rD X.kw dSum true) := by
  intro pins s σ H xs us Q I r h
  obtain ⟨ds, d, w, e, q⟩ := h
  unfold dSum at e
  split at e
  · obtain ⟨x, rfl, w1⟩ := w.ofOne
    simp only [Option.map_eq_some_iff] at e
    obtain ⟨ns, en, rfl⟩ := e
    obtain ⟨p, vs, e1, s1, w2⟩ := w1.lst
    exact cr_sum hc pins s σ H [x] us Q I r ⟨p, ns, by rw [e1], by rw [← w2.ints en]; exact s1, scal_int q⟩
  · cases e
/-- an exception's object -/
theorem xc_inst {K : KW} {P : Program} {w : World} {H : Hp} {h : Heap} (ok : HOk P w H h) {c f : String} {d : D} {x : V} {fp : List Addr} (r : Rep K H (.exc c f d) x fp) :
    ∃ a C oe od, x = .ref a ∧ XIs K c C ∧ PySem.W.InstAt h a oe C od := by
  have inst : ∀ {a C : Addr} {dx : Option Addr} {od : Option Obj}, H a = some (XcO (.ref C) dx a) → (match dx with
      | some dd => ∃ o, od = some o ∧ h.get? dd = some o
      | none => od = none) → ∃ oe, PySem.W.InstAt h a oe C od := fun {a C dx od} e q => by
    have ob : ObjOk P w H h a (XcO (.ref C) dx a) := ok a _ e
    obtain ⟨⟨oe, vs, ho, hz, hd⟩, _, _⟩ := ob
    obtain ⟨oc, oi, oda, osl⟩ := oe
    obtain ⟨h1, h2⟩ := hz
    dsimp only at h1 h2 hd
    subst h1 h2 hd
    refine ⟨_, ho, rfl, rfl, ?_⟩
    cases oi with
    | none => cases q; trivial
    | some dd =>
      obtain ⟨o, rfl, q⟩ := q
      exact q
  cases r with
  | exc0 ci _ e =>
    obtain ⟨oe, J⟩ := inst (od := none) e rfl
    exact ⟨_, _, oe, none, rfl, ci, J⟩
  | exc1 ci _ _ _ e e' _ _ =>
    have hx := ok _ _ e'
    obtain ⟨mA, hns, _⟩ := hx
    obtain ⟨o, ho, _⟩ := lookIn_ns hns
    obtain ⟨oe, J⟩ := inst (od := some o) e ⟨o, rfl, ho⟩
    exact ⟨_, _, oe, some o, rfl, ci, J⟩
theorem isi_ok {T : String} : CallR X (.builtin "isinstance") (fun vs H Q => ∃ x, vs = [x, .ty T] ∧ rD X.kw (dIsi T) true [x] H Q) := by
  intro pins s σ H xs us Q I r h
  obtain ⟨x, rfl, ds, d, w, e, q⟩ := h
  unfold dIsi at e
  split at e
  · split at e
    · rename_i hpl
      simp only [Option.map_eq_some_iff] at e
      obtain ⟨b, eb, rfl⟩ := e
      obtain ⟨x', ex, w1⟩ := w.ofOne
      cases ex
      exact call_isi pins s σ H [x, .ty T] us Q I r ⟨x, .ty T, _, _, b, rfl, .ty T, w1.ty hpl, kit_ty eb, scal_bl q⟩
    · split at e
      · split at e
        · rename_i hT
          cases e
          subst hT
          obtain ⟨x', ex, f1, r1⟩ := w.ofOne
          cases ex
          obtain ⟨a, C, oe, od, rfl, ci, J⟩ := xc_inst I.hok r1
          cases r with
          | cons ra rr =>
            cases rr with
            | cons rb rr =>
              cases rr
              cases ra
              cases rb
              exact PySem.W.kia_one (PySem.W.kitx_exc ci.cl ci.ga ci.gt ci.sub ci.ha ci.hn ci.ht ci.hm) I.kIn J ci.ve (fun z => nomatch z) fun tk => ⟨.bl true, H, I.tok tk, rfl, scal_bl q⟩
        · cases e
      · cases e
  · cases e
theorem isx_ok : CallR X (.builtin "isinstance") (rD X.kw dIsx true) := by
  intro pins s σ H xs us Q I r h
  obtain ⟨ds, d, w, e, q⟩ := h
  unfold dIsx at e
  split at e
  rotate_left
  · cases e
  rename_i c f x0 c2 mk yes no
  obtain ⟨x, y, rfl, ⟨f1, r1⟩, ⟨f2, r2⟩⟩ := w.ofTwo
  obtain ⟨a, C, oe, od, rfl, ci, J⟩ := xc_inst I.hok r1
  cases r2 with
  | cls hc =>
    rename_i C2
    have fin : ∀ b, PySem.W.kitOne X.kw (.ref C) (.ref C2) = some b → some (D.bl b) = some d → wpAny (model X.prog X.w) X.A (call (.builtin "isinstance") us) (EP X pins σ Q) X.xe s := fun b eb ed => by
      cases ed
      cases r with
      | cons ra rr =>
        cases rr with
        | cons rb rr =>
          cases rr
          cases ra
          cases rb
          exact PySem.W.kia_one (PySem.W.kitx_exc ci.cl ci.ga ci.gt ci.sub ci.ha ci.hn ci.ht ci.hm) I.kIn J eb (fun z => nomatch z) fun tk => ⟨.bl b, H, I.tok tk, rfl, scal_bl q⟩
    split at e
    · rename_i hy
      obtain ⟨E, h1, h2, _⟩ := hc.y c (by simpa using hy)
      rw [ci.gc] at h1
      cases h1
      exact fin true h2 e
    · split at e
      · rename_i hn
        obtain ⟨E, h1, h2, _⟩ := hc.n c (by simpa using hn)
        rw [ci.gc] at h1
        cases h1
        exact fin false h2 e
      · cases e
theorem fld_pe {f : String} {o : Expr} {pos : Pos} {t : TE} (ho : PE X o t) (hb : attributeBase o (Str.ofString f) X.env (eval o X.env) = eval o X.env) :
    PE X (.Attribute o (Str.ofString f) pos) (fun σ H Q => t σ H fun x H1 => rD X.kw (dFld f) false [x] H1 Q) := by
  refine ⟨fun pins s σ H Q I h => attr_of hb (thn (ho.run pins s σ H _ I h) fun u s1 hh => ?_)⟩
  obtain ⟨x, H1, I1, rx, ds, d, w, e, q⟩ := hh
  unfold dFld at e
  split at e
  rotate_left
  · cases e
  rename_i c g x0
  split at e
  rotate_left
  · cases e
  rename_i hg
  cases e
  obtain ⟨rfl, hne⟩ := hg
  obtain ⟨x', ex, f1, r1⟩ := w.ofOne
  cases ex
  obtain ⟨a, C, oe, od, hxa, ci, J⟩ := xc_inst I1.hok r1
  cases r1 with
  | exc0 _ _ _ => exact absurd rfl hne
  | @exc1 _ C3 dx3 _ _ _ v3 ci' hno _ _ ea ed _ rv =>
    cases hxa
    cases rx
    have hx : ObjOk X.prog X.w H1 s1.heap _ (.xd _) := I1.hok _ _ ed
    obtain ⟨mA, hns, hr⟩ := hx
    obtain ⟨oo, hoo, hl⟩ := lookIn_ns hns
    have lk : List.lookup (Str.ofString g) [(Str.ofString g, v3)] = some v3 := by simp [List.lookup]
    have rl := hr (Str.ofString g)
    rw [lk] at rl
    obtain ⟨u, hu, ru⟩ := RelO.some_of rl
    have ob : ObjOk X.prog X.w H1 s1.heap a (XcO _ _ a) := I1.hok a _ ea
    obtain ⟨⟨oe2, vs2, ho2, hz2, hd2⟩, _, _⟩ := ob
    have J2 : PySem.W.InstAt s1.heap a oe2 _ (some oo) := ⟨ho2, hz2.1, by unfold PySem.W.notCls; rw [hd2] <;> rfl, by rw [hz2.2]; exact hoo⟩
    exact HandSPX.exc_get I1.kIn J2 ci'.ga ci'.gt ci'.sub (PySem.W.findObj_own ci'.hd hno rfl (by rw [hl, hu])) (handed_of ru) ⟨_, H1, I1.tok _, ru, q _ _ _ (Same.refl H1) rv fun z => by cases z⟩
/-! ### index, count -/
theorem idxD_spec {y : D} : ∀ {xs : List D} {j : Nat}, idxD y xs = some j → ∃ z, xs[j]? = some z ∧ eqD z y = true ∧ ∀ (m : Nat) (z : D), m < j → xs[m]? = some z → eqD z y = false
  | [], j, h => by cases h
  | x :: xs, j, h => by
    simp only [idxD] at h
    split at h
    · rename_i e
      cases h
      exact ⟨x, rfl, e, fun m z hm => absurd hm (by omega)⟩
    · rename_i e
      simp only [Option.map_eq_some_iff] at h
      obtain ⟨k, hk, rfl⟩ := h
      obtain ⟨z, h1, h2, h3⟩ := idxD_spec hk
      refine ⟨z, by simpa using h1, h2, fun m u hm hu => ?_⟩
      cases m with
      | zero => simp only [List.getElem?_cons_zero, Option.some.injEq] at hu; subst hu; simpa using e
      | succ m => exact h3 m u (by omega) (by simpa using hu)
/-- what the items of a row are to the machine -/
theorem row_reads {pins : List (Addr × Obj)} {s : Shared} {σ : L2.St} {H : Hp} {xs : List D} {vs : List V} {its : List Value} {y : D} {v : V} {u : Value} (I : Inv X pins σ H s) (hu : X.A.units + 65 < cLine) (wx : WL X.kw H xs vs) (rv : Vals vs its) (wy : W1 X.kw H y v) (ru : RelV v u)
    (dx : depthL xs ≤ 64) (dy : y.depth ≤ 64) : ∃ e : Value → Bool, (∀ z, z ∈ its.toArray → SeqAt.EqAt X.A.in1 s z u (e z)) ∧ its.map e = xs.map (fun x => eqD x y) := by
  have dps : ∀ {xs : List D} {vs : List V}, WL X.kw H xs vs → depthL xs < 100 → DpAll X.kw H vs (toPys xs) ∧ PyData.canLayAll0 (toPys xs) = true := by
    intro xs
    induction xs with
    | nil => intro vs w _; cases w; simp only [toPys, PyData.canLayAll0]; exact ⟨.nil, trivial⟩
    | cons x xs ih =>
      intro vs w h
      cases w with
      | cons r rs =>
        obtain ⟨f, r⟩ := r
        simp only [depthL] at h
        obtain ⟨h1, h2⟩ := r.dp (by omega)
        obtain ⟨h3, h4⟩ := ih rs (by omega)
        simp only [toPys, PyData.canLayAll0]
        exact ⟨.cons h1 h3, by rw [h2, h4]; rfl⟩
  obtain ⟨pa, la⟩ := dps wx (by omega)
  obtain ⟨fy, ry⟩ := wy
  obtain ⟨pb, lb⟩ := ry.dp (by omega)
  obtain ⟨bs, r1⟩ := Dp.reads I _ v u pb ru
  obtain ⟨as, r2⟩ := Dp.readsAll I _ vs its pa rv
  have hm := SeqAt.readsAll_map _ _ _ la r2
  have k1 := depthAll_toPy xs
  have k2 := depth_toPy y
  refine ⟨fun z => PyData.eqv (SeqAt.readOf s.heap z) (toPy y), SeqAt.items_eqAt (vs := its.toArray) r2 r1 la lb ?_, ?_⟩
  · have := Nat.min_le_right (PyData.depthAll (toPys xs)) (toPy y).depth
    omega
  · have e1 : its.map (fun z => PyData.eqv (SeqAt.readOf s.heap z) (toPy y)) = (its.map (SeqAt.readOf s.heap)).map fun z => PyData.eqv z (toPy y) := by rw [List.map_map]; rfl
    rw [e1, hm, toPys_map, List.map_map]
    refine List.map_congr_left fun x hx => ?_
    have dl : ∀ {xs : List D}, x ∈ xs → x.depth ≤ depthL xs := by
      intro xs
      induction xs with
      | nil => intro h; cases h
      | cons a xs ih =>
        intro h
        simp only [depthL]
        rcases List.mem_cons.mp h with q | q
        · subst q; omega
        · have := ih q; omega
    have := dl hx
    exact eqv_toPy x y (by omega) (by omega)
theorem row_hit {xs : List D} {its : List Value} {y : D} {e : Value → Bool} {j : Nat} (hm : its.map e = xs.map (fun x => eqD x y)) (h : idxD y xs = some j) :
    ∃ hj : j < its.toArray.size, e its.toArray[j] = true ∧ ∀ (m : Nat) (hm : m < its.toArray.size), m < j → e its.toArray[m] = false := by
  obtain ⟨z, h1, h2, h3⟩ := idxD_spec h
  have hl : its.length = xs.length := by
    have := congrArg List.length hm
    simpa using this
  have at_ : ∀ (m : Nat) (hi : m < its.length), ∃ z, xs[m]? = some z ∧ e its[m] = eqD z y := fun m hi => by
    have q : (its.map e)[m]? = (xs.map (fun x => eqD x y))[m]? := by rw [hm]
    have hx : m < xs.length := by omega
    rw [List.getElem?_map, List.getElem?_map, List.getElem?_eq_getElem hi, List.getElem?_eq_getElem hx] at q
    exact ⟨xs[m], List.getElem?_eq_getElem hx, Option.some.inj q⟩
  have hj : j < its.length := by
    have := (List.getElem?_eq_some_iff.mp h1).1
    omega
  refine ⟨by simpa using hj, ?_, fun m hm' hlt => ?_⟩
  · obtain ⟨z', a, b⟩ := at_ j hj
    rw [h1] at a
    cases a
    simpa using b.trans h2
  · obtain ⟨z', a, b⟩ := at_ m (by simpa using hm')
    simpa using b.trans (h3 m z' hlt a)
theorem idx_core {pins : List (Addr × Obj)} {s : Shared} {σ : L2.St} {H : Hp} {ds : List D} {d : D} {vs : List V} {its : List Value} {v : V} {u : Value} {p : Addr} {Q : VK} (I : Inv X pins σ H s) (hu : X.A.units + 65 < cLine)
    (ho : s.heap.get? p = some { cls := .type "tuple", data := .seq its.toArray }) (w : WL X.kw H ds (vs ++ [v])) (rv : Vals vs its) (ru : RelV v u) (e : dIdx ds = some d) (q : ∀ z H' f, Same H H' → Rep X.kw H' d z f → (true = true → ∀ c ∈ f, H c = none) → Q z H') :
    wpAny (model X.prog X.w) X.A (call (.builtin "tuple.index") [.ref p, u]) (EP X pins σ Q) X.xe s := by
  have spl : ∀ {vs : List V} {ds : List D}, WL X.kw H ds (vs ++ [v]) → ∃ xs y, ds = xs ++ [y] ∧ WL X.kw H xs vs ∧ W1 X.kw H y v := by
    intro vs
    induction vs with
    | nil =>
      intro ds w
      obtain ⟨y, rfl, w1⟩ := w.one
      exact ⟨[], y, rfl, .nil, w1⟩
    | cons v0 vs ih =>
      intro ds w
      cases w with
      | cons r t =>
        obtain ⟨xs, y, rfl, w1, w2⟩ := ih t
        exact ⟨_ :: xs, y, rfl, .cons r w1, w2⟩
  obtain ⟨xs, y, rfl, wx, wy⟩ := spl w
  unfold dIdx at e
  simp only [List.getLast?_concat, List.dropLast_concat] at e
  split at e
  rotate_left
  · cases e
  rename_i hd
  simp only [Option.map_eq_some_iff] at e
  obtain ⟨j, hj, rfl⟩ := e
  obtain ⟨e, h1, h2⟩ := row_reads I hu wx rv wy ru hd.1 hd.2
  obtain ⟨hj', hit, hno⟩ := row_hit h2 hj
  exact call_meets PySem.F.slot_tuple_index ⟨_, ho, rfl⟩ PySem.F.entry_tuple_index (PySem.F.args_tuple_index_2 _ _) (TI.tuple_indexAt p its.toArray _ _ _ u e j hj' hit hno) ⟨ho, h1, ⟨.int (j : Nat), H, I.tok _, ⟨_, rfl⟩, scal_int q⟩⟩
theorem idxL_ok (hu : X.A.units + 65 < cLine) : MtR X "list.index" (fun x xs => rD X.kw dIdxL true (x :: xs)) := by
  intro pins s σ H x xs v us Q I rx rs h
  obtain ⟨ds, d, w, e, q⟩ := h
  unfold dIdxL at e
  split at e
  rotate_left
  · cases e
  obtain ⟨x', y', ex, w1, w2⟩ := w.ofTwo
  cases ex
  split at e
  rotate_left
  · cases e
  rename_i hd
  simp only [Option.map_eq_some_iff] at e
  obtain ⟨j, hj, rfl⟩ := e
  obtain ⟨p, vs, rfl, sq, wx⟩ := w1.lst
  cases rx
  cases rs with
  | cons ry rt =>
    cases rt
    obtain ⟨its, rv, ⟨⟨cls, dd, dt, sl⟩, n, ho, hc, hdn, hdt⟩, hlen⟩ := I.list sq
    simp only at hc hdt
    subst hc hdt
    obtain ⟨e, h1, h2⟩ := row_reads I hu wx rv w2 ry hd.1 hd.2
    obtain ⟨hj', hit, hno⟩ := row_hit h2 hj
    have small : (j : Int) < 2 ^ 63 - 1 := by
      have z1 := rv.length
      have z2 := sizeLine_eq
      have z3 : j < its.length := by simpa using hj'
      omega
    exact call_meets PySem.F.slot_list_index ⟨_, ho, rfl⟩ PySem.F.entry_list_index (PySem.F.args_list_index_2 _ _) (SeqAt.list_indexAt p its.toArray n dd sl _ e j hj' small hit hno) ⟨ho, h1, ⟨.int (j : Nat), H, I.tok _, ⟨_, rfl⟩, scal_int q⟩⟩
theorem cntL_ok (hu : X.A.units + 65 < cLine) : MtR X "list.count" (fun x xs => rD X.kw dCntL true (x :: xs)) := by
  intro pins s σ H x xs v us Q I rx rs h
  obtain ⟨ds, d, w, e, q⟩ := h
  unfold dCntL at e
  split at e
  rotate_left
  · cases e
  obtain ⟨x', y', ex, w1, w2⟩ := w.ofTwo
  cases ex
  split at e
  rotate_left
  · cases e
  rename_i xs y hd
  cases e
  obtain ⟨p, vs, rfl, sq, wx⟩ := w1.lst
  cases rx
  cases rs with
  | cons ry rt =>
    cases rt
    obtain ⟨its, rv, ⟨⟨cls, dd, dt, sl⟩, n, ho, hc, hdn, hdt⟩, hlen⟩ := I.list sq
    simp only at hc hdt
    subst hc hdt
    obtain ⟨e, h1, h2⟩ := row_reads I hu wx rv w2 ry hd.1 hd.2
    have ec : its.toArray.toList.countP e = xs.countP (fun x => eqD x y) := by
      have := congrArg (List.countP id) h2
      rw [List.countP_map, List.countP_map] at this
      simpa [Function.comp_def] using this
    refine call_meets PySem.F.slot_list_count ⟨_, ho, rfl⟩ PySem.F.entry_list_count (PySem.F.args_list_count_2 _ _) (SeqAt.list_countAt p its.toArray n dd sl _ e) ⟨ho, h1, ⟨.int (xs.countP (fun x => eqD x y) : Nat), H, I.tok _, ⟨s.toks, ?_⟩, scal_int q⟩⟩
    show Value.int ((its.toArray.toList.countP e : Nat) : Int) s.toks = _
    rw [ec]
theorem join_core {a : List Nat} {ys : List (List Nat)} (ha : okS a = true) (hy : ∀ l ∈ ys, okS l = true) (hz : (ys.map List.length).sum + ys.length * a.length ≤ LIM) : okS (joinL a ys) = true := by
  refine okS_iff.mpr ⟨fun c hc => ?_, Nat.le_trans (joinL_len a ys) hz⟩
  rcases joinL_mem hc with h | ⟨p, hp, h⟩
  · exact (okS_iff.mp ha).1 c h
  · exact (okS_iff.mp (hy p hp)).1 c h
theorem join_eqS (a : List Nat) (ys : List (List Nat)) : Txt.join ⟨a.toArray⟩ (ys.map fun l => (⟨l.toArray⟩ : Str)) = ⟨(joinL a ys).toArray⟩ := by
  apply ext_tl
  rw [join_eq, tl_join]
  simp [tl, Function.comp_def]
theorem sum_lens (ys : List (List Nat)) : ((ys.map fun l => (⟨l.toArray⟩ : Str)).map (·.length)).sum = (ys.map List.length).sum := by
  rw [List.map_map]
  congr 1
theorem join_ok : MtR X "str.join" (fun x xs => rD X.kw dJoin true (x :: xs)) := by
  intro pins s σ H x xs v us Q I rx rs h
  obtain ⟨ds, d, w, e, q⟩ := h
  unfold dJoin at e
  split at e
  · obtain ⟨x', y, ex, w1, w2⟩ := w.ofTwo
    cases ex
    simp only [Option.bind_eq_some_iff] at e
    obtain ⟨ys, ey, e⟩ := e
    split at e
    · rename_i hz
      cases e
      obtain ⟨e1, o1⟩ := w1.str
      obtain ⟨p, vs, e2, s2, w3⟩ := w2.lst
      obtain ⟨e3, o3⟩ := w3.strs ey
      subst e3
      refine mt_join pins s σ H x [y] v us Q I rx rs ⟨_, p, _, e1, by rw [e2], .inl s2, ?_, ?_⟩
      · rw [sum_lens, List.length_map, str_len]; exact hz
      · rw [join_eqS]
        exact scal_str (join_core o1 o3 hz) q
    · cases e
  · obtain ⟨x', y, ex, w1, w2⟩ := w.ofTwo
    cases ex
    simp only [Option.bind_eq_some_iff] at e
    obtain ⟨ys, ey, e⟩ := e
    split at e
    · rename_i hz
      cases e
      obtain ⟨e1, o1⟩ := w1.str
      obtain ⟨p, vs, e2, s2, w3⟩ := w2.tup
      obtain ⟨e3, o3⟩ := w3.strs ey
      subst e3
      refine mt_join pins s σ H x [y] v us Q I rx rs ⟨_, p, _, e1, by rw [e2], .inr s2, ?_, ?_⟩
      · rw [sum_lens, List.length_map, str_len]; exact hz
      · rw [join_eqS]
        exact scal_str (join_core o1 o3 hz) q
    · cases e
  · cases e
theorem split_eqS (a b : List Nat) (hb : b ≠ []) (hk : b.all (fun c => decide (c < 256)) = true) : Txt.split ⟨a.toArray⟩ ⟨b.toArray⟩ = (spl b 0 [] a).map fun l => (⟨l.toArray⟩ : Str) := by
  apply map_tl_inj
  rw [split_spl _ _ (by simpa [tl] using hb) (kind_ok (by simpa using hk)), List.map_map]
  simp [tl, Function.comp_def]
theorem split_ok : MtR X "str.split" (fun x xs => rD X.kw dSplit true (x :: xs)) := by
  intro pins s σ H x xs v us Q I rx rs h
  obtain ⟨ds, d, w, e, q⟩ := h
  unfold dSplit at e
  split at e
  · obtain ⟨x', y, ex, w1, w2⟩ := w.ofTwo
    cases ex
    split at e
    · rename_i hz
      cases e
      obtain ⟨e1, o1⟩ := w1.str
      obtain ⟨e2, o2⟩ := w2.str
      refine mt_split pins s σ H x [y] v us Q I rx rs ⟨_, _, e1, by rw [e2], ?_, ?_, ?_⟩
      · rw [str_len]
        exact beq_eq_false_iff_ne.mpr fun z => hz.1 (List.eq_nil_of_length_eq_zero z)
      · rw [str_len]; exact hz.2.2
      · rw [split_eqS _ _ hz.1 hz.2.1]
        exact new_lst (immL_strs _) (WL.ofStrs (spl_ok o1)) q
    · cases e
  · cases e
theorem find_ok : MtR X "str.find" (fun x xs => rD X.kw dFind true (x :: xs)) := by
  intro pins s σ H x xs v us Q I rx rs h
  obtain ⟨ds, d, w, e, q⟩ := h
  unfold dFind at e
  split at e
  · obtain ⟨x', y, ex, w1, w2⟩ := w.ofTwo
    cases ex
    cases e
    exact mt_find pins s σ H x [y] v us Q I rx rs ⟨_, _, w1.str.1, by rw [w2.str.1], scal_int q⟩
  · cases e
theorem count_ok : MtR X "str.count" (fun x xs => rD X.kw dCount true (x :: xs)) := by
  intro pins s σ H x xs v us Q I rx rs h
  obtain ⟨ds, d, w, e, q⟩ := h
  unfold dCount at e
  split at e
  · obtain ⟨x', y, ex, w1, w2⟩ := w.ofTwo
    cases ex
    cases e
    exact mt_count pins s σ H x [y] v us Q I rx rs ⟨_, _, w1.str.1, by rw [w2.str.1], scal_int q⟩
  · cases e
end
end VL

/-! VLN: sorted of tuples of whole numbers, texts and such tuples. -/
namespace VL
open PySem PySem.Spec PyProof.Rows L2
mutual
/-- whole numbers, texts, tuples of such -/
def ordD : D → Bool
  | .int _ => true
  | .str _ => true
  | .tup xs => ordL xs
  | _ => false
def ordL : List D → Bool
  | [] => true
  | x :: xs => ordD x && ordL xs
end
def tup1 : D → Bool
  | .tup (_ :: _) => true
  | _ => false
/-- they can be put in order -/
def sortable (xs : List D) : Bool := xs.all (fun a => ordD a && (tup1 a && decide (a.depth ≤ 50))) && xs.all fun a => xs.all fun b => PySem.W.alike (toPy a) (toPy b)
def leD : D → D → Bool := PySem.W.dataLe false toPy
def dSorted : List D → Option D
  | [.lst _ xs] => if sortable xs = true ∧ xs.length ≤ LIM then some (.lst true (xs.mergeSort leD)) else none
  | _ => none
section
variable {X : Cx} {pins : List (Addr × Obj)} {σ : L2.St} {H : Hp} {s : Shared}
mutual
theorem reads_ord (I : Inv X pins σ H s) {h' : Heap} (k : ∀ b o, s.heap.get? b = some o → h'.get? b = some o) : ∀ (d : D) (v : V) (u : Value), W1 X.kw H d v → RelV v u → ordD d = true → ∃ as, Reads h' u (toPy d) as
  | .int i, v, u, w, r, _ => by
    have e := w.int
    subst e
    obtain ⟨t, rfl⟩ := r
    simp only [toPy]
    exact ⟨[], .int i t⟩
  | .str t, v, u, w, r, _ => by
    have e := w.str.1
    subst e
    obtain ⟨t, rfl⟩ := r
    simp only [toPy]
    exact ⟨[], .str _ t⟩
  | .tup ds, v, u, w, r, o => by
    obtain ⟨p, vs, rfl, sq, wl⟩ := w.tup
    obtain rfl : u = .ref p := r
    obtain ⟨its, rv, ⟨ob, ho, hc, n, hd⟩, _⟩ := I.tuple sq
    obtain ⟨as, ra⟩ := reads_ordL I k ds vs its wl rv (by simpa [ordD] using o)
    simp only [toPy]
    exact ⟨as, .tuple (k _ _ ho) hc hd ra⟩
  | .non, _, _, _, _, o => by simp [ordD] at o
  | .bl _, _, _, _, _, o => by simp [ordD] at o
  | .lst _ _, _, _, _, _, o => by simp [ordD] at o
  | .exc _ _ _, _, _, _, _, o => by simp [ordD] at o
  | .cls _ _ _ _, _, _, _, _, o => by simp [ordD] at o
  | .dic _ _ _, _, _, _, _, o => by simp [ordD] at o
  | .dks _ _, _, _, _, _, o => by simp [ordD] at o
  | .obj _ _ _ _, _, _, _, _, o => by simp [ordD] at o
theorem reads_ordL (I : Inv X pins σ H s) {h' : Heap} (k : ∀ b o, s.heap.get? b = some o → h'.get? b = some o) : ∀ (ds : List D) (vs : List V) (us : List Value), WL X.kw H ds vs → Vals vs us → ordL ds = true → ∃ as, ReadsAll h' us (toPys ds) as
  | [], _, _, .nil, .nil, _ => by simp only [toPys]; exact ⟨[], .nil⟩
  | d :: ds, _, _, .cons w ws, .cons r rs, o => by
    rw [ordL, Bool.and_eq_true] at o
    obtain ⟨as, ra⟩ := reads_ord I k d _ _ w r o.1
    obtain ⟨bs, rb⟩ := reads_ordL I k ds _ _ ws rs o.2
    simp only [toPys]
    exact ⟨as ++ bs, .cons ra rb⟩
end
/-- values, their readings and their data, side by side -/
theorem zip3 : ∀ {ds : List D} {vs : List V} {us : List Value}, WL X.kw H ds vs → Vals vs us → ∃ bs : List (D × V × Value), bs.map (·.1) = ds ∧ bs.map (·.2.1) = vs ∧ bs.map (·.2.2) = us ∧ ∀ b ∈ bs, W1 X.kw H b.1 b.2.1 ∧ RelV b.2.1 b.2.2
  | _, _, _, .nil, .nil => ⟨[], rfl, rfl, rfl, fun _ h => by cases h⟩
  | d :: ds, v :: vs, u :: us, .cons w ws, .cons r rs => by
    obtain ⟨bs, e1, e2, e3, h⟩ := zip3 ws rs
    refine ⟨(d, v, u) :: bs, by simp [e1], by simp [e2], by simp [e3], fun b hb => ?_⟩
    rcases List.mem_cons.mp hb with rfl | hb
    · exact ⟨w, r⟩
    · exact h b hb
theorem each_self {α β : Type} {R : α → β → Prop} {f : β → α} : ∀ {bs : List β}, (∀ b ∈ bs, R (f b) b) → PySem.W.EachIs R (bs.map f) bs
  | [], _ => .nil
  | b :: bs, h => .cons (h b List.mem_cons_self) (each_self fun c hc => h c (List.mem_cons_of_mem _ hc))
theorem each_eq {α β : Type} {f : β → α} : ∀ {as : List α} {bs : List β}, PySem.W.EachIs (fun a b => a = f b) as bs → as = bs.map f
  | _, _, .nil => rfl
  | _, _, .cons h t => by rw [h, each_eq t]; rfl
theorem pair_map {α : Type} {f : α → D} {g : α → V} : ∀ {bs : List α}, (∀ b ∈ bs, W1 X.kw H (f b) (g b)) → WL X.kw H (bs.map f) (bs.map g)
  | [], _ => .nil
  | b :: bs, h => .cons (h b List.mem_cons_self) (pair_map fun c hc => h c (List.mem_cons_of_mem _ hc))
theorem vals_map {α : Type} {f : α → V} {g : α → Value} : ∀ {bs : List α}, (∀ b ∈ bs, RelV (f b) (g b)) → Vals (bs.map f) (bs.map g)
  | [], _ => .nil
  | b :: bs, h => .cons (h b List.mem_cons_self) (vals_map fun c hc => h c (List.mem_cons_of_mem _ hc))
mutual
theorem ord_imm : ∀ d : D, ordD d = true → d.imm = true
  | .int _, _ => rfl
  | .str _, _ => rfl
  | .tup xs, h => by
    simp only [D.imm]
    exact ord_immL xs (by simpa [ordD] using h)
  | .non, h => by simp [ordD] at h
  | .bl _, h => by simp [ordD] at h
  | .lst _ _, h => by simp [ordD] at h
  | .exc _ _ _, h => by simp [ordD] at h
  | .cls _ _ _ _, h => by simp [ordD] at h
  | .dic _ _ _, h => by simp [ordD] at h
  | .dks _ _, h => by simp [ordD] at h
  | .obj _ _ _ _, h => by simp [ordD] at h
theorem ord_immL : ∀ xs : List D, ordL xs = true → immL xs = true
  | [], _ => rfl
  | x :: xs, h => by
    rw [ordL, Bool.and_eq_true] at h
    simp only [immL, ord_imm x h.1, ord_immL xs h.2, Bool.and_self]
end
theorem toPy_tup1 {d : D} (h : tup1 d = true) : ∃ x r, toPy d = .tuple (x :: r) := by
  cases d with
  | tup xs =>
    cases xs with
    | nil => cases h
    | cons x xs => exact ⟨toPy x, toPys xs, by simp [toPy, toPys]⟩
  | _ => cases h
theorem sorted_ok (hu : X.A.units + 65 < cLine) : CallR X (.builtin "sorted") (rD X.kw dSorted true) := by
  intro pins s σ H xs us Q I r h
  obtain ⟨ds, d, w, e, q⟩ := h
  unfold dSorted at e
  split at e
  · rename_i oo es
    obtain ⟨x, rfl, w1⟩ := w.ofOne
    split at e
    · rename_i cond
      cases e
      obtain ⟨hso, hlim⟩ := cond
      unfold sortable at hso
      rw [Bool.and_eq_true, List.all_eq_true, List.all_eq_true] at hso
      obtain ⟨ho, ha⟩ := hso
      obtain ⟨p, vs, rfl, sq, w2⟩ := w1.lst
      obtain ⟨its, rv, hl, hz⟩ := I.list sq
      obtain ⟨u, rfl, ru⟩ := vals1 r
      obtain rfl : u = Value.ref p := ru
      obtain ⟨bs, e1, e2, e3, hb⟩ := zip3 (X := X) w2 rv
      have hzl : its.length ≤ sizeLine := by rw [← rv.length]; exact hz
      have hmem : ∀ b ∈ bs, b.1 ∈ es := fun b hb' => by rw [← e1]; exact List.mem_map_of_mem hb'
      have hord : ∀ b ∈ bs, ordD b.1 = true := fun b hb' => by
        have := ho _ (hmem b hb')
        rw [Bool.and_eq_true] at this
        exact this.1
      have hrd : ∀ {h' : Heap}, (∀ b o, s.heap.get? b = some o → h'.get? b = some o) → PySem.W.EachIs (fun v d => ∃ as, Reads h' v d as) its (bs.map fun b => toPy b.1) := fun {h'} kp => by
        rw [← e3]
        have : ∀ l : List (D × V × Value), (∀ b ∈ l, ∃ as, Reads h' b.2.2 (toPy b.1) as) → PySem.W.EachIs (fun v d => ∃ as, Reads h' v d as) (l.map (·.2.2)) (l.map fun b => toPy b.1) := by
          intro l
          induction l with
          | nil => intro _; exact .nil
          | cons b l ih => intro hl; exact .cons (hl b List.mem_cons_self) (ih fun c hc => hl c (List.mem_cons_of_mem _ hc))
        exact this bs fun b hb' => reads_ord I kp b.1 b.2.1 b.2.2 (hb b hb').1 (hb b hb').2 (hord b hb')
      have hpy : ∀ d ∈ bs.map (fun b => toPy b.1), ∃ a ∈ es, d = toPy a := fun d hd => by
        obtain ⟨b, hb', rfl⟩ := List.mem_map.mp hd
        exact ⟨_, hmem b hb', rfl⟩
      have hal : PySem.W.AllAlike (bs.map fun b => toPy b.1) := fun d hd d' hd' => by
        obtain ⟨a, ha1, rfl⟩ := hpy d hd
        obtain ⟨a', ha2, rfl⟩ := hpy d' hd'
        have := ha a ha1
        rw [List.all_eq_true] at this
        exact this a' ha2
      have hkd : PySem.W.Sortable (bs.map fun b => toPy b.1) := .inl fun d hd => by
        obtain ⟨a, ha1, rfl⟩ := hpy d hd
        have := ho a ha1
        rw [Bool.and_eq_true, Bool.and_eq_true] at this
        exact toPy_tup1 this.2.1
      have hdp : ∀ d ∈ bs.map (fun b => toPy b.1), X.A.in1.in1.units + d.depth < cLine := fun d hd => by
        obtain ⟨a, ha1, rfl⟩ := hpy d hd
        have := ho a ha1
        rw [Bool.and_eq_true, Bool.and_eq_true, decide_eq_true_eq] at this
        have h2 := depth_toPy a
        show X.A.units + 1 + 1 + (toPy a).depth < cLine
        omega
      have S := PySem.W.SortsAt.data (prog := X.prog) (w := X.w) (A := X.A.in1.in1) (s := { s with heap := PySem.W.sortingHeap (PySem.W.copyHeap s.heap its) (s.heap.objs.size + 1) its }) (hrd fun b o hbo => PySem.W.sorting_copy_old hbo) hal hkd hdp
      refine PySem.W.sorted_vals hl.isList S hzl ?_
      have key := PySem.W.sortVals_each (rev := false) (κ := PySem.W.dataKind (PySem.W.sortingHeap (PySem.W.copyHeap s.heap its) (s.heap.objs.size + 1) its) (bs.map fun b => toPy b.1)) (R := fun v (b : D × V × Value) => v = b.2.2) (bs := bs) (ks := its) (vs := its) (fun b => PySem.W.keyToks (toPy b.1)) (by rw [← e3]; exact each_self fun _ _ => rfl) (PySem.W.each_of_map (fun b : D × V × Value => toPy b.1) (PySem.W.each_keys hal (hrd fun b o hbo => PySem.W.sorting_copy_old hbo)))
      have ek := each_eq key
      rw [ek]
      generalize hcs : bs.mergeSort (PySem.W.sortLe (PySem.W.dataKind (PySem.W.sortingHeap (PySem.W.copyHeap s.heap its) (s.heap.objs.size + 1) its) (bs.map fun b => toPy b.1)).toKeyOrd false fun b => PySem.W.keyToks (toPy b.1)) = cs
      have hcm : ∀ b ∈ cs, W1 X.kw H b.1 b.2.1 ∧ RelV b.2.1 b.2.2 := fun b hb' => hb b (by rw [← hcs, List.mem_mergeSort] at hb'; exact hb')
      have hcl : cs.length = bs.length := by rw [← hcs, List.length_mergeSort]
      have hds : cs.map (·.1) = es.mergeSort leD := by
        rw [← hcs, ← e1]
        exact List.map_mergeSort fun a _ b _ => rfl
      obtain ⟨n, hn⟩ := sortedAll_at s.heap its (cs.map (·.2.2)).toArray
      have hbl : bs.length = its.length := by rw [← e3, List.length_map]
      have him : immL (es.mergeSort leD) = true := immL_iff.mpr fun d hd => by
        rw [List.mem_mergeSort] at hd
        have := ho d hd
        rw [Bool.and_eq_true, Bool.and_eq_true] at this
        exact ord_imm d this.1
      have hp : H (s.heap.objs.size + 1) = none := I.hok.fresh (Nat.le_succ _)
      refine ⟨.ref (s.heap.objs.size + 1), upd H (s.heap.objs.size + 1) (.lst (cs.map (·.2.1))), I.laid (t' := s.toks) (fun b o hbo => sortedAll_old hbo) (Nat.le_succ _) ⟨?_, (cs.map (·.2.2)), n, vals_map fun b hb' => (hcm b hb').2, ?_⟩, rfl, ?_⟩
      · rw [List.length_map, hcl, hbl]; exact hzl
      · exact hn
      · exact new_lst him (by rw [← hds]; exact pair_map fun b hb' => (hcm b hb').1) q _ hp
    · cases e
  · cases e
mutual
theorem toPy_inj : ∀ (a b : D), ordD a = true → ordD b = true → toPy a = toPy b → a = b
  | .int i, b, _, ob, h => by
    cases b with
    | int j => simp [toPy] at h; rw [h]
    | str _ => simp [toPy] at h
    | tup _ => simp [toPy] at h
    | _ => simp [ordD] at ob
  | .str i, b, _, ob, h => by
    cases b with
    | str j => simp [toPy] at h; rw [h]
    | int _ => simp [toPy] at h
    | tup _ => simp [toPy] at h
    | _ => simp [ordD] at ob
  | .tup xs, b, oa, ob, h => by
    cases b with
    | tup ys =>
      simp only [toPy, PyData.tuple.injEq] at h
      rw [toPys_inj xs ys (by simpa [ordD] using oa) (by simpa [ordD] using ob) h]
    | int _ => simp [toPy] at h
    | str _ => simp [toPy] at h
    | _ => simp [ordD] at ob
  | .non, _, o, _, _ => by simp [ordD] at o
  | .bl _, _, o, _, _ => by simp [ordD] at o
  | .lst _ _, _, o, _, _ => by simp [ordD] at o
  | .exc _ _ _, _, o, _, _ => by simp [ordD] at o
  | .cls _ _ _ _, _, o, _, _ => by simp [ordD] at o
  | .dic _ _ _, _, o, _, _ => by simp [ordD] at o
  | .dks _ _, _, o, _, _ => by simp [ordD] at o
  | .obj _ _ _ _, _, o, _, _ => by simp [ordD] at o
theorem toPys_inj : ∀ (a b : List D), ordL a = true → ordL b = true → toPys a = toPys b → a = b
  | [], [], _, _, _ => rfl
  | [], _ :: _, _, _, h => by simp [toPys] at h
  | _ :: _, [], _, _, h => by simp [toPys] at h
  | x :: xs, y :: ys, oa, ob, h => by
    rw [ordL, Bool.and_eq_true] at oa ob
    simp only [toPys, List.cons.injEq] at h
    rw [toPy_inj x y oa.1 ob.1 h.1, toPys_inj xs ys oa.2 ob.2 h.2]
end
def ltDD (a b : D) : Bool := PySem.W.dataLt (toPy a) (toPy b)
/-- they can be compared -/
def alikes (xs : List D) : Bool := xs.all (fun a => ordD a && decide (a.depth ≤ 50)) && xs.all fun a => xs.all fun b => PySem.W.alike (toPy a) (toPy b)
def minDD (x : D) (xs : List D) : D := xs.foldl (fun a y => if ltDD y a then y else a) x
def dMinA : List D → Option D
  | [.lst _ (x :: xs)] => if alikes (x :: xs) = true ∧ xs.length < LIM then some (minDD x xs) else none
  | ds => dMin2 ds
theorem minDD_mem : ∀ (xs : List D) (x : D), minDD x xs ∈ x :: xs
  | [], x => List.mem_cons_self
  | y :: xs, x => by
    have ih := minDD_mem xs (if ltDD y x then y else x)
    show minDD (if ltDD y x then y else x) xs ∈ _
    rcases List.mem_cons.mp ih with h | h
    · rw [h]
      split
      · exact List.mem_cons_of_mem _ List.mem_cons_self
      · exact List.mem_cons_self
    · exact List.mem_cons_of_mem _ (List.mem_cons_of_mem _ h)
theorem minDD_py : ∀ (xs : List D) (x : D), toPy (minDD x xs) = PySem.W.minD (toPy x) (xs.map toPy)
  | [], x => rfl
  | y :: xs, x => by
    have ih := minDD_py xs (if ltDD y x then y else x)
    show toPy (minDD (if ltDD y x then y else x) xs) = _
    rw [ih]
    unfold PySem.W.minD
    rw [List.map_cons, List.foldl_cons]
    congr 1
    unfold ltDD
    split <;> rfl
theorem minA_ok (hc : X.calm = true) (hu : X.A.units + 65 < cLine) : CallR X (.builtin "min") (rD X.kw dMinA true) := by
  intro pins s σ H xs us Q I r h
  obtain ⟨ds, d, w, e, q⟩ := h
  unfold dMinA at e
  split at e
  · rename_i oo e0 es
    obtain ⟨x, rfl, w1⟩ := w.ofOne
    split at e
    · rename_i cond
      cases e
      obtain ⟨hso, hlim⟩ := cond
      unfold alikes at hso
      rw [Bool.and_eq_true, List.all_eq_true, List.all_eq_true] at hso
      obtain ⟨ho, ha⟩ := hso
      obtain ⟨p, vs, rfl, sq, w2⟩ := w1.lst
      obtain ⟨its, rv, hl, hz⟩ := I.list sq
      obtain ⟨u, rfl, ru⟩ := vals1 r
      obtain rfl : u = Value.ref p := ru
      have hord : ∀ d ∈ e0 :: es, ordD d = true := fun d hd => by
        have := ho d hd
        rw [Bool.and_eq_true] at this
        exact this.1
      have hordL : ordL (e0 :: es) = true := by
        have : ∀ l : List D, (∀ d ∈ l, ordD d = true) → ordL l = true := by
          intro l
          induction l with
          | nil => intro _; rfl
          | cons a l ih => intro h; rw [ordL, h a List.mem_cons_self, ih fun z hz => h z (List.mem_cons_of_mem _ hz)]; rfl
        exact this _ hord
      obtain ⟨as, ra⟩ := reads_ordL I (h' := s.heap) (fun _ _ z => z) (e0 :: es) vs its w2 rv hordL
      have ra' : ReadsAll s.heap its.toArray.toList (toPy e0 :: es.map toPy) as := by
        rw [toPys_map] at ra
        simpa using ra
      have hal : PySem.W.AlikeAll (toPy e0 :: es.map toPy) := by
        refine ⟨fun x hx y hy => ?_, fun x hx => ?_⟩
        · rw [← List.map_cons] at hx hy
          obtain ⟨a, ha1, rfl⟩ := List.mem_map.mp hx
          obtain ⟨b, hb1, rfl⟩ := List.mem_map.mp hy
          have := ha a ha1
          rw [List.all_eq_true] at this
          exact this b hb1
        · rw [← List.map_cons] at hx
          obtain ⟨a, ha1, rfl⟩ := List.mem_map.mp hx
          have := hord a ha1
          cases a <;> simp [ordD] at this <;> simp [toPy]
      have hdp : X.A.units + 1 + PyData.depthAll (toPy e0 :: es.map toPy) < cLine := by
        have h1 : toPy e0 :: es.map toPy = toPys (e0 :: es) := by rw [toPys_map]; rfl
        rw [h1]
        have h2 := depthAll_toPy (e0 :: es)
        have h3 : ∀ l : List D, (∀ d ∈ l, d.depth ≤ 50) → depthL l ≤ 50 := by
          intro l
          induction l with
          | nil => intro _; simp [depthL]
          | cons a l ih =>
            intro h
            have a1 := h a List.mem_cons_self
            have a2 := ih fun z hz => h z (List.mem_cons_of_mem _ hz)
            simp only [depthL]
            omega
        have h4 := h3 (e0 :: es) fun d hd => by
          have := ho d hd
          rw [Bool.and_eq_true, decide_eq_true_eq] at this
          exact this.2
        omega
      refine PySem.W.min_list_data (I.ok.hd hc) hl.isList ra' hal hdp fun i v h' tk bs hi hrd hk => ?_
      have hi' : its[i]? = some v := by simpa using hi
      have key : ∀ {ds : List D} {vs : List V} {us : List Value} {i : Nat} {u : Value}, WL X.kw H ds vs → Vals vs us → us[i]? = some u → ∃ d w, ds[i]? = some d ∧ W1 X.kw H d w ∧ RelV w u := by
        intro ds vs us i u hw hv hu'
        induction i generalizing ds vs us with
        | zero =>
          cases hv with
          | nil => cases hu'
          | cons r rs =>
            cases hw with
            | cons w ws => cases hu'; exact ⟨_, _, rfl, w, r⟩
        | succ i ih =>
          cases hv with
          | nil => cases hu'
          | cons r rs =>
            cases hw with
            | cons w ws => exact ih ws rs (by simpa using hu')
      obtain ⟨di, vi, hdi, wi, ri⟩ := key w2 rv hi'
      have hmi := List.mem_of_getElem? hdi
      obtain ⟨as2, ra2⟩ := reads_ord I hk di vi v wi ri (hord di hmi)
      have hmm := minDD_mem es e0
      have ealike : PySem.W.alike (toPy di) (toPy (minDD e0 es)) = true := by
        have := ha di hmi
        rw [List.all_eq_true] at this
        exact this _ hmm
      rw [← minDD_py] at hrd
      have edata := PySem.W.alike_unique _ _ _ _ _ ealike ra2 hrd
      have ed := toPy_inj _ _ (hord di hmi) (hord _ hmm) edata
      subst ed
      exact ⟨vi, H, I.kept (t' := tk) hk, ri, q _ H [] (Same.refl H) (wi.rep (ord_imm _ (hord _ hmi))) fun _ => nilF⟩
    · cases e
  · exact min2_ok hc pins s σ H xs us Q I r ⟨ds, d, w, e, q⟩
def maxDD (x : D) (xs : List D) : D := xs.foldl (fun a y => if ltDD a y then y else a) x
def dMaxA : List D → Option D
  | [.lst _ (x :: xs)] => if alikes (x :: xs) = true ∧ xs.length < LIM then some (maxDD x xs) else none
  | ds => dMax2 ds
theorem maxDD_mem : ∀ (xs : List D) (x : D), maxDD x xs ∈ x :: xs
  | [], x => List.mem_cons_self
  | y :: xs, x => by
    have ih := maxDD_mem xs (if ltDD x y then y else x)
    show maxDD (if ltDD x y then y else x) xs ∈ _
    rcases List.mem_cons.mp ih with h | h
    · rw [h]
      split
      · exact List.mem_cons_of_mem _ List.mem_cons_self
      · exact List.mem_cons_self
    · exact List.mem_cons_of_mem _ (List.mem_cons_of_mem _ h)
theorem maxDD_py : ∀ (xs : List D) (x : D), toPy (maxDD x xs) = PySem.W.maxD (toPy x) (xs.map toPy)
  | [], x => rfl
  | y :: xs, x => by
    have ih := maxDD_py xs (if ltDD x y then y else x)
    show toPy (maxDD (if ltDD x y then y else x) xs) = _
    rw [ih]
    unfold PySem.W.maxD
    rw [List.map_cons, List.foldl_cons]
    congr 1
    unfold ltDD
    split <;> rfl
theorem maxA_ok (hc : X.calm = true) (hu : X.A.units + 65 < cLine) : CallR X (.builtin "max") (rD X.kw dMaxA true) := by
  intro pins s σ H xs us Q I r h
  obtain ⟨ds, d, w, e, q⟩ := h
  unfold dMaxA at e
  split at e
  · rename_i oo e0 es
    obtain ⟨x, rfl, w1⟩ := w.ofOne
    split at e
    · rename_i cond
      cases e
      obtain ⟨hso, hlim⟩ := cond
      unfold alikes at hso
      rw [Bool.and_eq_true, List.all_eq_true, List.all_eq_true] at hso
      obtain ⟨ho, ha⟩ := hso
      obtain ⟨p, vs, rfl, sq, w2⟩ := w1.lst
      obtain ⟨its, rv, hl, hz⟩ := I.list sq
      obtain ⟨u, rfl, ru⟩ := vals1 r
      obtain rfl : u = Value.ref p := ru
      have hord : ∀ d ∈ e0 :: es, ordD d = true := fun d hd => by
        have := ho d hd
        rw [Bool.and_eq_true] at this
        exact this.1
      have hordL : ordL (e0 :: es) = true := by
        have : ∀ l : List D, (∀ d ∈ l, ordD d = true) → ordL l = true := by
          intro l
          induction l with
          | nil => intro _; rfl
          | cons a l ih => intro h; rw [ordL, h a List.mem_cons_self, ih fun z hz => h z (List.mem_cons_of_mem _ hz)]; rfl
        exact this _ hord
      obtain ⟨as, ra⟩ := reads_ordL I (h' := s.heap) (fun _ _ z => z) (e0 :: es) vs its w2 rv hordL
      have ra' : ReadsAll s.heap its.toArray.toList (toPy e0 :: es.map toPy) as := by
        rw [toPys_map] at ra
        simpa using ra
      have hal : PySem.W.AlikeAll (toPy e0 :: es.map toPy) := by
        refine ⟨fun x hx y hy => ?_, fun x hx => ?_⟩
        · rw [← List.map_cons] at hx hy
          obtain ⟨a, ha1, rfl⟩ := List.mem_map.mp hx
          obtain ⟨b, hb1, rfl⟩ := List.mem_map.mp hy
          have := ha a ha1
          rw [List.all_eq_true] at this
          exact this b hb1
        · rw [← List.map_cons] at hx
          obtain ⟨a, ha1, rfl⟩ := List.mem_map.mp hx
          have := hord a ha1
          cases a <;> simp [ordD] at this <;> simp [toPy]
      have hdp : X.A.units + 1 + PyData.depthAll (toPy e0 :: es.map toPy) < cLine := by
        have h1 : toPy e0 :: es.map toPy = toPys (e0 :: es) := by rw [toPys_map]; rfl
        rw [h1]
        have h2 := depthAll_toPy (e0 :: es)
        have h3 : ∀ l : List D, (∀ d ∈ l, d.depth ≤ 50) → depthL l ≤ 50 := by
          intro l
          induction l with
          | nil => intro _; simp [depthL]
          | cons a l ih =>
            intro h
            have a1 := h a List.mem_cons_self
            have a2 := ih fun z hz => h z (List.mem_cons_of_mem _ hz)
            simp only [depthL]
            omega
        have h4 := h3 (e0 :: es) fun d hd => by
          have := ho d hd
          rw [Bool.and_eq_true, decide_eq_true_eq] at this
          exact this.2
        omega
      refine PySem.W.max_list_data (I.ok.hd hc) hl.isList ra' hal hdp fun i v h' tk bs hi hrd hk => ?_
      have hi' : its[i]? = some v := by simpa using hi
      have key : ∀ {ds : List D} {vs : List V} {us : List Value} {i : Nat} {u : Value}, WL X.kw H ds vs → Vals vs us → us[i]? = some u → ∃ d w, ds[i]? = some d ∧ W1 X.kw H d w ∧ RelV w u := by
        intro ds vs us i u hw hv hu'
        induction i generalizing ds vs us with
        | zero =>
          cases hv with
          | nil => cases hu'
          | cons r rs =>
            cases hw with
            | cons w ws => cases hu'; exact ⟨_, _, rfl, w, r⟩
        | succ i ih =>
          cases hv with
          | nil => cases hu'
          | cons r rs =>
            cases hw with
            | cons w ws => exact ih ws rs (by simpa using hu')
      obtain ⟨di, vi, hdi, wi, ri⟩ := key w2 rv hi'
      have hmi := List.mem_of_getElem? hdi
      obtain ⟨as2, ra2⟩ := reads_ord I hk di vi v wi ri (hord di hmi)
      have hmm := maxDD_mem es e0
      have ealike : PySem.W.alike (toPy di) (toPy (maxDD e0 es)) = true := by
        have := ha di hmi
        rw [List.all_eq_true] at this
        exact this _ hmm
      rw [← maxDD_py] at hrd
      have edata := PySem.W.alike_unique _ _ _ _ _ ealike ra2 hrd
      have ed := toPy_inj _ _ (hord di hmi) (hord _ hmm) edata
      subst ed
      exact ⟨vi, H, I.kept (t' := tk) hk, ri, q _ H [] (Same.refl H) (wi.rep (ord_imm _ (hord _ hmi))) fun _ => nilF⟩
    · cases e
  · exact max2_ok hc pins s σ H xs us Q I r ⟨ds, d, w, e, q⟩
end
end VL

/-! VLP: dict(a list of pairs). -/
namespace VL
open PySem PySem.Spec PyProof.Rows L2
/-- a dict with one more -/
theorem st_ok {K : KW} {H : Hp} {kd d : D} {nk : NestedKey} {b : Addr} {v : V} {fd : List Addr} (hk : keyT kd = some nk) (wk : W1 K H kd (.ref b)) (rd : Rep K H d v fd) : ∀ {ks vs : List D} {kvs : List (NestedKey × Addr × V)} {f : List Addr}, KeysR ks kvs → WL K H ks (kvs.map kRef) → Reps K H vs (kvs.map kVal) f → (∀ a ∈ f, a ∉ fd) →
    KeysR (stD ks vs kd d).1 (stR kvs nk b v) ∧ WL K H (stD ks vs kd d).1 ((stR kvs nk b v).map kRef) ∧ ∃ f', Reps K H (stD ks vs kd d).2 ((stR kvs nk b v).map kVal) f' ∧ ∀ a ∈ f', a ∈ f ∨ a ∈ fd
  | [], vs, [], f, _, _, r, _ => by
    have e : stD [] vs kd d = ([kd], [d]) := by cases vs <;> rfl
    rw [e]
    refine ⟨by simp [KeysR, stR, hk], .cons wk .nil, fd ++ [], Reps.cons rd .nil (fun _ _ z => by cases z), fun a h => .inr (by simpa using h)⟩
  | [], _, _ :: _, _, h, _, _, _ => by simp [KeysR] at h
  | _ :: _, _, [], _, h, _, _, _ => by simp [KeysR] at h
  | k :: ks, vs, p :: kvs, f, h, w, r, dj => by
    obtain ⟨h1, h2⟩ := h.cons_inv
    rw [List.map_cons] at w r
    cases w with
    | cons w1 w2 =>
      cases r with
      | @cons d0 vs _ _ f0 g r1 r2 n =>
        unfold stD stR
        by_cases e : k = kd
        · subst e
          rw [hk] at h1
          have h1 : nk = p.1 := Option.some.inj h1
          rw [if_pos rfl, if_pos h1.symm]
          refine ⟨by simp [KeysR] at h ⊢; exact h, .cons w1 w2, fd ++ g, Reps.cons rd r2 fun a ha q => dj a (List.mem_append_right _ q) ha, fun a ha => ?_⟩
          rcases List.mem_append.mp ha with z | z
          · exact .inr z
          · exact .inl (List.mem_append_right _ z)
        · have e2 : ¬ p.1 = nk := fun z => e (keyT_inj h1 (by rw [hk, z]))
          rw [if_neg e, if_neg e2]
          obtain ⟨i1, i2, f', i3, i4⟩ := st_ok hk wk rd h2 w2 r2 fun a ha => dj a (List.mem_append_right _ ha)
          refine ⟨by simp [KeysR] at i1 ⊢; exact ⟨h1, i1⟩, .cons w1 i2, f0 ++ f', Reps.cons r1 i3 fun a ha q => ?_, fun a ha => ?_⟩
          · rcases i4 a q with z | z
            · exact n a ha z
            · exact dj a (List.mem_append_left _ ha) z
          · rcases List.mem_append.mp ha with z | z
            · exact .inl (List.mem_append_left _ z)
            · rcases i4 a z with y | y
              · exact .inl (List.mem_append_right _ y)
              · exact .inr y
mutual
theorem keyImm : ∀ {d : D} {k : NestedKey}, keyOf d = some k → d.imm = true
  | .non, _, _ => rfl
  | .int _, _, _ => rfl
  | .str _, _, _ => rfl
  | .tup xs, _, h => by
    simp only [keyOf, Option.map_eq_some_iff] at h
    obtain ⟨ks, h, _⟩ := h
    simp only [D.imm]
    exact keysImm h
  | .bl _, _, h => by simp [keyOf] at h
  | .lst _ _, _, h => by simp [keyOf] at h
  | .exc _ _ _, _, h => by simp [keyOf] at h
  | .cls _ _ _ _, _, h => by simp [keyOf] at h
  | .dic _ _ _, _, h => by simp [keyOf] at h
  | .dks _ _, _, h => by simp [keyOf] at h
  | .obj _ _ _ _, _, h => by simp [keyOf] at h
theorem keysImm : ∀ {ds : List D} {ks : List NestedKey}, keysOf ds = some ks → immL ds = true
  | [], _, _ => rfl
  | x :: xs, _, h => by
    unfold keysOf at h
    split at h
    · rename_i k e
      simp only [Option.map_eq_some_iff] at h
      obtain ⟨ks, h, _⟩ := h
      simp only [immL, keyImm e, keysImm h, Bool.and_self]
    · cases h
end
theorem keysR_imm : ∀ {ks : List D} {kvs : List (NestedKey × Addr × V)}, KeysR ks kvs → immL ks = true
  | [], _, _ => rfl
  | k :: ks, [], h => by simp [KeysR] at h
  | k :: ks, p :: kvs, h => by
    obtain ⟨h1, h2⟩ := h.cons_inv
    simp only [immL, keyImm (keyT_of h1).1, keysR_imm h2, Bool.and_self]
/-- a pair of a key and a value -/
def prOk : D → Bool
  | .tup [k, v] => (keyT k).isSome && v.imm
  | _ => false
def mgD : List D → List D × List D → List D × List D
  | .tup [k, v] :: ps, a => mgD ps (stD a.1 a.2 k v)
  | _ :: ps, a => mgD ps a
  | [], a => a
def dDict : List D → Option D
  | [.lst _ ps] => if ps.all prOk = true ∧ ps.length ≤ LIM then some (.dic true (mgD ps ([], [])).1 (mgD ps ([], [])).2) else none
  | _ => none
/-- a pair, as it stands -/
structure Pr where
  t : Addr
  k : NestedKey
  b : Addr
  z : D
  d : D
  v : V
  u : Value
section
variable {X : Cx} {pins : List (Addr × Obj)} {σ : L2.St} {H : Hp} {s : Shared}
structure PrIs (X : Cx) (H : Hp) (s : Shared) (r : Pr) : Prop where
  key : keyT r.z = some r.k
  wz : W1 X.kw H r.z (.ref r.b)
  wd : W1 X.kw H r.d r.v
  im : r.d.imm = true
  rv : RelV r.v r.u
  tu : s.heap.IsTuple r.t #[.ref r.b, r.u]
  is : (nestedKind X.prog X.w).is s.heap r.k r.b
theorem pairs_is (I : Inv X pins σ H s) : ∀ {ps : List D} {vs : List V} {us : List Value}, WL X.kw H ps vs → Vals vs us → ps.all prOk = true → ∃ rs : List Pr, (∀ r ∈ rs, PrIs X H s r) ∧ ps = rs.map (fun r => D.tup [r.z, r.d]) ∧ us = rs.map fun r => Value.ref r.t
  | [], _, _, .nil, .nil, _ => ⟨[], (fun _ h => by cases h), rfl, rfl⟩
  | p :: ps, v :: vs, u :: us, .cons w ws, .cons r rs, h => by
    rw [List.all_cons, Bool.and_eq_true] at h
    obtain ⟨rl, h1, h2, h3⟩ := pairs_is I ws rs h.2
    have hp := h.1
    unfold prOk at hp
    split at hp
    rotate_left
    · cases hp
    rename_i z d
    rw [Bool.and_eq_true] at hp
    obtain ⟨k, hk⟩ := Option.isSome_iff_exists.mp hp.1
    obtain ⟨t, vs2, rfl, sq, wl⟩ := w.tup
    obtain rfl : u = .ref t := r
    obtain ⟨its, rv, hit, _⟩ := I.tuple sq
    obtain ⟨vz, vd, rfl, w1, w2⟩ := wl.ofTwo
    obtain ⟨uz, ud, rfl, r1, r2⟩ := vals2 rv
    obtain ⟨b, rfl, rfl, ki⟩ := key_at I w1 hk r1
    obtain ⟨ob, ho, hc, n, hd⟩ := hit
    refine ⟨⟨t, k, b, z, d, vd, ud⟩ :: rl, fun r hr => ?_, by simp [h2], by simp [h3]⟩
    rcases List.mem_cons.mp hr with rfl | hr
    · exact ⟨hk, w1, w2, hp.2, r2, ⟨ob, ho, hc, n, hd⟩, ki⟩
    · exact h1 r hr
theorem stored_all {xs : List (NestedKey × Addr × Value)} : ∀ (rs : List Pr) (xs : List (NestedKey × Addr × Value)), (xs.map (·.1)).Nodup → storedAllH xs (rs.map fun r => (r.k, r.b, r.u)) = rs.foldl (fun a r => stR a r.k r.b r.u) xs
  | [], xs, _ => rfl
  | r :: rs, xs, h => by
    have e : storedH xs r.k r.b r.u = stR xs r.k r.b r.u := stR_val xs r.k r.b r.u h
    have hn : ((stR xs r.k r.b r.u).map (·.1)).Nodup := by
      rw [stR_keys]
      split
      · exact h
      · rename_i hk
        rw [List.nodup_append]
        refine ⟨h, by simp, fun a ha b hb => ?_⟩
        rw [List.mem_singleton] at hb
        subst hb
        exact fun q => hk (q ▸ ha)
    have ih := stored_all (xs := xs) rs (stR xs r.k r.b r.u) hn
    unfold storedAllH at ih ⊢
    rw [List.map_cons, List.foldl_cons, List.foldl_cons, ← ih]
    show List.foldl _ (storedH xs r.k r.b r.u) _ = _
    rw [e]
theorem kv_all {xs : List (NestedKey × Addr × Value)} : ∀ (rs : List Pr) (kvs : List (NestedKey × Addr × V)) (xs : List (NestedKey × Addr × Value)), (∀ r ∈ rs, PrIs X H s r) → KvR kvs xs → KvR (rs.foldl (fun a r => stR a r.k r.b r.v) kvs) (rs.foldl (fun a r => stR a r.k r.b r.u) xs)
  | [], kvs, xs, _, h => h
  | r :: rs, kvs, xs, hr, h => kv_all (xs := xs) rs _ _ (fun z hz => hr z (List.mem_cons_of_mem _ hz)) (h.st r.k r.b (hr r List.mem_cons_self).rv)
theorem mg_all {H' : Hp} : ∀ (rs : List Pr) (a : List D × List D) (kvs : List (NestedKey × Addr × V)), (∀ r ∈ rs, keyT r.z = some r.k ∧ W1 X.kw H' r.z (.ref r.b) ∧ W1 X.kw H' r.d r.v ∧ r.d.imm = true) → KeysR a.1 kvs → WL X.kw H' a.1 (kvs.map kRef) → Reps X.kw H' a.2 (kvs.map kVal) [] →
    KeysR (mgD (rs.map fun r => D.tup [r.z, r.d]) a).1 (rs.foldl (fun a r => stR a r.k r.b r.v) kvs) ∧ WL X.kw H' (mgD (rs.map fun r => D.tup [r.z, r.d]) a).1 ((rs.foldl (fun a r => stR a r.k r.b r.v) kvs).map kRef) ∧ Reps X.kw H' (mgD (rs.map fun r => D.tup [r.z, r.d]) a).2 ((rs.foldl (fun a r => stR a r.k r.b r.v) kvs).map kVal) []
  | [], a, kvs, _, h1, h2, h3 => ⟨h1, h2, h3⟩
  | r :: rs, a, kvs, hr, h1, h2, h3 => by
    obtain ⟨q1, q2, q3, q4⟩ := hr r List.mem_cons_self
    obtain ⟨i1, i2, f', i3, i4⟩ := st_ok q1 q2 (q3.rep q4) h1 h2 h3 fun _ h => by cases h
    have ef : f' = [] := by
      cases f' with
      | nil => rfl
      | cons c f' => exact ((i4 c List.mem_cons_self).elim (fun z => by cases z) fun z => by cases z)
    subst ef
    exact mg_all rs _ _ (fun z hz => hr z (List.mem_cons_of_mem _ hz)) i1 i2 i3
theorem len_all {α : Type} {f : Pr → α} : ∀ (rs : List Pr) (kvs : List (NestedKey × Addr × α)), (rs.foldl (fun a r => stR a r.k r.b (f r)) kvs).length ≤ kvs.length + rs.length
  | [], kvs => by simp
  | r :: rs, kvs => by
    have := len_all (f := f) rs (stR kvs r.k r.b (f r))
    have h2 := stR_len kvs r.k r.b (f r)
    rw [List.foldl_cons, List.length_cons]
    omega
theorem dict_ok (hc : X.calm = true) (hu : X.A.units + 65 < cLine) : CallR X (.type "dict") (rD X.kw dDict true) := by
  intro pins s σ H xs us Q I r h
  obtain ⟨ds, d, w, e, q⟩ := h
  unfold dDict at e
  split at e
  · rename_i oo ps
    obtain ⟨x, rfl, w1⟩ := w.ofOne
    split at e
    · rename_i cond
      cases e
      obtain ⟨hok, hlim⟩ := cond
      obtain ⟨p, vs, rfl, sq, w2⟩ := w1.lst
      obtain ⟨its, rv, hl, hz⟩ := I.list sq
      obtain ⟨u, rfl, ru⟩ := vals1 r
      obtain rfl : u = Value.ref p := ru
      obtain ⟨rs, hrs, eps, eus⟩ := pairs_is I w2 rv hok
      have hlen : rs.length = its.length := by rw [eus, List.length_map]
      obtain ⟨ob, n, ho, hcl, hd, hdat⟩ := hl
      let Ts : Nat → Addr := fun j => ((rs[j]?).map (·.t)).getD 0
      have P := PairArg.list (prog := X.prog) (w := X.w) p its.toArray Ts (rs.map fun r => ((Value.ref r.b), r.u))
      have ok : PlainSeq "list" s.heap p its.toArray ∧ PairItems s.heap its.toArray Ts (rs.map fun r => ((Value.ref r.b), r.u)) := by
        refine ⟨⟨ob, n, ho, hcl, hd, hdat⟩, by simp [hlen], fun j k v hj => ?_⟩
        rw [List.getElem?_map, Option.map_eq_some_iff] at hj
        obtain ⟨r, hr, ej⟩ := hj
        cases ej
        refine ⟨?_, ?_⟩
        · rw [List.getElem?_toArray, eus, List.getElem?_map, hr]
          simp [Ts, hr]
        · simp only [Ts, hr, Option.map_some, Option.getD_some]
          exact .inl (hrs r (List.mem_of_getElem? hr)).tu
      have hz2 : rs.length ≤ sizeLine := by rw [hlen, ← rv.length]; exact hz
      have hm : (s.heap.objs.size == sysModules) = false := beq_eq_false_iff_ne.mpr (Nat.ne_of_gt I.big)
      refine call_dict_pairsH (knd := nestedKind X.prog X.w) (ps := rs.map fun r => (r.k, r.b, r.u)) P (I.ok.hd hc) ?_ ok ⟨by simp, fun i key v hi => ?_⟩ (fun h' hk x hx => ?_) (by simpa using hz2) fun h' tk hd' hk => ?_
      · show X.A.units + 1 + 1 + 8 < cLine
        omega
      · rw [PairRel, List.getElem?_map, Option.map_eq_some_iff] at hi
        obtain ⟨r, hr, ej⟩ := hi
        cases ej
        exact ⟨r.k, r.b, by rw [List.getElem?_map, hr]; rfl, rfl⟩
      · obtain ⟨r, hr, rfl⟩ := List.mem_map.mp hx
        exact nestedKind_stays.stays (fun b o vs n e _ => hk b o (Nat.ne_of_lt (Heap.lt_size e)) (fun q => nomatch q) e) (hrs r hr).is
      · rw [stored_all (xs := []) rs [] List.nodup_nil] at hd'
        have kv := kv_all (X := X) (H := H) (s := s) (xs := []) rs [] [] hrs .nil
        have ll := len_all (f := fun r : Pr => r.v) rs []
        have hp : H s.heap.objs.size = none := I.hok.fresh (Nat.le_refl _)
        refine ⟨.ref s.heap.objs.size, upd H s.heap.objs.size (DkO X.kw s.heap.objs.size (rs.foldl (fun a r => stR a r.k r.b r.v) [])), I.laid (t' := tk) (fun b o hb => hk b o (fun q => nomatch q) hb) (Nat.le_refl _) (dk_ok hm kv hd'), rfl, ?_⟩
        have sm : Same H (upd H s.heap.objs.size (DkO X.kw s.heap.objs.size (rs.foldl (fun a r => stR a r.k r.b r.v) []))) := same_upd hp
        obtain ⟨g1, g2, g3⟩ := mg_all (X := X) (H' := upd H s.heap.objs.size (DkO X.kw s.heap.objs.size (rs.foldl (fun a r => stR a r.k r.b r.v) []))) rs ([], []) [] (fun r hr => ⟨(hrs r hr).key, ((hrs r hr).wz).same sm, ((hrs r hr).wd).same sm, (hrs r hr).im⟩) rfl .nil .nil
        rw [← eps] at g1 g2 g3
        refine q _ _ [s.heap.objs.size] sm (.dicO upd_same g1 (g2.reps (keysR_imm g1)) g3 (fun z => by cases z)) fun _ c hc => ?_
        rw [List.mem_singleton] at hc
        rw [hc]; exact hp
    · cases e
  · cases e
end
end VL

/-! VL6: the operations by name, the syntax that writes them, the rule for each. -/
namespace VL
open PySem PySem.Spec PyProof.Rows L2

inductive Op where
  | bin (o : Operator) | neg | cmp (o : CmpOp) | ix | slc (lo hi : Bool) | tup | lst
  | len | int | str | tuple | list | abs | max2 | min2 | sum | isi (T : String) | join | split | find | count | rev | isx | fld (f : String) | idx | idxL | cntL | get | sorted | dictL
  deriving DecidableEq, Repr
def dTup : List D → Option D := fun ds => if immL ds = true ∧ ds.length ≤ LIM then some (.tup ds) else none
def dLst : List D → Option D := fun ds => if immL ds = true ∧ ds.length ≤ LIM then some (.lst true ds) else none
def dSlc : Bool → Bool → List D → Option D
  | false, false, [a] => dSlc1 none none a
  | true, false, [a, .int i] => dSlc1 (some i) none a
  | false, true, [a, .int i] => dSlc1 none (some i) a
  | true, true, [a, .int i, .int j] => dSlc1 (some i) (some j) a
  | _, _, _ => none
def dBin : Operator → List D → Option D
  | .Add => dAdd
  | .Sub => dSub
  | .Mult => dMul
  | .FloorDiv => dFdiv
  | .Mod => dMod
  | .Pow => dPow
  | _ => fun _ => none
/-- == with an empty dict, of data -/
def dEqD (neg : Bool) : List D → Option D
  | [.dic _ ks _, .dic _ [] []] => some (.bl (xor neg ks.isEmpty))
  | ds => dEq neg ds
def dCmpO : CmpOp → List D → Option D
  | .Eq => dEqD false
  | .NotEq => dEqD true
  | .Lt => dCmp fun i j => decide (i < j)
  | .LtE => dCmp fun i j => decide (i ≤ j)
  | .Gt => dCmp fun i j => decide (j < i)
  | .GtE => dCmp fun i j => decide (j ≤ i)
  | .Is => dIs false
  | .IsNot => dIs true
  | .In => dIn false
  | .NotIn => dIn true
/-- x[::-1] -/
def dRev : List D → Option D
  | [.str s] => some (.str s.reverse)
  | [.lst _ xs] => if immL xs = true then some (.lst true xs.reverse) else none
  | [.tup xs] => if immL xs = true then some (.tup xs.reverse) else none
  | _ => none
def applyOp : Op → List D → Option D
  | .bin o => dBin o
  | .neg => dNeg
  | .cmp o => dCmpO o
  | .ix => dIx
  | .slc a b => dSlc a b
  | .tup => dTup
  | .lst => dLst
  | .len => dLen
  | .int => dInt
  | .str => dStr
  | .tuple => dTuple
  | .list => dList
  | .abs => dAbs
  | .max2 => dMaxA
  | .min2 => dMinA
  | .sum => dSum
  | .isi T => dIsi T
  | .join => dJoin
  | .split => dSplit
  | .find => dFind
  | .count => dCount
  | .rev => dRev
  | .isx => dIsx
  | .fld f => dFld f
  | .idx => dIdx
  | .idxL => dIdxL
  | .cntL => dCntL
  | .get => dGet
  | .sorted => dSorted
  | .dictL => dDict
def Op.new : Op → Bool
  | .ix => false
  | .fld _ => false
  | .get => false
  | _ => true

/-! ### readings of operands -/
def Mono (t : TE) : Prop := ∀ σ H (Q Q' : VK), (∀ v H', Q v H' → Q' v H') → t σ H Q → t σ H Q'
theorem peWeak {X : Cx} {e : Expr} {t t' : TE} (h : PE X e t) (w : ∀ σ H Q, t' σ H Q → t σ H Q) : PE X e t' := ⟨fun pins s σ H Q I q => h.run pins s σ H Q I (w σ H Q q)⟩
theorem ptWeak {X : Cx} {e : Expr} {t t' : TT} (h : PT X e t) (w : ∀ σ H Q, t' σ H Q → t σ H Q) : PT X e t' := ⟨fun pins s σ H Q I q => h.run pins s σ H Q I (w σ H Q q)⟩
def tL : List TE → TA
  | [] => tNil
  | t :: ts => tCons t (tL ts)
theorem tL_mono : ∀ {ts : List TE}, (∀ t ∈ ts, Mono t) → ∀ σ H (Q Q' : List V → Hp → Prop), (∀ v H', Q v H' → Q' v H') → tL ts σ H Q → tL ts σ H Q'
  | [], _, σ, H, Q, Q', h, q => h _ _ q
  | t :: ts, m, σ, H, Q, Q', h, q => m t List.mem_cons_self σ H _ _ (fun v H' q' => tL_mono (fun u hu => m u (List.mem_cons_of_mem _ hu)) σ H' _ _ (fun vs H2 q2 => h _ _ q2) q') q
def notStar : Expr → Bool
  | .Starred .. => false
  | _ => true
theorem star_cons {e : Expr} {es : List Expr} {env : Env} (h : notStar e = true) : starEach (e :: es) env = (false, eval e env) :: starEach es env := by
  cases e <;> first | rfl | cases h
inductive PEs (X : Cx) : List Expr → List TE → Prop
  | nil : PEs X [] []
  | cons {e : Expr} {es : List Expr} {t : TE} {ts : List TE} : PE X e t → Mono t → notStar e = true → PEs X es ts → PEs X (e :: es) (t :: ts)
theorem PEs.pa {X : Cx} : ∀ {es : List Expr} {ts : List TE}, PEs X es ts → PA X es (tL ts)
  | _, _, .nil => pa_nil
  | _, _, .cons h _ n r => pa_cons h r.pa (star_cons n)
theorem PEs.mono {X : Cx} : ∀ {es : List Expr} {ts : List TE}, PEs X es ts → ∀ t ∈ ts, Mono t
  | _, _, .nil => fun _ h => nomatch h
  | _, _, .cons _ m _ r => fun t ht => by
    rcases List.mem_cons.mp ht with e | e
    · rw [e]; exact m
    · exact r.mono t e
theorem PEs.len {X : Cx} : ∀ {es : List Expr} {ts : List TE}, PEs X es ts → es.length = ts.length
  | _, _, .nil => rfl
  | _, _, .cons _ _ _ r => by rw [List.length_cons, List.length_cons, r.len]
theorem PEs.one {X : Cx} {e : Expr} {ts : List TE} (h : PEs X [e] ts) : ∃ t, ts = [t] ∧ PE X e t ∧ Mono t := by
  cases h with
  | cons a b _ c => cases c; exact ⟨_, rfl, a, b⟩
theorem PEs.two {X : Cx} {e f : Expr} {ts : List TE} (h : PEs X [e, f] ts) : ∃ t u, ts = [t, u] ∧ PE X e t ∧ PE X f u ∧ Mono t ∧ Mono u := by
  cases h with
  | cons a b _ c => cases c with
    | cons a2 b2 _ c => cases c; exact ⟨_, _, rfl, a, a2, b, b2⟩
theorem PEs.three {X : Cx} {e f g : Expr} {ts : List TE} (h : PEs X [e, f, g] ts) : ∃ t u v, ts = [t, u, v] ∧ PE X e t ∧ PE X f u ∧ PE X g v := by
  cases h with
  | cons a b _ c => cases c with
    | cons a2 b2 _ c => cases c with
      | cons a3 b3 _ c => cases c; exact ⟨_, _, _, rfl, a, a2, a3⟩
theorem PEs.stars {X : Cx} : ∀ {es : List Expr} {ts : List TE}, PEs X es ts → ∀ e ∈ es, notStar e = true
  | _, _, .nil => fun _ h => nomatch h
  | _, _, .cons _ _ n r => fun e he => by
    rcases List.mem_cons.mp he with q | q
    · rw [q]; exact n
    · exact r.stars e q
theorem stars_plain : ∀ {es : List Expr} {env : Env} {pos : Pos}, (∀ e ∈ es, notStar e = true) → (backTo pos (starEach es env)).any (·.1) = false
  | [], _, _, _ => rfl
  | e :: es, env, pos, h => by
    rw [star_cons (h e List.mem_cons_self)]
    show (false || (backTo pos (starEach es env)).any (·.1)) = false
    rw [stars_plain fun x hx => h x (List.mem_cons_of_mem _ hx)]; rfl
theorem stars_len : ∀ {es : List Expr} {env : Env}, (∀ e ∈ es, notStar e = true) → (starEach es env).length = es.length
  | [], _, _ => rfl
  | e :: es, env, h => by
    rw [star_cons (h e List.mem_cons_self), List.length_cons, List.length_cons, stars_len fun x hx => h x (List.mem_cons_of_mem _ hx)]
theorem stars_all {es : List Expr} {env : Env} {pos : Pos} (h : ∀ e ∈ es, notStar e = true) : (backTo pos (starEach es env)).all (fun x => !x.1) = true := by
  have := stars_plain (env := env) (pos := pos) h
  rw [List.any_eq_false] at this
  rw [List.all_eq_true]
  intro x hx
  have := this x hx
  simpa using this

def D.isStr : D → Bool
  | .str _ => true
  | _ => false
def D.isTup : D → Bool
  | .tup _ => true
  | _ => false
def D.isLst : D → Bool
  | .lst _ _ => true
  | _ => false
def D.isDic : D → Bool
  | .dic _ _ _ => true
  | _ => false
/-- what a method's receiver must be -/
def okRecv : Op → D → Bool
  | .join, d => d.isStr
  | .split, d => d.isStr
  | .find, d => d.isStr
  | .count, d => d.isStr
  | .idxL, d => d.isLst
  | .cntL, d => d.isLst
  | .get, d => d.isDic
  | _, _ => true
def Rcv (K : KW) (o : Op) (x : V) (H : Hp) : Prop := ∃ d0, W1 K H d0 x ∧ okRecv o d0 = true
/-- the operands from the left, the first one looked at -/
def tLc (C : V → Hp → Prop) : List TE → TA
  | [] => tNil
  | t :: ts => fun σ H Q => t σ H fun x H1 => C x H1 ∧ tL ts σ H1 fun xs H2 => Q (x :: xs) H2
theorem tLc_drop {C : V → Hp → Prop} : ∀ {ts : List TE}, (∀ t ∈ ts, Mono t) → ∀ σ H (Q : List V → Hp → Prop), tLc C ts σ H Q → tL ts σ H Q
  | [], _, _, _, _, q => q
  | t :: ts, m, σ, H, Q, q => m t List.mem_cons_self σ H _ _ (fun v H' q' => q'.2) q
theorem recv_ok {o : Op} {d0 : D} {ds : List D} {d : D} (h : applyOp o (d0 :: ds) = some d) : okRecv o d0 = true := by
  cases o <;> first
    | rfl
    | (cases d0 <;> first | rfl | (simp [applyOp, dJoin, dSplit, dFind, dCount, dIdxL, dCntL, dGet] at h))
/-- the node's reading: the operands from the left, then the operation -/
def tNode (K : KW) (o : Op) (ts : List TE) : TE := fun σ H Q => tLc (Rcv K o) ts σ H fun vs H' => rD K (applyOp o) o.new vs H' Q
/-- .. without the look -/
def tNode0 (K : KW) (o : Op) (ts : List TE) : TE := fun σ H Q => tL ts σ H fun vs H' => rD K (applyOp o) o.new vs H' Q
theorem node0 {X : Cx} {e : Expr} {o : Op} {es : List Expr} {ts : List TE} (ps : PEs X es ts) (h : PE X e (tNode0 X.kw o ts)) : PE X e (tNode X.kw o ts) := peWeak h fun σ H Q q => tLc_drop ps.mono σ H _ q

/-! ### the syntax -/
def binOk : Operator → Bool
  | .Add | .Sub | .Mult | .FloorDiv | .Mod | .Pow => true
  | _ => false
def gl (sc : Scope) (x : Str) : Bool := decide (sc.names.lookup x = some .globalImplicit)
def notSlice : Expr → Bool
  | .Slice .. => false
  | _ => true
def notSet : Expr → Bool
  | .Set .. => false
  | _ => true
/-- no call without arguments of a plain name -/
def notBare : Expr → Bool
  | .Call (.Name _ _) [] [] _ => false
  | _ => true
def nCall (sc : Scope) (x : Str) : Expr → Option (List Expr)
  | .Call (.Name y _) es [] _ => if y = x ∧ gl sc x = true ∧ es.isEmpty = false then some es else none
  | _ => none
/-- a method with one argument -/
def nMeth1 (m : Str) : Expr → Option (List Expr)
  | .Call (.Attribute o n apos) [a] [] pos => if n = m ∧ notBare o = true ∧ (apos.endLine == pos.line) = true then some [o, a] else none
  | _ => none
/-- a method with one argument, or two -/
def nMeth12 (m : Str) : Expr → Option (List Expr)
  | .Call (.Attribute o n apos) [a] [] pos => if n = m ∧ notBare o = true ∧ (apos.endLine == pos.line) = true then some [o, a] else none
  | .Call (.Attribute o n apos) [a, b] [] pos => if n = m ∧ notBare o = true ∧ (apos.endLine == pos.line) = true then some [o, a, b] else none
  | _ => none
def opnds (sc : Scope) : Op → Expr → Option (List Expr)
  | .bin o, e => match e with
    | .BinOp l o' r _ => if o' = o ∧ binOk o = true then some [l, r] else none
    | _ => none
  | .neg, e => match e with
    | .UnaryOp .USub a _ => some [a]
    | _ => none
  | .cmp o, e => match e with
    | .Compare a [o'] [b] _ => if o' = o ∧ notSet b = true then some [a, b] else none
    | _ => none
  | .ix, e => match e with
    | .Subscript a b _ => if notSlice b = true then some [a, b] else none
    | _ => none
  | .slc lo hi, e => match e with
    | .Subscript a (.Slice l u none _) _ => match lo, hi, l, u with
      | false, false, none, none => some [a]
      | true, false, some x, none => some [a, x]
      | false, true, none, some x => some [a, x]
      | true, true, some x, some y => some [a, x, y]
      | _, _, _, _ => none
    | _ => none
  | .tup, e => match e with
    | .Tuple es _ _ => some es
    | _ => none
  | .lst, e => match e with
    | .List es _ => some es
    | _ => none
  | .len, e => nCall sc "len" e
  | .int, e => nCall sc "int" e
  | .str, e => nCall sc "str" e
  | .tuple, e => nCall sc "tuple" e
  | .list, e => nCall sc "list" e
  | .abs, e => nCall sc "abs" e
  | .max2, e => nCall sc "max" e
  | .min2, e => nCall sc "min" e
  | .sum, e => nCall sc "sum" e
  | .isi T, e => match nCall sc "isinstance" e with
    | some [a, .Name y _] => if y = Str.ofString T ∧ gl sc y = true then some [a] else none
    | _ => none
  | .join, e => nMeth1 "join" e
  | .split, e => nMeth1 "split" e
  | .find, e => nMeth1 "find" e
  | .count, e => nMeth1 "count" e
  | .idx, e => match e with
    | .Call (.Attribute (.Tuple es _ _) n apos) [a] [] pos => if n = ("index" : Str) ∧ (apos.endLine == pos.line) = true ∧ es.length ≤ 1000 then some (es ++ [a]) else none
    | _ => none
  | .idxL, e => nMeth1 "index" e
  | .cntL, e => nMeth1 "count" e
  | .get, e => nMeth12 "get" e
  | .sorted, e => nCall sc "sorted" e
  | .dictL, e => nCall sc "dict" e
  | .isx, e => match nCall sc "isinstance" e with
    | some [a, .Name y p] => some [a, .Name y p]
    | _ => none
  | .fld f, e => match e with
    | .Attribute a n _ => if n = Str.ofString f ∧ notBare a = true then some [a] else none
    | _ => none
  | .rev, e => match e with
    | .Subscript a (.Slice none none (some (.UnaryOp .USub (.Constant (.int 1) _ _) _)) _) _ => some [a]
    | _ => none
theorem nCall_inv {sc : Scope} {x : Str} {e : Expr} {es : List Expr} (h : nCall sc x e = some es) : ∃ p pos, e = .Call (.Name x p) es [] pos ∧ sc.names.lookup x = some .globalImplicit ∧ es ≠ [] := by
  unfold nCall at h
  split at h
  · rename_i y p es' pos
    split at h
    · rename_i q
      cases h
      obtain ⟨rfl, g, ne⟩ := q
      exact ⟨_, _, rfl, of_decide_eq_true g, fun z => by rw [z] at ne; cases ne⟩
    · cases h
  · cases h
theorem nMeth1_inv {m : Str} {e : Expr} {es : List Expr} (h : nMeth1 m e = some es) : ∃ o a apos pos, e = .Call (.Attribute o m apos) [a] [] pos ∧ es = [o, a] ∧ notBare o = true ∧ (apos.endLine == pos.line) = true := by
  unfold nMeth1 at h
  split at h
  · split at h
    · rename_i q
      cases h
      obtain ⟨rfl, a, b⟩ := q
      exact ⟨_, _, _, _, rfl, rfl, a, b⟩
    · cases h
  · cases h
theorem base_plain {o : Expr} {m : Str} {env : Env} {w : Sem Value} (h : notBare o = true) : attributeBase o m env w = w := by
  unfold attributeBase
  split
  · cases h
  · rfl

/-- what a context must be -/
structure Cok (X : Cx) : Prop where
  calm : X.calm = true
  nd : X.N.Nodup
  blt : ∀ x ∈ bnames, X.mg x = none
  units : X.A.units + 65 < cLine
section
variable {X : Cx} {e : Expr} {o : Op} {es : List Expr} {ts : List TE}
theorem callB_pe {id : String} {x : Str} (C : Cok X) (hc : CallR X (.builtin id) (rD X.kw (applyOp o) o.new)) (hx : x ∈ bnames) (hv : bootBuiltins x = some (.builtin id))
    (hn : x ≠ "__name__") (hd : (x == ("__debug__" : Str)) = false) (h : nCall X.env.scope x e = some es) (ps : PEs X es ts) : PE X e (tNode X.kw o ts) := by
  obtain ⟨p, pos, rfl, g, ne⟩ := nCall_inv h
  cases es with
  | nil => exact absurd rfl ne
  | cons a r => exact node0 ps (pe_callB hc g (C.blt x hx) hv ps.pa hn hd (star_cons (ps.stars a List.mem_cons_self)) (stars_plain fun z hz => ps.stars z (List.mem_cons_of_mem _ hz)))
theorem callT_pe {T : String} {x : Str} (C : Cok X) (hc : CallR X (.type T) (rD X.kw (applyOp o) o.new)) (hx : x ∈ bnames) (hv : bootBuiltins x = some (.type T))
    (hn : x ≠ "__name__") (hd : (x == ("__debug__" : Str)) = false) (h : nCall X.env.scope x e = some es) (ps : PEs X es ts) : PE X e (tNode X.kw o ts) := by
  obtain ⟨p, pos, rfl, g, ne⟩ := nCall_inv h
  cases es with
  | nil => exact absurd rfl ne
  | cons a r => exact node0 ps (pe_callTy hc g (C.blt x hx) hv ps.pa hn hd (star_cons (ps.stars a List.mem_cons_self)) (stars_plain fun z hz => ps.stars z (List.mem_cons_of_mem _ hz)))
theorem W1.isStr {K : KW} {H : Hp} {d : D} {x : V} (w : W1 K H d x) (h : d.isStr = true) : tyV K "str" x H := by
  cases d with
  | str s => rw [w.str.1]; exact rfl
  | _ => cases h
/-- a method of texts with one argument -/
theorem strM_pe {id : String} {m : Str} (slot : Slot "str" m id) (ty : typeOf (.builtin id) = pure (.type "method_descriptor")) (hm : MtR X id (fun x xs => rD X.kw (applyOp o) o.new (x :: xs))) (hr : ∀ d, okRecv o d = d.isStr)
    (h : nMeth1 m e = some es) (ps : PEs X es ts) : PE X e (tNode X.kw o ts) := by
  obtain ⟨r, a, apos, pos, rfl, rfl, nb, ln⟩ := nMeth1_inv h
  cases ps with
  | cons hp hmo hs rest =>
    have st := star_cons (es := []) (env := X.env) (rest.stars a List.mem_cons_self)
    refine peWeak (pe_bm (T := "str") PySem.F.plainAttrs_str slot ty hm hp rest.pa (base_plain nb) (by rw [st]; rfl) ln st (by rfl)) fun σ H Q q => ?_
    exact hmo σ H _ _ (fun x H1 ⟨⟨d0, w, ok⟩, q⟩ => ⟨w.isStr (by rw [← hr]; exact ok), q⟩) q
/-- a method of lists with one argument -/
theorem lstM_pe {id : String} {m : Str} (slot : Slot "list" m id) (ty : typeOf (.builtin id) = pure (.type "method_descriptor")) (hm : MtR X id (fun x xs => rD X.kw (applyOp o) o.new (x :: xs))) (hr : ∀ d, okRecv o d = d.isLst)
    (h : nMeth1 m e = some es) (ps : PEs X es ts) : PE X e (tNode X.kw o ts) := by
  obtain ⟨r, a, apos, pos, rfl, rfl, nb, ln⟩ := nMeth1_inv h
  cases ps with
  | cons hp hmo hs rest =>
    have st := star_cons (es := []) (env := X.env) (rest.stars a List.mem_cons_self)
    refine peWeak (pe_bm (T := "list") PySem.F.plainAttrs_list slot ty hm hp rest.pa (base_plain nb) (by rw [st]; rfl) ln st (by rfl)) fun σ H Q q => ?_
    refine hmo σ H _ _ (fun x H1 ⟨⟨d0, w, ok⟩, q⟩ => ⟨?_, q⟩) q
    rw [hr] at ok
    cases d0 with
    | lst oo xs =>
      obtain ⟨p, vs, rfl, sq, _⟩ := w.lst
      exact .inl ⟨rfl, vs, sq⟩
    | _ => cases ok
theorem nMeth12_inv {m : Str} {e : Expr} {es : List Expr} (h : nMeth12 m e = some es) : ∃ o a r apos pos, e = .Call (.Attribute o m apos) (a :: r) [] pos ∧ es = o :: a :: r ∧ r.length ≤ 1 ∧ notBare o = true ∧ (apos.endLine == pos.line) = true := by
  unfold nMeth12 at h
  split at h
  · split at h
    · rename_i q
      cases h
      obtain ⟨rfl, a, b⟩ := q
      exact ⟨_, _, [], _, _, rfl, rfl, by simp, a, b⟩
    · cases h
  · split at h
    · rename_i q
      cases h
      obtain ⟨rfl, a, b⟩ := q
      exact ⟨_, _, [_], _, _, rfl, rfl, by simp, a, b⟩
    · cases h
  · cases h
theorem dic_is {X : Cx} {pins : List (Addr × Obj)} {σ : L2.St} {H : Hp} {s : Shared} {o : Bool} {ks vs : List D} {x : V} {v : Value} (I : Inv X pins σ H s) (w : W1 X.kw H (.dic o ks vs) x) (r : RelV x v) :
    s.TypeIs v "dict" ∧ ∀ a, v = .ref a → ∃ ob, s.heap.get? a = some ob ∧ ob.dict = none := by
  obtain ⟨a, kvs, rfl, da, kr, wk, wv⟩ := w.dic
  cases r
  obtain ⟨hs0, xs, rel, dd⟩ := dk_at I da kr wk
  refine ⟨dd.typeIs, fun b e => ?_⟩
  cases e
  obtain ⟨ob, _, _, h1, h2, _⟩ := dd
  exact ⟨ob, h1, h2.2.1⟩
/-- a method of dicts -/
theorem dicM_pe {id : String} {m : Str} (slot : Slot "dict" m id) (ty : typeOf (.builtin id) = pure (.type "method_descriptor")) (hm : MtR X id (fun x xs => rD X.kw (applyOp o) o.new (x :: xs))) (hr : ∀ d, okRecv o d = d.isDic)
    (h : nMeth12 m e = some es) (ps : PEs X es ts) : PE X e (tNode X.kw o ts) := by
  obtain ⟨r, a, rs, apos, pos, rfl, rfl, hl, nb, ln⟩ := nMeth12_inv h
  cases ps with
  | cons hp hmo hs rest =>
    have st := star_cons (es := rs) (env := X.env) (rest.stars a List.mem_cons_self)
    have hall := stars_all (es := a :: rs) (env := X.env) (pos := pos) rest.stars
    have hpl := stars_plain (es := rs) (env := X.env) (pos := pos) fun z hz => rest.stars z (List.mem_cons_of_mem _ hz)
    refine ⟨fun pins s σ H Q I q => ?_⟩
    refine wpAny_Call_method_late (base_plain nb) ?_ ln rfl (thn (hp.run pins s σ H _ I q) fun v s1 ⟨x, H1, I1, r1, ⟨d0, w0, ok⟩, q1⟩ => ?_)
    · rw [hall]
      have : decide ((a :: rs).length + ([] : List Keyword).length + (if ([] : List Keyword).isEmpty then 0 else 1) < 30) = true := decide_eq_true (by simp; omega)
      rw [this]
      rfl
    · rw [hr] at ok
      cases d0 with
      | dic oo ks vs =>
        obtain ⟨h1, h2⟩ := dic_is I1 w0 r1
        refine ⟨"dict", id, PySem.F.plainAttrs_dict, slot, ty, h1, h2, ?_⟩
        have hA := rest.pa.run pos pins s1 σ H1 _ I1 q1
        rw [st] at hA ⊢
        refine Calls.callWith_builtin (by show (false || (backTo pos (starEach rs X.env)).any (·.1)) = false; rw [hpl]; rfl) (Calls.evalArgs_plain ?_)
        exact thn hA fun us s2 ⟨vs, H2, I2, r2, q2⟩ => hm pins s2 σ H2 x vs v us Q I2 r1 r2 q2
      | _ => cases ok
theorem PEs.snoc {X : Cx} {a : Expr} : ∀ {es : List Expr} {ts : List TE}, PEs X (es ++ [a]) ts → ∃ ts1 t, ts = ts1 ++ [t] ∧ PEs X es ts1 ∧ PE X a t ∧ notStar a = true ∧ es.length = ts1.length
  | [], ts, h => by
    cases h with
    | cons h1 h2 h3 h4 =>
      cases h4
      exact ⟨[], _, rfl, .nil, h1, h3, rfl⟩
  | e :: es, ts, h => by
    cases h with
    | cons h1 h2 h3 h4 =>
      obtain ⟨ts1, t, rfl, p, q, n, l⟩ := PEs.snoc h4
      exact ⟨_ :: ts1, t, rfl, .cons h1 h2 h3 p, q, n, by simp [l]⟩
theorem tL_snoc {t : TE} : ∀ (ts : List TE) (σ : L2.St) (H : Hp) (Q : List V → Hp → Prop), tL (ts ++ [t]) σ H Q = tL ts σ H fun vs H1 => t σ H1 fun v H2 => Q (vs ++ [v]) H2
  | [], _, _, _ => rfl
  | t0 :: ts, σ, H, Q => by
    show t0 σ H (fun x H1 => tL (ts ++ [t]) σ H1 fun xs H2 => Q (x :: xs) H2) = t0 σ H (fun x H1 => tL ts σ H1 fun xs H2 => t σ H2 fun v H3 => Q (x :: (xs ++ [v])) H3)
    congr 1
    funext x H1
    exact tL_snoc ts σ H1 _
theorem tL_len : ∀ {ts : List TE}, (∀ t ∈ ts, Mono t) → ∀ σ H (Q : List V → Hp → Prop), tL ts σ H Q → tL ts σ H fun vs H1 => vs.length = ts.length ∧ Q vs H1
  | [], _, _, _, _, q => ⟨rfl, q⟩
  | t :: ts, m, σ, H, Q, q => m t List.mem_cons_self σ H _ _ (fun v H' q' => tL_mono (fun u hu => m u (List.mem_cons_of_mem _ hu)) σ H' _ _ (fun vs H2 q2 => ⟨by simp [q2.1], q2.2⟩) (tL_len (fun u hu => m u (List.mem_cons_of_mem _ hu)) σ H' _ q')) q
/-- (a, b, ..).index(y) -/
theorem idxN_pe (C : Cok X) (h : opnds X.env.scope .idx e = some es) (ps : PEs X es ts) : PE X e (tNode X.kw .idx ts) := by
  refine node0 ps ?_
  simp only [opnds] at h
  split at h
  rotate_left
  · cases h
  rename_i es0 kk pp n apos a pos
  split at h
  rotate_left
  · cases h
  rename_i hq
  cases h
  obtain ⟨rfl, ln, hl⟩ := hq
  obtain ⟨ts1, t, rfl, p1, ha, ns, lt⟩ := ps.snoc
  have st := star_cons (es := []) (env := X.env) ns
  refine ⟨fun pins s σ H Q I q => ?_⟩
  have q' := q
  unfold tNode0 at q'
  rw [tL_snoc] at q'
  have q0 := tL_len p1.mono σ H _ q'
  refine wpAny_Call_method_late (base_plain rfl) (by rw [st]; rfl) ln rfl (wpAny_Tuple_spliced (thn (p1.pa.run pp pins s σ H _ I q0) fun us s1 ⟨vs, H1, I1, r1, hvl, q1⟩ => ⟨?_, ?_⟩))
  · have e1 := r1.length
    rw [lim_eq]
    have : (1000 : Nat) ≤ LIM := by decide
    omega
  · have hp : (s1.heap.push { cls := .type "tuple", data := .seq us.toArray }).get? s1.heap.objs.size = some { cls := .type "tuple", data := .seq us.toArray } := Heap.get?_push_size _ rfl
    refine ⟨"tuple", "tuple.index", PySem.F.plainAttrs_tuple, PySem.F.slot_tuple_index, PySem.F.type_tuple_index, ⟨_, hp, rfl⟩, fun a' ea => by cases ea; exact ⟨_, hp, rfl⟩, ?_⟩
    have I2 : Inv X pins σ H1 { s1 with heap := s1.heap.push { cls := .type "tuple", data := .seq us.toArray } } := I1.kept (t' := s1.toks) fun b o z => Heap.get?_push_of_some _ z
    obtain ⟨f0, f1, f2, f3, f4, f5⟩ := I1.fpOk (H' := H1) (b := s1.heap.objs.size) (Nat.le_refl _) (I1.hok.fresh (Nat.le_refl _))
    let pp1 : Addr × Obj := (s1.heap.objs.size, { cls := .type "tuple", data := .seq us.toArray })
    have I3 : Inv X (pins ++ [pp1]) σ H1 { s1 with heap := s1.heap.push { cls := .type "tuple", data := .seq us.toArray } } := by
      refine ⟨I2.ok, I2.os, I2.bare, I2.base, I2.loc, I2.cell, I2.free, I2.freeC, ?_, I2.hok, I2.len⟩
      intro z hz
      rw [← List.append_assoc] at hz
      rcases List.mem_append.mp hz with hz | hz
      · exact I2.pin z hz
      · rw [List.mem_singleton.mp hz]
        exact ⟨hp, f0, f1, f2, fun v hv => by cases hv⟩
    have hA := (pa_cons ha pa_nil st).run pos _ _ σ H1 _ I3 (show tCons t tNil σ H1 (fun ws H2 => ∃ v, ws = [v] ∧ rD X.kw (applyOp .idx) Op.idx.new (vs ++ [v]) H2 Q) from ?_)
    · rw [st] at hA ⊢
      refine Calls.callWith_builtin rfl (Calls.evalArgs_plain (thn hA fun us2 s3 ⟨ws, H3, I4, r2, v, ev, ds, d, w, e, qq⟩ => ?_))
      subst ev
      cases r2 with
      | cons ru rn =>
        cases rn
        have hp3 : s3.heap.get? s1.heap.objs.size = some { cls := .type "tuple", data := .seq us.toArray } := (I4.pin pp1 (by simp)).1
        have I5 : Inv X pins σ H3 s3 := by
          refine ⟨I4.ok, I4.os, I4.bare, I4.base, I4.loc, I4.cell, I4.free, I4.freeC, ?_, I4.hok, I4.len⟩
          intro z hz
          refine I4.pin z ?_
          rcases List.mem_append.mp hz with hz | hz
          · exact List.mem_append_left _ hz
          · exact List.mem_append_right _ (List.mem_append_left _ hz)
        exact idx_core I5 C.units hp3 w r1 ru e qq
    · have m : Mono t := ps.mono t (List.mem_append_right _ (List.mem_singleton.mpr rfl))
      exact m σ H1 _ _ (fun v H2 z => ⟨v, rfl, z⟩) q1
theorem lastM {o o' : CmpOp} {b c : Expr} (h : notSet c = true) : lastMarks [o, o'] [b, c] = false := by
  show behindInMarks o' c = false
  cases c <;> first | rfl | cases h
theorem noMark {o : CmpOp} {b : Expr} (h : notSet b = true) : behindInMarks o b = false := by
  cases b <;> first | rfl | cases h
/-- == of a dict and an empty one -/
theorem eq0_pairs {prog : Program} {w : World} {A : Around} {E : Value → Shared → Prop} {s : Shared} {K : Type} [DecidableEq K] {knd : HeapKind prog w K} {nm : String} {a b : Addr} {xs : List (K × Addr × Value)} {Q : Bool → Shared → Prop}
    (ha : (a == sysModules) = false) (hb : (b == sysModules) = false) (da : s.heap.DictOfH knd a xs) (db : s.heap.DictOfH knd b []) (h : Q xs.isEmpty s) : wpAny (model prog w) A (Builtin.Dict.samePairs nm a b) Q E s := by
  obtain ⟨oa, es, ep, hoa, _, hda, hea, _⟩ := da
  obtain ⟨ob, es', ep', hob, _, hdb, heb, _⟩ := db
  have hla : es.size = xs.length := by rw [← Array.length_toList, hea, List.length_map]
  have hlb : es'.size = 0 := by rw [← Array.length_toList, heb]; rfl
  unfold Builtin.Dict.samePairs Builtin.Dict.showsAll
  rw [if_neg (by rw [ha]; exact Bool.false_ne_true), if_neg (by rw [hb]; exact Bool.false_ne_true)]
  refine wpAny_bind (wpAny_pure (wpAny_bind (wpAny_pure (wpAny_bind (wpAny_dictEntries hoa hda ?_)))))
  refine wpAny_bind (wpAny_dictEntries hob hdb ?_)
  cases xs with
  | nil =>
    have z : es.size = 0 := hla
    rw [if_neg (by rw [z, hlb]; simp)]
    refine wpAny_bind (wpAny_dictEpoch hoa hda (wpAny_bind ?_))
    rw [Std.Legacy.Range.forIn_eq_forIn_range']
    simp only [Std.Legacy.Range.size, z, Nat.sub_zero, Nat.add_sub_cancel, Nat.div_one, List.range'_zero, List.forIn_nil]
    exact wpAny_pure (wpAny_pure h)
  | cons x xs =>
    rw [if_pos (by rw [hla, hlb]; simp)]
    exact wpAny_bind (wpAny_rule (wpAny_pure h))
theorem eqD_ok (neg : Bool) (op : CmpOp) (hop : op = if neg then .NotEq else .Eq) (hu : X.A.units + 65 < cLine) (old : OpR X (compareOp op) (fun x y => rD X.kw (dEq neg) true [x, y])) : OpR X (compareOp op) (fun x y => rD X.kw (dEqD neg) true [x, y]) := by
  intro pins s σ H x y v u Q I rx ry h
  obtain ⟨ds, d, w, e, q⟩ := h
  unfold dEqD at e
  split at e
  rotate_left
  · exact old pins s σ H x y v u Q I rx ry ⟨ds, d, w, e, q⟩
  cases e
  obtain ⟨_, _, e2, w1, w2⟩ := w.two
  cases e2
  obtain ⟨a, kvs, rfl, da, kr, wk, wv⟩ := w1.dic
  obtain ⟨b, kvs2, rfl, db, kr2, wk2, wv2⟩ := w2.dic
  cases rx
  cases ry
  obtain ⟨hs0, xs, rel, dd⟩ := dk_at I da kr wk
  obtain ⟨hs1, xs2, rel2, dd2⟩ := dk_at I db kr2 wk2
  have z2 : kvs2 = [] := List.eq_nil_of_length_eq_zero (by rw [← kr2.len]; rfl)
  subst z2
  cases rel2
  have en : xs.length = kvs.length := (Paired.length rel).symm
  have ee : ∀ ks : List D, ks.length = kvs.length → xs.isEmpty = ks.isEmpty := fun ks hk => by
    cases ks <;> cases xs <;> first | rfl | (simp at hk en; omega)
  have e3 := ee _ kr.len
  cases neg with
  | false =>
    subst hop
    refine wpAny_richCompare_same_room (op := .Eq) dd.typeIs dd2.typeIs PySem.F.slot_dict_eq (wpAny_call_entry PySem.F.slot_dict_eq dd.typeIs PySem.F.entry_dict_eq ?_ (PySem.F.args_dict_eq_2 _ _)) (by omega)
    show wpAny _ _ (Builtin.Dict.dictSlotArgs "__eq__" ⟨[.ref a, .ref b], []⟩ >>= _) _ _ s
    unfold Builtin.Dict.dictSlotArgs
    refine wpAny_bind (wpAny_bind (wpAny_notOrdered_dict dd.typeIs ?_))
    show wpAny _ _ (pure (Value.ref a, Value.ref b)) _ _ s
    refine wpAny_pure ?_
    refine wpAny_bind (wpAny_isInstance (T := "dict") dd2.typeIs PySem.F.sub_dict_dict ?_)
    simp only [Bool.not_true, Bool.false_eq_true, if_false]
    refine wpAny_bind (wpAny_pure (wpAny_bind (wpAny_pure (wpAny_bind (eq0_pairs hs0 hs1 dd dd2 (wpAny_pure ⟨_, rfl, (fun x => nomatch x), ?_⟩))))))
    rw [e3, beq_true]
    exact ⟨.bl _, H, I, rfl, scal_bl q⟩
  | true =>
    subst hop
    refine wpAny_richCompare_same_room (op := .NotEq) dd.typeIs dd2.typeIs PySem.F.slot_dict_ne (wpAny_call_entry PySem.F.slot_dict_ne dd.typeIs PySem.F.entry_dict_ne ?_ (PySem.F.args_dict_ne_2 _ _)) (by omega)
    show wpAny _ _ (Builtin.Dict.dictSlotArgs "__ne__" ⟨[.ref a, .ref b], []⟩ >>= _) _ _ s
    unfold Builtin.Dict.dictSlotArgs
    refine wpAny_bind (wpAny_bind (wpAny_notOrdered_dict dd.typeIs ?_))
    show wpAny _ _ (pure (Value.ref a, Value.ref b)) _ _ s
    refine wpAny_pure ?_
    refine wpAny_bind (wpAny_isInstance (T := "dict") dd2.typeIs PySem.F.sub_dict_dict ?_)
    simp only [Bool.not_true, Bool.false_eq_true, if_false]
    refine wpAny_bind (wpAny_pure (wpAny_bind (wpAny_pure (wpAny_bind (eq0_pairs hs0 hs1 dd dd2 (wpAny_pure ⟨_, rfl, (fun x => nomatch x), ?_⟩))))))
    rw [e3, beq_false]
    exact ⟨.bl _, H, I, rfl, scal_bl q⟩
theorem cmp_ok (C : Cok X) : ∀ o : CmpOp, OpR X (compareOp o) (fun x y => rD X.kw (dCmpO o) true [x, y])
  | .Eq => eqD_ok false .Eq rfl C.units (eq_ok (by have := C.units; omega))
  | .NotEq => eqD_ok true .NotEq rfl C.units (ne_ok (by have := C.units; omega))
  | .Lt => lt_ok
  | .LtE => le_ok
  | .Gt => gt_ok
  | .GtE => ge_ok
  | .Is => is_ok
  | .IsNot => isNot_ok
  | .In => in_ok C.units
  | .NotIn => notIn_ok C.units
theorem bin_ok : ∀ o : Operator, binOk o = true → OpR X (binaryOp o) (fun x y => rD X.kw (dBin o) true [x, y])
  | .Add, _ => add_ok
  | .Sub, _ => sub_ok
  | .Mult, _ => mul_ok
  | .FloorDiv, _ => fdiv_ok
  | .Mod, _ => mod_ok
  | .Pow, _ => pow_ok
/-- a comparison, as a value and as a test -/
theorem cmpN_pe {o : CmpOp} (C : Cok X) (h : opnds X.env.scope (.cmp o) e = some es) (ps : PEs X es ts) : PE X e (tNode X.kw (.cmp o) ts) ∧ PT X e (tTest (tNode0 X.kw (.cmp o) ts)) := by
  simp only [opnds] at h
  split at h
  · split at h
    · rename_i q
      cases h
      obtain ⟨rfl, ns⟩ := q
      obtain ⟨t, u, rfl, h1, h2, m1, m2⟩ := ps.two
      exact ⟨node0 ps (pe_cmpR (cmp_ok C _) h1 h2 (noMark ns)), pt_cmpR (cmp_ok C _) h1 h2 (noMark ns)⟩
    · cases h
  · cases h
theorem plainIx {b : Expr} (h : notSlice b = true) : PlainIx b := by
  intro o i
  cases b <;> first | rfl | cases h
/-- a[lo:hi] from its parts -/
theorem slc_pe {a : Expr} {lo hi : Option Expr} {p2 pos : Pos} {t tl th : TE} (ha : PE X a t)
    (hlo : ∀ pins s σ H (Q : VK), Inv X pins σ H s → tl σ H Q → wpAny (model X.prog X.w) X.A (evalPart lo X.env) (EP X pins σ Q) X.xe s)
    (hhi : ∀ pins s σ H (Q : VK), Inv X pins σ H s → th σ H Q → wpAny (model X.prog X.w) X.A (evalPart hi X.env) (EP X pins σ Q) X.xe s) :
    PE X (.Subscript a (.Slice lo hi none p2) pos) (fun σ H Q => t σ H fun x H1 => tl σ H1 fun y H2 => th σ H2 fun z H3 =>
      ∃ l u, (∀ v, RelV y v → IsPart v l) ∧ (∀ v, RelV z v → IsPart v u) ∧ rSl X.kw x l u H3 Q) := by
  refine ⟨fun pins s σ H Q I h => ?_⟩
  refine Subscript_ (thn (ha.run pins s σ H _ I h) fun v s1 ⟨x, H1, I1, r1, q1⟩ => ?_)
  refine wpAny_Slice (thn (hlo pins s1 σ H1 _ I1 q1) fun vl s2 ⟨y, H2, I2, r2, q2⟩ => thn (hhi pins s2 σ H2 _ I2 q2) fun vu s3 ⟨z, H3, I3, r3, q3⟩ => ?_)
  rw [evalPart_none]
  obtain ⟨l, u, pl, pu, q⟩ := q3
  refine wpAny_pure ?_
  have J : Inv X pins σ H3 { s3 with heap := s3.heap.push { cls := .type "slice", data := .fields #[vl, vu, .none] } } := I3.kept (t' := s3.toks) fun b ob q => Heap.get?_push_of_some _ q
  obtain ⟨T, id, hT, ht, hg⟩ := slc_ok pins { s3 with heap := s3.heap.push { cls := .type "slice", data := .fields #[vl, vu, .none] } } σ H3 x v vl vu l u s3.heap.objs.size Q J r1 (Heap.IsSliceOf.new ..) (pl vl r2) (pu vu r3) q
  show wpAny (model X.prog X.w) X.A (subscriptTail a (.Slice lo hi none p2) v (.ref s3.heap.objs.size)) (EP X pins σ Q) X.xe { s3 with heap := s3.heap.push { cls := .type "slice", data := .fields #[vl, vu, .none] } }
  exact tail_any (ops := [.ref s3.heap.objs.size, v]) ht hT hg (by with_unfolding_all rfl)
theorem part_no {pins : List (Addr × Obj)} {s : Shared} {σ : L2.St} {H : Hp} {Q : VK} (I : Inv X pins σ H s) (h : Q .non H) : wpAny (model X.prog X.w) X.A (evalPart none X.env) (EP X pins σ Q) X.xe s := by
  rw [evalPart_none]
  exact wpAny_pure ⟨.non, H, I, rfl, h⟩
theorem part_at {a : Expr} {t : TE} (ha : PE X a t) {pins : List (Addr × Obj)} {s : Shared} {σ : L2.St} {H : Hp} {Q : VK} (I : Inv X pins σ H s) (h : t σ H Q) : wpAny (model X.prog X.w) X.A (evalPart (some a) X.env) (EP X pins σ Q) X.xe s := by
  rw [evalPart_some]
  exact ha.run pins s σ H Q I h
theorem isPart_non {v : Value} (r : RelV .non v) : IsPart v none := by cases r; exact .none
theorem isPart_int {i : Int} {v : Value} (r : RelV (.int i) v) : IsPart v (some i) := by obtain ⟨t, rfl⟩ := r; exact .int i t
theorem slcN_pe {lo hi : Bool} (h : opnds X.env.scope (.slc lo hi) e = some es) (ps : PEs X es ts) : PE X e (tNode X.kw (.slc lo hi) ts) := by
  refine node0 ps ?_
  simp only [opnds] at h
  split at h
  · rename_i a l u p2 pos
    split at h
    · cases h
      obtain ⟨t, rfl, h1, m1⟩ := ps.one
      refine peWeak (slc_pe (tl := fun _ H Q => Q .non H) (th := fun _ H Q => Q .non H) h1 (fun _ _ _ _ _ I q => part_no I q) (fun _ _ _ _ _ I q => part_no I q)) fun σ H Q q => ?_
      refine m1 σ H _ _ (fun x H1 q => ?_) q
      obtain ⟨ds, d, w, e, c⟩ := (show rD X.kw (dSlc false false) true [x] H1 Q from q)
      obtain ⟨a, rfl, wa⟩ := w.one
      exact ⟨none, none, fun v r => isPart_non r, fun v r => isPart_non r, [a], d, w, e, c⟩
    · cases h
      obtain ⟨t, t2, rfl, h1, h2, m1, m2⟩ := ps.two
      refine peWeak (slc_pe (th := fun _ H Q => Q .non H) h1 (fun _ _ _ _ _ I q => part_at h2 I q) (fun _ _ _ _ _ I q => part_no I q)) fun σ H Q q => ?_
      refine m1 σ H _ _ (fun x H1 q => ?_) q
      refine m2 σ H1 _ _ (fun y H2 q => ?_) q
      obtain ⟨ds, d, w, e, c⟩ := (show rD X.kw (dSlc true false) true [x, y] H2 Q from q)
      obtain ⟨a, b, rfl, wa, wb⟩ := w.two
      cases b with
      | int i => exact ⟨some i, none, fun v r => by rw [wb.int] at r; exact isPart_int r, fun v r => isPart_non r, [a], d, .cons wa .nil, e, c⟩
      | _ => cases e
    · cases h
      obtain ⟨t, t2, rfl, h1, h2, m1, m2⟩ := ps.two
      refine peWeak (slc_pe (tl := fun _ H Q => Q .non H) h1 (fun _ _ _ _ _ I q => part_no I q) (fun _ _ _ _ _ I q => part_at h2 I q)) fun σ H Q q => ?_
      refine m1 σ H _ _ (fun x H1 q => ?_) q
      refine m2 σ H1 _ _ (fun y H2 q => ?_) q
      obtain ⟨ds, d, w, e, c⟩ := (show rD X.kw (dSlc false true) true [x, y] H2 Q from q)
      obtain ⟨a, b, rfl, wa, wb⟩ := w.two
      cases b with
      | int i => exact ⟨none, some i, fun v r => isPart_non r, fun v r => by rw [wb.int] at r; exact isPart_int r, [a], d, .cons wa .nil, e, c⟩
      | _ => cases e
    · cases h
      have m := ps.mono
      obtain ⟨t, t2, t3, rfl, h1, h2, h3⟩ := ps.three
      refine peWeak (slc_pe h1 (fun _ _ _ _ _ I q => part_at h2 I q) (fun _ _ _ _ _ I q => part_at h3 I q)) fun σ H Q q => ?_
      refine m t (by simp) σ H _ _ (fun x H1 q => ?_) q
      refine m t2 (by simp) σ H1 _ _ (fun y H2 q => ?_) q
      refine m t3 (by simp) σ H2 _ _ (fun z H3 q => ?_) q
      obtain ⟨ds, d, w, e, c⟩ := (show rD X.kw (dSlc true true) true [x, y, z] H3 Q from q)
      obtain ⟨a, b, b2, rfl, wa, wb, wc⟩ := w.three
      cases b with
      | int i => cases b2 with
        | int j => exact ⟨some i, some j, fun v r => by rw [wb.int] at r; exact isPart_int r, fun v r => by rw [wc.int] at r; exact isPart_int r, [a], d, .cons wa .nil, e, c⟩
        | _ => cases e
      | _ => cases e
    · cases h
  · cases h
theorem isiN_pe {T : String} (C : Cok X) (hT : bootBuiltins (Str.ofString T) = some (.type T)) (hn : Str.ofString T ≠ "__name__") (hd : (Str.ofString T == ("__debug__" : Str)) = false) (hm : X.mg (Str.ofString T) = none)
    (h : opnds X.env.scope (.isi T) e = some es) (ps : PEs X es ts) : PE X e (tNode X.kw (.isi T) ts) := by
  refine node0 ps ?_
  simp only [opnds] at h
  split at h
  · rename_i a y p h0
    split at h
    · rename_i q
      cases h
      obtain ⟨rfl, gy⟩ := q
      obtain ⟨t, rfl, h1, m1⟩ := ps.one
      obtain ⟨p', pos, rfl, g, _⟩ := nCall_inv h0
      have hA : PA X [a, .Name (Str.ofString T) p] (tCons t (tCons (tC (.ty T)) tNil)) := pa_cons h1 (pa_cons (pe_bltn (show X.env.scope.names.lookup (Str.ofString T) = some .globalImplicit from of_decide_eq_true gy) hm hT rfl hn hd) pa_nil) (star_cons (ps.stars a (by simp)))
      refine peWeak (pe_callB (isi_ok (T := T)) g (C.blt "isinstance" (by decide +kernel)) boot_isinstance hA (by decide +kernel) (by decide +kernel) (star_cons (ps.stars a (by simp)))) fun σ H Q q => ?_
      exact m1 σ H _ _ (fun x H1 q => ⟨x, rfl, q⟩) q
    · cases h
  · cases h
theorem disp_tup (h : opnds X.env.scope .tup e = some es) (ps : PEs X es ts) : PE X e (tNode X.kw .tup ts) := by
  refine node0 ps ?_
  simp only [opnds] at h
  split at h
  · cases h
    refine peWeak (pe_tup ps.pa) fun σ H Q q => tL_mono ps.mono σ H _ _ (fun vs H1 q => ?_) q
    obtain ⟨ds, d, w, e, c⟩ := (show rD X.kw dTup true vs H1 Q from q)
    unfold dTup at e
    split at e
    · rename_i hl
      cases e
      exact ⟨by rw [← w.length]; exact hl.2, new_tup hl.1 w c⟩
    · cases e
  · cases h
theorem disp_lst (h : opnds X.env.scope .lst e = some es) (ps : PEs X es ts) : PE X e (tNode X.kw .lst ts) := by
  refine node0 ps ?_
  simp only [opnds] at h
  split at h
  · cases h
    refine peWeak (pe_lst ps.pa) fun σ H Q q => tL_mono ps.mono σ H _ _ (fun vs H1 q => ?_) q
    obtain ⟨ds, d, w, e, c⟩ := (show rD X.kw dLst true vs H1 Q from q)
    unfold dLst at e
    split at e
    · rename_i hl
      cases e
      exact ⟨by rw [← w.length]; exact hl.2, new_lst hl.1 w c⟩
    · cases e
  · cases h
/-- the built-in classes that isinstance is asked of -/
def isiT (T : String) : Bool := T == "str" || T == "int" || T == "bool" || T == "tuple" || T == "list" || T == "ValueError"
theorem isiT_ok {T : String} (C : Cok X) (h : isiT T = true) : bootBuiltins (Str.ofString T) = some (.type T) ∧ Str.ofString T ≠ "__name__" ∧ (Str.ofString T == ("__debug__" : Str)) = false ∧ X.mg (Str.ofString T) = none := by
  have cases5 : T = "str" ∨ T = "int" ∨ T = "bool" ∨ T = "tuple" ∨ T = "list" ∨ T = "ValueError" := by
    simp only [isiT, Bool.or_eq_true, beq_iff_eq] at h
    rcases h with ((((h | h) | h) | h) | h) | h <;> simp [h]
  rcases cases5 with rfl | rfl | rfl | rfl | rfl | rfl
  · exact ⟨boot_str, by decide +kernel, by decide +kernel, C.blt _ (by decide +kernel)⟩
  · exact ⟨boot_int, by decide +kernel, by decide +kernel, C.blt _ (by decide +kernel)⟩
  · exact ⟨boot_bool, by decide +kernel, by decide +kernel, C.blt _ (by decide +kernel)⟩
  · exact ⟨boot_tuple, by decide +kernel, by decide +kernel, C.blt _ (by decide +kernel)⟩
  · exact ⟨boot_list, by decide +kernel, by decide +kernel, C.blt _ (by decide +kernel)⟩
  · exact ⟨PyProof.Rows.Boot.«ValueError», by decide +kernel, by decide +kernel, C.blt _ (by decide +kernel)⟩
/-- every node -/
theorem sidx_rev (n : Nat) : Builtin.Str.strSliceIndices none none (-1) n = (List.range n).reverse := by
  show sliceRange ((n : Int) - 1) (-1) (-1) = _
  rw [PySem.W.krv_sliceRange, PySem.W.krv_range]
theorem txt_rev (z : Str) : ((Builtin.Str.strSliceIndices none none (-1) z.length).filterMap (z.cps[·]?)) = z.cps.toList.reverse := by
  rw [sidx_rev, List.filterMap_reverse]
  exact congrArg List.reverse (PySem.W.krv_all z.cps)
theorem okS_rev {t : List Nat} (h : okS t = true) : okS t.reverse = true := okS_sub h (fun c hc => List.mem_reverse.mp hc) (by rw [List.length_reverse]; exact Nat.le_refl _)
section
variable {prog : Program} {w : World} {A : Around} {E : Value → Shared → Prop} {s : Shared}
theorem part_idx {v : Value} {k : Option Int} {Q : Option Int → Shared → Prop} (hv : IsPart v k) (h : Q k s) : wpAny (model prog w) A (Builtin.Slice.slicePartIndex v) Q E s := by
  cases hv with
  | none => exact slicePart_none h
  | int i t => exact slicePart_int h
theorem adjust_rev (n : Nat) : Builtin.Slice.sliceAdjust none none (-1) (n : Int) = ((n : Int) - 1, -1) := by
  unfold Builtin.Slice.sliceAdjust
  simp
theorem places_rev (n : Nat) : Builtin.Slice.slicePlaces ((n : Int) - 1) (-1) (-1) = n := by
  unfold Builtin.Slice.slicePlaces
  rw [if_neg (by omega), show (-(-1 : Int)) = 1 from rfl, Int.ediv_one]
  split <;> omega
theorem pick_rev (xs : Array Value) : ((List.range xs.size).filterMap fun (k : Nat) => xs[((xs.size : Int) - 1 + (k : Int) * (-1)).toNat]?) = xs.toList.reverse := by
  have e : ∀ m ≤ xs.size, ((List.range m).filterMap fun (k : Nat) => xs[((xs.size : Int) - 1 + (k : Int) * (-1)).toNat]?) = (xs.toList.drop (xs.size - m)).reverse := by
    intro m
    induction m with
    | zero =>
      intro _
      rw [List.drop_of_length_le (by simp)]
      rfl
    | succ m ih =>
      intro hm
      rw [List.range_succ, List.filterMap_append, ih (by omega)]
      have h1 : ((xs.size : Int) - 1 + (m : Int) * (-1)).toNat = xs.size - (m + 1) := by omega
      have h2 : xs.size - (m + 1) < xs.toList.length := by rw [Array.length_toList]; omega
      have h3 : xs[xs.size - (m + 1)]? = some (xs.toList[xs.size - (m + 1)]) := by
        rw [← Array.getElem?_toList]
        exact List.getElem?_eq_getElem h2
      rw [List.filterMap_cons, List.filterMap_nil, h1, h3]
      rw [List.drop_eq_getElem_cons h2, List.reverse_cons, show xs.size - (m + 1) + 1 = xs.size - m by omega]
  have := e xs.size (Nat.le_refl _)
  rw [Nat.sub_self, List.drop_zero] at this
  exact this
theorem getItem_tuple_rev {t sl : Addr} {items : Array Value} {vl vu vs : Value} {Q : Value → Shared → Prop} (ht : IsTup s.heap t items) (hs : s.heap.IsSliceOf sl vl vu vs) (pl : IsPart vl none) (pu : IsPart vu none) (ps : IsPart vs (some (-1)))
    (h : Q (.ref s.heap.objs.size) { s with heap := s.heap.push { cls := .type "tuple", data := .seq items.toList.reverse.toArray } })
    (hsz : items.size ≤ sizeLine) : wpAny (model prog w) A (getItem (.ref t) (.ref sl)) Q E s := by
  have htake : sizeOk (.seq items.toList.reverse.toArray) := by
    show items.toList.reverse.toArray.size ≤ sizeLine
    rw [List.size_toArray, List.length_reverse, Array.length_toList]
    exact hsz
  obtain ⟨os, hos, hcs, hds⟩ := id hs
  have hTs : s.TypeIs (.ref sl) "slice" := ⟨os, hos, hcs⟩
  unfold getItem
  try with_reducible refine wpAny_holding ?_
  first | refine wpAny_bind (wpAny_pure ?_) | skip
  refine wpAny_bind (wpAny_sequenceKey ht.typeIs (by decide) ?_)
  refine wpAny_bind (wpAny_callSpecial?_slot (name := Str.ofString "__getitem__") ht.typeIs PyProof.Rows.slot_tuple_getitem
    (wpAny_call_entry PyProof.Rows.slot_tuple_getitem ht.typeIs entry_tuple_getitem ?_ (args_tuple_getitem _ _)))
  show wpAny _ _ (Builtin.Tuple.tupleItemsOf (.ref t) >>= _) _ _ s
  refine wpAny_bind (tupleItemsOf_ ht ?_)
  refine wpAny_bind (wpAny_typeOf hTs ?_)
  rw [if_pos (by decide)]
  have app : ∀ {A : Around} {Q : Int × Int × Nat → Shared → Prop}, Q ((items.size : Int) - 1, -1, items.size) s → wpAny (model prog w) A (Builtin.Slice.sliceApplied (.ref sl) (pure (items.size : Int))) Q E s := by
    intro A Q h
    unfold Builtin.Slice.sliceApplied Builtin.Slice.sliceFields
    refine wpAny_bind (wpAny_bind (wpAny_field hos hds (x := vl) rfl (wpAny_bind (wpAny_field hos hds (x := vu) rfl (wpAny_bind (wpAny_field hos hds (x := vs) rfl (wpAny_pure ?_)))))))
    refine wpAny_bind (part_idx ps ?_)
    show wpAny _ _ (if ((-1 : Int) == 0) = true then _ else _) _ _ s
    rw [if_neg (by decide)]
    refine wpAny_bind (part_idx pl (wpAny_bind (part_idx pu (wpAny_bind (wpAny_pure ?_)))))
    show wpAny _ _ (match Builtin.Slice.sliceAdjust none none (-1) (items.size : Int) with | (lo, hi) => pure (lo, (-1 : Int), Builtin.Slice.slicePlaces lo hi (-1))) _ _ s
    rw [adjust_rev]
    show wpAny _ _ (pure ((items.size : Int) - 1, (-1 : Int), Builtin.Slice.slicePlaces ((items.size : Int) - 1) (-1) (-1))) _ _ s
    rw [places_rev]
    exact wpAny_pure h
  refine wpAny_bind (app ?_)
  have hno : ¬ (((items.size : Int) - 1 == 0 && (-1 : Int) == 1 && items.size == items.size) = true) := by
    rw [show ((-1 : Int) == 1) = false from rfl, Bool.and_false, Bool.false_and]
    exact Bool.false_ne_true
  show wpAny _ _ (if ((items.size : Int) - 1 == 0 && (-1 : Int) == 1 && items.size == items.size) = true then _ else _) _ _ s
  rw [if_neg hno, pick_rev]
  first
    | exact wpAny_bind (m := Builtin.Tuple.tupleExact _) (wpAny_newObj_type (wpAny_pure ⟨_, rfl, wpAny_pure h⟩) htake)
    | exact wpAny_bind (m := Builtin.Tuple.tupleExact _) (wpAny_newObj_type (wpAny_bind (wpAny_pure (wpAny_pure ⟨_, rfl, wpAny_pure h⟩))) htake)
    | exact wpAny_bind (wpAny_bind (m := Builtin.Tuple.tupleExact _) (wpAny_newObj_type (wpAny_pure (wpAny_pure ⟨_, rfl, wpAny_pure h⟩)) htake))
    | exact wpAny_bind (wpAny_bind (m := Builtin.Tuple.tupleExact _) (wpAny_newObj_type (wpAny_pure ⟨_, rfl, wpAny_pure h⟩) htake))
end
theorem rev_pe {a : Expr} {t : TE} {k : Nat} {p1 p2 p3 pos : Pos} (ha : PE X a t) :
    PE X (.Subscript a (.Slice none none (some (.UnaryOp .USub (.Constant (.int 1) k p1) p2)) p3) pos) (fun σ H Q => t σ H fun x H1 => rD X.kw dRev true [x] H1 Q) := by
  refine ⟨fun pins s σ H Q I h => Subscript_ (thn (ha.run pins s σ H _ I h) fun v s1 ⟨x, H1, I1, r1, q1⟩ => ?_)⟩
  have neg : PE X (.UnaryOp .USub (.Constant (.int 1) k p1) p2) (tUn (rU fun i => .int (-i)) (tC (.int 1))) := pe_un un_neg pe_int
  refine wpAny_Slice (thn (part_no (Q := fun y G => y = .non ∧ G = H1) I1 ⟨rfl, rfl⟩) fun vl s2 ⟨y, H2, I2, r2, ey, e2⟩ => ?_)
  subst ey e2
  refine thn (part_no (Q := fun y G => y = .non ∧ G = H2) I2 ⟨rfl, rfl⟩) fun vu s3 ⟨y, H3, I3, r3, ey, e3⟩ => ?_
  subst ey e3
  refine thn (part_at neg (Q := fun y G => y = .int (-1) ∧ G = H3) I3 ⟨1, rfl, rfl, rfl⟩) fun vs s4 ⟨y, H4, I4, r4, ey, e4⟩ => ?_
  subst ey e4
  have pl := isPart_non r2
  have pu := isPart_non r3
  have ps := isPart_int r4
  have J : Inv X pins σ H4 { s4 with heap := s4.heap.push { cls := .type "slice", data := .fields #[vl, vu, vs] } } := I4.kept (t' := s4.toks) fun b ob q => Heap.get?_push_of_some _ q
  obtain ⟨ds, d, w, e, q⟩ := q1
  obtain ⟨dd, rfl, wa⟩ := w.one
  cases dd with
  | str z =>
    cases e
    obtain ⟨e1, o1⟩ := wa.str
    subst e1
    obtain ⟨tk, rfl⟩ := r1
    obtain ⟨l', rfl, el⟩ := IsPart.raw pl
    obtain ⟨u', rfl, eu⟩ := IsPart.raw pu
    obtain ⟨s', rfl, es⟩ := IsPart.raw ps
    refine tail_any (ops := [.str ⟨z.toArray⟩ tk, .ref s4.heap.objs.size]) (typeIs_str _ _ _) PySem.F.slot_str_getitem.lookup ?_ (by with_unfolding_all rfl)
    refine wpAny_getItem_str_slice (l := l') (u := u') (st := s') (Heap.IsSliceOf.new _ (partValue l') (partValue u') (partValue s')) (by rw [es]; rfl) ?_
    unfold sliceMade slicePicked
    rw [el, eu, es]
    show Made.post (if ((-1 : Int) == 1 && (Builtin.Str.strSliceIndices none none (-1) (⟨z.toArray⟩ : Str).length).length == (⟨z.toArray⟩ : Str).length) = true then Made.val (.str ⟨z.toArray⟩ tk)
      else Made.str ⟨((Builtin.Str.strSliceIndices none none (-1) (⟨z.toArray⟩ : Str).length).filterMap ((⟨z.toArray⟩ : Str).cps[·]?)).toArray⟩) (EP X pins σ Q) _
    rw [if_neg (by rw [show ((-1 : Int) == 1) = false from rfl, Bool.false_and]; exact Bool.false_ne_true), txt_rev]
    exact ⟨by show z.reverse.toArray.size ≤ sizeLine; rw [List.size_toArray, lim_eq]; exact (okS_iff.mp (okS_rev o1)).2, .str _, H4, J.tok _, ⟨_, rfl⟩, scal_str (okS_rev o1) q⟩
  | lst o xs =>
    simp only [dRev] at e
    split at e
    rotate_left
    · cases e
    rename_i im
    cases e
    obtain ⟨p, us, e1, sq, w1⟩ := wa.lst
    subst e1
    cases r1
    obtain ⟨its, r, ht, hz⟩ := J.list sq
    have hlen := r.length
    refine tail_any (ops := [.ref p, .ref s4.heap.objs.size]) ht.isList.typeIs PySem.slot_list_getitem.lookup ?_ (by with_unfolding_all rfl)
    refine wpAny_getItem_list_slice ht.isList (Heap.IsSliceOf.new _ vl vu vs) pl pu ps (by decide) ?_ (by rw [List.size_toArray]; omega)
    rw [PySem.W.krv_pick]
    have hq := new_lst (immL_rev im) w1.reverse q _ (J.hok.fresh (Nat.le_refl _))
    refine ⟨.ref _, _, J.laid (t' := s4.toks) (o := .lst us.reverse) (fun b ob q => Heap.get?_push_of_some _ q) (Nat.le_refl _) ?_, rfl, hq⟩
    exact ⟨by rw [List.length_reverse]; exact hz, _, 0, r.reverse, Heap.get?_push_size _ rfl⟩
  | tup xs =>
    simp only [dRev] at e
    split at e
    rotate_left
    · cases e
    rename_i im
    cases e
    obtain ⟨p, us, e1, sq, w1⟩ := wa.tup
    subst e1
    cases r1
    obtain ⟨its, r, ht, hz⟩ := J.tuple sq
    have hlen := r.length
    refine tail_any (ops := [.ref p, .ref s4.heap.objs.size]) ht.typeIs PyProof.Rows.slot_tuple_getitem.lookup ?_ (by with_unfolding_all rfl)
    refine getItem_tuple_rev ht (Heap.IsSliceOf.new _ vl vu vs) pl pu ps ?_ (by rw [List.size_toArray]; omega)
    have hq := new_tup (immL_rev im) w1.reverse q _ (J.hok.fresh (Nat.le_refl _))
    refine ⟨.ref _, _, J.laid (t' := s4.toks) (o := .tup us.reverse) (fun b ob q => Heap.get?_push_of_some _ q) (Nat.le_refl _) ?_, rfl, hq⟩
    exact ⟨by rw [List.length_reverse]; exact hz, _, r.reverse, IsTup.new _ _⟩
  | _ => cases e
/-- xs[::-1] of a list, whatever it holds -/
theorem revL_pe {a : Expr} {t : TE} {k : Nat} {p1 p2 p3 pos : Pos} (ha : PE X a t) :
    PE X (.Subscript a (.Slice none none (some (.UnaryOp .USub (.Constant (.int 1) k p1) p2)) p3) pos) (fun σ H Q => t σ H fun x H1 => ∃ p us, x = .ref p ∧ SqL X.K H1 p us ∧ ∀ z, H1 z = none → Q (.ref z) (upd H1 z (.lst us.reverse))) := by
  refine ⟨fun pins s σ H Q I h => Subscript_ (thn (ha.run pins s σ H _ I h) fun v s1 ⟨x, H1, I1, r1, q1⟩ => ?_)⟩
  have neg : PE X (.UnaryOp .USub (.Constant (.int 1) k p1) p2) (tUn (rU fun i => .int (-i)) (tC (.int 1))) := pe_un un_neg pe_int
  refine wpAny_Slice (thn (part_no (Q := fun y G => y = .non ∧ G = H1) I1 ⟨rfl, rfl⟩) fun vl s2 ⟨y, H2, I2, r2, ey, e2⟩ => ?_)
  subst ey e2
  refine thn (part_no (Q := fun y G => y = .non ∧ G = H2) I2 ⟨rfl, rfl⟩) fun vu s3 ⟨y, H3, I3, r3, ey, e3⟩ => ?_
  subst ey e3
  refine thn (part_at neg (Q := fun y G => y = .int (-1) ∧ G = H3) I3 ⟨1, rfl, rfl, rfl⟩) fun vs s4 ⟨y, H4, I4, r4, ey, e4⟩ => ?_
  subst ey e4
  have pl := isPart_non r2
  have pu := isPart_non r3
  have ps := isPart_int r4
  have J : Inv X pins σ H4 { s4 with heap := s4.heap.push { cls := .type "slice", data := .fields #[vl, vu, vs] } } := I4.kept (t' := s4.toks) fun b ob q => Heap.get?_push_of_some _ q
  obtain ⟨p, us, e1, sq, q⟩ := q1
  subst e1
  cases r1
  obtain ⟨its, r, ht, hz⟩ := J.list sq
  have hlen := r.length
  refine tail_any (ops := [.ref p, .ref s4.heap.objs.size]) ht.isList.typeIs PySem.slot_list_getitem.lookup ?_ (by with_unfolding_all rfl)
  refine wpAny_getItem_list_slice ht.isList (Heap.IsSliceOf.new _ vl vu vs) pl pu ps (by decide) ?_ (by rw [List.size_toArray]; omega)
  rw [PySem.W.krv_pick]
  have hq := q _ (J.hok.fresh (Nat.le_refl _))
  refine ⟨.ref _, _, J.laid (t' := s4.toks) (o := .lst us.reverse) (fun b ob q => Heap.get?_push_of_some _ q) (Nat.le_refl _) ?_, rfl, hq⟩
  exact ⟨by rw [List.length_reverse]; exact hz, _, 0, r.reverse, Heap.get?_push_size _ rfl⟩
theorem revN_pe (h : opnds X.env.scope .rev e = some es) (ps : PEs X es ts) : PE X e (tNode X.kw .rev ts) := by
  refine node0 ps ?_
  simp only [opnds] at h
  split at h
  · cases h
    obtain ⟨t, rfl, h1, m1⟩ := ps.one
    exact rev_pe h1
  · cases h
theorem boot_sortedV : bootBuiltins "sorted" = some (.builtin "sorted") := by decide +kernel
theorem boot_dictV : bootBuiltins "dict" = some (.type "dict") := by decide +kernel
theorem node_pe (C : Cok X) : ∀ o : Op, opnds X.env.scope o e = some es → (∀ T, o = .isi T → isiT T = true) → PEs X es ts → PE X e (tNode X.kw o ts)
  | .bin o, h, _, ps => by
    refine node0 ps ?_
    simp only [opnds] at h
    split at h
    · split at h
      · rename_i q
        cases h
        obtain ⟨rfl, ob⟩ := q
        obtain ⟨t, u, rfl, h1, h2, _⟩ := ps.two
        exact pe_op (bin_ok _ ob) h1 h2
      · cases h
    · cases h
  | .neg, h, _, ps => by
    refine node0 ps ?_
    simp only [opnds] at h
    split at h
    · cases h
      obtain ⟨t, rfl, h1, _⟩ := ps.one
      exact pe_un neg_ok h1
    · cases h
  | .cmp o, h, _, ps => (cmpN_pe C h ps).1
  | .ix, h, _, ps => by
    refine node0 ps ?_
    simp only [opnds] at h
    split at h
    · split at h
      · rename_i q
        cases h
        obtain ⟨t, u, rfl, h1, h2, _⟩ := ps.two
        exact pe_ix (ix_okD C.units) h1 h2 (plainIx q)
      · cases h
    · cases h
  | .slc a b, h, _, ps => slcN_pe h ps
  | .tup, h, _, ps => disp_tup h ps
  | .lst, h, _, ps => disp_lst h ps
  | .len, h, _, ps => callB_pe C len_ok (by decide +kernel) PySem.boot_len (by decide +kernel) (by decide +kernel) h ps
  | .int, h, _, ps => callT_pe C int_ok (by decide +kernel) boot_int (by decide +kernel) (by decide +kernel) h ps
  | .str, h, _, ps => callT_pe C str_ok (by decide +kernel) boot_str (by decide +kernel) (by decide +kernel) h ps
  | .tuple, h, _, ps => callT_pe C tuple_ok (by decide +kernel) boot_tuple (by decide +kernel) (by decide +kernel) h ps
  | .list, h, _, ps => callT_pe C list_ok (by decide +kernel) boot_list (by decide +kernel) (by decide +kernel) h ps
  | .abs, h, _, ps => callB_pe C abs_ok (by decide +kernel) (by decide +kernel) (by decide +kernel) (by decide +kernel) h ps
  | .max2, h, _, ps => callB_pe C (maxA_ok C.calm C.units) (by decide +kernel) boot_max (by decide +kernel) (by decide +kernel) h ps
  | .min2, h, _, ps => callB_pe C (minA_ok C.calm C.units) (by decide +kernel) boot_min (by decide +kernel) (by decide +kernel) h ps
  | .sum, h, _, ps => callB_pe C (sum_ok C.calm) (by decide +kernel) boot_sum (by decide +kernel) (by decide +kernel) h ps
  | .isi T, h, hi, ps => by
    obtain ⟨a, b, c, d⟩ := isiT_ok C (hi T rfl)
    exact isiN_pe C a b c d h ps
  | .join, h, _, ps => strM_pe PySem.F.slot_str_join PySem.F.type_str_join join_ok (fun _ => rfl) h ps
  | .split, h, _, ps => strM_pe PySem.F.slot_str_split PySem.F.type_str_split split_ok (fun _ => rfl) h ps
  | .find, h, _, ps => strM_pe PySem.F.slot_str_find PySem.F.type_str_find find_ok (fun _ => rfl) h ps
  | .count, h, _, ps => strM_pe PySem.F.slot_str_count PySem.F.type_str_count count_ok (fun _ => rfl) h ps
  | .rev, h, _, ps => revN_pe h ps
  | .idx, h, _, ps => idxN_pe C h ps
  | .idxL, h, _, ps => lstM_pe PySem.F.slot_list_index PySem.F.type_list_index (idxL_ok C.units) (fun _ => rfl) h ps
  | .cntL, h, _, ps => lstM_pe PySem.F.slot_list_count PySem.F.type_list_count (cntL_ok C.units) (fun _ => rfl) h ps
  | .sorted, h, _, ps => callB_pe C (sorted_ok C.units) (by decide +kernel) boot_sortedV (by decide +kernel) (by decide +kernel) h ps
  | .dictL, h, _, ps => callT_pe C (dict_ok C.calm C.units) (by decide +kernel) boot_dictV (by decide +kernel) (by decide +kernel) h ps
  | .get, h, _, ps => dicM_pe PySem.F.slot_dict_get PySem.F.type_dict_get (get_ok C.units) (fun _ => rfl) h ps
  | .isx, h, _, ps => by
    simp only [opnds] at h
    split at h
    · rename_i a y p hc
      cases h
      exact callB_pe C isx_ok (by decide +kernel) boot_isinstance (by decide +kernel) (by decide +kernel) hc ps
    · cases h
  | .fld f, h, _, ps => by
    refine node0 ps ?_
    simp only [opnds] at h
    split at h
    · split at h
      · rename_i q
        cases h
        obtain ⟨rfl, nb⟩ := q
        obtain ⟨t, rfl, h1, m1⟩ := ps.one
        exact fld_pe h1 (base_plain nb)
      · cases h
    · cases h
end
end VL

/-! VLE: enumerate and zip over lists, tuples and texts in any mix. -/
namespace VL
open PySem PySem.Spec PyProof.Rows L2

/-- what is walked -/
inductive Sk where
  | lst (a : Addr) | tup (a : Addr) | str (x : Str)
def Sk.v : Sk → V
  | .lst a => .ref a
  | .tup a => .ref a
  | .str x => .str x
def chr1 (c : Nat) : V := .str ⟨#[c]⟩
/-- its values, where it stands -/
def Sk.st (K : PySem.W.Frag) (H : Hp) (xs : List V) : Sk → Prop
  | .lst a => SqL K H a xs
  | .tup a => SqT K H a xs
  | .str x => xs = x.cps.toList.map chr1
/-- its iterator, at it, ahead of the place i -/
def Sk.it (h : Heap) (it : Addr) (i : Nat) : Sk → Prop
  | .lst a => h.IsListIter it a i
  | .tup a => h.IsTupleIter it a i
  | .str x => ∃ t, h.IsStrIter it (strIterType x) x t i
theorem Sk.it_at {k : Sk} {h h' : Heap} {it : Addr} {i : Nat} (c : k.it h it i) (e : ∀ o, h.get? it = some o → h'.get? it = some o) : k.it h' it i := by
  cases k with
  | lst a => obtain ⟨o, h1, h2⟩ := c; exact ⟨o, e o h1, h2⟩
  | tup a => obtain ⟨o, h1, h2⟩ := c; exact ⟨o, e o h1, h2⟩
  | str x => obtain ⟨t, o, h1, h2⟩ := c; exact ⟨t, o, e o h1, h2⟩
theorem Sk.it_obj {k : Sk} {h : Heap} {it : Addr} {i : Nat} (c : k.it h it i) : ∃ o, h.get? it = some o ∧ ∀ v, o.data ≠ .cell v := by
  cases k with
  | lst a => obtain ⟨o, h1, _, h2⟩ := c; exact ⟨o, h1, fun v q => by rw [h2] at q; cases q⟩
  | tup a => obtain ⟨o, h1, _, h2⟩ := c; exact ⟨o, h1, fun v q => by rw [h2] at q; cases q⟩
  | str x => obtain ⟨t, o, h1, _, h2⟩ := c; exact ⟨o, h1, fun v q => by rw [h2] at q; cases q⟩
section
variable {X : Cx} {pins : List (Addr × Obj)} {σ : L2.St} {H : Hp} {s : Shared}
theorem Sk.inj {k : Sk} {xs ys : List V} (I : Inv X pins σ H s) (a : k.st X.K H xs) (b : k.st X.K H ys) : xs = ys := by
  cases k with
  | lst p => exact I.list_inj a b
  | tup p => exact I.tuple_inj a b
  | str x => exact (show xs = _ from a).trans (show ys = _ from b).symm
/-- what stands of the base is nobody's own -/
theorem base_ne {a e : Addr} {o : Obj} (I : Inv X pins σ H s) (hk : X.K.lookup a = some o) (f : FpOk X pins H e) : e ≠ a := fun z => by
  subst z
  have hb : X.base.get? e = some o := I.ok.mod.kin e o hk
  rcases f.2.2.2.1 with q | q
  · exact I.ok.noex e o hb q
  · exact absurd (Nat.lt_of_lt_of_le (Heap.lt_size (I.ok.bs e o hb).1) q) (Nat.lt_irrefl _)
theorem own_ne {a e : Addr} {u : HO} (hu : H a = some u) (f : FpOk X pins H e) : e ≠ a := fun z => by
  subst z
  rw [f.1] at hu; cases hu
theorem sql_ne {a e : Addr} {xs : List V} (I : Inv X pins σ H s) (q : SqL X.K H a xs) (f : FpOk X pins H e) : e ≠ a := by
  rcases q with (q | ⟨o, q⟩) | ⟨o, its, n, q, _⟩
  · exact own_ne q f
  · exact own_ne q f
  · exact base_ne I q f
theorem sqt_ne {a e : Addr} {xs : List V} (I : Inv X pins σ H s) (q : SqT X.K H a xs) (f : FpOk X pins H e) : e ≠ a := by
  rcases q with (q | ⟨o, q⟩) | ⟨o, its, n, q, _⟩
  · exact own_ne q f
  · exact own_ne q f
  · exact base_ne I q f
/-- what the iterator draws -/
theorem Sk.draws {k : Sk} {xs : List V} {it : Addr} {i : Nat} (I : Inv X pins σ H s) (hh : X.A.handled = none) (st : k.st X.K H xs) (c : k.it s.heap it i) (f : FpOk X pins H it) :
    ∃ (fp : List Addr) (P : Nat → Value → Prop) (St : Nat → Heap → Prop), Draws X.prog X.w X.A.in1 it fp xs.length P St ∧ St i s.heap ∧ (∀ j h, St j h → k.it h it j) ∧ (∀ j v, P j v → ∃ x, xs[j]? = some x ∧ RelV x v) ∧ it ∈ fp ∧
      ∀ e ∈ fp, FpOk X pins H e → e = it := by
  cases k with
  | lst a =>
    obtain ⟨its, rv, p, _⟩ := I.list st
    have hl : xs.length = its.toArray.size := by rw [List.size_toArray, rv.length]
    refine ⟨_, _, _, hl ▸ Draws.list (A := X.A.in1) hh it a (Ne.symm (sql_ne I st f)) its.toArray, ⟨c, p.isList⟩, fun j h z => z.1, fun j v hv => ?_, by simp, fun e he fe => ?_⟩
    · have hj : its[j]? = some v := by simpa using hv
      have hx : j < xs.length := by
        have := (List.getElem?_eq_some_iff.mp hj).1
        rw [rv.length]; exact this
      obtain ⟨u, hu, ru⟩ := rv.get (List.getElem?_eq_getElem hx)
      rw [hj] at hu
      cases hu
      exact ⟨_, List.getElem?_eq_getElem hx, ru⟩
    · have e' : e = it ∨ e = a := by simpa using he
      rcases e' with z | z
      · exact z
      · exact absurd z (sql_ne I st fe)
  | tup a =>
    obtain ⟨its, rv, p, _⟩ := I.tuple st
    have hl : xs.length = its.toArray.size := by rw [List.size_toArray, rv.length]
    refine ⟨_, _, _, hl ▸ Draws.tuple (A := X.A.in1) hh it a (Ne.symm (sqt_ne I st f)) its.toArray, ⟨c, p⟩, fun j h z => z.1, fun j v hv => ?_, by simp, fun e he fe => ?_⟩
    · have hj : its[j]? = some v := by simpa using hv
      have hx : j < xs.length := by
        have := (List.getElem?_eq_some_iff.mp hj).1
        rw [rv.length]; exact this
      obtain ⟨u, hu, ru⟩ := rv.get (List.getElem?_eq_getElem hx)
      rw [hj] at hu
      cases hu
      exact ⟨_, List.getElem?_eq_getElem hx, ru⟩
    · have e' : e = it ∨ e = a := by simpa using he
      rcases e' with z | z
      · exact z
      · exact absurd z (sqt_ne I st fe)
  | str x =>
    obtain ⟨t, c⟩ := c
    have hxs : xs = x.cps.toList.map chr1 := st
    have hl : xs.length = x.cps.size := by rw [hxs]; simp
    have rel : ∀ (j : Nat) (v : Value), (∃ cc u, x.cps[j]? = some cc ∧ v = .str ⟨#[cc]⟩ u) → ∃ y, xs[j]? = some y ∧ RelV y v := fun j v ⟨cc, u, h1, h2⟩ => by
      refine ⟨chr1 cc, ?_, u, h2⟩
      rw [hxs, List.getElem?_map]
      have : x.cps.toList[j]? = some cc := by simpa using h1
      rw [this]; rfl
    by_cases ha : x.cps.all (· < 128) = true
    · have e1 : strIterType x = "str_ascii_iterator" := if_pos ha
      refine ⟨_, _, _, hl ▸ Draws.strAscii (A := X.A.in1) hh it x t, by rw [e1] at c; exact c, fun j h z => ⟨t, by rw [e1]; exact z⟩, rel, by simp, fun e he _ => by simpa using he⟩
    · have e1 : strIterType x = "str_iterator" := if_neg ha
      refine ⟨_, _, _, hl ▸ Draws.strWide (A := X.A.in1) hh it x t, by rw [e1] at c; exact c, fun j h z => ⟨t, by rw [e1]; exact z⟩, rel, by simp, fun e he _ => by simpa using he⟩
end
/-! ### enumerate -/
def ItEn (K : PySem.W.Frag) (k : Sk) : It where
  go := fun i H => ∃ xs x, k.st K H xs ∧ xs[i]? = some x
  yld := fun i H v H' => ∃ T x, v = .ref T ∧ H T = none ∧ H' = upd H T (.tup [.int (i : Nat), x]) ∧ ∀ xs, k.st K H xs → xs[i]? = some x
  stop := fun i H => ∃ xs, k.st K H xs ∧ xs.length = i
theorem turn_en {P : Program} {w : World} {K : PySem.W.Frag} {elts : List Expr} {kk : Nat} {tpos : Pos} (k : Sk) (e it : Addr) :
    Turn P w K (.Tuple elts kk tpos) (ItEn K k) [e, it] e (fun i h => (∃ old, IsEnum h e it (i : Int) old) ∧ k.it h it i ∧ e ≠ it) := by
  refine ⟨List.mem_cons_self, fun i h st b hb => ?_, fun i h h' st kp => ?_, ?_, ?_, fun A i s Q E st q => ?_⟩
  · obtain ⟨⟨old, he⟩, hc, _⟩ := st
    rcases List.mem_cons.mp hb with z | z
    · subst z; exact ⟨_, he, fun v q => by cases q⟩
    · rw [List.mem_singleton.mp z]; exact Sk.it_obj hc
  · obtain ⟨⟨old, he⟩, hc, ne⟩ := st
    exact ⟨⟨old, kp e List.mem_cons_self _ he⟩, Sk.it_at hc fun o q => kp it (List.mem_cons_of_mem _ List.mem_cons_self) o q, ne⟩
  · rintro X rfl rfl rfl hc i pins s σ H E I hf ⟨⟨old, he⟩, hit, ne⟩ ⟨xs, x, hst, hx⟩
    have fe := hf e List.mem_cons_self
    have fi := hf it (List.mem_cons_of_mem _ List.mem_cons_self)
    obtain ⟨fp, PP, St, D, s0, toIt, toRel, mem, away⟩ := Sk.draws I (I.ok.hd hc) hst hit fi
    refine wpAny_pyNext_enum_itemD D he s0 (List.getElem?_eq_some_iff.mp hx).1 ne (fun z => ne (away e z fe)) fun u h1 tk hP ho st1 hT _ hk => ?_
    obtain ⟨x', hx', ru⟩ := toRel i u hP
    rw [hx] at hx'
    cases hx'
    refine ⟨_, rfl, wpAny_letOwnedTupleGo_enum (s := { s with heap := h1, toks := tk + 1 }) ho fun h2 he2 sb => ?_⟩
    have el : e < s.heap.objs.size := Heap.lt_size he
    have il : it < s.heap.objs.size := by obtain ⟨o, q, _⟩ := Sk.it_obj hit; exact Heap.lt_size q
    have hT2 := (sb.2 _ (Nat.ne_of_gt el)).trans hT
    have J : Inv X pins σ (upd H s.heap.objs.size (.tup [.int (i : Nat), x])) { s with heap := h2, toks := tk + 1 } := by
      refine I.turnedNew (ch := [e, it]) (fun b ob hb q => ?_) hf (Nat.le_refl _) ⟨by show 2 ≤ sizeLine; decide, [.int i tk, u], .cons ⟨_, rfl⟩ (.cons ru .nil), _, hT2, rfl, _, rfl⟩
      have b1 : b ≠ e := fun z => hb (by rw [z]; exact List.mem_cons_self)
      have b2 : b ≠ it := fun z => hb (by rw [z]; exact List.mem_cons_of_mem _ List.mem_cons_self)
      exact (sb.2 b b1).trans (hk b ob b1 b2 q)
    refine ⟨.ref s.heap.objs.size, _, J, rfl, ⟨_, x, rfl, I.hok.fresh (Nat.le_refl _), rfl, fun ys hy => by rw [Sk.inj I hy hst]; exact hx⟩, ⟨⟨u, ?_⟩, Sk.it_at (toIt _ _ st1) fun o q => (sb.2 it (Ne.symm ne)).trans q, ne⟩, fun b hb => ?_⟩
    · rw [show (((i + 1 : Nat) : Int)) = (i : Int) + 1 by omega]; exact he2
    · have bl : b < s.heap.objs.size := by
        rcases List.mem_cons.mp hb with z | z
        · rw [z]; exact el
        · rw [List.mem_singleton.mp z]; exact il
      rw [upd_ne (Nat.ne_of_lt bl)]
      exact (hf b hb).1
  · rintro X rfl rfl rfl hc i pins s σ H E I hf ⟨⟨old, he⟩, hit, ne⟩ ⟨xs, hst, rfl⟩
    have fi := hf it (List.mem_cons_of_mem _ List.mem_cons_self)
    obtain ⟨fp, PP, St, D, s0, _, _, _, _⟩ := Sk.draws I (I.ok.hd hc) hst hit fi
    refine wpAny_pyNext_enum_endD D he s0 fun h1 eb => ⟨rfl, I.turnedL (t' := s.toks) (ch := [e, it]) (fun b o hb q => eb b o (fun z => hb (by rw [z]; exact List.mem_cons_of_mem _ List.mem_cons_self)) q) hf⟩
  · obtain ⟨⟨_, he⟩, _⟩ := st
    exact wpAny_pyIter_enum he q
set_option maxHeartbeats 2000000 in
theorem enum_made1 {v : Value} {o : Obj} {G : Heap → Prop} (B : Begins v o G) :
    Meets (Builtin.«enumerate.__new__» ⟨[.type "enumerate", v], []⟩) (fun _ R s => G s.heap ∧
      R (.ok (.ret (.ref (s.heap.push o).objs.size))) { s with heap := (s.heap.push o).push { cls := .type "enumerate", data := .fields #[.none, .bool false, .ref s.heap.objs.size, rawInt 0, .none, .none] } }) :=
  .of_wp fun prog w A R s hq => by
    obtain ⟨hp, g, d, tk, os⟩ := s
    obtain ⟨hG, hR⟩ := hq
    have hsub := sub_enumerate
    have begun : ∀ {A' : Around} {E : Value → Shared → Prop} {Q : Value → Shared → Prop}, Q (.ref hp.objs.size) ⟨hp.push o, g, d, tk, os⟩ → wpAny (model prog w) A' (pyIter v) Q E ⟨hp, g, d, tk, os⟩ := fun z => B.iter _ _ _ _ ⟨hp, g, d, tk, os⟩ _ hG z
    wp_walk using begun
    refine wpAny_stack_any fun st => wpAny_pure ?_
    split
    · rename_i c _ _ _ _ _
      cases (c == Value.type "enumerate") <;>
        · wp_walk using begun
          exact ⟨_, rfl, hR⟩
    · wp_walk using begun
      exact ⟨_, rfl, hR⟩
theorem call_enum1 {prog : Program} {w : World} {A : Around} {E : Value → Shared → Prop} {s : Shared} {v : Value} {o : Obj} {G : Heap → Prop} {Q : Value → Shared → Prop} (B : Begins v o G) (hG : G s.heap)
    (q : ∀ h', IsEnum h' (s.heap.objs.size + 1) s.heap.objs.size 0 .none → h'.get? s.heap.objs.size = some o → (∀ b ob, s.heap.get? b = some ob → h'.get? b = some ob) → Q (.ref (s.heap.objs.size + 1)) { s with heap := h' }) :
    wpAny (model prog w) A (call (.type "enumerate") [v]) Q E s := by
  refine callType_new F.called_enumerate (by decide) (F.typeCall_enumerate_1 _) (F.newCall_enumerate_1 _) (fun obj => F.args_object_init_2 obj _) F.entry_enumerate_new (enum_made1 B) ⟨hG, ?_⟩
  have z1 : (s.heap.push o).objs.size = s.heap.objs.size + 1 := Heap.size_push ..
  have he := Heap.get?_push_size (s.heap.push o) (o := { cls := .type "enumerate", data := .fields #[.none, .bool false, .ref s.heap.objs.size, rawInt 0, .none, .none] }) rfl
  rw [z1] at he
  show _ ∧ _
  rw [z1]
  exact ⟨⟨_, he, rfl⟩, q _ he (Heap.get?_push_of_some _ (Heap.get?_push_size _ B.free)) fun b ob z => Heap.get?_push_of_some _ (Heap.get?_push_of_some _ z)⟩
/-- how its iterator begins -/
theorem Sk.begins {X : Cx} {pins : List (Addr × Obj)} {σ : L2.St} {H : Hp} {s : Shared} {k : Sk} {xs : List V} {u : Value} (I : Inv X pins σ H s) (st : k.st X.K H xs) (r : RelV k.v u) :
    ∃ o G, Begins u o G ∧ G s.heap ∧ ∀ (h : Heap) (it : Addr), h.get? it = some o → k.it h it 0 := by
  cases k with
  | lst a =>
    obtain ⟨its, rv, p, _⟩ := I.list st
    cases (show u = Value.ref a from r)
    exact ⟨_, _, begins_list a its.toArray, p.isList, fun h it e => ⟨_, e, rfl, rfl⟩⟩
  | tup a =>
    obtain ⟨its, rv, p, _⟩ := I.tuple st
    cases (show u = Value.ref a from r)
    exact ⟨_, _, begins_tuple a its.toArray, p, fun h it e => ⟨_, e, rfl, rfl⟩⟩
  | str x =>
    obtain ⟨t, rfl⟩ := (show ∃ t, u = Value.str x t from r)
    exact ⟨_, _, begins_text x t, trivial, fun h it e => ⟨t, _, e, rfl, rfl⟩⟩
def iEn (K : PySem.W.Frag) (ta : TA) : TI := fun σ H R => ta σ H fun vs H1 => ∃ k xs, vs = [Sk.v k] ∧ k.st K H1 xs ∧ R (ItEn K k) H1
theorem pi_en {X : Cx} {e : Expr} {ta : TA} {p pos tpos : Pos} {elts : List Expr} {kk : Nat} (hg : Gl X "enumerate") (hm : X.mg "enumerate" = none) (ha : PA X [e] ta) (hs : starEach [e] X.env = [(false, eval e X.env)]) :
    PI X (.Tuple elts kk tpos) (.Call (.Name "enumerate" p) [e] [] pos) (iEn X.K ta) := by
  refine ⟨fun pins s σ H R I h => Call_ (ld_blt I hg hm boot_enumerate (PyProof.Rows.callWith_type1 (thn (ha.run pos pins s σ H _ I h) fun us s1 hh => ?_) hs rfl))⟩
  obtain ⟨vs, H1, I1, r1, k, xs, ev, st, q⟩ := hh
  subst ev
  cases r1 with
  | cons ru rn =>
    cases rn
    obtain ⟨o, G, B, hG, hit⟩ := Sk.begins I1 st ru
    refine call_enum1 B hG fun h' he ho hk => wpAny_pyIter_enum he ?_
    have I2 : Inv X pins σ H1 { s1 with heap := h' } := I1.kept (t' := s1.toks) hk
    refine ⟨s1.heap.objs.size + 1, [s1.heap.objs.size + 1, s1.heap.objs.size], _, _, H1, rfl, I2, turn_en k _ _, ⟨⟨_, he⟩, hit _ _ ho, Nat.succ_ne_self _⟩, fun b hb => ?_, q⟩
    have hle : s1.heap.objs.size ≤ b := by
      rcases List.mem_cons.mp hb with z | z
      · rw [z]; exact Nat.le_succ _
      · rw [List.mem_singleton.mp z]; exact Nat.le_refl _
    exact I1.fpOk hle (I1.hok.fresh hle)
/-! ### zip -/
def ItZz (K : PySem.W.Frag) (k l : Sk) : It where
  go := fun i H => ∃ xs ys x y, k.st K H xs ∧ l.st K H ys ∧ xs[i]? = some x ∧ ys[i]? = some y
  yld := fun i H v H' => ∃ T x y, v = .ref T ∧ H T = none ∧ H' = upd H T (.tup [x, y]) ∧ (∀ xs, k.st K H xs → xs[i]? = some x) ∧ ∀ ys, l.st K H ys → ys[i]? = some y
  stop := fun i H => ∃ xs ys, k.st K H xs ∧ l.st K H ys ∧ i ≤ xs.length ∧ i ≤ ys.length ∧ (i = xs.length ∨ i = ys.length)
structure Five (z TI TO a b : Addr) : Prop where
  d1 : TI ≠ z
  d2 : TO ≠ z
  d3 : a ≠ z
  d4 : b ≠ z
  d5 : TI ≠ TO
  d6 : TI ≠ a
  d7 : TI ≠ b
  d8 : TO ≠ a
  d9 : TO ≠ b
  d0 : a ≠ b
theorem five_in {z TI TO a b c : Addr} (h : c ∈ [z, TI, TO, a, b]) : c = z ∨ c = TI ∨ c = TO ∨ c = a ∨ c = b := by simpa using h
theorem turn_zz {P : Program} {w : World} {K : PySem.W.Frag} {elts : List Expr} {kk : Nat} {tpos : Pos} (k l : Sk) {z TI TO a b : Addr} (D : Five z TI TO a b) :
    Turn P w K (.Tuple elts kk tpos) (ItZz K k l) [z, TI, TO, a, b] z (fun i h => IsZip h z TI TO .none ∧ IsTupOf2 h TI (.ref a) (.ref b) ∧ (∃ x y, IsTupOf2 h TO x y) ∧ k.it h a i ∧ l.it h b i) := by
  have mz : z ∈ [z, TI, TO, a, b] := by simp
  have mI : TI ∈ [z, TI, TO, a, b] := by simp
  have mO : TO ∈ [z, TI, TO, a, b] := by simp
  have ma : a ∈ [z, TI, TO, a, b] := by simp
  have mb : b ∈ [z, TI, TO, a, b] := by simp
  refine ⟨mz, fun i h st c hc => ?_, fun i h h' st kp => ?_, ?_, ?_, fun A i s Q E st q => wpAny_pyIter_zip st.1 q⟩
  · obtain ⟨hz, hI, ⟨x, y, hO⟩, h1, h2⟩ := st
    rcases five_in hc with e | e | e | e | e <;> subst e
    · exact ⟨_, hz, fun v q => by cases q⟩
    · exact ⟨_, hI, fun v q => by cases q⟩
    · exact ⟨_, hO, fun v q => by cases q⟩
    · exact Sk.it_obj h1
    · exact Sk.it_obj h2
  · obtain ⟨hz, hI, ⟨x, y, hO⟩, h1, h2⟩ := st
    exact ⟨kp z mz _ hz, kp TI mI _ hI, ⟨x, y, kp TO mO _ hO⟩, Sk.it_at h1 fun o q => kp a ma o q, Sk.it_at h2 fun o q => kp b mb o q⟩
  · rintro X rfl rfl rfl hc i pins s σ H E I hf ⟨hz, hI, ⟨x0, y0, hO⟩, h1, h2⟩ ⟨xs, ys, x, y, s1, s2, hx, hy⟩
    obtain ⟨fp1, P1, St1, D1, t1, i1, r1, m1, w1⟩ := Sk.draws I (I.ok.hd hc) s1 h1 (hf a ma)
    obtain ⟨fp2, P2, St2, D2, t2, i2, r2, m2, w2⟩ := Sk.draws I (I.ok.hd hc) s2 h2 (hf b mb)
    have S : ZipSep2 z TI TO a b fp1 fp2 :=
      { TIz := D.d1, TOz := D.d2, TITO := D.d5, TIi1 := D.d6, mem1 := m1, zf1 := fun q => D.d3 (w1 z q (hf z mz)).symm, Tf1 := fun q => D.d8 (w1 TO q (hf TO mO)),
        TIi2 := D.d7, mem2 := m2, zf2 := fun q => D.d4 (w2 z q (hf z mz)).symm, Tf2 := fun q => D.d9 (w2 TO q (hf TO mO)), sep1_2 := fun q => D.d0 (w2 a q (hf a ma)), sep2_1 := fun q => D.d0 (w1 b q (hf b mb)).symm }
    refine wpAny_pyNext_zipD2_item S D1 D2 hz hI hO t1 t2 (List.getElem?_eq_some_iff.mp hx).1 (List.getElem?_eq_some_iff.mp hy).1 fun u1 u2 hA tk p1 p2 zA OA j1 j2 TA _ hk => ?_
    obtain ⟨x', e1, ru1⟩ := r1 i u1 p1
    obtain ⟨y', e2, ru2⟩ := r2 i u2 p2
    rw [hx] at e1; cases e1
    rw [hy] at e2; cases e2
    have zl : z < s.heap.objs.size := Heap.lt_size hz
    refine ⟨_, rfl, wpAny_letOwnedTupleGo_zip (s := { s with heap := hA, toks := tk }) zA fun hB zB sb => ?_⟩
    have TB := (sb.2 _ (Nat.ne_of_gt zl)).trans TA
    have J : Inv X pins σ (upd H s.heap.objs.size (.tup [x, y])) { s with heap := hB, toks := tk } := by
      refine I.turnedNew (ch := [z, TI, TO, a, b]) (fun c o hcn q => ?_) hf (Nat.le_refl _) ⟨by show 2 ≤ sizeLine; decide, [u1, u2], .cons ru1 (.cons ru2 .nil), _, TB, rfl, _, rfl⟩
      have n1 : c ≠ z := fun e => hcn (e ▸ mz)
      exact (sb.2 c n1).trans (hk c o n1 (fun e => hcn (e ▸ mO)) (fun e => hcn (e ▸ ma)) (fun e => hcn (e ▸ mb)) q)
    refine ⟨.ref s.heap.objs.size, _, J, rfl, ⟨_, x, y, rfl, I.hok.fresh (Nat.le_refl _), rfl, fun l hl => by rw [Sk.inj I hl s1]; exact hx, fun l hl => by rw [Sk.inj I hl s2]; exact hy⟩, ⟨zB, ?_, ⟨u1, u2, ?_⟩, ?_, ?_⟩, fun c hcm => ?_⟩
    · exact (sb.2 _ D.d1).trans (hk _ _ D.d1 D.d5 D.d6 D.d7 hI)
    · exact (sb.2 _ D.d2).trans OA
    · exact Sk.it_at (i1 _ _ j1) fun o q => (sb.2 _ D.d3).trans q
    · exact Sk.it_at (i2 _ _ j2) fun o q => (sb.2 _ D.d4).trans q
    · have cl : c < s.heap.objs.size := by
        rcases five_in hcm with e | e | e | e | e <;> subst e
        · exact zl
        · exact Heap.lt_size hI
        · exact Heap.lt_size hO
        · obtain ⟨_, q, _⟩ := Sk.it_obj h1; exact Heap.lt_size q
        · obtain ⟨_, q, _⟩ := Sk.it_obj h2; exact Heap.lt_size q
      rw [upd_ne (Nat.ne_of_lt cl)]
      exact (hf c hcm).1
  · rintro X rfl rfl rfl hc i pins s σ H E I hf ⟨hz, hI, ⟨x0, y0, hO⟩, h1, h2⟩ ⟨xs, ys, s1, s2, l1, l2, le⟩
    obtain ⟨fp1, P1, St1, D1, t1, i1, r1, m1, w1⟩ := Sk.draws I (I.ok.hd hc) s1 h1 (hf a ma)
    obtain ⟨fp2, P2, St2, D2, t2, i2, r2, m2, w2⟩ := Sk.draws I (I.ok.hd hc) s2 h2 (hf b mb)
    have S : ZipSep2 z TI TO a b fp1 fp2 :=
      { TIz := D.d1, TOz := D.d2, TITO := D.d5, TIi1 := D.d6, mem1 := m1, zf1 := fun q => D.d3 (w1 z q (hf z mz)).symm, Tf1 := fun q => D.d8 (w1 TO q (hf TO mO)),
        TIi2 := D.d7, mem2 := m2, zf2 := fun q => D.d4 (w2 z q (hf z mz)).symm, Tf2 := fun q => D.d9 (w2 TO q (hf TO mO)), sep1_2 := fun q => D.d0 (w2 a q (hf a ma)), sep2_1 := fun q => D.d0 (w1 b q (hf b mb)).symm }
    exact wpAny_pyNext_zipD2_end S D1 D2 hz hI hO t1 t2 l1 l2 le fun h' tk hk => ⟨rfl, I.turnedL (t' := tk) (ch := [z, TI, TO, a, b]) (fun c o hcn q => hk c o (fun e => hcn (e ▸ mz)) (fun e => hcn (e ▸ mO)) (fun e => hcn (e ▸ ma)) (fun e => hcn (e ▸ mb)) q) hf⟩
def iZz (K : PySem.W.Frag) (ta : TA) : TI := fun σ H R => ta σ H fun vs H1 => ∃ k l xs ys, vs = [Sk.v k, Sk.v l] ∧ k.st K H1 xs ∧ l.st K H1 ys ∧ R (ItZz K k l) H1
theorem pi_zz {X : Cx} {e e2 : Expr} {ta : TA} {p pos tpos : Pos} {elts : List Expr} {kk : Nat} (hg : Gl X "zip") (hm : X.mg "zip" = none) (ha : PA X [e, e2] ta)
    (hs : starEach [e, e2] X.env = (false, eval e X.env) :: starEach [e2] X.env) (hpl : (backTo pos (starEach [e2] X.env)).any (·.1) = false) :
    PI X (.Tuple elts kk tpos) (.Call (.Name "zip" p) [e, e2] [] pos) (iZz X.K ta) := by
  refine ⟨fun pins s σ H R I h => Call_ (ld_blt I hg hm PyProof.Rows.boot_zip (PyProof.Rows.callWith_type1 (thn (ha.run pos pins s σ H _ I h) fun us s1 hh => ?_) hs hpl))⟩
  obtain ⟨vs, H1, I1, r1, k, l, xs, ys, ev, s1', s2', q⟩ := hh
  subst ev
  cases r1 with
  | cons ru rn =>
    cases rn with
    | cons ru2 rn =>
      cases rn
      obtain ⟨o1, G1, B1, hG1, b1⟩ := Sk.begins I1 s1' ru
      obtain ⟨o2, G2, B2, hG2, b2⟩ := Sk.begins I1 s2' ru2
      refine zip_begins2 B1 B2 hG1 hG2 fun h' hz hI hO e1 e2 _ hk => wpAny_pyIter_zip hz ?_
      have I2 : Inv X pins σ H1 { s1 with heap := h' } := I1.kept (t' := s1.toks) hk
      have D : Five (s1.heap.objs.size + 4) (s1.heap.objs.size + 2) (s1.heap.objs.size + 3) s1.heap.objs.size (s1.heap.objs.size + 1) :=
        ⟨show (_ : Nat) ≠ _ by omega, show (_ : Nat) ≠ _ by omega, show (_ : Nat) ≠ _ by omega, show (_ : Nat) ≠ _ by omega, show (_ : Nat) ≠ _ by omega, show (_ : Nat) ≠ _ by omega, show (_ : Nat) ≠ _ by omega, show (_ : Nat) ≠ _ by omega, show (_ : Nat) ≠ _ by omega, show (_ : Nat) ≠ _ by omega⟩
      refine ⟨s1.heap.objs.size + 4, [s1.heap.objs.size + 4, s1.heap.objs.size + 2, s1.heap.objs.size + 3, s1.heap.objs.size, s1.heap.objs.size + 1], _, _, H1, rfl, I2, turn_zz k l D, ⟨hz, hI, ⟨_, _, hO⟩, b1 _ _ e1, b2 _ _ e2⟩, fun c hcm => ?_, q⟩
      have hle : s1.heap.objs.size ≤ c := by
        rcases five_in hcm with e | e | e | e | e <;> rw [e]
        · exact Nat.le_add_right _ _
        · exact Nat.le_add_right _ _
        · exact Nat.le_add_right _ _
        · exact Nat.le_refl _
        · exact Nat.le_add_right _ _
      exact I1.fpOk hle (I1.hok.fresh hle)
end VL

/-! VLI: dicts walked by keys, values, pairs. -/
namespace VL
open PySem PySem.Spec PyProof.Rows L2

/-- the keys of the locked dict -/
def ItDk (K : KW) (d : Addr) (o : Obj) (kvs : List (NestedKey × Addr × V)) : It where
  go := fun i H => H d = some (.frz o (DkO K d kvs)) ∧ i < kvs.length
  yld := fun i H x H' => H' = H ∧ ∃ p, kvs[i]? = some p ∧ x = kRef p
  stop := fun i H => H d = some (.frz o (DkO K d kvs)) ∧ kvs.length ≤ i
/-- its values -/
def ItDv (K : KW) (d : Addr) (o : Obj) (kvs : List (NestedKey × Addr × V)) : It where
  go := fun i H => H d = some (.frz o (DkO K d kvs)) ∧ i < kvs.length
  yld := fun i H x H' => H' = H ∧ ∃ p, kvs[i]? = some p ∧ x = kVal p
  stop := fun i H => H d = some (.frz o (DkO K d kvs)) ∧ kvs.length ≤ i
/-- its pairs -/
def ItDi (K : KW) (d : Addr) (o : Obj) (kvs : List (NestedKey × Addr × V)) : It where
  go := fun i H => H d = some (.frz o (DkO K d kvs)) ∧ i < kvs.length
  yld := fun i H x H' => ∃ T p, kvs[i]? = some p ∧ x = .ref T ∧ H T = none ∧ H' = upd H T (.tup [kRef p, kVal p])
  stop := fun i H => H d = some (.frz o (DkO K d kvs)) ∧ kvs.length ≤ i
section
variable {X : Cx} {pins : List (Addr × Obj)} {σ : L2.St} {H : Hp} {s : Shared}
theorem frzD {d : Addr} {o : Obj} {kvs : List (NestedKey × Addr × V)} (I : Inv X pins σ H s) (h : H d = some (.frz o (DkO X.kw d kvs))) :
    (d == sysModules) = false ∧ s.heap.get? d = some o ∧ ∃ es ep, o.ExactDict ∧ o.data = .dict es ep ∧ s.heap.DictRaw d es ep ∧ es.size = kvs.length ∧ ∀ (i : Nat) (hi : i < es.size), ∃ p, kvs[i]? = some p ∧ es[i].key = .ref p.2.1 ∧ RelV (kVal p) es[i].val := by
  obtain ⟨hd, ⟨hs, xs, rel, o', es, ep, ho, hx, hdt, he, _⟩, _, _⟩ := I.hok d _ h
  rw [hd] at ho
  cases ho
  have l1 : es.size = xs.length := size_of_entries he
  refine ⟨hs, hd, es, ep, hx, hdt, ⟨o, hd, hx, hdt⟩, by rw [l1, ← Paired.length rel], fun i hi => ?_⟩
  have q := entry_at he i
  rw [Array.getElem?_eq_getElem hi] at q
  cases hxi : xs[i]? with
  | none => rw [hxi] at q; cases q
  | some y =>
    rw [hxi] at q
    simp only [Option.map_some, Option.some.injEq] at q
    have back : ∀ {l : List (NestedKey × Addr × V)} {m : List (NestedKey × Addr × Value)} {i : Nat} {y : NestedKey × Addr × Value}, KvR l m → m[i]? = some y → ∃ p, l[i]? = some p ∧ p.2.1 = y.2.1 ∧ RelV p.2.2 y.2.2 := by
      intro l m i y r
      induction r generalizing i with
      | nil => intro e; simp at e
      | @cons a b as bs h t ih =>
        intro e
        cases i with
        | zero =>
          simp only [List.getElem?_cons_zero, Option.some.injEq] at e
          subst e
          exact ⟨a, rfl, h.2.1, h.2.2⟩
        | succ i => exact ih (by simpa using e)
    obtain ⟨p, hp, e1, e2⟩ := back rel hxi
    refine ⟨p, hp, ?_, ?_⟩
    · rw [q, e1]; rfl
    · rw [q]; exact e2
end
section
variable {P : Program} {w : World} {K : PySem.W.Frag} {tg : Expr} {d : Addr} {o : Obj} {es : Array DictEntry} {ep : Nat} {kvs : List (NestedKey × Addr × V)}
theorem turn_dk (it : Addr) (hod : o.data = .dict es ep) : Turn P w K tg (ItDk ⟨K, P, w⟩ d o kvs) [it] it (fun i h => h.IsKeyIter it d i es.size ep) := by
  refine ⟨by simp, fun i h st b hb => ?_, fun i h h' st k => st.at fun oi e => k it (by simp) oi e, ?_, ?_, fun A i s Q E st h => wpAny_pyIter_keyiter st h⟩
  · have e : b = it := by simpa using hb
    subst e
    obtain ⟨oi, e, c, dd⟩ := st
    exact ⟨oi, e, fun v z => by rw [dd] at z; cases z⟩
  · rintro X rfl rfl rfl hc i pins s σ H E I hf st ⟨hd, hi⟩
    obtain ⟨f0, f1, f2, f3, f4, f5⟩ := hf it (by simp)
    obtain ⟨hs, hgd, es', ep', hx, hdt, raw, hsz, ent⟩ := frzD I hd
    obtain ⟨rfl, rfl⟩ := dict_ep hod hdt
    have hil : i < es'.size := by rw [hsz]; exact hi
    obtain ⟨p, hp, ek, ev⟩ := ent i hil
    refine wpAny_pyNext_keys_item_raw st raw hil fun h' st' sb => ?_
    have I1 : Inv X pins σ H { s with heap := h' } := I.turned (t' := s.toks) (fun b ob hb e => (sb.2 b hb).trans e) f0 f1 f3 f4 f5
    obtain ⟨oi, e, c, dd⟩ := id st'
    exact ⟨_, rfl, go_of (s := { s with heap := h' }) e c dd (by decide) ⟨kRef p, H, I1, by rw [ek]; rfl, ⟨rfl, p, hp, rfl⟩, st', fun b hb => (hf b hb).1⟩⟩
  · rintro X rfl rfl rfl hc i pins s σ H E I hf st ⟨hd, hi⟩
    obtain ⟨f0, f1, f2, f3, f4, f5⟩ := hf it (by simp)
    obtain ⟨hs, hgd, es', ep', hx, hdt, raw, hsz, ent⟩ := frzD I hd
    obtain ⟨rfl, rfl⟩ := dict_ep hod hdt
    exact wpAny_pyNext_keys_end_raw (I.ok.hd hc) st raw (by rw [hsz]; exact hi) fun h' eb => ⟨rfl, I.turned (t' := s.toks) (fun b ob hb e => eb b ob hb e) f0 f1 f3 f4 f5⟩
theorem turn_dv (it : Addr) (hod : o.data = .dict es ep) : Turn P w K tg (ItDv ⟨K, P, w⟩ d o kvs) [it] it (fun i h => h.IsValIter it d i es.size ep) := by
  refine ⟨by simp, fun i h st b hb => ?_, fun i h h' st k => st.at fun oi e => k it (by simp) oi e, ?_, ?_, fun A i s Q E st h => wpAny_pyIter_valiter st h⟩
  · have e : b = it := by simpa using hb
    subst e
    obtain ⟨oi, e, c, dd⟩ := st
    exact ⟨oi, e, fun v z => by rw [dd] at z; cases z⟩
  · rintro X rfl rfl rfl hc i pins s σ H E I hf st ⟨hd, hi⟩
    obtain ⟨f0, f1, f2, f3, f4, f5⟩ := hf it (by simp)
    obtain ⟨hs, hgd, es', ep', hx, hdt, raw, hsz, ent⟩ := frzD I hd
    obtain ⟨rfl, rfl⟩ := dict_ep hod hdt
    have hil : i < es'.size := by rw [hsz]; exact hi
    obtain ⟨p, hp, ek, ev⟩ := ent i hil
    refine wpAny_pyNext_values_item_raw st raw hil fun h' st' sb => ?_
    have I1 : Inv X pins σ H { s with heap := h' } := I.turned (t' := s.toks) (fun b ob hb e => (sb.2 b hb).trans e) f0 f1 f3 f4 f5
    obtain ⟨oi, e, c, dd⟩ := id st'
    exact ⟨_, rfl, go_of (s := { s with heap := h' }) e c dd (by decide) ⟨kVal p, H, I1, ev, ⟨rfl, p, hp, rfl⟩, st', fun b hb => (hf b hb).1⟩⟩
  · rintro X rfl rfl rfl hc i pins s σ H E I hf st ⟨hd, hi⟩
    obtain ⟨f0, f1, f2, f3, f4, f5⟩ := hf it (by simp)
    obtain ⟨hs, hgd, es', ep', hx, hdt, raw, hsz, ent⟩ := frzD I hd
    obtain ⟨rfl, rfl⟩ := dict_ep hod hdt
    exact wpAny_pyNext_values_end_raw (I.ok.hd hc) st raw (by rw [hsz]; exact hi) fun h' eb => ⟨rfl, I.turned (t' := s.toks) (fun b ob hb e => eb b ob hb e) f0 f1 f3 f4 f5⟩
theorem turn_di {elts : List Expr} {kk : Nat} {tpos : Pos} (it : Addr) (hod : o.data = .dict es ep) : Turn P w K (.Tuple elts kk tpos) (ItDi ⟨K, P, w⟩ d o kvs) [it] it (fun i h => ∃ ok ov, IsItemIter h it d i es.size ep ok ov) := by
  refine ⟨by simp, fun i h st b hb => ?_, fun i h h' st k => let ⟨ok, ov, e⟩ := st; ⟨ok, ov, k it (by simp) _ e⟩, ?_, ?_, fun A i s Q E st h => let ⟨_, _, e⟩ := st; wpAny_pyIter_itemiter e h⟩
  · have e : b = it := by simpa using hb
    subst e
    obtain ⟨ok, ov, e⟩ := st
    exact ⟨_, e, fun v z => nomatch z⟩
  · rintro X rfl rfl rfl hc i pins s σ H E I hf st ⟨hd, hi⟩
    obtain ⟨hs, hgd, es', ep', hx, hdt, raw, hsz, ent⟩ := frzD I hd
    obtain ⟨rfl, rfl⟩ := dict_ep hod hdt
    have hil : i < es'.size := by rw [hsz]; exact hi
    obtain ⟨p, hp, ek, ev⟩ := ent i hil
    obtain ⟨ok, ov, he⟩ := st
    have hlt : it < s.heap.objs.size := Heap.lt_size he
    refine wpAny_pyNext_items_item_raw he raw hil fun h' ho hT hz hk => ?_
    refine ⟨_, rfl, wpAny_letOwnedTupleGo_items (s := { s with heap := h' }) ho fun h'' he' sb => ?_⟩
    have hT2 := (sb.2 _ (Nat.ne_of_gt hlt)).trans hT
    have I1 : Inv X pins σ (upd H s.heap.objs.size (.tup [kRef p, kVal p])) { s with heap := h'' } :=
      I.turnedNew (t' := s.toks) (ch := [it]) (fun b ob hb e => (sb.2 b (by simpa using hb)).trans (hk b ob (by simpa using hb) e)) hf (Nat.le_refl _)
        ⟨by show 2 ≤ sizeLine; decide, [_, _], .cons (show RelV (kRef p) _ by rw [ek]; rfl) (.cons ev .nil), ⟨_, hT2, rfl, _, rfl⟩⟩
    refine ⟨.ref s.heap.objs.size, _, I1, rfl, ⟨_, p, hp, rfl, I.hok.fresh (Nat.le_refl _), rfl⟩, ⟨_, _, he'⟩, fun b hb => ?_⟩
    have e : b = it := by simpa using hb
    rw [e, upd_ne (Nat.ne_of_lt hlt)]
    exact (hf it (by simp)).1
  · rintro X rfl rfl rfl hc i pins s σ H E I hf st ⟨hd, hi⟩
    obtain ⟨f0, f1, f2, f3, f4, f5⟩ := hf it (by simp)
    obtain ⟨hs, hgd, es', ep', hx, hdt, raw, hsz, ent⟩ := frzD I hd
    obtain ⟨rfl, rfl⟩ := dict_ep hod hdt
    obtain ⟨ok, ov, he⟩ := st
    exact wpAny_pyNext_items_end_raw (I.ok.hd hc) he raw (by rw [hsz]; exact hi) fun h' eb => ⟨rfl, I.turned (t' := s.toks) (fun b ob hb e => eb b ob hb e) f0 f1 f3 f4 f5⟩
end
section
variable {X : Cx} {tg e : Expr} {td : TE} {apos cpos : Pos}
/-- the locked dict -/
def iDic (K : KW) (J : Addr → Obj → List (NestedKey × Addr × V) → It) (td : TE) : TI := fun σ H R => td σ H fun x H1 => ∃ d o kvs, x = .ref d ∧ H1 d = some (.frz o (DkO K d kvs)) ∧ R (J d o kvs) H1
theorem pi_dv (he : PE X e td) (hbase : attributeBase e "values" X.env (eval e X.env) = eval e X.env) (hline : (apos.endLine == cpos.line) = true) : PI X tg (.Call (.Attribute e "values" apos) [] [] cpos) (iDic X.kw (ItDv X.kw) td) := by
  refine ⟨fun pins s σ H R I h => ?_⟩
  refine wpAny_Call_method (T := "dict") (id := "dict.values") hbase rfl hline F.plainAttrs_dict F.slot_dict_values F.type_dict_values (thn (he.run pins s σ H _ I h) fun u s1 ⟨x, H1, I1, rx, d, o, kvs, ex, hd, q⟩ => ?_)
  subst ex
  cases rx
  obtain ⟨hs, hgd, es, ep, hx, hdt, raw, hsz, ent⟩ := frzD I1 hd
  refine ⟨raw.typeIs, fun b eb => (by cases eb; exact ⟨o, hgd, hx.2.1⟩), ?_⟩
  have I2 : Inv X pins σ H1 { s1 with heap := s1.heap.push { cls := .type "dict_values", data := .fields #[.ref d] } } := I1.kept (t' := s1.toks) fun b ob q => Heap.get?_push_of_some _ q
  have fin : wpAny (model X.prog X.w) X.A (pyIter (.ref s1.heap.objs.size)) (PIE X pins σ tg R) X.xe { s1 with heap := s1.heap.push { cls := .type "dict_values", data := .fields #[.ref d] } } :=
    wpAny_pyIter_values_raw (d := d) ⟨_, Heap.get?_push_size _ rfl, rfl, rfl⟩ (raw.at fun o q => Heap.get?_push_of_some _ q) (pi_one (tk := s1.toks) I2 _ (turn_dv _ hdt) ⟨_, Heap.get?_push_size _ rfl, rfl, rfl⟩ q)
  show wpAny _ _ (callWith cpos (.builtin "dict.values") [.ref d] [] []) _ X.xe s1
  exact method_meetsIn F.slot_dict_values F.entry_dict_values rfl (PySem.evalArgs_none ⟨rfl, raw.typeIs, F.args_dict_values_1 _, _, meets_dict_values_raw d hs, ⟨es, ep, raw⟩, fin⟩)
theorem pi_di {elts : List Expr} {kk : Nat} {tpos : Pos} (he : PE X e td) (hbase : attributeBase e "items" X.env (eval e X.env) = eval e X.env) (hline : (apos.endLine == cpos.line) = true) :
    PI X (.Tuple elts kk tpos) (.Call (.Attribute e "items" apos) [] [] cpos) (iDic X.kw (ItDi X.kw) td) := by
  refine ⟨fun pins s σ H R I h => ?_⟩
  refine wpAny_Call_method (T := "dict") (id := "dict.items") hbase rfl hline F.plainAttrs_dict F.slot_dict_items F.type_dict_items (thn (he.run pins s σ H _ I h) fun u s1 ⟨x, H1, I1, rx, d, o, kvs, ex, hd, q⟩ => ?_)
  subst ex
  cases rx
  obtain ⟨hs, hgd, es, ep, hx, hdt, raw, hsz, ent⟩ := frzD I1 hd
  refine ⟨raw.typeIs, fun b eb => (by cases eb; exact ⟨o, hgd, hx.2.1⟩), ?_⟩
  have I2 : Inv X pins σ H1 { s1 with heap := s1.heap.push { cls := .type "dict_items", data := .fields #[.ref d] } } := I1.kept (t' := s1.toks) fun b ob q => Heap.get?_push_of_some _ q
  have fin : wpAny (model X.prog X.w) X.A (pyIter (.ref s1.heap.objs.size)) (PIE X pins σ (.Tuple elts kk tpos) R) X.xe { s1 with heap := s1.heap.push { cls := .type "dict_items", data := .fields #[.ref d] } } :=
    wpAny_pyIter_items_raw (d := d) ⟨_, Heap.get?_push_size _ rfl, rfl, rfl⟩ (raw.at fun o q => Heap.get?_push_of_some _ q) (pi_one (tk := s1.toks) I2 _ (turn_di _ hdt) ⟨.none, .none, Heap.get?_push_size _ rfl⟩ q)
  show wpAny _ _ (callWith cpos (.builtin "dict.items") [.ref d] [] []) _ X.xe s1
  exact method_meetsIn F.slot_dict_items F.entry_dict_items rfl (PySem.evalArgs_none ⟨rfl, raw.typeIs, F.args_dict_items_1 _, _, meets_dict_items_raw d hs, ⟨es, ep, raw⟩, fin⟩)
end
end VL

/-! VL7: targets and what is walked. -/
namespace VL
open PySem PySem.Spec PyProof.Rows L2

abbrev Rho := List (Option D)
/-- the slots hold the data -/
structure WR (K : KW) (H : Hp) (ρ : Rho) (σ : L2.St) : Prop where
  len : ρ.length = σ.length
  at_ : ∀ (i : Nat) (d : D), ρ[i]? = some (some d) → ∃ v, σ[i]? = some (some v) ∧ W1 K H d v
theorem WR.same {K : KW} {H H' : Hp} {ρ : Rho} {σ : L2.St} (w : WR K H ρ σ) (h : Same H H') : WR K H' ρ σ :=
  ⟨w.len, fun i d e => let ⟨v, a, b⟩ := w.at_ i d e; ⟨v, a, b.same h⟩⟩
def wipeR (ρ : Rho) : List Nat → Rho
  | [] => ρ
  | v :: vs => (wipeR ρ vs).set v none
theorem wipeR_length (ρ : Rho) : ∀ vs : List Nat, (wipeR ρ vs).length = ρ.length
  | [] => rfl
  | v :: vs => by unfold wipeR; rw [List.length_set, wipeR_length ρ vs]
theorem wipeR_some {ρ : Rho} {i : Nat} {x : D} : ∀ {vs : List Nat}, (wipeR ρ vs)[i]? = some (some x) → ρ[i]? = some (some x) ∧ i ∉ vs
  | [], h => ⟨h, by simp⟩
  | v :: vs, h => by
    unfold wipeR at h
    by_cases hi : v = i
    · subst hi
      by_cases hv : v < (wipeR ρ vs).length
      · rw [List.getElem?_set_self hv] at h; cases h
      · rw [List.getElem?_eq_none (by simpa using hv)] at h; cases h
    · rw [List.getElem?_set_ne hi] at h
      obtain ⟨a, b⟩ := wipeR_some h
      exact ⟨a, fun z => (List.mem_cons.mp z).elim (fun q => hi q.symm) b⟩
theorem wipe_not {σ : L2.St} {i : Nat} : ∀ {vs : List Nat}, i ∉ vs → (wipe σ vs)[i]? = σ[i]?
  | [], _ => rfl
  | v :: vs, h => by
    unfold wipe
    rw [List.getElem?_set_ne fun e => h (by rw [e]; exact List.mem_cons_self)]
    exact wipe_not fun z => h (List.mem_cons_of_mem _ z)
theorem wipe_in {σ : L2.St} {i : Nat} : ∀ {vs : List Nat}, i ∈ vs → i < σ.length → (wipe σ vs)[i]? = some none
  | v :: vs, h, hl => by
    unfold wipe
    by_cases hi : v = i
    · subst hi
      rw [List.getElem?_set_self (by rw [wipe_length]; exact hl)]
    · rw [List.getElem?_set_ne hi]
      exact wipe_in ((List.mem_cons.mp h).resolve_left fun e => hi e.symm) hl
theorem WR.wipe {K : KW} {H : Hp} {ρ : Rho} {σ : L2.St} (w : WR K H ρ σ) (vs : List Nat) : WR K H (wipeR ρ vs) (L2.wipe σ vs) :=
  ⟨by rw [wipeR_length, wipe_length]; exact w.len, fun i d e => by
    obtain ⟨a, b⟩ := wipeR_some e
    rw [wipe_not b]
    exact w.at_ i d a⟩

/-! ### targets -/
inductive Pat where
  | nm (i : Nat)
  | tp (ps : List Pat)
mutual
def bindP : Pat → D → Rho → Option Rho
  | .nm i, d, ρ => if i < ρ.length then some (ρ.set i (some d)) else none
  | .tp ps, d, ρ => match d with
    | .tup ds => bindPs ps ds ρ
    | .lst _ ds => bindPs ps ds ρ
    | _ => none
def bindPs : List Pat → List D → Rho → Option Rho
  | [], [], ρ => some ρ
  | p :: ps, d :: ds, ρ => (bindP p d ρ).bind fun ρ' => bindPs ps ds ρ'
  | _, _, _ => none
end
mutual
def slotsP : Pat → List Nat
  | .nm i => [i]
  | .tp ps => slotsPs ps
def slotsPs : List Pat → List Nat
  | [] => []
  | p :: ps => slotsP p ++ slotsPs ps
end
mutual
inductive BindV (K : KW) (H : Hp) : Pat → V → L2.St → L2.St → Prop
  | nm {i : Nat} {v : V} {σ : L2.St} : BindV K H (.nm i) v σ (σ.set i (some v))
  | tp {ps : List Pat} {a : Addr} {vs : List V} {σ σ' : L2.St} : SqT K H a vs → vs.length = ps.length → BindVs K H ps vs σ σ' → BindV K H (.tp ps) (.ref a) σ σ'
  | tl {ps : List Pat} {a : Addr} {vs : List V} {σ σ' : L2.St} : SqL K H a vs → vs.length = ps.length → BindVs K H ps vs σ σ' → BindV K H (.tp ps) (.ref a) σ σ'
inductive BindVs (K : KW) (H : Hp) : List Pat → List V → L2.St → L2.St → Prop
  | nil {σ : L2.St} : BindVs K H [] [] σ σ
  | cons {p : Pat} {ps : List Pat} {v : V} {vs : List V} {σ σ1 σ2 : L2.St} : BindV K H p v σ σ1 → BindVs K H ps vs σ1 σ2 → BindVs K H (p :: ps) (v :: vs) σ σ2
end
section
variable {K : KW} {H : Hp}
theorem WR.set {ρ : Rho} {σ : L2.St} {d : D} {v : V} (w : WR K H ρ σ) (h : W1 K H d v) (i : Nat) : WR K H (ρ.set i (some d)) (σ.set i (some v)) :=
  ⟨by rw [List.length_set, List.length_set]; exact w.len, fun j d' e => by
    by_cases hj : i = j
    · subst hj
      by_cases hl : i < ρ.length
      · rw [List.getElem?_set_self hl] at e
        cases e
        exact ⟨v, List.getElem?_set_self (by rw [← w.len]; exact hl), h⟩
      · rw [List.getElem?_eq_none (by simpa using hl)] at e; cases e
    · rw [List.getElem?_set_ne hj] at e ⊢
      exact w.at_ j d' e⟩
mutual
theorem bindP_ok : ∀ (p : Pat) {d : D} {v : V} {ρ ρ' : Rho} {σ : L2.St}, WR K H ρ σ → W1 K H d v → bindP p d ρ = some ρ' → ∃ σ', BindV K H p v σ σ' ∧ WR K H ρ' σ'
  | .nm i, d, v, ρ, ρ', σ, w, h, e => by
    unfold bindP at e
    split at e
    · cases e
      exact ⟨_, .nm, w.set h i⟩
    · cases e
  | .tp ps, d, v, ρ, ρ', σ, w, h, e => by
    unfold bindP at e
    split at e
    · rename_i ds
      obtain ⟨a, vs, rfl, hs, hw⟩ := h.tup
      obtain ⟨σ', b, w', l⟩ := bindPs_ok ps w hw e
      exact ⟨σ', .tp hs l b, w'⟩
    · rename_i ds
      obtain ⟨a, vs, rfl, hs, hw⟩ := h.lst
      obtain ⟨σ', b, w', l⟩ := bindPs_ok ps w hw e
      exact ⟨σ', .tl hs l b, w'⟩
    · cases e
theorem bindPs_ok : ∀ (ps : List Pat) {ds : List D} {vs : List V} {ρ ρ' : Rho} {σ : L2.St}, WR K H ρ σ → WL K H ds vs → bindPs ps ds ρ = some ρ' → ∃ σ', BindVs K H ps vs σ σ' ∧ WR K H ρ' σ' ∧ vs.length = ps.length
  | [], ds, vs, ρ, ρ', σ, w, h, e => by
    cases h with
    | nil => cases e; exact ⟨σ, .nil, w, rfl⟩
    | cons _ _ => cases e
  | p :: ps, ds, vs, ρ, ρ', σ, w, h, e => by
    cases h with
    | nil => cases e
    | cons h1 h2 =>
      simp only [bindPs, Option.bind_eq_some_iff] at e
      obtain ⟨ρ1, e1, e2⟩ := e
      obtain ⟨σ1, b1, w1⟩ := bindP_ok p w h1 e1
      obtain ⟨σ2, b2, w2, l⟩ := bindPs_ok ps w1 h2 e2
      exact ⟨σ2, .cons b1 b2, w2, by simp [l]⟩
end
mutual
theorem BindV.len : ∀ {p : Pat} {v : V} {σ σ' : L2.St}, BindV K H p v σ σ' → σ'.length = σ.length
  | _, _, _, _, .nm => by rw [List.length_set]
  | _, _, _, _, .tp _ _ b => b.len
  | _, _, _, _, .tl _ _ b => b.len
theorem BindVs.len : ∀ {p : List Pat} {v : List V} {σ σ' : L2.St}, BindVs K H p v σ σ' → σ'.length = σ.length
  | _, _, _, _, .nil => rfl
  | _, _, _, _, .cons a b => by rw [b.len, a.len]
end
mutual
theorem BindV.out : ∀ {p : Pat} {v : V} {σ σ' : L2.St}, BindV K H p v σ σ' → ∀ i, i ∉ slotsP p → σ'[i]? = σ[i]?
  | _, _, _, _, .nm, j, h => by
    rw [List.getElem?_set_ne fun e => h (by rw [e]; exact List.mem_singleton.mpr rfl)]
  | _, _, _, _, .tp _ _ b, j, h => b.out j h
  | _, _, _, _, .tl _ _ b, j, h => b.out j h
theorem BindVs.out : ∀ {p : List Pat} {v : List V} {σ σ' : L2.St}, BindVs K H p v σ σ' → ∀ i, i ∉ slotsPs p → σ'[i]? = σ[i]?
  | _, _, _, _, .nil, _, _ => rfl
  | _, _, _, _, .cons a b, j, h => by
    rw [b.out j fun z => h (List.mem_append_right _ z), a.out j fun z => h (List.mem_append_left _ z)]
end
theorem BindV.wipe {p : Pat} {v : V} {σ σ' : L2.St} {vs : List Nat} (b : BindV K H p v (L2.wipe σ vs) σ') (h : ∀ i ∈ slotsP p, i ∈ vs) : L2.wipe σ' vs = L2.wipe σ vs := by
  have hl : σ'.length = σ.length := by rw [b.len, wipe_length]
  apply List.ext_getElem?
  intro i
  by_cases hi : i ∈ vs
  · by_cases hil : i < σ.length
    · rw [wipe_in hi hil, wipe_in hi (by rw [hl]; exact hil)]
    · rw [List.getElem?_eq_none (by rw [wipe_length, hl]; omega), List.getElem?_eq_none (by rw [wipe_length]; omega)]
  · rw [wipe_not hi, b.out i (fun z => hi (h i z))]
end
/-- a target's syntax -/
def locB (sc : Scope) (fn : Str → Bool) (x : Str) : Bool := decide (sc.names.lookup x = some .local) || (decide (sc.names.lookup x = some .cell) && fn x)
mutual
def mPat (N : List Str) (sc : Scope) (fn : Str → Bool) : Pat → Expr → Bool
  | .nm i, e => match e with
    | .Name x _ => decide (N[i]? = some x) && locB sc fn x
    | _ => false
  | .tp ps, e => match e with
    | .Tuple es _ _ => mPats N sc fn ps es
    | _ => false
def mPats (N : List Str) (sc : Scope) (fn : Str → Bool) : List Pat → List Expr → Bool
  | [], es => es.isEmpty
  | p :: ps, es => match es with
    | e :: es => mPat N sc fn p e && mPats N sc fn ps es
    | [] => false
end
theorem mPat_star {N : List Str} {sc : Scope} {fn : Str → Bool} {p : Pat} {e : Expr} (h : mPat N sc fn p e = true) : notStar e = true := by
  cases p <;> (unfold mPat at h; split at h <;> first | rfl | cases h)
theorem asg_cons {e : Expr} {es : List Expr} {env : Env} (h : notStar e = true) : assignEach (e :: es) env = (false, assign e env) :: assignEach es env := by
  cases e <;> first | rfl | cases h
section
variable {X : Cx}
def gP (K : KW) (p : Pat) : TG := fun v σ H Q => ∃ σ', BindV K H p v σ σ' ∧ Q σ' H
def gPs (K : KW) (ps : List Pat) : TGs := fun vs σ H Q => ∃ σ', BindVs K H ps vs σ σ' ∧ Q σ' H
theorem locB_ok {x : Str} (h : locB X.env.scope X.fn x = true) : Loc X.env.scope x ∧ (X.fn x = true ∨ X.env.scope.names.lookup x = some .local) := by
  simp only [locB, Bool.or_eq_true, Bool.and_eq_true, decide_eq_true_eq] at h
  rcases h with h | h
  · exact ⟨.inl h, .inr h⟩
  · exact ⟨.inr h.1, .inl h.2⟩
mutual
theorem pat_pe (C : Cok X) : ∀ (p : Pat) (e : Expr), mPat X.N X.env.scope X.fn p e = true → PG X e (gP X.kw p)
  | .nm i, e, h => by
    unfold mPat at h
    split at h
    · simp only [Bool.and_eq_true, decide_eq_true_eq] at h
      obtain ⟨a, b⟩ := locB_ok h.2
      refine ⟨fun pins s σ H v u Q I r q => ?_⟩
      obtain ⟨σ', bv, q⟩ := q
      cases bv
      exact (pg_name C.nd h.1 a b).run pins s σ H v u Q I r q
    · cases h
  | .tp ps, e, h => by
    unfold mPat at h
    split at h
    · rename_i es k pos
      obtain ⟨g, l, st⟩ := pats_pe C ps es h
      refine ⟨fun pins s σ H v u Q I r q => ?_⟩
      obtain ⟨σ', bv, q⟩ := q
      cases bv with
      | tp hs hl bs =>
        exact (pg_tup (n := ps.length) C.calm g l st).run pins s σ H _ u Q I r ⟨_, _, rfl, hs, hl, σ', bs, q⟩
      | tl hs hl bs =>
        exact (pg_unl (n := ps.length) C.calm g l st).run pins s σ H _ u Q I r ⟨_, _, rfl, hs, hl, σ', bs, q⟩
    · cases h
theorem pats_pe (C : Cok X) : ∀ (ps : List Pat) (es : List Expr), mPats X.N X.env.scope X.fn ps es = true → PGs X es (gPs X.kw ps) ∧ (assignEach es X.env).length = ps.length ∧ (assignEach es X.env).findIdx? (·.1) = none
  | [], es, h => by
    unfold mPats at h
    cases es with
    | nil =>
      refine ⟨⟨fun pins s σ H vs us Q I r q => ?_⟩, rfl, rfl⟩
      obtain ⟨σ', b, q⟩ := q
      cases b
      exact pgs_nil.run pins s σ H [] us Q I r ⟨rfl, q⟩
    | cons _ _ => cases h
  | p :: ps, es, h => by
    unfold mPats at h
    split at h
    · rename_i e es
      simp only [Bool.and_eq_true] at h
      obtain ⟨g2, l2, s2⟩ := pats_pe C ps es h.2
      have g1 := pat_pe C p e h.1
      have hc := asg_cons (es := es) (env := X.env) (mPat_star h.1)
      refine ⟨⟨fun pins s σ H vs us Q I r q => ?_⟩, by rw [hc, List.length_cons, l2]; rfl, by rw [hc, List.findIdx?_cons]; simp [s2]⟩
      obtain ⟨σ', b, q⟩ := q
      cases b with
      | cons b1 b2 => exact (pgs_cons g1 g2 (by rw [hc]; rfl)).run pins s σ H _ us Q I r ⟨_, _, rfl, _, b1, _, b2, q⟩
    · cases h
end
end

/-! ### what is walked -/
inductive SrcK where
  | it | rng | enum | zip | items | vals
  deriving DecidableEq
def itemsOf : D → Option (List D)
  | .lst _ xs => some xs
  | .tup xs => some xs
  | .str s => some (s.map fun c => .str [c])
  | _ => none
def itemsIt : D → Option (List D)
  | .dic false ks _ => some ks
  | d => itemsOf d
/-- a dict's pairs -/
def pairsD : List D → List D → List D
  | k :: ks, v :: vs => .tup [k, v] :: pairsD ks vs
  | _, _ => []
def rngItems (lo : Int) (n : Nat) : List D := (List.range n).map fun (k : Nat) => .int (lo + k)
def enumD : Nat → List D → List D
  | _, [] => []
  | i, x :: xs => .tup [.int i, x] :: enumD (i + 1) xs
def zipD : List D → List D → List D
  | x :: xs, y :: ys => .tup [x, y] :: zipD xs ys
  | _, _ => []
def srcItems : SrcK → List D → Option (List D)
  | .it, [d] => itemsIt d
  | .rng, [.int j] => if -(2 ^ 62) ≤ j ∧ j < 2 ^ 62 then some (rngItems 0 j.toNat) else none
  | .rng, [.int i, .int j] => if -(2 ^ 62) ≤ i ∧ i < 2 ^ 62 ∧ -(2 ^ 62) ≤ j ∧ j < 2 ^ 62 then some (rngItems i (j - i).toNat) else none
  | .enum, [d] => (itemsOf d).map (enumD 0)
  | .zip, [d, e] => match itemsOf d, itemsOf e with
    | some xs, some ys => if immL xs = true then some (zipD xs ys) else none
    | _, _ => none
  | .items, [.dic false ks vs] => if immL vs = true then some (pairsD ks vs) else none
  | .vals, [.dic false _ vs] => some vs
  | _, _ => none
/-- the walk of values by what stands -/
inductive WkV (K : KW) (H : Hp) : SrcK → List V → It → Prop
  | lst {a : Addr} {xs : List V} : SqL K H a xs → WkV K H .it [.ref a] (Itl K a)
  | tup {a : Addr} {xs : List V} : SqT K H a xs → WkV K H .it [.ref a] (Itt K a)
  | str {x : Str} : WkV K H .it [.str x] (Its x)
  | rng1 {j : Int} : -(2 ^ 62) ≤ j → j < 2 ^ 62 → WkV K H .rng [.int j] (Itr 0 j.toNat)
  | rng2 {i j : Int} : -(2 ^ 62) ≤ i → i < 2 ^ 62 → -(2 ^ 62) ≤ j → j < 2 ^ 62 → WkV K H .rng [.int i, .int j] (Itr i (j - i).toNat)
  | enumK {k : Sk} {xs : List V} : k.st K H xs → WkV K H .enum [k.v] (ItEn K k)
  | keysD {a : Addr} {o : Obj} {kvs : List (NestedKey × Addr × V)} : H a = some (.frz o (DkO K a kvs)) → WkV K H .it [.ref a] (ItDk K a o kvs)
  | itemsD {a : Addr} {o : Obj} {kvs : List (NestedKey × Addr × V)} : H a = some (.frz o (DkO K a kvs)) → WkV K H .items [.ref a] (ItDi K a o kvs)
  | valsD {a : Addr} {o : Obj} {kvs : List (NestedKey × Addr × V)} : H a = some (.frz o (DkO K a kvs)) → WkV K H .vals [.ref a] (ItDv K a o kvs)
  | zipK {k l : Sk} {xs ys : List V} : k.st K H xs → l.st K H ys → WkV K H .zip [k.v, l.v] (ItZz K k l)
/-- a walk gives the data, while S holds -/
structure WkD (K : KW) (J : It) (ds : List D) (S : Hp → Prop) : Prop where
  go : ∀ i H, S H → i < ds.length → J.go i H
  stop : ∀ H, S H → J.stop ds.length H
  yld : ∀ (i : Nat) (H : Hp) (x : V) (H' : Hp), S H → J.yld i H x H' → ∀ d : D, ds[i]? = some d → Same H H' ∧ W1 K H' d x
section
variable {K : KW} {H : Hp}
theorem enumD_get : ∀ (xs : List D) (k i : Nat), (enumD k xs)[i]? = xs[i]?.map fun x => .tup [.int ((k + i : Nat) : Int), x]
  | [], k, i => by simp [enumD]
  | x :: xs, k, 0 => by simp [enumD]
  | x :: xs, k, i + 1 => by
    simp only [enumD, List.getElem?_cons_succ]
    rw [enumD_get xs (k + 1) i, show k + 1 + i = k + (i + 1) by omega]
theorem enumD_len : ∀ (xs : List D) (k : Nat), (enumD k xs).length = xs.length
  | [], _ => rfl
  | x :: xs, k => by simp [enumD, enumD_len xs (k + 1)]
theorem zipD_len : ∀ (xs ys : List D), (zipD xs ys).length = min xs.length ys.length
  | [], ys => by cases ys <;> simp [zipD]
  | x :: xs, [] => by simp [zipD]
  | x :: xs, y :: ys => by simp [zipD, zipD_len xs ys]
theorem zipD_get : ∀ (xs ys : List D) (i : Nat) (d : D), (zipD xs ys)[i]? = some d → ∃ x y, xs[i]? = some x ∧ ys[i]? = some y ∧ d = .tup [x, y]
  | [], ys, i, d, h => by cases ys <;> simp [zipD] at h
  | x :: xs, [], i, d, h => by simp [zipD] at h
  | x :: xs, y :: ys, 0, d, h => by simp [zipD] at h; exact ⟨x, y, rfl, rfl, h.symm⟩
  | x :: xs, y :: ys, i + 1, d, h => zipD_get xs ys i d (by simpa [zipD] using h)
theorem WL.lt {ds : List D} {vs : List V} {i : Nat} (w : WL K H ds vs) (h : i < ds.length) : ∃ v, vs[i]? = some v := ⟨vs[i]'(by rw [← w.length]; exact h), List.getElem?_eq_getElem _⟩
theorem WL.at2 {ds : List D} {vs : List V} {i : Nat} {v : V} {d : D} (w : WL K H ds vs) (h : vs[i]? = some v) (e : ds[i]? = some d) : W1 K H d v := by
  obtain ⟨v', h', w1⟩ := w.get e
  rw [h] at h'
  cases h'
  exact w1
/-- a list's data, while it stands so -/
def SL (K : KW) (a : Addr) (ds : List D) (H : Hp) : Prop := ∃ vs, SqL K H a vs ∧ WL K H ds vs
def ST (K : KW) (a : Addr) (ds : List D) (H : Hp) : Prop := ∃ vs, SqT K H a vs ∧ WL K H ds vs
theorem wk_list {a : Addr} {ds : List D} : WkD K (Itl K a) ds (SL K a ds) where
  go := fun i H ⟨vs, h, w⟩ hi => let ⟨v, e⟩ := w.lt hi; ⟨vs, v, h, e⟩
  stop := fun H ⟨vs, h, w⟩ => ⟨vs, h, by rw [w.length]; exact Nat.le_refl _⟩
  yld := fun i H x H' ⟨vs, h, w⟩ ⟨e, y⟩ d hd => by subst e; exact ⟨Same.refl _, w.at2 (y vs h) hd⟩
theorem wk_tup {a : Addr} {ds : List D} : WkD K (Itt K a) ds (ST K a ds) where
  go := fun i H ⟨vs, h, w⟩ hi => let ⟨v, e⟩ := w.lt hi; ⟨vs, v, h, e⟩
  stop := fun H ⟨vs, h, w⟩ => ⟨vs, h, by rw [w.length]; exact Nat.le_refl _⟩
  yld := fun i H x H' ⟨vs, h, w⟩ ⟨e, y⟩ d hd => by subst e; exact ⟨Same.refl _, w.at2 (y vs h) hd⟩
theorem wk_str {s : List Nat} (ok : okS s = true) : WkD K (Its ⟨s.toArray⟩) (s.map fun c => .str [c]) (fun _ => True) where
  go := fun i H _ hi => by
    show i < s.toArray.size
    simpa using hi
  stop := fun H _ => by
    show s.toArray.size ≤ _
    simp
  yld := fun i H x H' _ ⟨e, c, hc, hx⟩ d hd => by
    subst e
    refine ⟨Same.refl _, ?_⟩
    have hc' : s[i]? = some c := by simpa using hc
    rw [List.getElem?_map, hc'] at hd
    cases hd
    subst hx
    refine ⟨[], .str [c] (okS_iff.mpr ⟨fun c' h' => ?_, by simp⟩)⟩
    rw [List.mem_singleton] at h'
    rw [h']
    exact (okS_iff.mp ok).1 c (List.mem_of_getElem? hc')
theorem wk_rng {lo : Int} {n : Nat} : WkD K (Itr lo n) (rngItems lo n) (fun _ => True) where
  go := fun i H _ hi => by
    show i < n
    simpa [rngItems] using hi
  stop := fun H _ => by
    show n ≤ _
    simp [rngItems]
  yld := fun i H x H' _ ⟨e, hx⟩ d hd => by
    subst e; subst hx
    have hi : i < n := by
      have := (List.getElem?_eq_some_iff.mp hd).1
      simpa [rngItems] using this
    simp only [rngItems, List.getElem?_map, List.getElem?_range hi, Option.map_some, Option.some.injEq] at hd
    subst hd
    exact ⟨Same.refl _, [], .int _⟩
theorem pair_rep {H' : Hp} {T : Addr} {d e : D} {x y : V} (hT : H T = none) (h : W1 K H d x) (h' : W1 K H e y) (i : d.imm = true ∨ e.imm = true) : W1 K (upd H T (.tup [x, y])) (.tup [d, e]) (.ref T) := by
  have sm : Same H (upd H T (.tup [x, y])) := same_upd hT
  obtain ⟨f, r⟩ := h
  obtain ⟨g, r'⟩ := h'
  have dj : ∀ a ∈ f, a ∉ g ++ [] := by
    rcases i with i | i
    · rw [r.imm_nil i]; exact nilF
    · rw [r'.imm_nil i]; exact fun _ _ z => nomatch z
  exact ⟨_, .tup (.inl (.inl upd_same)) (.cons (r.same sm) (.cons (r'.same sm) .nil fun _ _ z => nomatch z) dj)⟩
def SkS (K : KW) (k : Sk) (ds : List D) (H : Hp) : Prop := ∃ vs, k.st K H vs ∧ WL K H ds vs
theorem wk_enum {k : Sk} {ds : List D} : WkD K (ItEn K k) (enumD 0 ds) (SkS K k ds) where
  go := fun i H ⟨vs, h, w⟩ hi => let ⟨v, e⟩ := w.lt (by rw [enumD_len] at hi; exact hi); ⟨vs, v, h, e⟩
  stop := fun H ⟨vs, h, w⟩ => ⟨vs, h, by rw [enumD_len, w.length]⟩
  yld := fun i H x H' ⟨vs, h, w⟩ ⟨T, z, ex, hT, e, y⟩ d hd => by
    subst e; subst ex
    rw [enumD_get] at hd
    cases hx : ds[i]? with
    | none => rw [hx] at hd; cases hd
    | some d' =>
      rw [hx] at hd
      simp only [Option.map_some, Option.some.injEq, Nat.zero_add] at hd
      subst hd
      exact ⟨same_upd hT, pair_rep (H' := H) hT ⟨[], .int _⟩ (w.at2 (y vs h) hx) (.inl rfl)⟩
theorem imm_get {xs : List D} (h : immL xs = true) {i : Nat} {d : D} (e : xs[i]? = some d) : d.imm = true := immL_iff.mp h d (List.mem_of_getElem? e)
theorem wk_zip {k l : Sk} {ds es : List D} (hi : immL ds = true) : WkD K (ItZz K k l) (zipD ds es) (fun H => SkS K k ds H ∧ SkS K l es H) where
  go := fun i H ⟨⟨vs, h, w⟩, ⟨us, h', w'⟩⟩ hl => by
    rw [zipD_len] at hl
    obtain ⟨v, e⟩ := w.lt (i := i) (by omega)
    obtain ⟨v', e'⟩ := w'.lt (i := i) (by omega)
    exact ⟨vs, us, v, v', h, h', e, e'⟩
  stop := fun H ⟨⟨vs, h, w⟩, ⟨us, h', w'⟩⟩ => by
    refine ⟨vs, us, h, h', ?_⟩
    have l1 := w.length
    have l2 := w'.length
    rw [zipD_len]
    omega
  yld := fun i H x H' ⟨⟨vs, h, w⟩, ⟨us, h', w'⟩⟩ ⟨T, x1, x2, ex, hT, e, y1, y2⟩ d hd => by
    subst e; subst ex
    obtain ⟨p, q, e1, e2, rfl⟩ := zipD_get _ _ _ _ hd
    exact ⟨same_upd hT, pair_rep (H' := H) hT (w.at2 (y1 vs h) e1) (w'.at2 (y2 us h') e2) (.inl (imm_get hi e1))⟩
/-- the frozen dict's data, while it stands -/
structure SD (K : KW) (a : Addr) (o : Obj) (kvs : List (NestedKey × Addr × V)) (ks vs : List D) (H : Hp) : Prop where
  at_ : H a = some (.frz o (DkO K a kvs))
  kr : KeysR ks kvs
  wk : WL K H ks (kvs.map kRef)
  wv : WL K H vs (kvs.map kVal)
theorem pairsD_len : ∀ {ks vs : List D}, ks.length = vs.length → (pairsD ks vs).length = ks.length
  | [], [], _ => rfl
  | k :: ks, v :: vs, h => by simp only [pairsD, List.length_cons]; rw [pairsD_len (by simpa using h)]
  | [], _ :: _, h => by simp at h
  | _ :: _, [], h => by simp at h
theorem pairsD_get : ∀ {ks vs : List D} {i : Nat} {d : D}, (pairsD ks vs)[i]? = some d → ∃ x y, ks[i]? = some x ∧ vs[i]? = some y ∧ d = .tup [x, y]
  | [], vs, i, d, h => by simp [pairsD] at h
  | _ :: _, [], i, d, h => by simp [pairsD] at h
  | x :: ks, y :: vs, 0, d, h => by simp [pairsD] at h; exact ⟨x, y, rfl, rfl, h.symm⟩
  | x :: ks, y :: vs, i + 1, d, h => pairsD_get (ks := ks) (vs := vs) (by simpa [pairsD] using h)
theorem SD.vlen {a : Addr} {o : Obj} {kvs : List (NestedKey × Addr × V)} {ks vs : List D} (s : SD K a o kvs ks vs H) : vs.length = kvs.length := by
  have := s.wv.length
  simpa using this
theorem wk_dk {a : Addr} {o : Obj} {kvs : List (NestedKey × Addr × V)} {ks vs : List D} : WkD K (ItDk K a o kvs) ks (SD K a o kvs ks vs) where
  go := fun i H s hi => ⟨s.at_, by rw [← s.kr.len]; exact hi⟩
  stop := fun H s => ⟨s.at_, by rw [← s.kr.len]; exact Nat.le_refl _⟩
  yld := fun i H x H' s ⟨e, p, hp, ex⟩ d hd => by
    subst e; subst ex
    exact ⟨Same.refl _, s.wk.at2 (by rw [List.getElem?_map, hp]; rfl) hd⟩
theorem wk_dv {a : Addr} {o : Obj} {kvs : List (NestedKey × Addr × V)} {ks vs : List D} : WkD K (ItDv K a o kvs) vs (SD K a o kvs ks vs) where
  go := fun i H s hi => ⟨s.at_, by rw [← s.vlen]; exact hi⟩
  stop := fun H s => ⟨s.at_, by rw [← s.vlen]; exact Nat.le_refl _⟩
  yld := fun i H x H' s ⟨e, p, hp, ex⟩ d hd => by
    subst e; subst ex
    exact ⟨Same.refl _, s.wv.at2 (by rw [List.getElem?_map, hp]; rfl) hd⟩
theorem wk_di {a : Addr} {o : Obj} {kvs : List (NestedKey × Addr × V)} {ks vs : List D} : WkD K (ItDi K a o kvs) (pairsD ks vs) (SD K a o kvs ks vs) where
  go := fun i H s hi => ⟨s.at_, by rw [pairsD_len (by rw [s.kr.len, s.vlen])] at hi; rw [← s.kr.len]; exact hi⟩
  stop := fun H s => ⟨s.at_, by rw [pairsD_len (by rw [s.kr.len, s.vlen]), ← s.kr.len]; exact Nat.le_refl _⟩
  yld := fun i H x H' s ⟨T, p, hp, ex, hT, e⟩ d hd => by
    subst e; subst ex
    obtain ⟨x, y, h1, h2, rfl⟩ := pairsD_get hd
    exact ⟨same_upd hT, pair_rep (H' := H) hT (s.wk.at2 (by rw [List.getElem?_map, hp]; rfl) h1) (s.wv.at2 (by rw [List.getElem?_map, hp]; rfl) h2) (.inl (imm_get (keysR_imm s.kr) h1))⟩
/-- all that was shared stands -/
def KpS (H H' : Hp) : Prop := ∃ W, Frm W H H' ∧ OwnW W H
theorem KpS.refl : KpS H H := ⟨fun _ => False, Frm.refl _ _, ownW_false⟩
/-- a frozen dict, from its data -/
theorem sd_of {ks vs : List D} {x : V} (w : W1 K H (.dic false ks vs) x) : ∃ a o kvs, x = .ref a ∧ ∀ H', KpS H H' → SD K a o kvs ks vs H' := by
  obtain ⟨f, r⟩ := w
  cases r with
  | dicF h k r1 r2 =>
    obtain ⟨o, h⟩ := h
    exact ⟨_, o, _, rfl, fun H' ⟨W, fr, ow⟩ => ⟨fr.fix ow h trivial, k, (r1.frm fr ow fun _ z => nomatch z).wl, (r2.frm fr ow fun _ z => nomatch z).wl⟩⟩
/-- what is walked, from its data -/
theorem sk_of {d : D} {x : V} {items : List D} (w : W1 K H d x) (e : itemsOf d = some items) : ∃ k : Sk, x = k.v ∧ ∀ H', W1 K H' d x → SkS K k items H' := by
  cases d with
  | lst o xs =>
    cases e
    obtain ⟨a, us, rfl, s, w2⟩ := w.lst
    exact ⟨.lst a, rfl, fun H' w' => w'.sql⟩
  | tup xs =>
    cases e
    obtain ⟨a, us, rfl, s, w2⟩ := w.tup
    exact ⟨.tup a, rfl, fun H' w' => by obtain ⟨a', us', ea, s', w4⟩ := w'.tup; cases ea; exact ⟨us', s', w4⟩⟩
  | str s =>
    cases e
    obtain ⟨e1, ok⟩ := w.str
    subst e1
    refine ⟨.str ⟨s.toArray⟩, rfl, fun H' _ => ⟨_, rfl, ?_⟩⟩
    have all : ∀ l : List Nat, (∀ c ∈ l, c < 1114112) → WL K H' (l.map fun c => D.str [c]) (l.map chr1) := by
      intro l
      induction l with
      | nil => intro _; exact .nil
      | cons c l ih =>
        intro h
        refine .cons ⟨[], ?_⟩ (ih fun c' hc => h c' (List.mem_cons_of_mem _ hc))
        have hc := h c List.mem_cons_self
        exact Rep.str [c] (by rw [okS_iff]; exact ⟨fun c' hc' => by rw [List.mem_singleton.mp hc']; exact hc, by simp⟩)
    exact all s (okS_iff.mp ok).1
  | _ => cases e
end
/-- the places whose standing a walk leans on: lists (they may be written), tuples -/
inductive Hold (K : KW) : SrcK → List D → List V → (Hp → Prop) → Prop
  | mk {k : SrcK} {ds : List D} {vs : List V} : Hold K k ds vs (fun H => WL K H ds vs)
/-- from the data of the operands to the walk of the items: S is that the operands stand as they are -/
theorem src_ok {K : KW} {H : Hp} {k : SrcK} {ds items : List D} {vs : List V} (w : WL K H ds vs) (e : srcItems k ds = some items) :
    ∃ J, WkV K H k vs J ∧ WkD K J items (fun H' => WL K H' ds vs ∧ KpS H H') := by
  unfold srcItems at e
  split at e
  · obtain ⟨x, rfl, w1⟩ := w.ofOne
    rename_i d
    cases d with
    | dic o ks vs =>
      cases o with
      | true => cases e
      | false =>
        cases e
        obtain ⟨a, o, kvs, rfl, sd⟩ := sd_of w1
        exact ⟨_, .keysD (sd H KpS.refl).at_, fun i H' h => (wk_dk (vs := vs)).go i H' (sd H' h.2), fun H' h => (wk_dk (vs := vs)).stop H' (sd H' h.2), fun i H' x H2 h => wk_dk.yld i H' x H2 (sd H' h.2)⟩
    | lst o xs =>
      cases e
      obtain ⟨a, us, rfl, s, w2⟩ := w1.lst
      refine ⟨_, .lst s, ?_⟩
      refine ⟨fun i H' h => wk_list.go i H' ?_, fun H' h => wk_list.stop H' ?_, fun i H' x H2 h => wk_list.yld i H' x H2 ?_⟩ <;>
        (obtain ⟨x', ex, w3⟩ := h.1.ofOne; cases ex; exact w3.sql)
    | tup xs =>
      cases e
      obtain ⟨a, us, rfl, s, w2⟩ := w1.tup
      refine ⟨_, .tup s, ?_⟩
      refine ⟨fun i H' h => wk_tup.go i H' ?_, fun H' h => wk_tup.stop H' ?_, fun i H' x H2 h => wk_tup.yld i H' x H2 ?_⟩ <;>
        (obtain ⟨x', ex, w3⟩ := h.1.ofOne; cases ex; obtain ⟨a', us', ea, s', w4⟩ := w3.tup; cases ea; exact ⟨us', s', w4⟩)
    | str s =>
      cases e
      obtain ⟨e1, ok⟩ := w1.str
      subst e1
      refine ⟨_, .str, ?_⟩
      exact ⟨fun i H' _ => (wk_str (K := K) ok).go i H' trivial, fun H' _ => (wk_str (K := K) ok).stop H' trivial, fun i H' x H2 _ => (wk_str ok).yld i H' x H2 trivial⟩
    | _ => cases e
  · obtain ⟨x, rfl, w1⟩ := w.ofOne
    split at e
    · rename_i hb
      cases e
      rw [w1.int]
      exact ⟨_, .rng1 hb.1 hb.2, fun i H' _ => (wk_rng (K := K)).go i H' trivial, fun H' _ => (wk_rng (K := K)).stop H' trivial, fun i H' x H2 _ => wk_rng.yld i H' x H2 trivial⟩
    · cases e
  · obtain ⟨x, y, rfl, w1, w2⟩ := w.ofTwo
    split at e
    · rename_i hb
      cases e
      rw [w1.int, w2.int]
      exact ⟨_, .rng2 hb.1 hb.2.1 hb.2.2.1 hb.2.2.2, fun i H' _ => (wk_rng (K := K)).go i H' trivial, fun H' _ => (wk_rng (K := K)).stop H' trivial, fun i H' x H2 _ => wk_rng.yld i H' x H2 trivial⟩
    · cases e
  · obtain ⟨x, rfl, w1⟩ := w.ofOne
    simp only [Option.map_eq_some_iff] at e
    obtain ⟨its, ei, rfl⟩ := e
    obtain ⟨k, rfl, st⟩ := sk_of w1 ei
    obtain ⟨vs, h1, _⟩ := st _ w1
    refine ⟨_, .enumK h1, ?_⟩
    refine ⟨fun i H' h => wk_enum.go i H' ?_, fun H' h => wk_enum.stop H' ?_, fun i H' x H2 h => wk_enum.yld i H' x H2 ?_⟩ <;>
      (obtain ⟨x', ex, w3⟩ := h.1.ofOne; cases ex; exact st _ w3)
  · obtain ⟨x, y, rfl, w1, w2⟩ := w.ofTwo
    split at e
    rotate_left
    · cases e
    rename_i d1 d2 xs ys ea eb
    split at e
    rotate_left
    · cases e
    rename_i hi
    cases e
    obtain ⟨k, rfl, st⟩ := sk_of w1 ea
    obtain ⟨l, rfl, st2⟩ := sk_of w2 eb
    obtain ⟨vs, h1, _⟩ := st _ w1
    obtain ⟨vs2, h2, _⟩ := st2 _ w2
    refine ⟨_, .zipK h1 h2, ?_⟩
    refine ⟨fun i H' h => (wk_zip hi).go i H' ?_, fun H' h => (wk_zip hi).stop H' ?_, fun i H' x H2 h => (wk_zip hi).yld i H' x H2 ?_⟩ <;>
      (obtain ⟨x', y', ex, w5, w6⟩ := h.1.ofTwo; cases ex; exact ⟨st _ w5, st2 _ w6⟩)
  · obtain ⟨x, rfl, w1⟩ := w.ofOne
    split at e
    · cases e
      obtain ⟨a, o, kvs, rfl, sd⟩ := sd_of w1
      exact ⟨_, .itemsD (sd H KpS.refl).at_, fun i H' h => wk_di.go i H' (sd H' h.2), fun H' h => wk_di.stop H' (sd H' h.2), fun i H' x H2 h => wk_di.yld i H' x H2 (sd H' h.2)⟩
    · cases e
  · obtain ⟨x, rfl, w1⟩ := w.ofOne
    cases e
    rename_i ks
    obtain ⟨a, o, kvs, rfl, sd⟩ := sd_of w1
    exact ⟨_, .valsD (sd H KpS.refl).at_, fun i H' h => (wk_dv (ks := ks)).go i H' (sd H' h.2), fun H' h => (wk_dv (ks := ks)).stop H' (sd H' h.2), fun i H' x H2 h => wk_dv.yld i H' x H2 (sd H' h.2)⟩
  · cases e

/-! ### the syntax of what is walked -/
def isTuple : Expr → Bool
  | .Tuple .. => true
  | _ => false
/-- a method without arguments -/
def nMeth0 (m : Str) : Expr → Option (List Expr)
  | .Call (.Attribute o n apos) [] [] pos => if n = m ∧ notBare o = true ∧ (apos.endLine == pos.line) = true then some [o] else none
  | _ => none
theorem nMeth0_inv {m : Str} {e : Expr} {es : List Expr} (h : nMeth0 m e = some es) : ∃ o apos pos, e = .Call (.Attribute o m apos) [] [] pos ∧ es = [o] ∧ notBare o = true ∧ (apos.endLine == pos.line) = true := by
  unfold nMeth0 at h
  split at h
  · split at h
    · rename_i q
      cases h
      obtain ⟨rfl, a, b⟩ := q
      exact ⟨_, _, _, rfl, rfl, a, b⟩
    · cases h
  · cases h
/-- the target must be a tuple -/
def needT : SrcK → Bool
  | .enum => true
  | .zip => true
  | .items => true
  | _ => false
def srcOp (sc : Scope) : SrcK → Expr → Option (List Expr)
  | .it, e => if notSet e = true then some [e] else none
  | .rng, e => (nCall sc "range" e).bind fun es => match es with
    | [a] => some [a]
    | [a, b] => some [a, b]
    | _ => none
  | .enum, e => (nCall sc "enumerate" e).bind fun es => match es with
    | [a] => some [a]
    | _ => none
  | .zip, e => (nCall sc "zip" e).bind fun es => match es with
    | [a, b] => some [a, b]
    | _ => none
  | .items, e => nMeth0 "items" e
  | .vals, e => nMeth0 "values" e
def iSrc (K : KW) (k : SrcK) (ts : List TE) : TI := fun σ H R => tL ts σ H fun vs H1 => ∃ J, WkV K H1 k vs J ∧ R J H1
section
variable {X : Cx} {tg : Expr}
theorem folded_plain {e : Expr} {env : Env} (h : notSet e = true) : ∀ x, foldedSetIterable e env x = pure x := by
  intro x
  cases e <;> first | rfl | cases h
theorem piWeak {e : Expr} {w w' : TI} (h : PI X tg e w) (q : ∀ σ H R, w' σ H R → w σ H R) : PI X tg e w' := ⟨fun pins s σ H R I z => h.run pins s σ H R I (q σ H R z)⟩
theorem pi_it {e : Expr} {t : TE} (h : PE X e t) : PI X tg e (fun σ H R => t σ H fun x H1 => ∃ J, WkV X.kw H1 .it [x] J ∧ R J H1) := by
  refine ⟨fun pins s σ H R I q => ?_⟩
  refine thn (h.run pins s σ H _ I q) fun v s1 ⟨x, H1, I1, r1, J, wk, q1⟩ => ?_
  cases wk with
  | lst hq =>
    cases r1
    obtain ⟨its, rv, p, hz⟩ := I1.list hq
    exact wpAny_pyIter_list p.isList (pi_one (tk := s1.toks) I1 _ (turn_list _ _) ⟨_, Heap.get?_push_size _ rfl, rfl, rfl⟩ q1)
  | tup hq =>
    cases r1
    obtain ⟨its, rv, p, hz⟩ := I1.tuple hq
    exact wpAny_pyIter_tuple (show s1.heap.IsTuple _ its.toArray from p) (pi_one (tk := s1.toks) I1 _ (turn_tuple _ _) ⟨_, Heap.get?_push_size _ rfl, rfl, rfl⟩ q1)
  | @str z =>
    obtain ⟨t, rfl⟩ := r1
    cases ha : z.cps.all (· < 128)
    · exact wpAny_pyIter_wide ha (pi_one (tk := s1.toks) I1 _ (turn_str _ z t "str_iterator" (.inr rfl)) ⟨_, Heap.get?_push_size _ rfl, rfl, rfl⟩ q1)
    · exact wpAny_pyIter_ascii ha (pi_one (tk := s1.toks) I1 _ (turn_str _ z t "str_ascii_iterator" (.inl rfl)) ⟨_, Heap.get?_push_size _ rfl, rfl, rfl⟩ q1)
  | keysD hd =>
    cases r1
    obtain ⟨hs, hgd, es, ep, hx, hdt, raw, hsz, ent⟩ := frzD I1 hd
    exact wpAny_pyIter_dict_raw hs raw (pi_one (tk := s1.toks) I1 _ (turn_dk _ hdt) ⟨_, Heap.get?_push_size _ rfl, rfl, rfl⟩ q1)
theorem isTuple_inv {e : Expr} (h : isTuple e = true) : ∃ es k pos, e = .Tuple es k pos := by
  cases e <;> first | exact ⟨_, _, _, rfl⟩ | cases h
theorem src_pi (C : Cok X) {k : SrcK} {e : Expr} {es : List Expr} {ts : List TE} (h : srcOp X.env.scope k e = some es) (ht : needT k = true → isTuple tg = true) (ps : PEs X es ts) : PI X tg e (iSrc X.kw k ts) := by
  cases k with
  | it =>
    simp only [srcOp] at h
    split at h
    · cases h
      obtain ⟨t, rfl, h1, m1⟩ := ps.one
      exact pi_it h1
    · cases h
  | rng =>
    simp only [srcOp, Option.bind_eq_some_iff] at h
    obtain ⟨es', h, e2⟩ := h
    obtain ⟨p, pos, rfl, g, ne⟩ := nCall_inv h
    have hm := C.blt "range" (by decide +kernel)
    split at e2
    · cases e2
      obtain ⟨t, rfl, h1, m1⟩ := ps.one
      refine piWeak (pi_range1 g hm ps.pa (star_cons (ps.stars _ (by simp)))) fun σ H R q => ?_
      refine m1 σ H _ _ (fun x H1 ⟨J, wk, q⟩ => ?_) q
      cases wk with
      | rng1 a b => exact ⟨_, rfl, a, b, q⟩
    · cases e2
      obtain ⟨t, u, rfl, h1, h2, m1, m2⟩ := ps.two
      refine piWeak (pi_range2 g hm ps.pa (by rw [star_cons (ps.stars _ (by simp)), star_cons (ps.stars _ (by simp))]; rfl) (star_cons (ps.stars _ (by simp)))) fun σ H R q => ?_
      refine m1 σ H _ _ (fun x H1 q => ?_) q
      refine m2 σ H1 _ _ (fun y H2 ⟨J, wk, q⟩ => ?_) q
      cases wk with
      | rng2 a b c d => exact ⟨_, _, rfl, ⟨a, b, c, d⟩, q⟩
    · cases e2
  | enum =>
    simp only [srcOp, Option.bind_eq_some_iff] at h
    obtain ⟨es', h, e2⟩ := h
    obtain ⟨p, pos, rfl, g, ne⟩ := nCall_inv h
    have hm := C.blt "enumerate" (by decide +kernel)
    obtain ⟨els, kk, tpos, rfl⟩ := isTuple_inv (ht rfl)
    split at e2
    · cases e2
      obtain ⟨t, rfl, h1, m1⟩ := ps.one
      refine piWeak (pi_en g hm ps.pa (star_cons (ps.stars _ (by simp)))) fun σ H R q => ?_
      refine m1 σ H _ _ (fun x H1 ⟨J, wk, q⟩ => ?_) q
      cases wk with
      | enumK a => exact ⟨_, _, rfl, a, q⟩
    · cases e2
  | zip =>
    simp only [srcOp, Option.bind_eq_some_iff] at h
    obtain ⟨es', h, e2⟩ := h
    obtain ⟨p, pos, rfl, g, ne⟩ := nCall_inv h
    have hm := C.blt "zip" (by decide +kernel)
    obtain ⟨els, kk, tpos, rfl⟩ := isTuple_inv (ht rfl)
    split at e2
    · cases e2
      obtain ⟨t, u, rfl, h1, h2, m1, m2⟩ := ps.two
      refine piWeak (pi_zz g hm ps.pa (star_cons (ps.stars _ (by simp))) (stars_plain fun z hz => ps.stars z (List.mem_cons_of_mem _ hz))) fun σ H R q => ?_
      refine m1 σ H _ _ (fun x H1 q => ?_) q
      refine m2 σ H1 _ _ (fun y H2 ⟨J, wk, q⟩ => ?_) q
      cases wk with
      | zipK a b => exact ⟨_, _, _, _, rfl, a, b, q⟩
    · cases e2
  | items =>
    simp only [srcOp] at h
    obtain ⟨o, apos, pos, rfl, rfl, nb, ln⟩ := nMeth0_inv h
    obtain ⟨els, kk, tpos, rfl⟩ := isTuple_inv (ht rfl)
    obtain ⟨t, rfl, h1, m1⟩ := ps.one
    refine piWeak (pi_di h1 (base_plain nb) ln) fun σ H R q => ?_
    refine m1 σ H _ _ (fun x H1 ⟨J, wk, q⟩ => ?_) q
    cases wk with
    | itemsD a => exact ⟨_, _, _, rfl, a, q⟩
  | vals =>
    simp only [srcOp] at h
    obtain ⟨o, apos, pos, rfl, rfl, nb, ln⟩ := nMeth0_inv h
    obtain ⟨t, rfl, h1, m1⟩ := ps.one
    refine piWeak (pi_dv h1 (base_plain nb) ln) fun σ H R q => ?_
    refine m1 σ H _ _ (fun x H1 ⟨J, wk, q⟩ => ?_) q
    cases wk with
    | valsD a => exact ⟨_, _, _, rfl, a, q⟩
end
end VL

/-! VL8: expressions without effect: what they give, the syntax they are, that the machine does so. -/
namespace VL
open PySem PySem.Spec PyProof.Rows L2

inductive Ex where
  | lit (d : D) | var (i : Nat) | glob (x : Str)
  | node (o : Op) (es : List Ex)
  | and (a b : Ex) | or (a b : Ex) | not (a : Ex) | ite (t a b : Ex)
  | chain (o o' : CmpOp) (a b c : Ex)
  | comp (own : List (Str × Nat)) (elt : Ex) (p : Pat) (k : SrcK) (ss ifs : List Ex)
  | call (f : Str) (es : List Ex)
  | tk (i : Nat) | sh (i : Nat)
  /-- shared from here on -/
  | fz (a : Ex)
  /-- never come to -/
  | no
  /-- by truth -/
  | orv (a b : Ex)
  /-- {k: v, ..} -/
  | dct (ks vs : List Ex)
  /-- X(a), an exception that keeps a, as a value -/
  | mkE (x : Str) (a : Ex)
  /-- str(X(a)), a a text -/
  | strE (x : Str) (a : Ex)
def compP (step : D → Option (Option D)) : List D → List D → Option (List D)
  | acc, [] => some acc
  | acc, x :: xs => match step x with
    | none => none
    | some none => compP step acc xs
    | some (some y) => compP step (acc ++ [y]) xs
def slotOf (ρ : Rho) (i : Nat) : Option D := match ρ[i]? with
  | some (some d) => some d
  | _ => none
def D.tru : D → Option Bool
  | .non => some false
  | .bl b => some b
  | .int i => some (i != 0)
  | .str s => some (!s.isEmpty)
  | .tup xs => some (!xs.isEmpty)
  | .lst _ xs => some (!xs.isEmpty)
  | _ => none
/-- a dict by its pairs -/
def mkDic : List D → List D → Option D
  | [], [] => some (.dic true [] [])
  | [.tup xs], [v] => if (keyT (.tup xs)).isSome = true ∧ v.imm = true then some (.dic true [.tup xs] [v]) else none
  | ks, vs => (strsOf ks).bind fun ss => if ss.Nodup ∧ ss.length = vs.length ∧ ss.length ≤ 15 ∧ immL vs = true ∧ ss ≠ [] then some (.dks ss vs) else none
mutual
def evP (G : Str → Option D) : Ex → Rho → Option D
  | .lit d, _ => some d
  | .var i, ρ => slotOf ρ i
  | .glob x, _ => G x
  | .node o es, ρ => (evPs G es ρ).bind (applyOp o)
  | .and a b, ρ => match evP G a ρ with
    | some (.bl true) => evP G b ρ
    | some (.bl false) => some (.bl false)
    | _ => none
  | .or a b, ρ => match evP G a ρ with
    | some (.bl true) => some (.bl true)
    | some (.bl false) => evP G b ρ
    | _ => none
  | .not a, ρ => match evP G a ρ with
    | some (.bl b) => some (.bl (!b))
    | _ => none
  | .ite t a b, ρ => match evP G t ρ with
    | some (.bl true) => evP G a ρ
    | some (.bl false) => evP G b ρ
    | _ => none
  | .chain o o' a b c, ρ => match evP G a ρ, evP G b ρ with
    | some x, some y => match dCmpO o [x, y] with
      | some (.bl true) => match evP G c ρ with
        | some z => dCmpO o' [y, z]
        | none => none
      | some (.bl false) => some (.bl false)
      | _ => none
    | _, _ => none
  | .comp own elt p k ss ifs, ρ => match evPs G ss ρ with
    | some ds => match srcItems k ds with
      | some items => if items.length ≤ LIM then
          match compP (fun d => match bindP p d (wipeR ρ (own.map (·.2))) with
            | some ρ1 => match evTs G ifs ρ1 with
              | some true => (evP G elt ρ1).map some
              | some false => some none
              | none => none
            | none => none) [] items with
          | some ys => if immL ys = true then some (.lst true ys) else none
          | none => none
        else none
      | none => none
    | none => none
  | .call _ _, _ => none
  | .tk _, _ => none
  | .sh _, _ => none
  | .fz _, _ => none
  | .no, _ => none
  | .mkE _ _, _ => none
  | .strE _ _, _ => none
  | .dct ks vs, ρ => match evPs G ks ρ, evPs G vs ρ with
    | some a, some b => mkDic a b
    | _, _ => none
  | .orv a b, ρ => match evP G a ρ with
    | some x => match x.tru with
      | some true => some x
      | some false => evP G b ρ
      | none => none
    | none => none
def evPs (G : Str → Option D) : List Ex → Rho → Option (List D)
  | [], _ => some []
  | e :: es, ρ => match evP G e ρ with
    | some d => (evPs G es ρ).map (d :: ·)
    | none => none
def evTs (G : Str → Option D) : List Ex → Rho → Option Bool
  | [], _ => some true
  | e :: _, ρ => match evP G e ρ with
    | some (.bl b) => some b
    | _ => none
end
/-- what it gives is new but for what never changes -/
def det : Ex → Bool
  | .lit _ => true
  | .node o _ => o.new
  | .and _ b => det b
  | .or _ b => det b
  | .not _ => true
  | .ite _ a b => det a && det b
  | .orv a b => det a && det b
  | .chain .. => true
  | .comp .. => true
  | .dct .. => true
  | _ => false

/-! ### the syntax -/
def constD : Const → Option D
  | .none => some .non
  | .bool b => some (.bl b)
  | .int i => some (.int i)
  | .str s => some (.str s.cps.toList)
  | _ => none
def vis (sc : Scope) (x : Str) : Bool := decide (sc.names.lookup x = some .local) || decide (sc.names.lookup x = some .cell) || decide (sc.names.lookup x = some .free)
def okName (x : Str) : Bool := !(x == ("__debug__" : Str)) && !(x == ("__classdict__" : Str))
def plainT : Expr → Bool
  | .UnaryOp .Not _ _ => false
  | .BoolOp .. => false
  | .IfExp .. => false
  | .Compare .. => false
  | _ => true
def isiOk : Op → Bool
  | .isi T => isiT T
  | _ => true
abbrev FnB := Str → Bool
def fnBlk (scope : Scope) : FnB := fun x => scope.names.lookup x == some .cell
def oneTest : List Ex → List Expr → Bool
  | [], [] => true
  | [_], [_] => true
  | _, _ => false
def litOk : D → Bool
  | .str s => okS s
  | _ => true
def optAll : List (Option Expr) → Option (List Expr)
  | [] => some []
  | some e :: r => (optAll r).map (e :: ·)
  | none :: _ => none
mutual
/-- as a value -/
def mE (N : List Str) (sc : Scope) (fn : FnB) : Ex → Expr → Bool
  | .lit d, e => match e with
    | .Constant c _ _ => decide (constD c = some d) && litOk d
    | _ => false
  | .var i, e => match e with
    | .Name x _ => decide (N[i]? = some x) && vis sc x && okName x
    | _ => false
  | .glob y, e => match e with
    | .Name x _ => decide (x = y) && gl sc x && okName x
    | _ => false
  | .node o cs, e => match opnds sc o e with
    | some es => isiOk o && mEs N sc fn cs es
    | none => false
  | .and a b, e => match e with
    | .BoolOp .And [x, y] _ => mE N sc fn a x && mE N sc fn b y
    | .BoolOp .And (x :: y :: z :: r) pos => mE N sc fn a x && mE N sc fn b (.BoolOp .And (y :: z :: r) pos)
    | _ => false
  | .or a b, e => match e with
    | .BoolOp .Or [x, y] _ => mE N sc fn a x && mE N sc fn b y
    | .BoolOp .Or (x :: y :: z :: r) pos => mE N sc fn a x && mE N sc fn b (.BoolOp .Or (y :: z :: r) pos)
    | _ => false
  | .no, _ => true
  | .dct ks vs, e => match e with
    | .Dict keys values _ => match optAll keys with
      | some es => mEs N sc fn ks es && mEs N sc fn vs values && decide (es.length = values.length) && decide (es.length ≤ 15)
      | none => false
    | _ => false
  | .orv a b, e => match e with
    | .BoolOp .Or [x, y] _ => mE N sc fn a x && mE N sc fn b y
    | _ => false
  | .not a, e => match e with
    | .UnaryOp .Not x _ => mE N sc fn a x
    | _ => false
  | .ite t a b, e => match e with
    | .IfExp x y z _ => mT N sc fn t x && mE N sc fn a y && mE N sc fn b z
    | _ => false
  | .chain o o' a b c, e => match e with
    | .Compare x [q, q'] [y, z] _ => decide (q = o) && decide (q' = o') && notSet z && mE N sc fn a x && mE N sc fn b y && mE N sc fn c z
    | _ => false
  | .comp own elt p k ss ifs, e => match e with
    | .ListComp e1 [⟨tg, iter, ts, 0⟩] scope _ => match srcOp sc k iter with
      | some es => mEs N sc fn ss es && blkC N sc scope own && (slotsP p).all (fun i => decide (i ∈ own.map (·.2))) && notSet iter &&
        mPat N (relS scope sc) (fnBlk scope) p tg && (isTuple tg || !needT k) && oneTest ifs ts && mTs N (relS scope sc) (fnBlk scope) ifs ts && mE N (relS scope sc) (fnBlk scope) elt e1
      | none => false
    | _ => false
  | _, _ => false
def mEs (N : List Str) (sc : Scope) (fn : FnB) : List Ex → List Expr → Bool
  | [], es => es.isEmpty
  | c :: cs, es => match es with
    | e :: es => notStar e && mE N sc fn c e && mEs N sc fn cs es
    | [] => false
/-- as a test -/
def mT (N : List Str) (sc : Scope) (fn : FnB) : Ex → Expr → Bool
  | .and a b, e => match e with
    | .BoolOp .And [x, y] _ => mT N sc fn a x && mT N sc fn b y
    | .BoolOp .And (x :: y :: z :: r) pos => mT N sc fn a x && mT N sc fn b (.BoolOp .And (y :: z :: r) pos)
    | _ => false
  | .or a b, e => match e with
    | .BoolOp .Or [x, y] _ => mT N sc fn a x && mT N sc fn b y
    | .BoolOp .Or (x :: y :: z :: r) pos => mT N sc fn a x && mT N sc fn b (.BoolOp .Or (y :: z :: r) pos)
    | _ => false
  | .not a, e => match e with
    | .UnaryOp .Not x _ => mT N sc fn a x
    | _ => false
  | .node o cs, e => match opnds sc o e with
    | some es => isiOk o && mEs N sc fn cs es && (plainT e || (match o with
      | .cmp _ => true
      | _ => false))
    | none => false
  | .chain o o' a b c, e => match e with
    | .Compare x [q, q'] [y, z] _ => decide (q = o) && decide (q' = o') && notSet z && mE N sc fn a x && mE N sc fn b y && mE N sc fn c z
    | _ => false
  | .var i, e => match e with
    | .Name x _ => decide (N[i]? = some x) && vis sc x && okName x
    | _ => false
  | .lit d, e => match e with
    | .Constant c _ _ => decide (constD c = some d) && (match d with
      | .bl _ => true
      | _ => false)
    | _ => false
  | _, _ => false
def mTs (N : List Str) (sc : Scope) (fn : FnB) : List Ex → List Expr → Bool
  | [], _ => true
  | c :: _, es => match es with
    | e :: _ => mT N sc fn c e
    | [] => false
end
structure CokG (X : Cx) (G : Str → Option D) : Prop extends Cok X where
  glob : ∀ x d, G x = some d → ∃ v u, X.mg x = some u ∧ RelV v u ∧ ∀ H, Rep X.kw H d v []
def tP (K : KW) (G : Str → Option D) (c : Ex) : TE := fun σ H Q => ∃ ρ d, WR K H ρ σ ∧ evP G c ρ = some d ∧ ∀ v H' f, Same H H' → Rep K H' d v f → (det c = true → ∀ a ∈ f, H a = none) → Q v H'
def tPT (K : KW) (G : Str → Option D) (c : Ex) : TT := fun σ H Q => ∃ ρ b, WR K H ρ σ ∧ evP G c ρ = some (.bl b) ∧ ∀ H', Same H H' → Q b H'
theorem tP_mono {K : KW} {G : Str → Option D} {c : Ex} : Mono (tP K G c) := fun σ H Q Q' h ⟨ρ, d, w, e, q⟩ => ⟨ρ, d, w, e, fun v H' f s r n => h v H' (q v H' f s r n)⟩
theorem argsP {K : KW} {G : Str → Option D} : ∀ {cs : List Ex} {ρ : Rho} {σ : L2.St} {H : Hp} {ds : List D} {Q : List V → Hp → Prop}, WR K H ρ σ → evPs G cs ρ = some ds → (∀ vs H', Same H H' → WL K H' ds vs → Q vs H') → tL (cs.map (tP K G)) σ H Q
  | [], ρ, σ, H, ds, Q, w, e, q => by cases e; exact q [] H (Same.refl H) .nil
  | c :: cs, ρ, σ, H, ds, Q, w, e, q => by
    unfold evPs at e
    split at e
    · rename_i d e1
      simp only [Option.map_eq_some_iff] at e
      obtain ⟨ds', e2, rfl⟩ := e
      refine ⟨ρ, d, w, e1, fun v H1 f s r _ => ?_⟩
      refine argsP (w.same s) e2 fun vs H2 s2 w2 => ?_
      exact q (v :: vs) H2 (s.trans s2) (.cons ⟨f, r.same s2⟩ w2)
    · cases e
theorem argsPc {K : KW} {G : Str → Option D} {o : Op} {cs : List Ex} {ρ : Rho} {σ : L2.St} {H : Hp} {ds : List D} {d : D} {Q : List V → Hp → Prop} (w : WR K H ρ σ) (e : evPs G cs ρ = some ds) (ea : applyOp o ds = some d) (q : ∀ vs H', Same H H' → WL K H' ds vs → Q vs H') : tLc (Rcv K o) (cs.map (tP K G)) σ H Q := by
  cases cs with
  | nil => cases e; exact q [] H (Same.refl H) .nil
  | cons c cs =>
    unfold evPs at e
    split at e
    · rename_i d0 e1
      simp only [Option.map_eq_some_iff] at e
      obtain ⟨ds', e2, rfl⟩ := e
      refine ⟨ρ, d0, w, e1, fun v H1 f s r _ => ⟨⟨d0, ⟨f, r⟩, recv_ok ea⟩, ?_⟩⟩
      refine argsP (w.same s) e2 fun vs H2 s2 w2 => ?_
      exact q (v :: vs) H2 (s.trans s2) (.cons ⟨f, r.same s2⟩ w2)
    · cases e
theorem lift_rD {K : KW} {g : List D → Option D} {k : Bool} {vs : List V} {ds : List D} {d : D} {H H1 : Hp} {Q : VK} (s : Same H H1) (w : WL K H1 ds vs) (e : g ds = some d)
    (q : ∀ v H' f, Same H H' → Rep K H' d v f → (k = true → ∀ a ∈ f, H a = none) → Q v H') : rD K g k vs H1 Q :=
  ⟨ds, d, w, e, fun z H' f s' r n => q z H' f (s.trans s') r fun hk a ha => Same.free s (n hk a ha)⟩
section
variable {X : Cx} {G : Str → Option D}
theorem CokG.blk (C : CokG X G) {s : Shared} {H : Hp} {scope : Scope} {cenv : Env} {fp : List Addr} : CokG (X.blk s H scope cenv fp) G := ⟨⟨C.calm, C.nd, C.blt, C.units⟩, C.glob⟩
theorem vis_ok {x : Str} (h : vis X.env.scope x = true) : Vis X.env.scope x := by
  simp only [vis, Bool.or_eq_true, decide_eq_true_eq] at h
  rcases h with (h | h) | h
  · exact .inl h
  · exact .inr (.inl h)
  · exact .inr (.inr h)
theorem okName_ok {x : Str} (h : okName x = true) : (x == ("__debug__" : Str)) = false ∧ (x == ("__classdict__" : Str)) = false := by
  simpa only [okName, Bool.and_eq_true, Bool.not_eq_true'] using h
theorem slotOf_some {ρ : Rho} {i : Nat} {d : D} (h : slotOf ρ i = some d) : ρ[i]? = some (some d) := by
  unfold slotOf at h
  split at h
  · rename_i e; cases h; exact e
  · cases h
theorem lit_pe {c : Const} {d : D} {k pos} (h : constD c = some d) (hs : litOk d = true) : PE X (.Constant c k pos) (tP X.kw G (.lit d)) := by
  cases c with
  | none => cases h; exact peWeak pe_non fun σ H Q ⟨ρ, d, w, e, q⟩ => by cases e; exact q _ H [] (Same.refl H) .non fun _ => nilF
  | bool b => cases h; exact peWeak pe_bl fun σ H Q ⟨ρ, d, w, e, q⟩ => by cases e; exact q _ H [] (Same.refl H) (.bl b) fun _ => nilF
  | int b => cases h; exact peWeak pe_int fun σ H Q ⟨ρ, d, w, e, q⟩ => by cases e; exact q _ H [] (Same.refl H) (.int b) fun _ => nilF
  | str b => cases h; exact peWeak pe_str fun σ H Q ⟨ρ, d, w, e, q⟩ => by cases e; exact q _ H [] (Same.refl H) (Rep.str _ hs) fun _ => nilF
  | _ => cases h
theorem plainT_ok {e : Expr} {env : Env} (h : plainT e = true) (whole : Sem Value) : isTrue e env whole = (do let v ← whole; standAt e.pos; holding [v] (truthy v)) := by
  cases e <;> first
    | rfl
    | cases h
    | (rename_i op _ _; cases op <;> first | rfl | cases h)
theorem pt_plain {e : Expr} {c : Ex} (h : PE X e (tP X.kw G c)) (hp : plainT e = true) : PT X e (tPT X.kw G c) := by
  refine ptWeak (pt_val h (plainT_ok hp)) fun σ H Q ⟨ρ, b, w, e, q⟩ => ?_
  exact ⟨ρ, _, w, e, fun v H' f s r _ => ⟨b, (W1.bl ⟨f, r⟩), q H' s⟩⟩
end
end VL

/-! VLC: displays of dicts. -/
namespace VL
open PySem PySem.Spec PyProof.Rows L2

section
variable {X : Cx} {G : Str → Option D}
/-- {k: v}, k a tuple -/
theorem pe_dnew1 {k v : Expr} {tk tv : TE} {pos : Pos} (hu : X.A.units + 65 < cLine) (hk : PE X k tk) (hv : PE X v tv) :
    PE X (.Dict [some k] [v] pos) (fun σ H Q => ∀ p, H p = none → tk σ (upd H p (DkO X.kw p [])) fun x H1 => tv σ H1 fun y H2 => H2 p = some (DkO X.kw p []) ∧ ∃ z nk b, W1 X.kw H2 z x ∧ keyT z = some nk ∧ x = .ref b ∧ Q (.ref p) (upd H2 p (DkO X.kw p [(nk, b, y)]))) := by
  refine ⟨fun pins s σ H Q I q => ?_⟩
  have hn := I.hok.fresh (Nat.le_refl s.heap.objs.size)
  have I1 := I.laid (a := s.heap.objs.size) (o := DkO X.kw s.heap.objs.size []) (h' := s.heap.push { cls := .type "dict", data := .dict #[] }) (t' := s.toks) (fun _ _ q => Heap.get?_push_of_some _ q) (Nat.le_refl _) (dk_none s.heap I.big)
  have len1 : (pairTrees [some k] [v] X.env pos).length = 1 := pairTrees_length [some k] [v] X.env pos rfl rfl
  have hne : pairTrees [some k] [v] X.env pos ≠ [] := fun he => by rw [he] at len1; cases len1
  rw [arm_eval_Dict, zip_pairTrees [some k] [v] X.env pos rfl rfl, dictDisplay_pairs _ hne (by rw [len1]; decide)]
  refine wpAny_bind (wpAny_standAt (wpAny_bind (wpAny_subDictH (knd := nestedKind X.prog X.w) (Q := fun d s' => wpAny (model X.prog X.w) X.A (pure (Value.ref d)) (EP X pins σ Q) X.xe s') (by show X.A.units + 8 < cLine; omega) (by rw [len1]; decide) ?_)))
  refine pairTrees_cons_walk (thn (hk.run pins _ σ _ _ I1 (q _ hn)) fun u s1 ⟨x, H1, I2, rx, q1⟩ => thn (hv.run pins s1 σ H1 _ I2 q1) fun w2 s2 ⟨y, H2, I3, ry, hd, z, nk, b, wz, hz, ex, q2⟩ => pairTrees_nil_walk ?_)
  subst ex
  obtain ⟨b', eb, eu, ki⟩ := key_at I3 wz hz rx
  cases eb
  subst eu
  obtain ⟨hs0, xs, rel, dd⟩ := dk_at (ks := []) I3 (.inl hd) rfl .nil
  cases rel
  refine ⟨[(nk, b, w2)], ⟨rfl, rfl, ki, trivial⟩, dd, fun h' tk dk hs => wpAny_pure ?_⟩
  have dk' : h'.DictOfH (nestedKind X.prog X.w) s.heap.objs.size [(nk, b, w2)] := dk
  have hex : ∃ q, h'.get? s.heap.objs.size = some q := let ⟨q, _, _, hq, _⟩ := dk'; ⟨q, hq⟩
  exact ⟨.ref s.heap.objs.size, _, d_write (t' := tk) I3 (by rw [hd]; exact True.intro) hs hex (dk_ok hs0 (.cons ⟨rfl, rfl, ry⟩ .nil) dk'), rfl, q2⟩
theorem pps_all {pos : Pos} : ∀ {ks vs : List Expr} {tks tvs : List TE}, PEs X ks tks → PEs X vs tvs → ks.length = vs.length → PPs X pos (ks.map some) vs (tks.zip tvs)
  | [], [], _, _, .nil, .nil, _ => pps_nil
  | _ :: _, _ :: _, _, _, .cons a _ _ b, .cons c _ _ d, h => pps_cons a c (pps_all b d (by simpa using h))
  | [], _ :: _, _, _, _, _, h => by simp at h
  | _ :: _, [], _, _, _, _, h => by simp at h
theorem optAll_map : ∀ {keys : List (Option Expr)} {es : List Expr}, optAll keys = some es → keys = es.map some
  | [], _, h => by cases h; rfl
  | some e :: r, _, h => by
    simp only [optAll, Option.map_eq_some_iff] at h
    obtain ⟨es, h, rfl⟩ := h
    rw [List.map_cons, ← optAll_map h]
  | none :: _, _, h => by cases h
/-- the keys and values in turn -/
theorem pairsP : ∀ {ks vs : List Ex} {ρ : Rho} {σ : L2.St} {H : Hp} {ds es : List D} {Q : List (V × V) → Hp → Prop}, ks.length = vs.length → WR X.kw H ρ σ → evPs G ks ρ = some ds → evPs G vs ρ = some es →
    (∀ ps H', Same H H' → WL X.kw H' ds (ps.map (·.1)) → WL X.kw H' es (ps.map (·.2)) → Q ps H') → tPairs ((ks.map (tP X.kw G)).zip (vs.map (tP X.kw G))) σ H Q
  | [], [], ρ, σ, H, ds, es, Q, _, w, e1, e2, q => by
    cases e1
    cases e2
    exact q [] H (Same.refl H) .nil .nil
  | k :: ks, v :: vs, ρ, σ, H, ds, es, Q, h, w, e1, e2, q => by
    unfold evPs at e1 e2
    split at e1
    rotate_left
    · cases e1
    rename_i d ed
    split at e2
    rotate_left
    · cases e2
    rename_i u eu
    simp only [Option.map_eq_some_iff] at e1 e2
    obtain ⟨ds', e1, rfl⟩ := e1
    obtain ⟨es', e2, rfl⟩ := e2
    refine ⟨ρ, d, w, ed, fun x H1 f s1 r1 _ => ⟨ρ, u, w.same s1, eu, fun y H2 f2 s2 r2 _ => ?_⟩⟩
    refine pairsP (by simpa using h) (w.same (s1.trans s2)) e1 e2 fun ps H3 s3 w1 w2 => ?_
    exact q ((x, y) :: ps) H3 ((s1.trans s2).trans s3) (.cons ⟨f, r1.same (s2.trans s3)⟩ w1) (.cons ⟨f2, r2.same s3⟩ w2)
  | [], _ :: _, _, _, _, _, _, _, h, _, _, _, _ => by simp at h
  | _ :: _, [], _, _, _, _, _, _, h, _, _, _, _ => by simp at h
theorem merge_put {kvs : List (L2.Key × V)} {k : L2.Key} {v : V} (h : k ∉ kvs.map (·.1)) : putK kvs k v = kvs ++ [(k, v)] := by
  have : (kvs.any fun kv => decide (kv.1 = k)) = false := by
    rw [List.any_eq_false]
    intro p hp
    simp only [decide_eq_true_eq]
    exact fun e => h (List.mem_map.mpr ⟨p, hp, e⟩)
  unfold putK
  rw [this]
  rfl
theorem merge_nd : ∀ (more kvs : List (L2.Key × V)), ((kvs ++ more).map (·.1)).Nodup → mergeK kvs more = kvs ++ more
  | [], kvs, _ => by rw [List.append_nil]; rfl
  | p :: r, kvs, h => by
    have h0 : p.1 ∉ kvs.map (·.1) := fun z => by
      rw [List.map_append, List.map_cons] at h
      exact (List.nodup_append.mp h).2.2 _ z _ List.mem_cons_self rfl
    have e : mergeK kvs (p :: r) = mergeK (putK kvs p.1 p.2) r := rfl
    rw [e, merge_put h0, merge_nd r _ (by rw [List.append_assoc]; exact h), List.append_assoc]
    rfl
theorem strs_kvs : ∀ {ss : List (List Nat)} {ps : List (V × V)} {H : Hp}, WL X.kw H (ss.map .str) (ps.map (·.1)) → ∃ kvs : List (Str × V), ps = kvs.map (fun p => (V.str p.1, p.2)) ∧ ss = kvs.map (fun p => p.1.cps.toList)
  | [], [], _, _ => ⟨[], rfl, rfl⟩
  | s :: ss, p :: ps, H, w => by
    rw [List.map_cons, List.map_cons] at w
    cases w with
    | cons w1 w2 =>
      obtain ⟨kvs, e1, e2⟩ := strs_kvs w2
      have e := w1.str.1
      refine ⟨(⟨s.toArray⟩, p.2) :: kvs, ?_, ?_⟩
      · rw [e1, List.map_cons]
        obtain ⟨a, b⟩ := p
        simp only at e
        rw [e]
      · rw [e2, List.map_cons]
  | [], _ :: _, _, w => by cases w
  | _ :: _, [], _, w => by cases w
theorem strsOfM : ∀ {ds : List D} {ss : List (List Nat)}, strsOf ds = some ss → ds = ss.map .str
  | [], _, h => by cases h; rfl
  | .str s :: r, _, h => by
    simp only [strsOf, Option.map_eq_some_iff] at h
    obtain ⟨ss, h, rfl⟩ := h
    rw [List.map_cons, ← strsOfM h]
  | .non :: _, _, h => by cases h
  | .bl _ :: _, _, h => by cases h
  | .int _ :: _, _, h => by cases h
  | .tup _ :: _, _, h => by cases h
  | .lst _ _ :: _, _, h => by cases h
  | .exc _ _ _ :: _, _, h => by cases h
  | .cls _ _ _ _ :: _, _, h => by cases h
  | .dic _ _ _ :: _, _, h => by cases h
  | .dks _ _ :: _, _, h => by cases h
  | .obj _ _ _ _ :: _, _, h => by cases h
/-- {'a': .., ..} -/
theorem pe_dkt {keys values : List Expr} {ks vs : List Ex} {pos : Pos} (hu : X.A.units + 65 < cLine) (pk : PEs X keys (ks.map (tP X.kw G))) (pv : PEs X values (vs.map (tP X.kw G))) (hl : keys.length = values.length) (hkl : ks.length = vs.length) (h0 : keys ≠ []) (h15 : keys.length ≤ 15) :
    PE X (.Dict (keys.map some) values pos) (fun σ H Q => ∃ ρ ds es ss, WR X.kw H ρ σ ∧ evPs G ks ρ = some ds ∧ evPs G vs ρ = some es ∧ ds = ss.map D.str ∧ ss.Nodup ∧ ss.length ≤ 15 ∧ immL es = true ∧ ∀ p H', Same H H' → Rep X.kw H' (.dks ss es) (.ref p) [] → Q (.ref p) H') := by
  refine ⟨fun pins s σ H Q I ⟨ρ, ds, es, ss, w, e1, e2, e3, nd, l15, im, q⟩ => ?_⟩
  have base := (pe_disp (pps_all (pos := pos) pk pv hl) (by simp) (by simpa using hl) (by simpa using h0) (by simpa using h15)).run pins s σ H (fun v H1 => ∃ (p : Addr) (kvs : List (Str × V)), v = .ref p ∧ H1 p = some (.dK (kvs.map fun p => ((.inr p.1 : L2.Key), p.2))) ∧ H p = none ∧ ss = kvs.map (fun p => p.1.cps.toList) ∧ Same H H1 ∧ Reps X.kw H1 es (kvs.map (·.2)) []) I ?_
  · refine thn base fun u s1 ⟨v, H1, I1, r1, p, kvs, ev, hp, hn, es1, sm, rs⟩ => ?_
    subst ev
    obtain ⟨od, I2⟩ := I1.lock hp trivial
    have sm2 : Same H (upd H1 p (.frz od (.dK (kvs.map fun p => ((.inr p.1 : L2.Key), p.2))))) := fun b o hb => by
      rw [upd_ne (fun z => by rw [z, hn] at hb; cases hb)]
      exact sm b o hb
    have fr : Frm (fun c => c = p) H1 (upd H1 p (.frz od (.dK (kvs.map fun p => ((.inr p.1 : L2.Key), p.2))))) := fun c o hc n => by rw [upd_ne n]; exact hc
    have ow : OwnW (fun c => c = p) H1 := fun c hc => by subst hc; exact ⟨_, hp, id⟩
    exact ⟨.ref p, _, I2, r1, q p _ sm2 (.dks (.inl ⟨od, upd_same⟩) es1 (rs.frm fr ow fun _ z => nomatch z))⟩
  · intro p hp
    refine pairsP hkl (w.same (same_upd hp)) e1 e2 fun ps H2 s2 w1 w2 => ?_
    subst e3
    obtain ⟨kvs, ep, es1⟩ := strs_kvs w1
    have hp2 : H2 p = some (.dK []) := s2 _ _ upd_same
    have hlen : kvs.length = ss.length := by rw [es1, List.length_map]
    refine ⟨hp2, kvs.map fun p => ((.inr p.1 : L2.Key), p.2), ?_, by rw [List.length_map, hlen]; exact l15, ?_⟩
    · rw [ep, List.map_map]; rfl
    · have nd2 : ((([] : List (L2.Key × V)) ++ kvs.map fun p => ((.inr p.1 : L2.Key), p.2)).map (·.1)).Nodup := by
        rw [List.nil_append, List.map_map]
        rw [es1] at nd
        refine List.pairwise_map.mpr ((List.pairwise_map.mp nd).imp fun {a b} h z => h ?_)
        have z2 : a.1 = b.1 := by simpa using z
        rw [z2]
      rw [merge_nd _ _ nd2, List.nil_append]
      have e5 : ps.map (·.2) = kvs.map (·.2) := by rw [ep, List.map_map]; rfl
      rw [e5] at w2
      have fr : Frm (fun c => c = p) H2 (upd H2 p (.dK (kvs.map fun p => ((.inr p.1 : L2.Key), p.2)))) := fun c o hc n => by rw [upd_ne n]; exact hc
      have ow : OwnW (fun c => c = p) H2 := fun c hc => by subst hc; exact ⟨_, hp2, id⟩
      refine ⟨p, kvs, rfl, upd_same, hp, es1, fun b o hb => ?_, (w2.reps im).frm fr ow fun _ z => nomatch z⟩
      have hbp : b ≠ p := fun z => by rw [z, hp] at hb; cases hb
      rw [upd_ne hbp]
      exact s2 _ _ (by rw [upd_ne hbp]; exact hb)
theorem evPs_len : ∀ {cs : List Ex} {ρ : Rho} {ds : List D}, evPs G cs ρ = some ds → ds.length = cs.length
  | [], _, _, h => by cases h; rfl
  | c :: cs, ρ, _, h => by
    unfold evPs at h
    split at h
    · simp only [Option.map_eq_some_iff] at h
      obtain ⟨ds, h, rfl⟩ := h
      rw [List.length_cons, List.length_cons, evPs_len h]
    · cases h
theorem len_one {α : Type} {l : List α} (h : l.length = 1) : ∃ a, l = [a] := by
  cases l with
  | nil => cases h
  | cons a l =>
    have z : l = [] := List.eq_nil_of_length_eq_zero (by simpa using h)
    exact ⟨a, by rw [z]⟩
theorem dct_pe (C : CokG X G) {ks vs : List Ex} {keys : List (Option Expr)} {es values : List Expr} {pos : Pos} (he : optAll keys = some es) (pk : PEs X es (ks.map (tP X.kw G))) (pv : PEs X values (vs.map (tP X.kw G))) (hl : es.length = values.length) (h15 : es.length ≤ 15) :
    PE X (.Dict keys values pos) (tP X.kw G (.dct ks vs)) := by
  have := optAll_map he
  subst this
  have lk : es.length = ks.length := by have := pk.len; simpa using this
  have lv : values.length = vs.length := by have := pv.len; simpa using this
  refine ⟨fun pins s σ H Q I ⟨ρ, d, w, e, q⟩ => ?_⟩
  simp only [evP] at e
  split at e
  rotate_left
  · cases e
  rename_i a b ea eb
  unfold mkDic at e
  split at e
  · cases e
    have z1 : ks = [] := List.eq_nil_of_length_eq_zero (evPs_len ea).symm
    have z2 : vs = [] := List.eq_nil_of_length_eq_zero (evPs_len eb).symm
    subst z1 z2
    have z3 : es = [] := List.eq_nil_of_length_eq_zero lk
    have z4 : values = [] := List.eq_nil_of_length_eq_zero lv
    subst z3 z4
    refine pe_dnewD.run pins s σ H Q I fun p hp => ?_
    refine q _ _ [p] (same_upd hp) (.dicO upd_same rfl .nil .nil (by simp)) fun _ c hc => ?_
    rw [List.mem_singleton] at hc
    rw [hc]; exact hp
  · rename_i xs v
    split at e
    rotate_left
    · cases e
    rename_i hc
    cases e
    obtain ⟨nk, hk⟩ := Option.isSome_iff_exists.mp hc.1
    have l1 : ks.length = 1 := by have := evPs_len ea; simpa using this.symm
    have l2 : vs.length = 1 := by have := evPs_len eb; simpa using this.symm
    obtain ⟨k1, rfl⟩ := len_one l1
    obtain ⟨v1, rfl⟩ := len_one l2
    obtain ⟨x1, rfl⟩ := len_one (lk.trans l1)
    obtain ⟨y1, rfl⟩ := len_one (lv.trans l2)
    · · cases pk with
        | cons hk1 _ _ _ =>
          cases pv with
          | cons hv1 _ _ _ =>
            have ea : evP G k1 ρ = some (.tup xs) := by
              unfold evPs at ea
              split at ea
              · rename_i d1 e1
                unfold evPs at ea
                cases ea
                exact e1
              · cases ea
            have eb : evP G v1 ρ = some v := by
              unfold evPs at eb
              split at eb
              · rename_i d1 e1
                unfold evPs at eb
                cases eb
                exact e1
              · cases eb
            refine (pe_dnew1 C.units hk1 hv1).run pins s σ H Q I fun p hp => ?_
            refine ⟨ρ, _, w.same (same_upd hp), ea, fun x H1 f1 s1 r1 _ => ⟨ρ, _, w.same ((same_upd hp).trans s1), eb, fun y H2 f2 s2 r2 _ => ?_⟩⟩
            have hd2 : H2 p = some (DkO X.kw p []) := s2 _ _ (s1 _ _ upd_same)
            have wz : W1 X.kw H2 (.tup xs) x := ⟨f1, r1.same s2⟩
            obtain ⟨ax, vsx, rfl, _, _⟩ := wz.tup
            refine ⟨hd2, .tup xs, nk, ax, wz, hk, rfl, ?_⟩
            have imk := keyImm (keyT_of hk).1
            have fr : Frm (fun c => c = p) H2 (upd H2 p (DkO X.kw p [(nk, ax, y)])) := fun c o hcc n => by rw [upd_ne n]; exact hcc
            have ow : OwnW (fun c => c = p) H2 := fun c hcc => by subst hcc; exact ⟨_, hd2, dk_free⟩
            have rk := (wz.rep imk).frm fr ow fun _ z => nomatch z
            have f20 := r2.imm_nil hc.2
            subst f20
            have rv := r2.frm fr ow fun _ z => nomatch z
            refine q _ _ [p] ?_ (.dicO (kvs := [(nk, ax, y)]) upd_same (by simp [KeysR, hk]) (Reps.cons (f := []) (g := []) rk .nil fun _ z => nomatch z) (Reps.cons (f := []) (g := []) rv .nil fun _ z => nomatch z) (by simp)) fun _ c hcc => ?_
            · intro bb o hb
              have hbp : bb ≠ p := fun z => by rw [z, hp] at hb; cases hb
              rw [upd_ne hbp]
              exact s2 _ _ (s1 _ _ (by rw [upd_ne hbp]; exact hb))
            · rw [List.mem_singleton] at hcc
              rw [hcc]; exact hp
  · simp only [Option.bind_eq_some_iff] at e
    obtain ⟨ss, e1, e2⟩ := e
    split at e2
    rotate_left
    · cases e2
    rename_i hc
    cases e2
    have e3 := strsOfM e1
    refine (pe_dkt C.units pk pv hl (by rw [← lk, ← lv]; exact hl) (fun z => hc.2.2.2.2 ?_) h15).run pins s σ H Q I ⟨ρ, _, _, ss, w, ea, eb, e3, hc.1, hc.2.2.1, hc.2.2.2.1, fun p H' sm r => q _ _ [] sm r fun _ => nilF⟩
    have := evPs_len ea
    rw [e3, List.length_map, ← lk, z] at this
    exact List.eq_nil_of_length_eq_zero this
end
end VL

/-! VL9: the machine does what evP tells. -/
namespace VL
open PySem PySem.Spec PyProof.Rows L2
section
variable {X : Cx} {G : Str → Option D}
theorem compP_step {step : D → Option (Option D)} {acc : List D} {x : D} {xs ys : List D} (h : compP step acc (x :: xs) = some ys) :
    (step x = some none ∧ compP step acc xs = some ys) ∨ ∃ y, step x = some (some y) ∧ compP step (acc ++ [y]) xs = some ys := by
  unfold compP at h
  split at h
  · cases h
  · rename_i e; exact .inl ⟨e, h⟩
  · rename_i y e; exact .inr ⟨y, e, h⟩
theorem compP_sub {step : D → Option (Option D)} : ∀ {xs zs ys : List D}, compP step zs xs = some ys → ∀ z ∈ zs, z ∈ ys
  | [], zs, ys, h, z, hz => by cases h; exact hz
  | x :: xs, zs, ys, h, z, hz => by
    rcases compP_step h with ⟨_, h⟩ | ⟨y, _, h⟩
    · exact compP_sub h z hz
    · exact compP_sub h z (List.mem_append_left _ hz)
/-- a comprehension without effect -/
theorem comp_red {own : List (Str × Nat)} {elt : Ex} {p : Pat} {k : SrcK} {ss ifs : List Ex} (hsl : ∀ i ∈ slotsP p, i ∈ own.map (·.2)) {σ : L2.St} {H : Hp} {Q : VK} (h : tP X.kw G (.comp own elt p k ss ifs) σ H Q) :
    L2.tLc (iSrc X.kw k (ss.map (tP X.kw G))) (gP X.kw p) (fun σ H Q => ∃ ρ b, WR X.kw H ρ σ ∧ evTs G ifs ρ = some b ∧ ∀ H', Same H H' → Q b H') (tP X.kw G elt) (own.map (·.2)) σ H Q := by
  obtain ⟨ρ, d, w, e, q⟩ := h
  simp only [evP] at e
  split at e
  rotate_left
  · cases e
  rename_i ds eds
  split at e
  rotate_left
  · cases e
  rename_i items eit
  split at e
  rotate_left
  · cases e
  rename_i hlim
  split at e
  rotate_left
  · cases e
  rename_i ys eys
  split at e
  rotate_left
  · cases e
  rename_i him
  cases e
  refine argsP w eds fun vs H1 s1 w1 => ?_
  obtain ⟨J, wk, wd⟩ := src_ok w1 eit
  refine ⟨J, wk, fun L hL => ?_⟩
  -- the invariant
  refine ⟨fun i m Hc => m = items.length - i ∧ i ≤ items.length ∧ Same H1 Hc ∧ ∃ zs acc, compP _ zs (items.drop i) = some ys ∧ Hc L = some (.lst acc) ∧ WL X.kw Hc zs acc ∧ acc.length ≤ i,
    ⟨_, rfl, Nat.zero_le _, same_upd hL, [], [], by rw [List.drop_zero]; exact eys, upd_same, .nil, Nat.le_refl _⟩, ?_⟩
  rintro i m Hc ⟨rfl, hi', sm, zs, acc, ec, hLc, wz, hlen⟩
  by_cases hlt : i < items.length
  · have hd : items[i]? = some items[i] := List.getElem?_eq_getElem hlt
    rw [List.drop_eq_getElem_cons hlt] at ec
    refine .inr ⟨wd.go i Hc ⟨w1.same sm, _, same_frm (W := fun _ => False) sm, ownW_false⟩ hlt, fun H' => Same H1 H' ∧ ∃ zs acc, compP _ zs (items.drop (i + 1)) = some ys ∧ H' L = some (.lst acc) ∧ WL X.kw H' zs acc ∧ acc.length ≤ i + 1,
      fun H' ⟨a, b⟩ => ⟨items.length - (i + 1), by omega, rfl, hlt, a, b⟩, fun x H2 hy => ?_⟩
    obtain ⟨sm2, wx⟩ := wd.yld i Hc x H2 ⟨w1.same sm, _, same_frm (W := fun _ => False) sm, ownW_false⟩ hy _ hd
    have s2 : Same H H2 := s1.trans (sm.trans sm2)
    have hL2 : H2 L = some (.lst acc) := sm2 _ _ hLc
    rcases compP_step ec with ⟨es, ec'⟩ | ⟨y, es, ec'⟩
    · split at es
      rotate_left
      · cases es
      rename_i ρ1 eb
      obtain ⟨σ2, bv, w2⟩ := bindP_ok p ((w.same s2).wipe _) wx eb
      refine ⟨σ2, bv, bv.wipe hsl, ρ1, ?_⟩
      split at es
      · cases hh : evP G elt ρ1 with
        | none => rw [hh] at es; cases es
        | some _ => rw [hh] at es; cases es
      · rename_i et
        refine ⟨false, w2, et, fun H3 s3 => ?_⟩
        refine iteF ?_
        exact ⟨sm.trans (sm2.trans s3), zs, acc, ec', s3 _ _ hL2, wz.same (sm2.trans s3), by omega⟩
      · cases es
    · split at es
      rotate_left
      · cases es
      rename_i ρ1 eb
      obtain ⟨σ2, bv, w2⟩ := bindP_ok p ((w.same s2).wipe _) wx eb
      refine ⟨σ2, bv, bv.wipe hsl, ρ1, ?_⟩
      split at es
      · rename_i et
        refine ⟨true, w2, et, fun H3 s3 => ?_⟩
        refine iteT ?_
        simp only [Option.map_eq_some_iff, Option.some.injEq] at es
        obtain ⟨y', ey, rfl⟩ := es
        refine ⟨ρ1, y', w2.same s3, ey, fun v H4 f s4 r _ => ?_⟩
        have hL4 : H4 L = some (.lst acc) := s4 _ _ (s3 _ _ hL2)
        have iy : y'.imm = true := by
          exact immL_iff.mp him y' (compP_sub ec' y' (List.mem_append_right _ (List.mem_singleton.mpr rfl)))
        refine ⟨acc, hL4, ?_, ?_⟩
        · rw [lim_eq]; omega
        · have sL : Same H1 (upd H4 L (.lst (acc ++ [v]))) := fun b o hb => by
            rw [upd_ne (ne_of_none hb hL)]
            exact s4 _ _ (s3 _ _ (sm2 _ _ (sm _ _ hb)))
          -- nothing leans on the list that is made: all its items are without parts of their own
          have keep : ∀ {d : D} {u : V}, W1 X.kw H4 d u → d.imm = true → W1 X.kw (upd H4 L (.lst (acc ++ [v]))) d u := fun {d u} hw hi => by
            refine ⟨[], Rep.frm (W := fun a => a = L) (fun a o ha n => by rw [upd_ne n]; exact ha) (fun a ha => by subst ha; exact ⟨_, hL4, id⟩) (hw.rep hi) nilF⟩
          have immz : immL zs = true := immL_iff.mpr fun z hz => by
            exact immL_iff.mp him z (compP_sub ec' z (List.mem_append_left _ hz))
          have keepL : ∀ {ds : List D} {us : List V}, WL X.kw H4 ds us → immL ds = true → WL X.kw (upd H4 L (.lst (acc ++ [v]))) ds us := by
            intro ds us hw
            induction hw with
            | nil => intro _; exact .nil
            | cons a b ih =>
              intro hi
              simp only [immL, Bool.and_eq_true] at hi
              exact .cons (keep a hi.1) (ih hi.2)
          refine ⟨sL, zs ++ [y'], acc ++ [v], ec', upd_same, ?_, by rw [List.length_append, List.length_singleton]; omega⟩
          exact (keepL ((wz.same sm2).same (s3.trans s4)) immz).append (.cons (keep ⟨f, r⟩ iy) .nil)
      · cases es
      · cases es
  · have e : i = items.length := by omega
    subst e
    refine .inl ⟨wd.stop Hc ⟨w1.same sm, _, same_frm (W := fun _ => False) sm, ownW_false⟩, ?_⟩
    rw [List.drop_length] at ec
    cases ec
    exact q _ Hc [L] (s1.trans sm) (rep_lst hLc wz him) fun _ a ha => by
      rw [List.mem_singleton] at ha
      rw [ha]
      exact Same.free s1 hL
theorem comp_pe (C : CokG X G) {own : List (Str × Nat)} {elt : Ex} {p : Pat} {k : SrcK} {ss ifs : List Ex} {e1 tg iter : Expr} {ts : List Expr} {scope : Scope} {pos : Pos}
    (hi : PI X tg iter (iSrc X.kw k (ss.map (tP X.kw G)))) (hb : blkC X.N X.env.scope scope own = true) (hsl : ∀ i ∈ slotsP p, i ∈ own.map (·.2)) (hns : notSet iter = true)
    (hg : ∀ (s : Shared) (H : Hp) (A : Addr) (cl : List (Str × Addr)) (fp : List Addr), PG (X.blk s H scope (compEnvC scope cl A X.env) fp) tg (gP X.kw p))
    (ht : ∀ (s : Shared) (H : Hp) (A : Addr) (cl : List (Str × Addr)) (fp : List Addr), PTs (X.blk s H scope (compEnvC scope cl A X.env) fp) ts (fun σ H Q => ∃ ρ b, WR X.kw H ρ σ ∧ evTs G ifs ρ = some b ∧ ∀ H', Same H H' → Q b H'))
    (he : ∀ (s : Shared) (H : Hp) (A : Addr) (cl : List (Str × Addr)) (fp : List Addr), PE (X.blk s H scope (compEnvC scope cl A X.env) fp) e1 (tP X.kw G elt)) :
    PE X (.ListComp e1 [⟨tg, iter, ts, 0⟩] scope pos) (tP X.kw G (.comp own elt p k ss ifs)) := by
  exact peWeak (pe_lc C.calm C.nd hi (blkOk_by hb) hg ht he (folded_plain hns)) fun σ H Q h => comp_red hsl h
theorem pwWeak {e : Expr} {t t' : TT} (h : PW X e t) (w : ∀ σ H Q, t' σ H Q → t σ H Q) : PW X e t' := ⟨fun wh pins s σ H Q I q => h.run wh pins s σ H Q I (w σ H Q q)⟩
/-- a test of a comparison -/
theorem pt_cmpN (C : CokG X G) {o : CmpOp} {cs : List Ex} {e : Expr} {es : List Expr} (h : opnds X.env.scope (.cmp o) e = some es) (ps : PEs X es (cs.map (tP X.kw G))) : PT X e (tPT X.kw G (.node (.cmp o) cs)) := by
  refine ptWeak (cmpN_pe C.toCok h ps).2 fun σ H Q ⟨ρ, b, w, e, q⟩ => ?_
  simp only [evP, Option.bind_eq_some_iff] at e
  obtain ⟨ds, e1, e2⟩ := e
  show tL (cs.map (tP X.kw G)) σ H fun vs H' => rD X.kw (applyOp (.cmp o)) (Op.new (.cmp o)) vs H' _
  refine argsP w e1 fun vs H1 s1 w1 => lift_rD s1 w1 e2 fun v H' f s' r _ => ?_
  exact ⟨b, W1.bl ⟨f, r⟩, q H' s'⟩
theorem chain_red {o o' : CmpOp} {a b c : Ex} {σ : L2.St} {H : Hp} {Q : VK} (C : CokG X G) (h : tP X.kw G (.chain o o' a b c) σ H Q) :
    tChain (fun x y => rD X.kw (dCmpO o) true [x, y]) (fun x y => rD X.kw (dCmpO o') true [x, y]) (tP X.kw G a) (tP X.kw G b) (tP X.kw G c) σ H Q := by
  obtain ⟨ρ, d, w, e, q⟩ := h
  simp only [evP] at e
  split at e
  rotate_left
  · cases e
  rename_i x y ex ey
  refine ⟨ρ, x, w, ex, fun v H1 f s1 r1 _ => ⟨ρ, y, w.same s1, ey, fun u H2 f2 s2 r2 _ => ?_⟩⟩
  have wl : WL X.kw H2 [x, y] [v, u] := .cons ⟨f, r1.same s2⟩ (.cons ⟨f2, r2⟩ .nil)
  split at e
  · rename_i e1
    refine ⟨[x, y], _, wl, e1, fun z H3 f3 s3 r3 _ => ⟨true, W1.bl ⟨f3, r3⟩, iteT ?_⟩⟩
    split at e
    rotate_left
    · cases e
    rename_i z' ez
    refine ⟨ρ, z', w.same (s1.trans (s2.trans s3)), ez, fun u3 H4 f4 s4 r4 _ => ?_⟩
    exact lift_rD (s1.trans (s2.trans (s3.trans s4))) (.cons ⟨f2, r2.same (s3.trans s4)⟩ (.cons ⟨f4, r4⟩ .nil)) e fun v' H' f' s' r' n => q v' H' f' s' r' n
  · rename_i e1
    cases e
    refine ⟨[x, y], _, wl, e1, fun z H3 f3 s3 r3 _ => ⟨false, W1.bl ⟨f3, r3⟩, iteF ?_⟩⟩
    exact q _ H3 [] (s1.trans (s2.trans s3)) (.bl false) fun _ => nilF
  · cases e
theorem tPT_of {c : Ex} {t' : TE} {e : Expr} (h : PT X e (tTest t')) (w : ∀ σ H Q, tP X.kw G c σ H Q → t' σ H Q) : PT X e (tPT X.kw G c) := by
  refine ptWeak h fun σ H Q ⟨ρ, b, wr, e, q⟩ => ?_
  exact w σ H _ ⟨ρ, _, wr, e, fun v H' f s r _ => ⟨b, W1.bl ⟨f, r⟩, q H' s⟩⟩
theorem tru_of {K : KW} {H : Hp} {d : D} {v : V} {k : Bool} (w : W1 K H d v) (e : d.tru = some k) : TruV K v H k := by
  cases d with
  | non => rw [w.non]; cases e; exact rfl
  | bl b => rw [w.bl]; cases e; exact rfl
  | int i => rw [w.int]; cases e; exact rfl
  | str s =>
    obtain ⟨e1, o⟩ := w.str
    rw [e1]
    cases e
    refine ⟨by rw [str_len, lim_eq]; exact (okS_iff.mp o).2, ?_⟩
    rw [str_len]
    cases s with
    | nil => rfl
    | cons c s =>
      simp
      omega
  | tup xs =>
    obtain ⟨a, vs, e1, sq, wl⟩ := w.tup
    rw [e1]
    cases e
    refine .inr (.inl ⟨vs, sq, ?_⟩)
    cases wl <;> rfl
  | lst o xs =>
    obtain ⟨a, vs, e1, sq, wl⟩ := w.lst
    rw [e1]
    cases e
    refine .inl ⟨vs, sq, ?_⟩
    cases wl <;> rfl
  | _ => cases e
mutual
theorem pe_ok : ∀ (c : Ex) {X : Cx} (C : CokG X G) (e : Expr), mE X.N X.env.scope X.fn c e = true → PE X e (tP X.kw G c)
  | .lit d, X, C, e, h => by
    unfold mE at h
    split at h
    · simp only [Bool.and_eq_true, decide_eq_true_eq] at h
      exact lit_pe h.1 h.2
    · cases h
  | .var i, X, C, e, h => by
    unfold mE at h
    split at h
    · simp only [Bool.and_eq_true, decide_eq_true_eq] at h
      obtain ⟨n1, n2⟩ := okName_ok h.2
      refine peWeak (pe_var h.1.1 (vis_ok h.1.2) n1 n2) fun σ H Q ⟨ρ, d, w, e, q⟩ => ?_
      obtain ⟨v, hv, f, r⟩ := w.at_ i d (slotOf_some e)
      exact ⟨v, hv, q v H f (Same.refl H) r fun z => by cases z⟩
    · cases h
  | .glob y, X, C, e, h => by
    unfold mE at h
    split at h
    · rename_i x pos
      simp only [Bool.and_eq_true, decide_eq_true_eq] at h
      obtain ⟨⟨rfl, g⟩, n⟩ := h
      obtain ⟨n1, n2⟩ := okName_ok n
      refine ⟨fun pins s σ H Q I ⟨ρ, d, w, e, q⟩ => ?_⟩
      obtain ⟨v, u, hm, rv, rp⟩ := C.glob _ d e
      exact (pe_glob (show X.env.scope.names.lookup x = some .globalImplicit from of_decide_eq_true g) hm rv n1).run pins s σ H Q I (q v H [] (Same.refl H) (rp H) fun z => by cases z)
    · cases h
  | .node o cs, X, C, e, h => by
    unfold mE at h
    split at h
    · rename_i es ho
      simp only [Bool.and_eq_true] at h
      have ps := pes_ok cs C es h.2
      refine peWeak (node_pe C.toCok o ho (fun T hT => by subst hT; exact h.1) ps) fun σ H Q ⟨ρ, d, w, e, q⟩ => ?_
      simp only [evP, Option.bind_eq_some_iff] at e
      obtain ⟨ds, e1, e2⟩ := e
      exact argsPc w e1 e2 fun vs H1 s1 w1 => lift_rD s1 w1 e2 q
    · cases h
  | .and a b, X, C, e, h => by
    have red : ∀ σ H Q, tP X.kw G (.and a b) σ H Q → tAndV (tP X.kw G a) (tP X.kw G b) σ H Q := fun σ H Q ⟨ρ, d, w, e, q⟩ => by
      simp only [evP] at e
      split at e
      · rename_i e1
        exact ⟨ρ, _, w, e1, fun v H1 f s r _ => ⟨true, W1.bl ⟨f, r⟩, iteT ⟨ρ, d, w.same s, e, fun v2 H2 f2 s2 r2 n => q v2 H2 f2 (s.trans s2) r2 fun hd a ha => Same.free s (n hd a ha)⟩⟩⟩
      · rename_i e1
        cases e
        exact ⟨ρ, _, w, e1, fun v H1 f s r _ => ⟨false, W1.bl ⟨f, r⟩, iteF (q _ H1 [] s (.bl false) fun _ => nilF)⟩⟩
      · cases e
    unfold mE at h
    split at h
    · simp only [Bool.and_eq_true] at h
      exact peWeak (pe_and (pe_ok a C _ h.1) (pe_one (pe_ok b C _ h.2))) red
    · simp only [Bool.and_eq_true] at h
      exact peWeak (pe_and (pe_ok a C _ h.1) (pe_ok b C _ h.2)) red
    · cases h
  | .or a b, X, C, e, h => by
    have red : ∀ σ H Q, tP X.kw G (.or a b) σ H Q → tOrV (tP X.kw G a) (tP X.kw G b) σ H Q := fun σ H Q ⟨ρ, d, w, e, q⟩ => by
      simp only [evP] at e
      split at e
      · rename_i e1
        cases e
        exact ⟨ρ, _, w, e1, fun v H1 f s r _ => ⟨true, W1.bl ⟨f, r⟩, iteT (q _ H1 [] s (.bl true) fun _ => nilF)⟩⟩
      · rename_i e1
        exact ⟨ρ, _, w, e1, fun v H1 f s r _ => ⟨false, W1.bl ⟨f, r⟩, iteF ⟨ρ, d, w.same s, e, fun v2 H2 f2 s2 r2 n => q v2 H2 f2 (s.trans s2) r2 fun hd a ha => Same.free s (n hd a ha)⟩⟩⟩
      · cases e
    unfold mE at h
    split at h
    · simp only [Bool.and_eq_true] at h
      exact peWeak (pe_or (pe_ok a C _ h.1) (pe_one (pe_ok b C _ h.2))) red
    · simp only [Bool.and_eq_true] at h
      exact peWeak (pe_or (pe_ok a C _ h.1) (pe_ok b C _ h.2)) red
    · cases h
  | .not a, X, C, e, h => by
    unfold mE at h
    split at h
    · refine peWeak (pe_not (pe_ok a C _ h)) fun σ H Q ⟨ρ, d, w, e, q⟩ => ?_
      simp only [evP] at e
      split at e
      · rename_i b e1
        cases e
        exact ⟨ρ, _, w, e1, fun v H1 f s r _ => ⟨b, W1.bl ⟨f, r⟩, q _ H1 [] s (.bl _) fun _ => nilF⟩⟩
      · cases e
    · cases h
  | .ite t a b, X, C, e, h => by
    unfold mE at h
    split at h
    · simp only [Bool.and_eq_true] at h
      refine peWeak (pe_ifExp (pt_ok t C _ h.1.1) (pe_ok a C _ h.1.2) (pe_ok b C _ h.2)) fun σ H Q ⟨ρ, d, w, e, q⟩ => ?_
      simp only [evP] at e
      split at e
      · rename_i e1
        refine ⟨ρ, true, w, e1, fun H1 s => iteT ⟨ρ, d, w.same s, e, fun v2 H2 f2 s2 r2 n => q v2 H2 f2 (s.trans s2) r2 fun hd a' ha => Same.free s (n ?_ a' ha)⟩⟩
        simp only [det, Bool.and_eq_true] at hd
        exact hd.1
      · rename_i e1
        refine ⟨ρ, false, w, e1, fun H1 s => iteF ⟨ρ, d, w.same s, e, fun v2 H2 f2 s2 r2 n => q v2 H2 f2 (s.trans s2) r2 fun hd a' ha => Same.free s (n ?_ a' ha)⟩⟩
        simp only [det, Bool.and_eq_true] at hd
        exact hd.2
      · cases e
    · cases h
  | .chain o o' a b c, X, C, e, h => by
    unfold mE at h
    split at h
    · simp only [Bool.and_eq_true, decide_eq_true_eq] at h
      obtain ⟨⟨⟨⟨⟨rfl, rfl⟩, ns⟩, ha⟩, hb⟩, hc⟩ := h
      exact peWeak (pe_chain (cmp_ok C.toCok _) (cmp_ok C.toCok _) (pe_ok a C _ ha) (pe_ok b C _ hb) (pe_ok c C _ hc) (lastM ns)) fun σ H Q q => chain_red C q
    · cases h
  | .comp own elt p k ss ifs, X, C, e, h => by
    unfold mE at h
    split at h
    rotate_left
    · cases h
    rename_i e1 tg iter ts scope pos
    split at h
    rotate_left
    · cases h
    rename_i es ho
    simp only [Bool.and_eq_true, List.all_eq_true, decide_eq_true_eq, Bool.or_eq_true, Bool.not_eq_true'] at h
    obtain ⟨⟨⟨⟨⟨⟨⟨⟨h1, h2⟩, h3⟩, h4⟩, h5⟩, h6⟩, h7⟩, h8⟩, h9⟩ := h
    have ps := pes_ok ss C es h1
    have hit : needT k = true → isTuple tg = true := fun hk => by
      rcases h6 with h6 | h6
      · exact h6
      · rw [h6] at hk; cases hk
    refine comp_pe C (src_pi C.toCok ho hit ps) h2 h3 h4 (fun s H A cl fp => pat_pe (C.blk).toCok p tg h5) (fun s H A cl fp => ?_) fun s H A cl fp => pe_ok elt (C.blk) e1 h9
    cases ifs with
    | nil =>
      cases ts with
      | nil => exact ⟨fun pins s' σ H' Q I ⟨ρ, b, w, e, q⟩ => by cases e; exact pts_nil.run pins s' σ H' Q I (q H' (Same.refl H'))⟩
      | cons _ _ => cases h7
    | cons c cs =>
      cases ts with
      | nil => cases cs <;> cases h7
      | cons t1 tr =>
        have e0 : cs = [] ∧ tr = [] := by
          cases cs <;> cases tr <;> first | exact ⟨rfl, rfl⟩ | cases h7
        obtain ⟨rfl, rfl⟩ := e0
        have hT : PT (X.blk s H scope (compEnvC scope cl A X.env) fp) t1 (tPT X.kw G c) := pt_ok c (C.blk) t1 (by unfold mTs at h8; exact h8)
        refine ⟨fun pins s' σ H' Q I ⟨ρ, b, w, e, q⟩ => (pts_one hT).run pins s' σ H' Q I ⟨ρ, b, w, ?_, q⟩⟩
        unfold evTs at e
        split at e
        · rename_i b' e1; cases e; exact e1
        · cases e
  | .call _ _, _, _, _, h => by unfold mE at h; cases h
  | .tk _, _, _, _, h => by unfold mE at h; cases h
  | .sh _, _, _, _, h => by unfold mE at h; cases h
  | .fz _, _, _, _, h => by unfold mE at h; cases h
  | .no, X, C, e, h => ⟨fun pins s σ H Q I ⟨ρ, d, w, e, q⟩ => by simp only [evP] at e; cases e⟩
  | .mkE _ _, X, C, e, h => ⟨fun pins s σ H Q I ⟨ρ, d, w, e, q⟩ => by simp only [evP] at e; cases e⟩
  | .strE _ _, X, C, e, h => ⟨fun pins s σ H Q I ⟨ρ, d, w, e, q⟩ => by simp only [evP] at e; cases e⟩
  | .dct ks vs, X, C, e, h => by
    unfold mE at h
    split at h
    · split at h
      · rename_i keys values pos _ es he
        simp only [Bool.and_eq_true, decide_eq_true_eq] at h
        exact dct_pe C he (pes_ok ks C es h.1.1.1) (pes_ok vs C values h.1.1.2) h.1.2 h.2
      · cases h
    · cases h
  | .orv a b, X, C, e, h => by
    unfold mE at h
    split at h
    · simp only [Bool.and_eq_true] at h
      refine peWeak (pe_orT (pe_ok a C _ h.1) (pe_one (pe_ok b C _ h.2))) fun σ H Q ⟨ρ, d, w, e, q⟩ => ?_
      simp only [evP] at e
      split at e
      rotate_left
      · cases e
      rename_i x e1
      refine ⟨ρ, x, w, e1, fun v H1 f s r n => ?_⟩
      split at e
      · rename_i et
        cases e
        refine ⟨true, tru_of ⟨f, r⟩ et, iteT (q v H1 f s r fun hd => n ?_)⟩
        simp only [det, Bool.and_eq_true] at hd
        exact hd.1
      · rename_i et
        refine ⟨false, tru_of ⟨f, r⟩ et, iteF ⟨ρ, d, w.same s, e, fun v2 H2 f2 s2 r2 n2 => q v2 H2 f2 (s.trans s2) r2 fun hd a' ha => Same.free s (n2 ?_ a' ha)⟩⟩
        simp only [det, Bool.and_eq_true] at hd
        exact hd.2
      · cases e
    · cases h
theorem pes_ok : ∀ (cs : List Ex) {X : Cx} (C : CokG X G) (es : List Expr), mEs X.N X.env.scope X.fn cs es = true → PEs X es (cs.map (tP X.kw G))
  | [], X, C, es, h => by
    unfold mEs at h
    cases es with
    | nil => exact .nil
    | cons _ _ => cases h
  | c :: cs, X, C, es, h => by
    unfold mEs at h
    split at h
    · simp only [Bool.and_eq_true] at h
      exact .cons (pe_ok c C _ h.1.2) tP_mono h.1.1 (pes_ok cs C _ h.2)
    · cases h
theorem pt_ok : ∀ (c : Ex) {X : Cx} (C : CokG X G) (e : Expr), mT X.N X.env.scope X.fn c e = true → PT X e (tPT X.kw G c)
  | .and a b, X, C, e, h => by
    cases e with
    | BoolOp op vs pos => exact (pw_ok (.and a b) C op vs pos h).pt
    | _ => unfold mT at h; cases h
  | .or a b, X, C, e, h => by
    cases e with
    | BoolOp op vs pos => exact (pw_ok (.or a b) C op vs pos h).pt
    | _ => unfold mT at h; cases h
  | .not a, X, C, e, h => by
    unfold mT at h
    split at h
    · refine ptWeak (pt_not (pt_ok a C _ h)) fun σ H Q ⟨ρ, d, w, e, q⟩ => ?_
      simp only [evP] at e
      split at e
      · rename_i b e1
        cases e
        exact ⟨ρ, b, w, e1, q⟩
      · cases e
    · cases h
  | .node o cs, X, C, e, h => by
    unfold mT at h
    split at h
    · rename_i es ho
      simp only [Bool.and_eq_true, Bool.or_eq_true] at h
      obtain ⟨⟨h1, h2⟩, h3⟩ := h
      have ps := pes_ok cs C es h2
      rcases h3 with h3 | h3
      · refine pt_plain ?_ h3
        refine peWeak (node_pe C.toCok o ho (fun T hT => by subst hT; exact h1) ps) fun σ H Q ⟨ρ, d, w, e, q⟩ => ?_
        simp only [evP, Option.bind_eq_some_iff] at e
        obtain ⟨ds, e1, e2⟩ := e
        exact argsPc w e1 e2 fun vs H1 s1 w1 => lift_rD s1 w1 e2 q
      · cases o with
        | cmp o => exact pt_cmpN C ho ps
        | _ => cases h3
    · cases h
  | .chain o o' a b c, X, C, e, h => by
    unfold mT at h
    split at h
    · simp only [Bool.and_eq_true, decide_eq_true_eq] at h
      obtain ⟨⟨⟨⟨⟨rfl, rfl⟩, ns⟩, ha⟩, hb⟩, hc⟩ := h
      exact tPT_of (pt_chain (cmp_ok C.toCok _) (cmp_ok C.toCok _) (pe_ok a C _ ha) (pe_ok b C _ hb) (pe_ok c C _ hc) (lastM ns)) fun σ H Q q => chain_red C q
    · cases h
  | .var i, X, C, e, h => by
    unfold mT at h
    split at h
    · simp only [Bool.and_eq_true, decide_eq_true_eq] at h
      obtain ⟨n1, n2⟩ := okName_ok h.2
      refine pt_plain (peWeak (pe_var h.1.1 (vis_ok h.1.2) n1 n2) fun σ H Q ⟨ρ, d, w, e, q⟩ => ?_) rfl
      obtain ⟨v, hv, f, r⟩ := w.at_ i d (slotOf_some e)
      exact ⟨v, hv, q v H f (Same.refl H) r fun z => by cases z⟩
    · cases h
  | .lit d, X, C, e, h => by
    unfold mT at h
    split at h
    · simp only [Bool.and_eq_true, decide_eq_true_eq] at h
      refine pt_plain (lit_pe h.1 ?_) rfl
      cases d <;> first | rfl | cases h.2
    · cases h
  | .glob _, _, _, _, h => by unfold mT at h; cases h
  | .ite _ _ _, _, _, _, h => by unfold mT at h; cases h
  | .comp .., _, _, _, h => by unfold mT at h; cases h
  | .call _ _, _, _, _, h => by unfold mT at h; cases h
  | .tk _, _, _, _, h => by unfold mT at h; cases h
  | .sh _, _, _, _, h => by unfold mT at h; cases h
  | .fz _, _, _, _, h => by unfold mT at h; cases h
  | .no, _, _, _, h => by unfold mT at h; cases h
  | .dct _ _, _, _, _, h => by unfold mT at h; cases h
  | .mkE _ _, _, _, _, h => by unfold mT at h; cases h
  | .strE _ _, _, _, _, h => by unfold mT at h; cases h
  | .orv _ _, _, _, _, h => by unfold mT at h; cases h
theorem pw_ok : ∀ (c : Ex) {X : Cx} (C : CokG X G) (op : BoolOp) (vs : List Expr) (pos : Pos), mT X.N X.env.scope X.fn c (.BoolOp op vs pos) = true → PW X (.BoolOp op vs pos) (tPT X.kw G c)
  | .and a b, X, C, op, vs, pos, h => by
    have red : ∀ σ H Q, tPT X.kw G (.and a b) σ H Q → tAnd (tPT X.kw G a) (tPT X.kw G b) σ H Q := fun σ H Q ⟨ρ, d, w, e, q⟩ => by
      simp only [evP] at e
      split at e
      · rename_i e1
        exact ⟨ρ, true, w, e1, fun H1 s => iteT ⟨ρ, d, w.same s, e, fun H2 s2 => q H2 (s.trans s2)⟩⟩
      · rename_i e1
        cases e
        exact ⟨ρ, false, w, e1, fun H1 s => iteF (q H1 s)⟩
      · cases e
    unfold mT at h
    split at h
    · rename_i he
      cases he
      simp only [Bool.and_eq_true] at h
      exact pwWeak (pw_and (pt_ok a C _ h.1) (pw_and1 (pt_ok b C _ h.2))) red
    · rename_i he
      cases he
      simp only [Bool.and_eq_true] at h
      exact pwWeak (pw_and (pt_ok a C _ h.1) (pw_ok b C _ _ _ h.2)) red
    · cases h
  | .or a b, X, C, op, vs, pos, h => by
    have red : ∀ σ H Q, tPT X.kw G (.or a b) σ H Q → tOr (tPT X.kw G a) (tPT X.kw G b) σ H Q := fun σ H Q ⟨ρ, d, w, e, q⟩ => by
      simp only [evP] at e
      split at e
      · rename_i e1
        cases e
        exact ⟨ρ, true, w, e1, fun H1 s => iteT (q H1 s)⟩
      · rename_i e1
        exact ⟨ρ, false, w, e1, fun H1 s => iteF ⟨ρ, d, w.same s, e, fun H2 s2 => q H2 (s.trans s2)⟩⟩
      · cases e
    unfold mT at h
    split at h
    · rename_i he
      cases he
      simp only [Bool.and_eq_true] at h
      exact pwWeak (pw_or (pt_ok a C _ h.1) (pw_or1 (pt_ok b C _ h.2))) red
    · rename_i he
      cases he
      simp only [Bool.and_eq_true] at h
      exact pwWeak (pw_or (pt_ok a C _ h.1) (pw_ok b C _ _ _ h.2)) red
    · cases h
  | .not _, _, _, _, _, _, h => by unfold mT at h; cases h
  | .node o _, _, _, _, _, _, h => by
    unfold mT at h
    cases o <;> simp [opnds, nCall, nMeth1, nMeth12] at h
  | .chain .., _, _, _, _, _, h => by unfold mT at h; cases h
  | .var _, _, _, _, _, _, h => by unfold mT at h; cases h
  | .lit _, _, _, _, _, _, h => by unfold mT at h; cases h
  | .glob _, _, _, _, _, _, h => by unfold mT at h; cases h
  | .ite _ _ _, _, _, _, _, _, h => by unfold mT at h; cases h
  | .comp .., _, _, _, _, _, h => by unfold mT at h; cases h
  | .call _ _, _, _, _, _, _, h => by unfold mT at h; cases h
  | .tk _, _, _, _, _, _, h => by unfold mT at h; cases h
  | .sh _, _, _, _, _, _, h => by unfold mT at h; cases h
  | .fz _, _, _, _, _, _, h => by unfold mT at h; cases h
  | .no, _, _, _, _, _, h => by unfold mT at h; cases h
  | .dct _ _, _, _, _, _, _, h => by unfold mT at h; cases h
  | .mkE _ _, _, _, _, _, _, h => by unfold mT at h; cases h
  | .strE _ _, _, _, _, _, _, h => by unfold mT at h; cases h
  | .orv _ _, _, _, _, _, _, h => by unfold mT at h; cases h
end
end
end VL

/-! VL10: who owns what; steps. -/
namespace VL
open PySem PySem.Spec PyProof.Rows L2

abbrev Fps := Nat → List Addr
def inF (F : Fps) (a : Addr) : Prop := ∃ i, a ∈ F i
/-- the slots hold the data, each its own parts -/
structure ER (K : KW) (H : Hp) (ρ : Rho) (σ : L2.St) (F : Fps) : Prop where
  len : ρ.length = σ.length
  at_ : ∀ (i : Nat) (d : D), ρ[i]? = some (some d) → ∃ v, σ[i]? = some (some v) ∧ Rep K H d v (F i)
  no : ∀ i : Nat, (∀ d, ρ[i]? ≠ some (some d)) → F i = []
  dj : ∀ i j : Nat, i ≠ j → ∀ a ∈ F i, a ∉ F j
/-- a step: what is changed was owned; what is owned was owned, or is new -/
structure Stp (F : Fps) (H : Hp) (F' : Fps) (H' : Hp) : Prop where
  frm : Frm (inF F) H H'
  old : ∀ a, inF F' a → inF F a ∨ H a = none
/-- parts that are no slot's -/
structure Own (F : Fps) (H : Hp) (F' : Fps) (f : List Addr) : Prop where
  out : ∀ a ∈ f, ¬ inF F' a
  old : ∀ a ∈ f, inF F a ∨ H a = none
section
variable {K : KW} {H H' H1 H2 : Hp} {ρ : Rho} {σ : L2.St} {F F' F1 F2 : Fps}
theorem ER.some_of (w : ER K H ρ σ F) {i : Nat} {a : Addr} (h : a ∈ F i) : ∃ d v, ρ[i]? = some (some d) ∧ σ[i]? = some (some v) ∧ Rep K H d v (F i) := by
  cases e : ρ[i]? with
  | none => rw [w.no i (fun d q => by rw [e] at q; cases q)] at h; cases h
  | some o =>
    cases o with
    | none => rw [w.no i (fun d q => by rw [e] at q; cases q)] at h; cases h
    | some d =>
      obtain ⟨v, a1, a2⟩ := w.at_ i d e
      exact ⟨d, v, rfl, a1, a2⟩
theorem ER.own (w : ER K H ρ σ F) : OwnW (inF F) H := fun a ⟨i, h⟩ => by
  obtain ⟨d, v, _, _, r⟩ := w.some_of h
  exact r.own_ok.1 a h
theorem ER.there (w : ER K H ρ σ F) {a : Addr} (h : inF F a) : H a ≠ none := fun e => by
  obtain ⟨o, q, _⟩ := w.own a h
  rw [e] at q; cases q
theorem ER.wr (w : ER K H ρ σ F) : WR K H ρ σ := ⟨w.len, fun i d e => let ⟨v, a, r⟩ := w.at_ i d e; ⟨v, a, F i, r⟩⟩
theorem ER.nodup (w : ER K H ρ σ F) (i : Nat) : (F i).Nodup := by
  cases e : F i with
  | nil => exact List.nodup_nil
  | cons a l =>
    have h : a ∈ F i := by rw [e]; exact List.mem_cons_self
    obtain ⟨d, v, _, _, r⟩ := w.some_of h
    rw [← e]
    exact r.own_ok.2
theorem Stp.refl : Stp F H F H := ⟨Frm.refl _ _, fun _ h => .inl h⟩
theorem Stp.trans (a : Stp F H F1 H1) (b : Stp F1 H1 F2 H2) : Stp F H F2 H2 := by
  have back : ∀ x, H1 x = none → H x = none ∨ inF F x := fun x h => by
    cases e : H x with
    | none => exact .inl rfl
    | some o =>
      refine .inr ?_
      exact Classical.byContradiction fun n => by
        rw [a.frm x o e n] at h; cases h
  refine ⟨a.frm.trans b.frm a.old, fun x h => ?_⟩
  rcases b.old x h with h | h
  · exact a.old x h
  · exact (back x h).symm
theorem Stp.none_back (a : Stp F H F1 H1) {x : Addr} (h : H1 x = none) : inF F x ∨ H x = none := by
  cases e : H x with
  | none => exact .inr rfl
  | some o =>
    refine .inl ?_
    exact Classical.byContradiction fun n => by
      rw [a.frm x o e n] at h; cases h
theorem Stp.same (s : Same H H') : Stp F H F H' := ⟨same_frm s, fun _ h => .inl h⟩
theorem ER.same (w : ER K H ρ σ F) (s : Same H H') : ER K H' ρ σ F := ⟨w.len, fun i d e => let ⟨v, a, r⟩ := w.at_ i d e; ⟨v, a, r.same s⟩, w.no, w.dj⟩
/-- what is owned elsewhere stays through a step -/
theorem Rep.stp {d : D} {v : V} {f : List Addr} (r : Rep K H d v f) (w : ER K H ρ σ F) (s : Stp F H F' H') (h : ∀ a ∈ f, ¬ inF F a) : Rep K H' d v f := r.frm s.frm w.own h
theorem Reps.stp {d : List D} {v : List V} {f : List Addr} (r : Reps K H d v f) (w : ER K H ρ σ F) (s : Stp F H F' H') (h : ∀ a ∈ f, ¬ inF F a) : Reps K H' d v f := r.frm s.frm w.own h
theorem out_stp {f : List Addr} (s : Stp F H F' H') (th : ∀ a ∈ f, H a ≠ none) (h : ∀ a ∈ f, ¬ inF F a) : ∀ a ∈ f, ¬ inF F' a := fun a ha q => by
  rcases s.old a q with z | z
  · exact h a ha z
  · exact th a ha z
theorem Rep.there {d : D} {v : V} {f : List Addr} (r : Rep K H d v f) : ∀ a ∈ f, H a ≠ none := fun a h e => by
  obtain ⟨o, q, _⟩ := r.own_ok.1 a h
  rw [e] at q; cases q
theorem Reps.there {d : List D} {v : List V} {f : List Addr} (r : Reps K H d v f) : ∀ a ∈ f, H a ≠ none := fun a h e => by
  obtain ⟨o, q, _⟩ := r.own_ok.1 a h
  rw [e] at q; cases q
def setF (F : Fps) (i : Nat) (f : List Addr) : Fps := fun j => if j = i then f else F j
theorem setF_same {i : Nat} {f : List Addr} : setF F i f i = f := by simp [setF]
theorem setF_ne {i j : Nat} {f : List Addr} (h : j ≠ i) : setF F i f j = F j := by simp [setF, h]
theorem inF_setF {i : Nat} {f : List Addr} {a : Addr} (h : inF (setF F i f) a) : a ∈ f ∨ inF F a := by
  obtain ⟨j, h⟩ := h
  by_cases e : j = i
  · subst e; rw [setF_same] at h; exact .inl h
  · rw [setF_ne e] at h; exact .inr ⟨j, h⟩
/-- a slot takes something that is no other's -/
theorem ER.set (w : ER K H ρ σ F) {i : Nat} {d : D} {v : V} {f : List Addr} (hi : i < ρ.length) (r : Rep K H d v f) (o : ∀ a ∈ f, ∀ j, j ≠ i → a ∉ F j) : ER K H (ρ.set i (some d)) (σ.set i (some v)) (setF F i f) where
  len := by rw [List.length_set, List.length_set]; exact w.len
  at_ := fun j d' e => by
    by_cases hj : i = j
    · subst hj
      rw [List.getElem?_set_self hi] at e
      cases e
      exact ⟨v, List.getElem?_set_self (by rw [← w.len]; exact hi), by rw [setF_same]; exact r⟩
    · rw [List.getElem?_set_ne hj] at e ⊢
      obtain ⟨v', a, b⟩ := w.at_ j d' e
      exact ⟨v', a, by rw [setF_ne (Ne.symm hj)]; exact b⟩
  no := fun j h => by
    by_cases hj : i = j
    · subst hj
      exact absurd (List.getElem?_set_self hi) (h d)
    · rw [setF_ne (Ne.symm hj)]
      exact w.no j fun d' e => h d' (by rw [List.getElem?_set_ne hj]; exact e)
  dj := fun j k hjk a ha hb => by
    by_cases hj : j = i
    · subst hj
      rw [setF_same] at ha
      rw [setF_ne (Ne.symm hjk)] at hb
      exact o a ha k (Ne.symm hjk) hb
    · rw [setF_ne hj] at ha
      by_cases hk : k = i
      · subst hk
        rw [setF_same] at hb
        exact o a hb j hj ha
      · rw [setF_ne hk] at hb
        exact w.dj j k hjk a ha hb
/-- a slot's data anew, its value the same -/
theorem ER.put (w : ER K H ρ σ F) {i : Nat} {d : D} {v : V} {f : List Addr} (hi : i < ρ.length) (hv : σ[i]? = some (some v)) (r : Rep K H d v f) (o : ∀ a ∈ f, ∀ j, j ≠ i → a ∉ F j) : ER K H (ρ.set i (some d)) σ (setF F i f) := by
  have := w.set hi r o
  have e : σ.set i (some v) = σ := by
    apply List.ext_getElem?
    intro j
    by_cases hj : i = j
    · subst hj; rw [List.getElem?_set_self (by rw [← w.len]; exact hi), hv]
    · rw [List.getElem?_set_ne hj]
  rw [e] at this
  exact this
/-- a slot is emptied -/
theorem ER.drop (w : ER K H ρ σ F) (i : Nat) : ER K H (ρ.set i none) σ (setF F i []) where
  len := by rw [List.length_set]; exact w.len
  at_ := fun j d' e => by
    by_cases hj : i = j
    · subst hj
      by_cases hi : i < ρ.length
      · rw [List.getElem?_set_self hi] at e; cases e
      · rw [List.getElem?_eq_none (by simpa using hi)] at e; cases e
    · rw [List.getElem?_set_ne hj] at e
      obtain ⟨v', a, b⟩ := w.at_ j d' e
      exact ⟨v', a, by rw [setF_ne (Ne.symm hj)]; exact b⟩
  no := fun j h => by
    by_cases hj : i = j
    · subst hj; exact setF_same
    · rw [setF_ne (Ne.symm hj)]
      exact w.no j fun d' e => h d' (by rw [List.getElem?_set_ne hj]; exact e)
  dj := fun j k hjk a ha hb => by
    by_cases hj : j = i
    · subst hj; rw [setF_same] at ha; cases ha
    · rw [setF_ne hj] at ha
      by_cases hk : k = i
      · subst hk; rw [setF_same] at hb; cases hb
      · rw [setF_ne hk] at hb
        exact w.dj j k hjk a ha hb
end

/-! ### what is shared is frozen -/
mutual
def D.fz : D → D
  | .tup xs => .tup (fzL xs)
  | .lst _ xs => .lst false (fzL xs)
  | .dic _ ks vs => .dic false (fzL ks) (fzL vs)
  | .obj _ c fs vs => .obj false c fs (fzL vs)
  | .dks ks vs => .dks ks (fzL vs)
  | .non => .non
  | .bl b => .bl b
  | .int b => .int b
  | .str b => .str b
  | .exc c f x => .exc c f x
  | .cls a b c d => .cls a b c d
def fzL : List D → List D
  | [] => []
  | x :: xs => x.fz :: fzL xs
end
mutual
theorem fz_imm : ∀ d : D, d.fz.imm = true
  | .non => rfl
  | .bl _ => rfl
  | .int _ => rfl
  | .str _ => rfl
  | .tup xs => by simp only [D.fz, D.imm]; exact fzL_imm xs
  | .lst _ xs => by simp only [D.fz, D.imm, Bool.not_false, Bool.true_and]; exact fzL_imm xs
  | .exc _ _ _ => rfl
  | .cls _ _ _ _ => rfl
  | .dic _ ks vs => by simp only [D.fz, D.imm, Bool.not_false, Bool.true_and, fzL_imm ks, fzL_imm vs]
  | .dks ks vs => by simp only [D.fz, D.imm]; exact fzL_imm vs
  | .obj _ _ _ vs => by simp only [D.fz, D.imm, Bool.not_false, Bool.true_and]; exact fzL_imm vs
theorem fzL_imm : ∀ ds : List D, immL (fzL ds) = true
  | [] => rfl
  | x :: xs => by simp only [fzL, immL, fz_imm x, fzL_imm xs, Bool.and_self]
end
mutual
theorem fz_of_imm : ∀ d : D, d.imm = true → d.fz = d
  | .non, _ => rfl
  | .bl _, _ => rfl
  | .int _, _ => rfl
  | .str _, _ => rfl
  | .tup xs, h => by
    simp only [D.imm] at h
    simp only [D.fz, fzL_of_imm xs h]
  | .lst o xs, h => by
    simp only [D.imm, Bool.and_eq_true, Bool.not_eq_true'] at h
    simp only [D.fz, fzL_of_imm xs h.2, h.1]
  | .exc _ _ _, _ => rfl
  | .cls _ _ _ _, _ => rfl
  | .dic o ks vs, h => by
    simp only [D.imm, Bool.and_eq_true, Bool.not_eq_true'] at h
    simp only [D.fz, fzL_of_imm ks h.2.1, fzL_of_imm vs h.2.2, h.1]
  | .dks ks vs, h => by
    simp only [D.imm] at h
    simp only [D.fz, fzL_of_imm vs h]
  | .obj o _ _ vs, h => by
    simp only [D.imm, Bool.and_eq_true, Bool.not_eq_true'] at h
    simp only [D.fz, fzL_of_imm vs h.2, h.1]
theorem fzL_of_imm : ∀ ds : List D, immL ds = true → fzL ds = ds
  | [], _ => rfl
  | x :: xs, h => by
    simp only [immL, Bool.and_eq_true] at h
    simp only [fzL, fz_of_imm x h.1, fzL_of_imm xs h.2]
end
-- a key stays itself
mutual
theorem keyOf_imm : ∀ {d : D} {k : NestedKey}, keyOf d = some k → d.imm = true
  | .non, _, _ => rfl
  | .int _, _, _ => rfl
  | .str _, _, _ => rfl
  | .tup xs, _, h => by
    simp only [keyOf, Option.map_eq_some_iff] at h
    obtain ⟨ks, h, _⟩ := h
    simp only [D.imm]
    exact keysOf_imm h
  | .bl _, _, h => by simp [keyOf] at h
  | .lst _ _, _, h => by simp [keyOf] at h
  | .exc _ _ _, _, h => by simp [keyOf] at h
  | .cls _ _ _ _, _, h => by simp [keyOf] at h
  | .dic _ _ _, _, h => by simp [keyOf] at h
  | .dks _ _, _, h => by simp [keyOf] at h
  | .obj _ _ _ _, _, h => by simp [keyOf] at h
theorem keysOf_imm : ∀ {ds : List D} {ks : List NestedKey}, keysOf ds = some ks → immL ds = true
  | [], _, _ => rfl
  | x :: xs, _, h => by
    unfold keysOf at h
    split at h
    · rename_i k e
      simp only [Option.map_eq_some_iff] at h
      obtain ⟨ks, h, _⟩ := h
      simp only [immL, keyOf_imm e, keysOf_imm h, Bool.and_self]
    · cases h
end
theorem keyT_keyOf {d : D} {k : NestedKey} (h : keyT d = some k) : keyOf d = some k := by
  unfold keyT at h
  split at h
  · simp only [Option.bind_eq_some_iff] at h
    obtain ⟨ks, h1, h2⟩ := h
    split at h2
    · cases h2
      simp only [keyOf, h1, Option.map_some]
    · cases h2
  · cases h
theorem KeysR.imm : ∀ {ks : List D} {kvs : List (NestedKey × Addr × V)}, KeysR ks kvs → immL ks = true
  | [], _, _ => rfl
  | k :: ks, [], h => by simp [KeysR] at h
  | k :: ks, p :: kvs, h => by
    simp only [KeysR, List.map_cons, List.cons.injEq] at h
    simp only [immL, keyOf_imm (keyT_keyOf h.1), KeysR.imm (kvs := kvs) h.2, Bool.and_self]
/-- what may be locked -/
def Lk (a : Addr) (u : HO) : Prop := Mut (some u) ∧ ¬ Fixed a u
/-- all of f is locked -/
structure Frz (f : List Addr) (H H' : Hp) : Prop where
  out : ∀ a, a ∉ f → H' a = H a
  inn : ∀ a ∈ f, ∀ u, H a = some u → ∃ o, H' a = some (.frz o u)
section
variable {X : Cx} {pins : List (Addr × Obj)} {σ : L2.St} {s : Shared}
theorem lock_all : ∀ (f : List Addr) {H : Hp}, f.Nodup → (∀ a ∈ f, ∃ u, H a = some u ∧ Lk a u) → Inv X pins σ H s → ∃ H', Frz f H H' ∧ Inv X pins σ H' s
  | [], H, _, _, I => ⟨H, ⟨fun _ _ => rfl, fun _ h => nomatch h⟩, I⟩
  | a :: f, H, nd, ho, I => by
    obtain ⟨na, nd'⟩ := List.nodup_cons.mp nd
    obtain ⟨u0, ha, lk⟩ := ho a List.mem_cons_self
    obtain ⟨o, I1⟩ := I.lock ha lk.1
    have ho1 : ∀ b ∈ f, ∃ u, upd H a (.frz o u0) b = some u ∧ Lk b u := fun b hb => by
      have e : b ≠ a := fun z => na (z ▸ hb)
      rw [upd_ne e]
      exact ho b (List.mem_cons_of_mem _ hb)
    obtain ⟨H', z, I2⟩ := lock_all f nd' ho1 I1
    refine ⟨H', ⟨fun b hb => ?_, fun b hb u hu => ?_⟩, I2⟩
    · rw [z.out b fun q => hb (List.mem_cons_of_mem _ q), upd_ne fun q => hb (by rw [q]; exact List.mem_cons_self)]
    · by_cases e : b = a
      · subst e
        rw [ha] at hu; cases hu
        exact ⟨o, by rw [z.out b na, upd_same]⟩
      · obtain ⟨o', q⟩ := z.inn b ((List.mem_cons.mp hb).resolve_left e) u (by rw [upd_ne e]; exact hu)
        exact ⟨o', q⟩
end
section
variable {K : KW} {H H' : Hp} {f : List Addr}
-- what is owned may be locked
mutual
theorem Rep.lists : ∀ {d : D} {v : V} {f : List Addr}, Rep K H d v f → ∀ a ∈ f, ∃ u, H a = some u ∧ Lk a u
  | _, _, _, .non => fun _ h => nomatch h
  | _, _, _, .bl _ => fun _ h => nomatch h
  | _, _, _, .int _ => fun _ h => nomatch h
  | _, _, _, .str _ _ => fun _ h => nomatch h
  | _, _, _, .tup _ r => r.lists
  | _, _, _, .own e r _ => fun b hb => by
    rcases List.mem_cons.mp hb with rfl | hb
    · exact ⟨_, e, trivial, id⟩
    · exact r.lists b hb
  | _, _, _, .frz _ _ => fun _ h => nomatch h
  | _, _, _, .exc0 _ _ _ => fun _ h => nomatch h
  | _, _, _, .exc1 _ _ _ _ _ _ _ _ => fun _ h => nomatch h
  | _, _, _, .cls _ => fun _ h => nomatch h
  | _, _, _, .dicO e _ _ r _ => fun b hb => by
    rcases List.mem_cons.mp hb with rfl | hb
    · exact ⟨_, e, trivial, dk_free⟩
    · exact r.lists b hb
  | _, _, _, .dicF _ _ _ _ => fun _ h => nomatch h
  | _, _, _, .dks _ _ _ => fun _ h => nomatch h
  | _, _, _, .objO _ _ _ _ e r _ => fun b hb => by
    rcases List.mem_cons.mp hb with rfl | hb
    · exact ⟨_, e, trivial, id⟩
    · exact r.lists b hb
  | _, _, _, .objF _ _ _ _ _ _ => fun _ h => nomatch h
theorem Reps.lists : ∀ {d : List D} {v : List V} {f : List Addr}, Reps K H d v f → ∀ a ∈ f, ∃ u, H a = some u ∧ Lk a u
  | _, _, _, .nil => fun _ h => nomatch h
  | _, _, _, .cons r rs _ => fun b hb => by
    rcases List.mem_append.mp hb with hb | hb
    · exact r.lists b hb
    · exact rs.lists b hb
end
theorem Frz.fixed (z : Frz f H H') (hf : ∀ a ∈ f, ∃ u, H a = some u ∧ Lk a u) {a : Addr} {o : HO} (e : H a = some o) (p : Fixed a o) : H' a = some o := by
  rw [z.out a fun h => ?_]
  · exact e
  · obtain ⟨u, q, lk⟩ := hf a h
    rw [e] at q; cases q; exact absurd p lk.2
theorem Frz.sqt (z : Frz f H H') (hf : ∀ a ∈ f, ∃ u, H a = some u ∧ Lk a u) {a : Addr} {xs : List V} (q : SqT K H a xs) : SqT K H' a xs := by
  rcases q with (q | ⟨o, q⟩) | q
  · exact .inl (.inl (z.fixed hf q trivial))
  · exact .inl (.inr ⟨o, z.fixed hf q trivial⟩)
  · exact .inr q
theorem Frz.fzl (z : Frz f H H') (hf : ∀ a ∈ f, ∃ u, H a = some u ∧ Lk a u) {a : Addr} {xs : List V} (q : FzL K H a xs) : FzL K H' a xs := by
  rcases q with ⟨o, q⟩ | q
  · exact .inl ⟨o, z.fixed hf q trivial⟩
  · exact .inr q
theorem Frz.fzk (z : Frz f H H') (hf : ∀ a ∈ f, ∃ u, H a = some u ∧ Lk a u) {a : Addr} {xs : List (Str × V)} (q : FzK K H a xs) : FzK K H' a xs := by
  rcases q with ⟨o, q⟩ | q
  · exact .inl ⟨o, z.fixed hf q trivial⟩
  · exact .inr q
theorem Frz.fzd (z : Frz f H H') (hf : ∀ a ∈ f, ∃ u, H a = some u ∧ Lk a u) {a : Addr} {xs : List (NestedKey × Addr × V)} (q : FzD K H a xs) : FzD K H' a xs := let ⟨o, q⟩ := q; ⟨o, z.fixed hf q trivial⟩
theorem immRs {d : List D} (h : immL d = true) {v : List V} {g : List Addr} (r : Reps K H (fzL d) v g) : Reps K H d v g := by
  rw [fzL_of_imm d h] at r
  exact r
-- what is locked is shared
mutual
theorem Rep.lock (z : Frz f H H') (hf : ∀ a ∈ f, ∃ u, H a = some u ∧ Lk a u) : ∀ {d : D} {v : V} {g : List Addr}, Rep K H d v g → (∀ a ∈ g, a ∈ f) → Rep K H' d.fz v []
  | _, _, _, .non, _ => .non
  | _, _, _, .bl b, _ => .bl b
  | _, _, _, .int b, _ => .int b
  | _, _, _, .str b h, _ => .str b h
  | _, _, _, .tup q r, m => .tup (z.sqt hf q) (r.lock z hf m)
  | _, _, _, .own e r na, m => by
    obtain ⟨o, q⟩ := z.inn _ (m _ List.mem_cons_self) _ e
    exact .frz (.inl ⟨o, q⟩) (r.lock z hf fun b hb => m b (List.mem_cons_of_mem _ hb))
  | _, _, _, .frz q r, m => .frz (z.fzl hf q) (r.lock z hf fun _ h => nomatch h)
  | _, _, _, .dicO e k r r2 na, m => by
    obtain ⟨o, q⟩ := z.inn _ (m _ List.mem_cons_self) _ e
    simp only [D.fz]
    rw [fzL_of_imm _ k.imm]
    exact .dicF ⟨o, q⟩ k (immRs k.imm (r.lock z hf fun _ h => nomatch h)) (r2.lock z hf fun b hb => m b (List.mem_cons_of_mem _ hb))
  | _, _, _, .dicF q k r r2, m => by
    simp only [D.fz]
    rw [fzL_of_imm _ k.imm]
    exact .dicF (z.fzd hf q) k (immRs k.imm (r.lock z hf fun _ h => nomatch h)) (r2.lock z hf fun _ h => nomatch h)
  | _, _, _, .dks q k r, m => .dks (z.fzk hf q) k (r.lock z hf fun _ h => nomatch h)
  | _, _, _, .objO c n l l2 e r na, m => by
    obtain ⟨o, q⟩ := z.inn _ (m _ List.mem_cons_self) _ e
    exact .objF c n l l2 ⟨o, q⟩ (r.lock z hf fun b hb => m b (List.mem_cons_of_mem _ hb))
  | _, _, _, .objF c n l l2 e r, m => .objF c n l l2 (let ⟨o, q⟩ := e; ⟨o, z.fixed hf q trivial⟩) (r.lock z hf fun _ h => nomatch h)
  | _, _, _, .exc0 c x e, m => .exc0 c x (z.fixed hf e x.fixed)
  | _, _, _, .exc1 (x := x) c n g xe e e' i r, m => .exc1 c n g xe (z.fixed hf e xe.fixed) (z.fixed hf e' trivial) i (by
    have q := r.lock z hf fun _ h => nomatch h
    rw [fz_of_imm x i] at q
    exact q)
  | _, _, _, .cls c, m => .cls c
theorem Reps.lock (z : Frz f H H') (hf : ∀ a ∈ f, ∃ u, H a = some u ∧ Lk a u) : ∀ {d : List D} {v : List V} {g : List Addr}, Reps K H d v g → (∀ a ∈ g, a ∈ f) → Reps K H' (fzL d) v []
  | _, _, _, .nil, _ => .nil
  | _, _, _, .cons r rs n, m => Reps.cons (f := []) (g := []) (r.lock z hf fun b hb => m b (List.mem_append_left _ hb)) (rs.lock z hf fun b hb => m b (List.mem_append_right _ hb)) nilF
end
end
end VL

/-! VL11: expressions with effect: what they give. -/
namespace VL
open PySem PySem.Spec PyProof.Rows L2

/-- an exception of an own class: the class's name, its one field -/
structure Xn where
  cls : String
  arg : Option (String × D)
inductive RX (α : Type) where
  | ok (a : α) (ρ : Rho)
  | exc (x : Xn) (ρ : Rho)
  | bad
/-- what a def gives: its value, what became of the arguments -/
abbrev FnR := List D → RX D
inductive Opd where
  | b (i : Nat)
  | o (d : D)
def Opd.get (ρ : Rho) : Opd → Option D
  | .b i => slotOf ρ i
  | .o d => some d
def getAll (ρ : Rho) : List Opd → Option (List D)
  | [] => some []
  | o :: os => match o.get ρ with
    | some d => (getAll ρ os).map (d :: ·)
    | none => none
/-- a slot whose data has parts of its own -/
def hasOwn (ρ : Rho) (i : Nat) : Bool := match slotOf ρ i with
  | some d => !d.imm
  | none => false
/-- the slots that are lent and have parts of their own -/
def lent (ρ : Rho) : List Opd → List Nat
  | [] => []
  | .b i :: os => if hasOwn ρ i = true then i :: lent ρ os else lent ρ os
  | .o _ :: os => lent ρ os
def noDup : List Nat → Bool
  | [] => true
  | i :: is => !is.contains i && noDup is
/-- where a slot was lent -/
def posOf (ρ : Rho) (i : Nat) : List Opd → Option Nat
  | [] => none
  | .b k :: os => if k = i ∧ hasOwn ρ k = true then some 0 else (posOf ρ i os).map (· + 1)
  | .o _ :: os => (posOf ρ i os).map (· + 1)
/-- what a call gives back to the slots that were lent -/
def back (ρ : Rho) (os : List Opd) (xs : Rho) : Rho := ρ.mapIdx fun i x => match posOf ρ i os with
  | some j => (xs[j]?).join
  | none => x
/-- what it gives has no parts of its own, as far as it is written -/
def flatE : Ex → Bool
  | .node .lst _ => false
  | .node (.bin _) cs => flatEs cs
  | .node .list _ => false
  | .node .sorted _ => false
  | .node .dictL _ => false
  | .node .split _ => false
  | .node .tup cs => flatEs cs
  | .comp .. => false
  | .ite _ a b => flatE a && flatE b
  | .orv a b => flatE a && flatE b
  | .dct .. => false
  | _ => true
where flatEs : List Ex → Bool
  | [] => true
  | c :: cs => flatE c && flatEs cs
def isDisp : Op → Bool
  | .lst => true
  | .tup => true
  | _ => false
mutual
def pureC : Ex → Bool
  | .lit _ => true
  | .var _ => true
  | .glob _ => true
  | .node o es => pureCs es && (!isDisp o || flatE.flatEs es)
  | .and a b => pureC a && pureC b
  | .or a b => pureC a && pureC b
  | .not a => pureC a
  | .ite t a b => pureC t && pureC a && pureC b
  | .chain _ _ a b c => pureC a && pureC b && pureC c
  | .comp _ elt _ _ ss ifs => pureC elt && flatE elt && pureCs ss && pureCs ifs
  | .call _ _ => false
  | .tk _ => false
  | .sh _ => false
  | .fz _ => false
  | .no => true
  | .dct ks vs => pureCs ks && pureCs vs
  | .mkE _ _ => false
  | .strE _ _ => false
  | .orv a b => pureC a && pureC b
def pureCs : List Ex → Bool
  | [] => true
  | e :: es => pureC e && pureCs es
end
def mergeR (own : List Nat) (ρ ρ' : Rho) : Rho := (List.range ρ.length).map fun i => if own.contains i then (ρ[i]?).join else (ρ'[i]?).join
/-- a comprehension's turns: the state goes on -/
def compX (step : D → Rho → RX (Option D)) : List D → List D → Rho → RX (List D)
  | acc, [], ρ => .ok acc ρ
  | acc, x :: xs, ρ => match step x ρ with
    | .ok none ρ' => compX step acc xs ρ'
    | .ok (some y) ρ' => compX step (acc ++ [y]) xs ρ'
    | .exc _ _ => .bad
    | .bad => .bad
structure Prg where
  G : Str → Option D
  fns : Str → Option FnR
/-- what an own __init__ may keep -/
def iniD : D → Bool
  | .int i => iniI i
  | .tup [.int i, .int j] => iniI i && iniI j
  | _ => false
/-- a class whose own __init__ keeps a number, a pair of numbers -/
def iniC (P : Prg) (x : Str) : Option (String × String) := match P.G x, P.G "TurnError" with
  | some (.cls c mk _ _), some (.cls ct _ _ _) => if mk ≠ "" ∧ mk ≠ "=" ∧ ct = "TurnError" then some (c, mk) else none
  | _, _ => none
/-- one behind the other -/
def RX.th {α β : Type} : RX α → (α → Rho → RX β) → RX β
  | .ok a ρ, f => f a ρ
  | .exc x ρ, _ => .exc x ρ
  | .bad, _ => .bad
@[simp] theorem th_ok {α β : Type} {a : α} {ρ : Rho} {f : α → Rho → RX β} : (RX.ok a ρ).th f = f a ρ := rfl
@[simp] theorem th_exc {α β : Type} {x : Xn} {ρ : Rho} {f : α → Rho → RX β} : (RX.exc x ρ : RX α).th f = .exc x ρ := rfl
@[simp] theorem th_bad {α β : Type} {f : α → Rho → RX β} : (RX.bad : RX α).th f = .bad := rfl
/-- an option's value, or bad -/
def optX {α β : Type} : Option α → (α → RX β) → RX β
  | some a, f => f a
  | none, _ => .bad
@[simp] theorem optX_some {α β : Type} {a : α} {f : α → RX β} : optX (some a) f = f a := rfl
@[simp] theorem optX_none {α β : Type} {f : α → RX β} : optX none f = .bad := rfl
def onB {β : Type} : D → RX β → RX β → RX β
  | .bl true, a, _ => a
  | .bl false, _, b => b
  | _, _, _ => .bad
@[simp] theorem onB_t {β : Type} {a b : RX β} : onB (.bl true) a b = a := rfl
@[simp] theorem onB_f {β : Type} {a b : RX β} : onB (.bl false) a b = b := rfl
def notX : D → Rho → RX D
  | .bl b, ρ => .ok (.bl (!b)) ρ
  | _, _ => .bad
/-- a display of what has come -/
def dispX (o : Op) (os : List Opd) (ρ : Rho) : RX D := optX (getAll ρ os) fun ds =>
  if lent ρ os = [] ∧ ds.length ≤ LIM then .ok (match o with
    | .lst => .lst true ds
    | _ => .tup ds) ρ else .bad
def appX (o : Op) (os : List Opd) (ρ : Rho) : RX D := optX ((getAll ρ os).bind (applyOp o)) fun d => if (d.imm || o.new) = true then .ok d ρ else .bad
def callX (run : FnR) (os : List Opd) (ρ : Rho) : RX D := optX (getAll ρ os) fun ds =>
  if noDup (lent ρ os) = true then match run ds with
    | .ok d xs => .ok d (back ρ os xs)
    | .exc x xs => .exc x (back ρ os xs)
    | .bad => .bad
  else .bad
def takeX (ρ : Rho) (i : Nat) (d : D) : RX D := if d.imm = true then .ok d ρ else .ok d (ρ.set i none)
def shareX (ρ : Rho) (i : Nat) (d : D) : RX D := if d.imm = true then .ok d ρ else .ok d.fz (ρ.set i (some d.fz))
/-- without effect -/
def pureX (P : Prg) (c : Ex) (ρ : Rho) : RX D := optX (evP P.G c ρ) fun d => if (d.imm || det c) = true then .ok d ρ else .bad
mutual
def evX (P : Prg) : Ex → Rho → RX D
  | .lit d, ρ => pureX P (.lit d) ρ
  | .var i, ρ => pureX P (.var i) ρ
  | .glob x, ρ => pureX P (.glob x) ρ
  | .chain o o' a b c, ρ => pureX P (.chain o o' a b c) ρ
  | .tk i, ρ => optX (slotOf ρ i) (takeX ρ i)
  | .sh i, ρ => optX (slotOf ρ i) (shareX ρ i)
  | .fz a, ρ => (evX P a ρ).th fun d ρ' => .ok d.fz ρ'
  | .no, ρ => pureX P .no ρ
  | .dct ks vs, ρ => pureX P (.dct ks vs) ρ
  | .mkE x a, ρ => match iniC P x with
    | some (c, mk) => (evX P a ρ).th fun d ρ1 => if iniD d = true then .ok (.exc c mk d) ρ1 else .bad
    | none => .bad
  | .strE x a, ρ => match P.G x with
    | some (.cls _ "=" _ _) => (evX P a ρ).th fun d ρ1 => match d with
      | .str s => .ok (.str s) ρ1
      | _ => .bad
    | _ => .bad
  | .orv a b, ρ => if (pureC a && pureC b) = true then pureX P (.orv a b) ρ else .bad
  | .node o cs, ρ => if (pureCs cs && (!isDisp o || flatE.flatEs cs)) = true then pureX P (.node o cs) ρ
    else (evOpsC P o cs ρ).th fun os ρ' => if isDisp o = true then dispX o os ρ' else appX o os ρ'
  | .and a b, ρ => if (pureC a && pureC b) = true then pureX P (.and a b) ρ else (evX P a ρ).th fun d ρ' => onB d (evX P b ρ') (.ok (.bl false) ρ')
  | .or a b, ρ => if (pureC a && pureC b) = true then pureX P (.or a b) ρ else (evX P a ρ).th fun d ρ' => onB d (.ok (.bl true) ρ') (evX P b ρ')
  | .not a, ρ => if pureC a = true then pureX P (.not a) ρ else (evX P a ρ).th notX
  | .ite t a b, ρ => if (pureC t && pureC a && pureC b) = true then pureX P (.ite t a b) ρ else (evX P t ρ).th fun d ρ' => onB d (evX P a ρ') (evX P b ρ')
  | .comp own elt p k ss ifs, ρ => if (pureC elt && flatE elt && pureCs ss && pureCs ifs) = true then pureX P (.comp own elt p k ss ifs) ρ
    else (evOps P ss ρ).th fun os ρ0 => optX (getAll ρ0 os) fun ds => if lent ρ0 os = [] then optX (srcItems k ds) fun items => if items.length ≤ LIM ∧ immL items = true then
      (compX (fun d ρ1 => optX (bindP p d ρ1) fun ρ2 => (evXt P ifs ρ2).th fun b ρ3 =>
        if b = true then (evX P elt ρ3).th fun y ρ4 => .ok (some y) (wipeR ρ4 (own.map (·.2))) else .ok none (wipeR ρ3 (own.map (·.2)))) [] items (wipeR ρ0 (own.map (·.2)))).th fun ys ρ' =>
          .ok (.lst true ys) (mergeR (own.map (·.2)) ρ0 ρ')
      else .bad else .bad
  | .call f es, ρ => optX (P.fns f) fun run => (evOps P es ρ).th fun os ρ' => callX run os ρ'
/-- the operands; the first is what a method wants -/
def evOpsC (P : Prg) (o : Op) : List Ex → Rho → RX (List Opd)
  | [], ρ => .ok [] ρ
  | .var i :: cs, ρ => optX (slotOf ρ i) fun d => if okRecv o d = true then (evOps P cs ρ).th fun os ρ' => .ok (.b i :: os) ρ' else .bad
  | c :: cs, ρ => (evX P c ρ).th fun d ρ1 => if okRecv o d = true then (evOps P cs ρ1).th fun os ρ' => .ok (.o d :: os) ρ' else .bad
def evOps (P : Prg) : List Ex → Rho → RX (List Opd)
  | [], ρ => .ok [] ρ
  | .var i :: cs, ρ => optX (slotOf ρ i) fun _ => (evOps P cs ρ).th fun os ρ' => .ok (.b i :: os) ρ'
  | c :: cs, ρ => (evX P c ρ).th fun d ρ1 => (evOps P cs ρ1).th fun os ρ' => .ok (.o d :: os) ρ'
def evXt (P : Prg) : List Ex → Rho → RX Bool
  | [], ρ => .ok true ρ
  | c :: _, ρ => (evX P c ρ).th fun d ρ' => onB d (.ok true ρ') (.ok false ρ')
end
end VL

/-! VL12: expressions with effect: readings, operands, calls. -/
namespace VL
open PySem PySem.Spec PyProof.Rows L2

abbrev Xt := String → Option Addr
/-- how an exception of an own class lies -/
structure XRep (K : KW) (T : Xt) (H : Hp) (x : Xn) (cls : Value) (dx : Option Addr) : Prop where
  cls : ∃ C, XIs K x.cls C ∧ cls = .ref C ∧ ∀ f d, x.arg = some (f, d) → PySem.W.findIn K (.ref C) (Str.ofString f) = some none
  non : x.arg = none → dx = none
  one : ∀ f d, x.arg = some (f, d) → f ≠ "" ∧ d.imm = true ∧ ∃ a v, dx = some a ∧ H a = some (.xd [(Str.ofString f, v)]) ∧ Rep K H d v []
/-- an exception as a value -/
def Xn.toD (x : Xn) : D := match x.arg with
  | none => .exc x.cls "" .non
  | some (f, d) => .exc x.cls f d
/-- .. that is told of at a -/
theorem XRep.rep {K : KW} {T : Xt} {H : Hp} {x : Xn} {cls : Value} {dx : Option Addr} {a : Addr} (r : XRep K T H x cls dx) (na : H a = none) (xe : XcE cls dx a) : Rep K (upd H a (XcO cls dx a)) x.toD (.ref a) [] := by
  obtain ⟨C, ci, rfl, hn⟩ := r.cls
  have sm : Same H (upd H a (XcO (.ref C) dx a)) := same_upd na
  unfold Xn.toD
  cases e : x.arg with
  | none =>
    have := r.non e
    subst this
    exact .exc0 ci xe upd_same
  | some p =>
    obtain ⟨f, d⟩ := p
    obtain ⟨hf, im, b, v, rfl, hb, rv⟩ := r.one f d e
    exact .exc1 ci (hn f d e) hf xe upd_same (sm _ _ hb) im (rv.same sm)
/-- what is wanted behind a result -/
def GoalX (K : KW) (T : Xt) (σ : L2.St) (F : Fps) (H : Hp) (r : RX D) (Q : VK) (E : XK) : Prop :=
  match r with
  | .ok d ρ' => ∀ v H' F' f, Stp F H F' H' → ER K H' ρ' σ F' → Rep K H' d v f → Own F H F' f → Q v H'
  | .exc x ρ' => ∀ cls dx H' F', Stp F H F' H' → ER K H' ρ' σ F' → XRep K T H' x cls dx → E cls dx H'
  | .bad => False
/-- a def's promise -/
def FnSp (K : KW) (T : Xt) (run : FnR) : Sp := fun vs H Q E => ∃ ds F, ER K H (ds.map some) (vs.map some) F ∧ GoalX K T (vs.map some) F H (run ds) Q E
/-- a def as a caller sees it -/
def FnHas (X : Cx) (T : Xt) (k : Nat) (x : Str) (run : FnR) : Prop :=
  ∃ f fd ps, X.mg x = some (.ref f) ∧ PySem.W.keepIn X.kw (.ref f) = true ∧ FnOk X.prog X.w X.kw X.mg X.base (L2.CX X.prog X.w) k f fd ps (FnSp X.kw T run) ∧ Binds X.kw fd ps []
structure CokX (X : Cx) (P : Prg) (T : Xt) (k : Nat) (W : WX) : Prop extends CokG X P.G where
  room : Room k X.A
  k2 : 2 ≤ k
  fns : ∀ x run, P.fns x = some run → FnHas X T k x run
  tk : Takes X W
def tX (K : KW) (T : Xt) (P : Prg) (W : WX) (c : Ex) : TE := fun σ H Q => ∃ ρ F, ER K H ρ σ F ∧ GoalX K T σ F H (evX P c ρ) Q (fun cls dx H' => W cls dx σ H')
/-- what is wanted behind a test -/
def GoalT (K : KW) (T : Xt) (σ : L2.St) (F : Fps) (H : Hp) (r : RX D) (Q : Bool → Hp → Prop) (E : XK) : Prop :=
  match r with
  | .ok (.bl b) ρ' => ∀ H' F', Stp F H F' H' → ER K H' ρ' σ F' → Q b H'
  | .exc x ρ' => ∀ cls dx H' F', Stp F H F' H' → ER K H' ρ' σ F' → XRep K T H' x cls dx → E cls dx H'
  | _ => False
def tXT (K : KW) (T : Xt) (P : Prg) (W : WX) (c : Ex) : TT := fun σ H Q => ∃ ρ F, ER K H ρ σ F ∧ GoalT K T σ F H (evX P c ρ) Q (fun cls dx H' => W cls dx σ H')
def tOpd (K : KW) (T : Xt) (P : Prg) (W : WX) : Ex → TE
  | .var i => tVar i
  | c => tX K T P W c
section
variable {K : KW} {T : Xt} {P : Prg} {W : WX} {H H' : Hp} {ρ ρ' : Rho} {σ : L2.St} {F F' : Fps}
theorem GoalX.mono {r : RX D} {Q Q' : VK} {E : XK} (h : ∀ v H', Q v H' → Q' v H') (g : GoalX K T σ F H r Q E) : GoalX K T σ F H r Q' E := by
  cases r with
  | ok d ρ => exact fun v H' F' f s w r o => h v H' (g v H' F' f s w r o)
  | exc x ρ => exact g
  | bad => exact g
theorem tX_mono {c : Ex} : Mono (tX K T P W c) := fun σ H Q Q' h ⟨ρ, F, w, g⟩ => ⟨ρ, F, w, g.mono h⟩
theorem tOpd_mono {c : Ex} : Mono (tOpd K T P W c) := by
  cases c with
  | var i => exact fun σ H Q Q' h ⟨v, e, q⟩ => ⟨v, e, h v H q⟩
  | _ => exact tX_mono
/-- a later goal from an earlier place -/
theorem Own.trans {H1 : Hp} {F1 : Fps} {f : List Addr} (s : Stp F H F1 H1) (o : Own F1 H1 F' f) : Own F H F' f := ⟨o.out, fun a ha => by
  rcases o.old a ha with z | z
  · exact s.old a z
  · exact s.none_back z⟩
theorem GoalX.stp {H1 : Hp} {F1 : Fps} {r : RX D} {Q : VK} {E : XK} (s : Stp F H F1 H1) (g : GoalX K T σ F H r Q E) : GoalX K T σ F1 H1 r Q E := by
  cases r with
  | ok d ρ => exact fun v H' F' f s' w r o => g v H' F' f (s.trans s') w r (o.trans s)
  | exc x ρ => exact fun cls dx H' F' s' w xr => g cls dx H' F' (s.trans s') w xr
  | bad => exact g
/-- operands that have come: lent slots, things of one's own -/
inductive OpsR (K : KW) (H : Hp) (σ : L2.St) (F : Fps) : List Opd → List V → List Addr → Prop
  | nil : OpsR K H σ F [] [] []
  | b {i : Nat} {v : V} {os : List Opd} {vs : List V} {g : List Addr} : σ[i]? = some (some v) → OpsR K H σ F os vs g → OpsR K H σ F (.b i :: os) (v :: vs) g
  | o {d : D} {v : V} {f : List Addr} {os : List Opd} {vs : List V} {g : List Addr} : Rep K H d v f → (∀ a ∈ f, ¬ inF F a) → (∀ a ∈ f, a ∉ g) → OpsR K H σ F os vs g → OpsR K H σ F (.o d :: os) (v :: vs) (f ++ g)
theorem OpsR.out : ∀ {os : List Opd} {vs : List V} {g : List Addr}, OpsR K H σ F os vs g → ∀ a ∈ g, ¬ inF F a
  | _, _, _, .nil => nilF
  | _, _, _, .b _ r => r.out
  | _, _, _, .o _ h _ r => fun a ha => by
    rcases List.mem_append.mp ha with z | z
    · exact h a z
    · exact r.out a z
theorem OpsR.own_ok : ∀ {os : List Opd} {vs : List V} {g : List Addr}, OpsR K H σ F os vs g → OwnW (· ∈ g) H
  | _, _, _, .nil => fun a h => by cases h
  | _, _, _, .b _ r => r.own_ok
  | _, _, _, .o r0 h _ r => fun a ha => by
    rcases List.mem_append.mp ha with z | z
    · exact r0.own_ok.1 a z
    · exact r.own_ok a z
theorem OpsR.wl (w : ER K H ρ σ F) : ∀ {os : List Opd} {vs : List V} {g : List Addr} {ds : List D}, OpsR K H σ F os vs g → getAll ρ os = some ds → WL K H ds vs
  | _, _, _, _, .nil, e => by cases e; exact .nil
  | _, _, _, _, .b (i := i) hv r, e => by
    unfold getAll at e
    split at e
    · rename_i d hd
      simp only [Option.map_eq_some_iff] at e
      obtain ⟨ds', e2, rfl⟩ := e
      obtain ⟨v', hv', r'⟩ := w.at_ i d (slotOf_some hd)
      rw [hv] at hv'
      cases hv'
      exact .cons ⟨_, r'⟩ (OpsR.wl w r e2)
    · cases e
  | _, _, _, _, .o r _ _ rs, e => by
    simp only [getAll, Opd.get, Option.map_eq_some_iff] at e
    obtain ⟨ds', e2, rfl⟩ := e
    exact .cons ⟨_, r⟩ (OpsR.wl w rs e2)
/-- operands all of which are one's own, or have no parts -/
theorem OpsR.reps (w : ER K H ρ σ F) : ∀ {os : List Opd} {vs : List V} {g : List Addr} {ds : List D}, OpsR K H σ F os vs g → getAll ρ os = some ds → lent ρ os = [] → Reps K H ds vs g
  | _, _, _, _, .nil, e, _ => by cases e; exact .nil
  | _, _, _, _, .b (i := i) hv r, e, l => by
    unfold getAll at e
    split at e
    · rename_i d hd
      simp only [Option.map_eq_some_iff] at e
      obtain ⟨ds', e2, rfl⟩ := e
      have hd' : slotOf ρ i = some d := hd
      obtain ⟨v', hv', r'⟩ := w.at_ i d (slotOf_some hd)
      rw [hv] at hv'
      cases hv'
      simp only [lent, hasOwn, hd', Bool.not_eq_true'] at l
      split at l
      · cases l
      · rename_i im
        have im : d.imm = true := by simpa using im
        have := r'.imm_nil im
        rw [this] at r'
        exact Reps.cons (f := []) r' (OpsR.reps w r e2 l) nilF
    · cases e
  | _, _, _, _, .o r h n rs, e, l => by
    simp only [getAll, Opd.get, Option.map_eq_some_iff] at e
    obtain ⟨ds', e2, rfl⟩ := e
    exact .cons r (OpsR.reps w rs e2 (by simpa only [lent] using l)) n
theorem evOps_cons {c : Ex} {cs : List Ex} (h : ∀ i, c ≠ .var i) : evOps P (c :: cs) ρ = (evX P c ρ).th fun d ρ1 => (evOps P cs ρ1).th fun os ρ' => .ok (.o d :: os) ρ' := by
  cases c with
  | var i => exact absurd rfl (h i)
  | _ => simp only [evOps]
/-- what is wanted behind the operands -/
def GoalO (K : KW) (T : Xt) (σ : L2.St) (F : Fps) (H : Hp) (r : RX (List Opd)) (Q : List V → Hp → Prop) (E : XK) : Prop :=
  match r with
  | .ok os ρ' => ∀ vs H' F' g, Stp F H F' H' → ER K H' ρ' σ F' → OpsR K H' σ F' os vs g → (∀ a ∈ g, inF F a ∨ H a = none) → Q vs H'
  | .exc x ρ' => ∀ cls dx H' F', Stp F H F' H' → ER K H' ρ' σ F' → XRep K T H' x cls dx → E cls dx H'
  | .bad => False
/-- the first operand, at its time, and the others -/
theorem argsX : ∀ (cs : List Ex) {ρ : Rho} {H : Hp} {F : Fps} {Q : List V → Hp → Prop}, ER K H ρ σ F → GoalO K T σ F H (evOps P cs ρ) Q (fun cls dx H' => W cls dx σ H') → tL (cs.map (tOpd K T P W)) σ H Q
  | [], ρ, H, F, Q, w, g => g [] H F [] .refl w .nil nilF
  | c :: cs, ρ, H, F, Q, w, g => by
    by_cases hc : ∃ i, c = .var i
    · obtain ⟨i, rfl⟩ := hc
      simp only [evOps] at g
      cases hd : slotOf ρ i with
      | none => rw [hd] at g; exact g.elim
      | some d =>
      rw [hd] at g
      obtain ⟨v, hv, r⟩ := w.at_ i d (slotOf_some hd)
      refine ⟨v, hv, argsX cs w ?_⟩
      cases e : evOps P cs ρ with
      | ok os ρ' =>
        rw [e] at g
        exact fun vs H' F' fp s w' r' o => g (v :: vs) H' F' fp s w' (.b hv r') o
      | exc x ρ' => rw [e] at g; exact g
      | bad => rw [e] at g; exact g
    · have hc' : ∀ i, c ≠ .var i := fun i z => hc ⟨i, z⟩
      rw [evOps_cons hc'] at g
      have hT : tOpd K T P W c = tX K T P W c := by
        cases c with
        | var i => exact absurd rfl (hc' i)
        | _ => rfl
      show tOpd K T P W c σ H _
      rw [hT]
      refine ⟨ρ, F, w, ?_⟩
      cases e1 : evX P c ρ with
      | ok d ρ1 =>
        rw [e1] at g
        intro v H1 F1 f s1 w1 r1 o1
        refine argsX cs w1 ?_
        rw [th_ok] at g
        cases e2 : evOps P cs ρ1 with
        | ok os ρ' =>
          rw [e2] at g
          intro vs H' F' fp s' w' r' o'
          have th := r1.there
          refine g (v :: vs) H' F' (f ++ fp) (s1.trans s') w' (.o (r1.stp w1 s' o1.out) (out_stp s' th o1.out) (fun a ha hb => ?_) r') fun a ha => ?_
          · rcases o' a hb with z | z
            · exact o1.out a ha z
            · exact th a ha z
          · rcases List.mem_append.mp ha with z | z
            · exact o1.old a z
            · rcases o' a z with z | z
              · exact s1.old a z
              · exact s1.none_back z
        | exc x ρ' =>
          rw [e2] at g
          exact fun cls dx H' F' s' w' xr => g cls dx H' F' (s1.trans s') w' xr
        | bad => rw [e2] at g; exact g
      | exc x ρ' => rw [e1] at g; exact g
      | bad => rw [e1] at g; exact g.elim
theorem evOpsC_cons {o : Op} {c : Ex} {cs : List Ex} (h : ∀ i, c ≠ .var i) : evOpsC P o (c :: cs) ρ = (evX P c ρ).th fun d ρ1 => if okRecv o d = true then (evOps P cs ρ1).th fun os ρ' => .ok (.o d :: os) ρ' else .bad := by
  cases c with
  | var i => exact absurd rfl (h i)
  | _ => simp only [evOpsC]
/-- .. where the first one is a method's receiver -/
theorem argsXc {o : Op} (cs : List Ex) {Q : List V → Hp → Prop} (w : ER K H ρ σ F)
    (g : GoalO K T σ F H (evOpsC P o cs ρ) Q (fun cls dx H' => W cls dx σ H')) : tLc (Rcv K o) (cs.map (tOpd K T P W)) σ H Q := by
  cases cs with
  | nil => exact g [] H F [] .refl w .nil nilF
  | cons c cs =>
    by_cases hc : ∃ i, c = .var i
    · obtain ⟨i, rfl⟩ := hc
      simp only [evOpsC] at g
      cases hd' : slotOf ρ i with
      | none => rw [hd'] at g; exact g.elim
      | some d =>
      rw [hd', optX_some] at g
      by_cases hr : okRecv o d = true
      · rw [if_pos hr] at g
        obtain ⟨v, hv, r⟩ := w.at_ i d (slotOf_some hd')
        refine ⟨v, hv, ⟨d, ⟨_, r⟩, hr⟩, argsX cs w ?_⟩
        cases e : evOps P cs ρ with
        | ok os ρ' =>
          rw [e] at g
          exact fun vs H' F' fp s w' r' o => g (v :: vs) H' F' fp s w' (.b hv r') o
        | exc x ρ' => rw [e] at g; exact g
        | bad => rw [e] at g; exact g
      · rw [if_neg hr] at g; exact g.elim
    · have hc' : ∀ i, c ≠ .var i := fun i z => hc ⟨i, z⟩
      have hT : tOpd K T P W c = tX K T P W c := by
        cases c with
        | var i => exact absurd rfl (hc' i)
        | _ => rfl
      rw [evOpsC_cons hc'] at g
      show tOpd K T P W c σ H _
      rw [hT]
      refine ⟨ρ, F, w, ?_⟩
      cases e1 : evX P c ρ with
      | ok d ρ1 =>
        rw [e1] at g
        intro v H1 F1 f s1 w1 r1 o1
        rw [th_ok] at g
        by_cases hr : okRecv o d = true
        · rw [if_pos hr] at g
          refine ⟨⟨d, ⟨f, r1⟩, hr⟩, argsX cs w1 ?_⟩
          cases e2 : evOps P cs ρ1 with
          | ok os ρ' =>
            rw [e2] at g
            intro vs H' F' fp s' w' r' o'
            have th := r1.there
            refine g (v :: vs) H' F' (f ++ fp) (s1.trans s') w' (.o (r1.stp w1 s' o1.out) (out_stp s' th o1.out) (fun a ha hb => ?_) r') fun a ha => ?_
            · rcases o' a hb with z | z
              · exact o1.out a ha z
              · exact th a ha z
            · rcases List.mem_append.mp ha with z | z
              · exact o1.old a z
              · rcases o' a z with z | z
                · exact s1.old a z
                · exact s1.none_back z
          | exc x ρ' =>
            rw [e2] at g
            exact fun cls dx H' F' s' w' xr => g cls dx H' F' (s1.trans s') w' xr
          | bad => rw [e2] at g; exact g
        · rw [if_neg hr] at g; exact g.elim
      | exc x ρ' => rw [e1] at g; exact g
      | bad => rw [e1] at g; exact g.elim
end
end VL

/-! VL13: calls: what is lent, what comes back. -/
namespace VL
open PySem PySem.Spec PyProof.Rows L2

/-- parts by position -/
def Fl (fs : List (List Addr)) : Fps := fun i => (fs[i]?).getD []
theorem hasOwn_some {ρ : Rho} {i : Nat} (h : hasOwn ρ i = true) : ∃ d, slotOf ρ i = some d ∧ d.imm = false := by
  unfold hasOwn at h
  split at h
  · rename_i d e
    exact ⟨d, e, by simpa using h⟩
  · cases h
theorem posOf_some {ρ : Rho} {i : Nat} : ∀ {os : List Opd} {j : Nat}, posOf ρ i os = some j → os[j]? = some (.b i) ∧ hasOwn ρ i = true
  | [], j, h => by cases h
  | .b k :: os, j, h => by
    unfold posOf at h
    split at h
    · rename_i e
      cases h
      obtain ⟨rfl, e⟩ := e
      exact ⟨rfl, e⟩
    · simp only [Option.map_eq_some_iff] at h
      obtain ⟨j', h, rfl⟩ := h
      exact posOf_some (os := os) h
  | .o _ :: os, j, h => by
    simp only [posOf, Option.map_eq_some_iff] at h
    obtain ⟨j', h, rfl⟩ := h
    exact posOf_some (os := os) h
theorem posOf_lent {ρ : Rho} {i : Nat} : ∀ {os : List Opd}, i ∈ lent ρ os → ∃ j, posOf ρ i os = some j
  | [], h => by cases h
  | .b k :: os, h => by
    unfold posOf
    simp only [lent] at h
    split
    · exact ⟨0, rfl⟩
    · rename_i n
      have : i ∈ lent ρ os := by
        split at h
        · rename_i hk
          rcases List.mem_cons.mp h with e | e
          · exact absurd ⟨e.symm, hk⟩ n
          · exact e
        · exact h
      obtain ⟨j, e⟩ := posOf_lent this
      exact ⟨j + 1, by rw [e]; rfl⟩
  | .o _ :: os, h => by
    simp only [lent] at h
    obtain ⟨j, e⟩ := posOf_lent h
    exact ⟨j + 1, by simp only [posOf, e]; rfl⟩
section
variable {K : KW} {T : Xt} {P : Prg} {W : WX} {H H' : Hp} {ρ : Rho} {σ : L2.St} {F : Fps}
theorem Fl_cons {f : List Addr} {fs : List (List Addr)} : Fl (f :: fs) = fun i => match i with
  | 0 => f
  | i + 1 => Fl fs i := by
  funext i
  cases i <;> simp [Fl]
theorem nilER : ER K H [] [] (Fl []) := { len := rfl, at_ := fun i d e => by simp at e, no := fun i h => by simp [Fl], dj := fun i j h a ha => by simp [Fl] at ha }
theorem ER.cons {d : D} {v : V} {f : List Addr} {fs : List (List Addr)} (r : Rep K H d v f) (w : ER K H ρ σ (Fl fs)) (n : ∀ a ∈ f, ¬ inF (Fl fs) a) : ER K H (some d :: ρ) (some v :: σ) (Fl (f :: fs)) := by
  rw [Fl_cons]
  refine ⟨by simp [w.len], fun i d' e => ?_, fun i h => ?_, fun i j hij a ha hb => ?_⟩
  · cases i with
    | zero => cases e; exact ⟨v, rfl, r⟩
    | succ i => exact w.at_ i d' e
  · cases i with
    | zero => exact absurd rfl (h d)
    | succ i => exact w.no i h
  · cases i with
    | zero =>
      cases j with
      | zero => exact hij rfl
      | succ j => exact n a ha ⟨j, hb⟩
    | succ i =>
      cases j with
      | zero => exact n a hb ⟨i, ha⟩
      | succ j => exact w.dj i j (fun z => hij (by rw [z])) a ha hb
/-- what is lent, as the callee sees it -/
theorem callIn (w : ER K H ρ σ F) : ∀ {os : List Opd} {vs : List V} {g : List Addr} {ds : List D}, OpsR K H σ F os vs g → getAll ρ os = some ds → noDup (lent ρ os) = true →
    ∃ fs, ER K H (ds.map some) (vs.map some) (Fl fs) ∧ (∀ a, inF (Fl fs) a → (∃ i ∈ lent ρ os, a ∈ F i) ∨ a ∈ g) ∧ ∀ j i, posOf ρ i os = some j → σ[i]? = some (vs[j]?)
  | _, _, _, _, .nil, e, _ => by cases e; exact ⟨[], nilER, fun a h => by obtain ⟨i, h⟩ := h; simp [Fl] at h, fun j i h => by cases h⟩
  | _, _, _, _, .b (i := i) (v := v) (os := os) (vs := vs) (g := g) hv r, e, nd => by
    unfold getAll at e
    split at e
    rotate_left
    · cases e
    rename_i d hd
    simp only [Option.map_eq_some_iff] at e
    obtain ⟨ds', e2, rfl⟩ := e
    have hd' : slotOf ρ i = some d := hd
    obtain ⟨v', hv', r'⟩ := w.at_ i d (slotOf_some hd)
    rw [hv] at hv'
    cases hv'
    simp only [lent] at nd ⊢
    have pos : ∀ (fs : List (List Addr)), (∀ j i, posOf ρ i os = some j → σ[i]? = some (vs[j]?)) → ∀ j i', posOf ρ i' (.b i :: os) = some j → σ[i']? = some ((v :: vs)[j]?) := fun fs hp j i' e => by
      unfold posOf at e
      split at e
      · rename_i q
        cases e
        obtain ⟨rfl, _⟩ := q
        simpa using hv
      · simp only [Option.map_eq_some_iff] at e
        obtain ⟨j', e, rfl⟩ := e
        simpa using hp j' i' e
    by_cases ho : hasOwn ρ i = true
    · rw [if_pos ho] at nd ⊢
      simp only [noDup, Bool.and_eq_true, Bool.not_eq_true', List.contains_eq_mem, decide_eq_false_iff_not] at nd
      obtain ⟨fs, wf, cov, hp⟩ := callIn w r e2 nd.2
      refine ⟨F i :: fs, ER.cons r' wf fun a ha hb => ?_, fun a ⟨j, h⟩ => ?_, pos fs hp⟩
      · rcases cov a hb with ⟨k, hk, ha2⟩ | hg
        · exact w.dj i k (fun z => nd.1 (z ▸ hk)) a ha ha2
        · exact r.out a hg ⟨i, ha⟩
      · rw [Fl_cons] at h
        cases j with
        | zero => exact .inl ⟨i, List.mem_cons_self, h⟩
        | succ j =>
          rcases cov a ⟨j, h⟩ with ⟨k, hk, ha2⟩ | hg
          · exact .inl ⟨k, List.mem_cons_of_mem _ hk, ha2⟩
          · exact .inr hg
    · rw [if_neg ho] at nd ⊢
      have im : d.imm = true := by
        simp only [hasOwn, hd', Bool.not_eq_true'] at ho
        simpa using ho
      have e0 := r'.imm_nil im
      rw [e0] at r'
      obtain ⟨fs, wf, cov, hp⟩ := callIn w r e2 nd
      refine ⟨[] :: fs, ER.cons r' wf nilF, fun a ⟨j, h⟩ => ?_, pos fs hp⟩
      rw [Fl_cons] at h
      cases j with
      | zero => cases h
      | succ j => exact cov a ⟨j, h⟩
  | _, _, _, _, .o (d := d) (v := v) (f := f) (os := os) (vs := vs) (g := g) r h n rs, e, nd => by
    simp only [getAll, Opd.get, Option.map_eq_some_iff] at e
    obtain ⟨ds', e2, rfl⟩ := e
    simp only [lent] at nd ⊢
    obtain ⟨fs, wf, cov, hp⟩ := callIn w rs e2 nd
    refine ⟨f :: fs, ER.cons r wf fun a ha hb => ?_, fun a ⟨j, q⟩ => ?_, fun j i e => ?_⟩
    · rcases cov a hb with ⟨k, hk, ha2⟩ | hg
      · exact h a ha ⟨k, ha2⟩
      · exact n a ha hg
    · rw [Fl_cons] at q
      cases j with
      | zero => exact .inr (List.mem_append_left _ q)
      | succ j =>
        rcases cov a ⟨j, q⟩ with z | z
        · exact .inl z
        · exact .inr (List.mem_append_right _ z)
    · simp only [posOf, Option.map_eq_some_iff] at e
      obtain ⟨j', e, rfl⟩ := e
      simpa using hp j' i e
/-- the slots behind the call -/
def backF (ρ : Rho) (os : List Opd) (F Fc : Fps) : Fps := fun i => match posOf ρ i os with
  | some j => Fc j
  | none => F i
theorem back_at {os : List Opd} {xs : Rho} {i : Nat} : (back ρ os xs)[i]? = (ρ[i]?).map fun x => match posOf ρ i os with
    | some j => (xs[j]?).join
    | none => x := by
  unfold back
  rw [List.getElem?_mapIdx] <;> rfl
theorem callOut (w : ER K H ρ σ F) {os : List Opd} {vs : List V} {g : List Addr} {fs : List (List Addr)} {xs : Rho} {Fc : Fps} (r : OpsR K H σ F os vs g) (cov : ∀ a, inF (Fl fs) a → (∃ i ∈ lent ρ os, a ∈ F i) ∨ a ∈ g)
    (hp : ∀ j i, posOf ρ i os = some j → σ[i]? = some (vs[j]?)) (s : Stp (Fl fs) H Fc H') (wc : ER K H' xs (vs.map some) Fc) :
    ER K H' (back ρ os xs) σ (backF ρ os F Fc) := by
  -- a slot that was not lent is untouched
  have away : ∀ i, posOf ρ i os = none → ∀ a ∈ F i, ¬ inF (Fl fs) a := fun i hi a ha q => by
    rcases cov a q with ⟨k, hk, hb⟩ | hg
    · by_cases e : i = k
      · subst e
        obtain ⟨j, e⟩ := posOf_lent hk
        rw [hi] at e; cases e
      · exact w.dj i k e a ha hb
    · exact r.out a hg ⟨i, ha⟩
  have own : OwnW (inF (Fl fs)) H := fun a h => by
    rcases cov a h with ⟨k, _, hb⟩ | hg
    · exact w.own a ⟨k, hb⟩
    · exact (r.own_ok a hg)
  have inj : ∀ i i' j, posOf ρ i os = some j → posOf ρ i' os = some j → i = i' := fun i i' j a b => by
    have q := (posOf_some a).1
    rw [(posOf_some b).1] at q
    cases q; rfl
  refine ⟨by unfold back; rw [List.length_mapIdx]; exact w.len, fun i d e => ?_, fun i h => ?_, fun i i' hne a ha hb => ?_⟩
  · rw [back_at] at e
    simp only [Option.map_eq_some_iff] at e
    obtain ⟨x, ex, e⟩ := e
    cases hq : posOf ρ i os with
    | some j =>
      rw [hq] at e
      have e : (xs[j]?).join = some d := e
      obtain ⟨v, hv, rc⟩ := wc.at_ j d (by
        cases hx : xs[j]? with
        | none => rw [hx] at e; cases e
        | some y => rw [hx] at e; simp only [Option.join] at e; rw [show y = some d from e])
      refine ⟨v, ?_, by unfold backF; rw [hq]; exact rc⟩
      rw [hp j i hq]
      rw [List.getElem?_map] at hv
      simp only [Option.map_eq_some_iff, Option.some.injEq] at hv
      obtain ⟨u, hu, rfl⟩ := hv
      rw [hu]
    | none =>
      rw [hq] at e
      subst e
      obtain ⟨v, hv, r'⟩ := w.at_ i d ex
      refine ⟨v, hv, ?_⟩
      unfold backF
      rw [hq]
      exact r'.frm s.frm own (away i hq)
  · unfold backF
    cases hq : posOf ρ i os with
    | some j =>
      refine wc.no j fun d e => h d ?_
      obtain ⟨d0, hd0, _⟩ := hasOwn_some (posOf_some hq).2
      rw [back_at, slotOf_some hd0]
      simp only [Option.map_some, hq, e]
      rfl
    | none =>
      refine w.no i fun d e => h d ?_
      rw [back_at, e]
      simp only [Option.map_some, hq]
  · unfold backF at ha hb
    cases hq : posOf ρ i os with
    | some j =>
      rw [hq] at ha
      cases hq' : posOf ρ i' os with
      | some j' =>
        rw [hq'] at hb
        exact wc.dj j j' (fun z => hne (inj i i' j hq (z ▸ hq'))) a ha hb
      | none =>
        rw [hq'] at hb
        rcases s.old a ⟨j, ha⟩ with z | z
        · exact away i' hq' a hb z
        · exact w.there ⟨i', hb⟩ z
    | none =>
      rw [hq] at ha
      cases hq' : posOf ρ i' os with
      | some j' =>
        rw [hq'] at hb
        rcases s.old a ⟨j', hb⟩ with z | z
        · exact away i hq a ha z
        · exact w.there ⟨i, ha⟩ z
      | none =>
        rw [hq'] at hb
        exact w.dj i i' hne a ha hb
theorem callStp (w : ER K H ρ σ F) {os : List Opd} {g : List Addr} {fs : List (List Addr)} {Fc F0 : Fps} {H0 : Hp} (cov : ∀ a, inF (Fl fs) a → (∃ i ∈ lent ρ os, a ∈ F i) ∨ a ∈ g)
    (s0 : Stp F0 H0 F H) (hg : ∀ a ∈ g, inF F0 a ∨ H0 a = none) (s : Stp (Fl fs) H Fc H') : Stp F0 H0 (backF ρ os F Fc) H' := by
  refine ⟨fun a o ha n => ?_, fun a ⟨i, h⟩ => ?_⟩
  · have h1 : H a = some o := s0.frm a o ha n
    refine s.frm a o h1 fun q => ?_
    rcases cov a q with ⟨k, _, hb⟩ | hb
    · rcases s0.old a ⟨k, hb⟩ with z | z
      · exact n z
      · rw [ha] at z; cases z
    · rcases hg a hb with z | z
      · exact n z
      · rw [ha] at z; cases z
  · have fromc : inF (Fl fs) a → inF F0 a ∨ H0 a = none := fun q => by
      rcases cov a q with ⟨k, _, hb⟩ | hb
      · exact s0.old a ⟨k, hb⟩
      · exact hg a hb
    unfold backF at h
    split at h
    · rename_i j _
      rcases s.old a ⟨j, h⟩ with z | z
      · exact fromc z
      · exact s0.none_back z
    · exact s0.old a ⟨i, h⟩
theorem callOwn (w : ER K H ρ σ F) {os : List Opd} {vs : List V} {g : List Addr} {fs : List (List Addr)} {Fc F0 : Fps} {H0 : Hp} {f : List Addr} (r : OpsR K H σ F os vs g) (cov : ∀ a, inF (Fl fs) a → (∃ i ∈ lent ρ os, a ∈ F i) ∨ a ∈ g)
    (s0 : Stp F0 H0 F H) (hg : ∀ a ∈ g, inF F0 a ∨ H0 a = none) (o : Own (Fl fs) H Fc f) : Own F0 H0 (backF ρ os F Fc) f := by
  refine ⟨fun a ha ⟨i, h⟩ => ?_, fun a ha => ?_⟩
  · unfold backF at h
    split at h
    · rename_i j _
      exact o.out a ha ⟨j, h⟩
    · rename_i hq
      rcases o.old a ha with z | z
      · rcases cov a z with ⟨k, hk, hb⟩ | hb
        · by_cases e : i = k
          · subst e
            obtain ⟨j, e⟩ := posOf_lent hk
            rw [hq] at e; cases e
          · exact w.dj i k e a h hb
        · exact r.out a hb ⟨i, h⟩
      · exact w.there ⟨i, h⟩ z
  · rcases o.old a ha with z | z
    · rcases cov a z with ⟨k, _, hb⟩ | hb
      · exact s0.old a ⟨k, hb⟩
      · exact hg a hb
    · exact s0.none_back z
end
end VL

/-! VL14: the cases of expressions with effect. -/
namespace VL
open PySem PySem.Spec PyProof.Rows L2
theorem th_is {α β : Type} {r : RX α} {f : α → Rho → RX β} {b : β} {ρ : Rho} (h : r.th f = .ok b ρ) : ∃ a ρ1, r = .ok a ρ1 ∧ f a ρ1 = .ok b ρ := by
  cases r with
  | ok a ρ1 => exact ⟨a, ρ1, rfl, h⟩
  | exc x ρ1 => cases h
  | bad => cases h
theorem optX_is {α β : Type} {o : Option α} {f : α → RX β} {b : β} {ρ : Rho} (h : optX o f = .ok b ρ) : ∃ a, o = some a ∧ f a = .ok b ρ := by
  cases o with
  | none => cases h
  | some a => exact ⟨a, rfl, h⟩
theorem compX_is {step : D → Rho → RX (Option D)} {acc : List D} {x : D} {xs ys : List D} {ρ ρ' : Rho} (h : compX step acc (x :: xs) ρ = .ok ys ρ') :
    (∃ ρ1, step x ρ = .ok none ρ1 ∧ compX step acc xs ρ1 = .ok ys ρ') ∨ ∃ y ρ1, step x ρ = .ok (some y) ρ1 ∧ compX step (acc ++ [y]) xs ρ1 = .ok ys ρ' := by
  unfold compX at h
  split at h
  · rename_i e; exact .inl ⟨_, e, h⟩
  · rename_i y _ e; exact .inr ⟨y, _, e, h⟩
  · cases h
  · cases h
theorem compX_no {step : D → Rho → RX (Option D)} {x : Xn} {ρ' : Rho} : ∀ {xs acc : List D} {ρ : Rho}, compX step acc xs ρ ≠ .exc x ρ'
  | [], acc, ρ, h => by cases h
  | y :: ys, acc, ρ, h => by
    unfold compX at h
    split at h
    · exact compX_no h
    · exact compX_no h
    · cases h
    · cases h
def dispH (o : Op) (vs : List V) : HO := match o with
  | .lst => .lst vs
  | _ => .tup vs
def wipeF (F : Fps) (vs : List Nat) : Fps := fun i => if i ∈ vs then [] else F i
theorem wipeR_out {ρ : Rho} {i : Nat} : ∀ {vs : List Nat}, i ∉ vs → (wipeR ρ vs)[i]? = ρ[i]?
  | [], _ => rfl
  | v :: vs, h => by
    unfold wipeR
    rw [List.getElem?_set_ne fun e => h (by rw [e]; exact List.mem_cons_self)]
    exact wipeR_out fun z => h (List.mem_cons_of_mem _ z)
section
variable {K : KW} {T : Xt} {P : Prg} {W : WX} {H H' H1 : Hp} {ρ ρ' : Rho} {σ : L2.St} {F F' F1 : Fps}
theorem inF_wipe {vs : List Nat} {a : Addr} (h : inF (wipeF F vs) a) : ∃ i, i ∉ vs ∧ a ∈ F i := by
  obtain ⟨i, h⟩ := h
  unfold wipeF at h
  split at h
  · cases h
  · rename_i n; exact ⟨i, n, h⟩
theorem ER.wipe (w : ER K H ρ σ F) (vs : List Nat) : ER K H (wipeR ρ vs) (L2.wipe σ vs) (wipeF F vs) where
  len := by rw [wipeR_length, wipe_length]; exact w.len
  at_ := fun i d e => by
    obtain ⟨a, b⟩ := wipeR_some e
    rw [wipe_not b]
    obtain ⟨v, hv, r⟩ := w.at_ i d a
    exact ⟨v, hv, by unfold wipeF; rw [if_neg b]; exact r⟩
  no := fun i h => by
    unfold wipeF
    split
    · rfl
    · rename_i n
      exact w.no i fun d e => h d (by rw [wipeR_out n]; exact e)
  dj := fun i j hij a ha hb => by
    unfold wipeF at ha hb
    split at ha
    · cases ha
    · split at hb
      · cases hb
      · exact w.dj i j hij a ha hb
theorem ER.frm {U : Addr → Prop} (w : ER K H ρ σ F) (h : Frm U H H') (o : OwnW U H) (n : ∀ a, inF F a → ¬ U a) : ER K H' ρ σ F :=
  ⟨w.len, fun i d e => let ⟨v, a, r⟩ := w.at_ i d e; ⟨v, a, r.frm h o fun a ha => n a ⟨i, ha⟩⟩, w.no, w.dj⟩
/-- fewer parts of one's own -/
theorem Stp.sub (s : Stp F H F1 H1) (h : ∀ a, inF F' a → inF F1 a) : Stp F H F' H1 := ⟨s.frm, fun a ha => s.old a (h a ha)⟩
-- a target takes a value with its parts
mutual
theorem bindP_er : ∀ (p : Pat) {d : D} {v : V} {f : List Addr} {ρ ρ' : Rho} {σ : L2.St} {F : Fps}, ER K H ρ σ F → Rep K H d v f → (∀ a ∈ f, ¬ inF F a) → bindP p d ρ = some ρ' →
    ∃ σ' F', BindV K H p v σ σ' ∧ ER K H ρ' σ' F' ∧ ∀ a, inF F' a → inF F a ∨ a ∈ f
  | .nm i, d, v, f, ρ, ρ', σ, F, w, r, n, e => by
    unfold bindP at e
    split at e
    · rename_i hi
      cases e
      exact ⟨_, setF F i f, .nm, w.set hi r fun a ha j _ hb => n a ha ⟨j, hb⟩, fun a h => (inF_setF h).symm⟩
    · cases e
  | .tp ps, d, v, f, ρ, ρ', σ, F, w, r, n, e => by
    unfold bindP at e
    split at e
    · cases r with
      | tup s rs =>
        obtain ⟨σ', F', b, w', c, l⟩ := bindPs_er ps w rs n e
        exact ⟨σ', F', .tp s l b, w', c⟩
    · cases r with
      | own s rs _ =>
        obtain ⟨σ', F', b, w', c, l⟩ := bindPs_er ps w rs (fun a ha => n a (List.mem_cons_of_mem _ ha)) e
        exact ⟨σ', F', .tl (.inl (.inl s)) l b, w', fun a h => (c a h).imp id (List.mem_cons_of_mem _)⟩
      | frz s rs =>
        obtain ⟨σ', F', b, w', c, l⟩ := bindPs_er ps w rs nilF e
        exact ⟨σ', F', .tl s.sq l b, w', c⟩
    · cases e
theorem bindPs_er : ∀ (ps : List Pat) {ds : List D} {vs : List V} {f : List Addr} {ρ ρ' : Rho} {σ : L2.St} {F : Fps}, ER K H ρ σ F → Reps K H ds vs f → (∀ a ∈ f, ¬ inF F a) → bindPs ps ds ρ = some ρ' →
    ∃ σ' F', BindVs K H ps vs σ σ' ∧ ER K H ρ' σ' F' ∧ (∀ a, inF F' a → inF F a ∨ a ∈ f) ∧ vs.length = ps.length
  | [], ds, vs, f, ρ, ρ', σ, F, w, r, n, e => by
    cases r with
    | nil => cases e; exact ⟨σ, F, .nil, w, fun a h => .inl h, rfl⟩
    | cons _ _ _ => cases e
  | p :: ps, ds, vs, f, ρ, ρ', σ, F, w, r, n, e => by
    cases r with
    | nil => cases e
    | cons r1 r2 dj =>
      simp only [bindPs, Option.bind_eq_some_iff] at e
      obtain ⟨ρ1, e1, e2⟩ := e
      obtain ⟨σ1, F1, b1, w1, c1⟩ := bindP_er p w r1 (fun a ha => n a (List.mem_append_left _ ha)) e1
      obtain ⟨σ2, F2, b2, w2, c2, l⟩ := bindPs_er ps w1 r2 (fun a ha q => (c1 a q).elim (n a (List.mem_append_right _ ha)) fun z => dj a z ha) e2
      refine ⟨σ2, F2, .cons b1 b2, w2, fun a h => ?_, by simp [l]⟩
      rcases c2 a h with z | z
      · rcases c1 a z with y | y
        · exact .inl y
        · exact .inr (List.mem_append_left _ y)
      · exact .inr (List.mem_append_right _ z)
end
theorem GoalT.stp {r : RX D} {Q : Bool → Hp → Prop} {E : XK} (s : Stp F H F1 H1) (g : GoalT K T σ F H r Q E) : GoalT K T σ F1 H1 r Q E := by
  cases r with
  | ok d ρ => cases d <;> first | exact g | exact fun H' F' s' w => g H' F' (s.trans s') w
  | exc x ρ => exact fun cls dx H' F' s' w xr => g cls dx H' F' (s.trans s') w xr
  | bad => exact g
theorem GoalT.mono {r : RX D} {Q Q' : Bool → Hp → Prop} {E : XK} (h : ∀ b H', Q b H' → Q' b H') (g : GoalT K T σ F H r Q E) : GoalT K T σ F H r Q' E := by
  cases r with
  | ok d ρ => cases d <;> first | exact g | exact fun H' F' s w => h _ H' (g H' F' s w)
  | exc x ρ => exact g
  | bad => exact g
/-- a value that is a truth -/
theorem GoalT.val {r : RX D} {Q : Bool → Hp → Prop} {E : XK} (g : GoalT K T σ F H r Q E) : GoalX K T σ F H r (fun x H' => ∃ b, x = .bl b ∧ Q b H') E := by
  cases r with
  | ok d ρ => cases d <;> first | exact g.elim | exact fun v H' F' f s w r o => ⟨_, W1.bl ⟨f, r⟩, g H' F' s w⟩
  | exc x ρ => exact g
  | bad => exact g
section
variable {r : RX D} {A B : Rho → RX D} {Q : VK} {QB : Bool → Hp → Prop} {E : XK} {KA KB : Hp → Prop}
theorem onB_xt (g : GoalX K T σ F H (r.th fun d ρ' => onB d (A ρ') (B ρ')) Q E) (ha : ∀ ρ1 F1 H1, ER K H1 ρ1 σ F1 → GoalX K T σ F1 H1 (A ρ1) Q E → KA H1)
    (hb : ∀ ρ1 F1 H1, ER K H1 ρ1 σ F1 → GoalX K T σ F1 H1 (B ρ1) Q E → KB H1) : GoalT K T σ F H r (fun c H1 => if c = true then KA H1 else KB H1) E := by
  cases r with
  | ok d ρ1 =>
    cases d with
    | bl b =>
      intro H1 F1 s1 w1
      cases b with
      | true => exact iteT (ha ρ1 F1 H1 w1 (GoalX.stp s1 g))
      | false => exact iteF (hb ρ1 F1 H1 w1 (GoalX.stp s1 g))
    | _ => exact g.elim
  | exc x ρ1 => exact g
  | bad => exact g
theorem onB_tt (g : GoalT K T σ F H (r.th fun d ρ' => onB d (A ρ') (B ρ')) QB E) (ha : ∀ ρ1 F1 H1, ER K H1 ρ1 σ F1 → GoalT K T σ F1 H1 (A ρ1) QB E → KA H1)
    (hb : ∀ ρ1 F1 H1, ER K H1 ρ1 σ F1 → GoalT K T σ F1 H1 (B ρ1) QB E → KB H1) : GoalT K T σ F H r (fun c H1 => if c = true then KA H1 else KB H1) E := by
  cases r with
  | ok d ρ1 =>
    cases d with
    | bl b =>
      intro H1 F1 s1 w1
      cases b with
      | true => exact iteT (ha ρ1 F1 H1 w1 (GoalT.stp s1 g))
      | false => exact iteF (hb ρ1 F1 H1 w1 (GoalT.stp s1 g))
    | _ => exact g.elim
  | exc x ρ1 => exact g
  | bad => exact g
end
/-- without effect, as a step -/
theorem pure_goal {c : Ex} {Q : VK} {E : XK} (w : ER K H ρ σ F) (g : GoalX K T σ F H (pureX P c ρ) Q E) : tP K P.G c σ H Q := by
  unfold pureX at g
  cases e : evP P.G c ρ with
  | none => rw [e] at g; exact g.elim
  | some d =>
  rw [e, optX_some] at g
  split at g
  rotate_left
  · exact g.elim
  rename_i h
  refine ⟨ρ, d, w.wr, e, fun v H' f s r n => g v H' F f (.same s) (w.same s) r ?_⟩
  simp only [Bool.or_eq_true] at h
  rcases h with h | h
  · rw [r.imm_nil h]
    exact ⟨nilF, nilF⟩
  · exact ⟨fun a ha q => w.there q (n h a ha), fun a ha => .inr (n h a ha)⟩
theorem pure_goalT {c : Ex} {Q : Bool → Hp → Prop} {E : XK} (w : ER K H ρ σ F) (g : GoalT K T σ F H (pureX P c ρ) Q E) : tPT K P.G c σ H Q := by
  unfold pureX at g
  cases e : evP P.G c ρ with
  | none => rw [e] at g; exact g.elim
  | some d =>
  rw [e, optX_some] at g
  split at g
  rotate_left
  · exact g.elim
  cases d <;> first | exact g.elim | exact ⟨ρ, _, w.wr, e, fun H' s => g H' F (.same s) (w.same s)⟩
/-- an operation on what has come -/
theorem app_goal {o : Op} {os : List Opd} {vs : List V} {gp : List Addr} {Q : VK} {E : XK} (w : ER K H1 ρ σ F1) (s : Stp F H F1 H1) (r : OpsR K H1 σ F1 os vs gp)
    (g : GoalX K T σ F H (appX o os ρ) Q E) : rD K (applyOp o) o.new vs H1 Q := by
  unfold appX at g
  cases e : (getAll ρ os).bind (applyOp o) with
  | none => rw [e] at g; exact g.elim
  | some d =>
  rw [e, optX_some] at g
  simp only [Option.bind_eq_some_iff] at e
  obtain ⟨ds, e1, e2⟩ := e
  split at g
  rotate_left
  · exact g.elim
  rename_i h
  refine ⟨ds, d, r.wl w e1, e2, fun v H' f sm rp n => g v H' F1 f (s.trans (.same sm)) (w.same sm) rp ?_⟩
  simp only [Bool.or_eq_true] at h
  rcases h with h | h
  · rw [rp.imm_nil h]
    exact ⟨nilF, nilF⟩
  · refine ⟨fun a ha q => w.there q (n h a ha), fun a ha => ?_⟩
    exact s.none_back (n h a ha)
/-- a display -/
theorem disp_goal {o : Op} {os : List Opd} {vs : List V} {gp : List Addr} {Q : VK} {E : XK} (w : ER K H1 ρ σ F1) (s : Stp F H F1 H1) (r : OpsR K H1 σ F1 os vs gp) (hg : ∀ a ∈ gp, inF F a ∨ H a = none)
    (g : GoalX K T σ F H (dispX o os ρ) Q E) : vs.length ≤ sizeLine ∧ ∀ p, H1 p = none → Q (.ref p) (upd H1 p (dispH o vs)) := by
  unfold dispX at g
  cases e : getAll ρ os with
  | none => rw [e] at g; exact g.elim
  | some ds =>
  rw [e, optX_some] at g
  split at g
  rotate_left
  · exact g.elim
  rename_i h
  have rs := r.reps w e h.1
  refine ⟨by rw [lim_eq, ← rs.length]; exact h.2, fun p hp => ?_⟩
  have n : p ∉ gp := fun z => rs.there p z hp
  have key : ∀ (ob : HO) (dd : D) (ff : List Addr), Rep K (upd H1 p ob) dd (.ref p) ff → (∀ a ∈ ff, a = p ∨ a ∈ gp) → GoalX K T σ F H (.ok dd ρ) Q E → Q (.ref p) (upd H1 p ob) := fun ob dd ff rp sub gg => by
    refine gg _ _ F1 ff (s.trans (.same (same_upd hp))) (w.same (same_upd hp)) rp ⟨fun a ha q => ?_, fun a ha => ?_⟩
    · rcases sub a ha with z | z
      · rw [z] at q; exact w.there q hp
      · exact r.out a z q
    · rcases sub a ha with z | z
      · rw [z]; exact s.none_back hp
      · exact hg a z
  cases o with
  | lst => exact key _ _ (p :: gp) (.own upd_same (rs.same (same_upd hp)) n) (fun a ha => List.mem_cons.mp ha) g
  | _ => exact key _ _ gp (.tup (.inl (.inl upd_same)) (rs.same (same_upd hp))) (fun a ha => .inr ha) g
/-- a call -/
theorem call_goal {run : FnR} {os : List Opd} {vs : List V} {gp : List Addr} {Q : VK} {E : XK} (w : ER K H1 ρ σ F1) (s : Stp F H F1 H1) (r : OpsR K H1 σ F1 os vs gp) (hg : ∀ a ∈ gp, inF F a ∨ H a = none)
    (g : GoalX K T σ F H (callX run os ρ) Q E) : FnSp K T run vs H1 Q E := by
  unfold callX at g
  cases e : getAll ρ os with
  | none => rw [e] at g; exact g.elim
  | some ds =>
  rw [e, optX_some] at g
  split at g
  rotate_left
  · exact g.elim
  rename_i nd
  obtain ⟨fs, wf, cov, hp⟩ := callIn w r e nd
  refine ⟨ds, Fl fs, wf, ?_⟩
  cases er : run ds with
  | ok d xs =>
    rw [er] at g
    intro v H' Fc f sc wc rc oc
    exact g v H' _ f (callStp w cov s hg sc) (callOut w r cov hp sc wc) rc (callOwn w r cov s hg oc)
  | exc x xs =>
    rw [er] at g
    intro cls dx H' Fc sc wc xr
    exact g cls dx H' _ (callStp w cov s hg sc) (callOut w r cov hp sc wc) xr
  | bad => rw [er] at g; exact g
/-- a name's data is taken -/
theorem take_goal {i : Nat} {d : D} {v : V} {Q : VK} {E : XK} (w : ER K H ρ σ F) (hd : ρ[i]? = some (some d)) (hv : σ[i]? = some (some v)) (g : GoalX K T σ F H (takeX ρ i d) Q E) : Q v H := by
  obtain ⟨v', hv', r⟩ := w.at_ i d hd
  rw [hv] at hv'
  cases hv'
  unfold takeX at g
  split at g
  · rename_i im
    rw [r.imm_nil im] at r
    exact g v H F [] .refl w r ⟨nilF, nilF⟩
  · refine g v H (setF F i []) (F i) ⟨Frm.refl _ _, fun a h => ?_⟩ (w.drop i) r ⟨fun a ha h => ?_, fun a ha => .inl ⟨i, ha⟩⟩
    · rcases inF_setF h with z | z
      · cases z
      · exact .inl z
    · obtain ⟨j, h⟩ := h
      by_cases e : j = i
      · subst e; rw [setF_same] at h; cases h
      · rw [setF_ne e] at h; exact w.dj j i e a h ha
end
section
variable {X : Cx} {pins : List (Addr × Obj)} {s : Shared} {H : Hp} {ρ : Rho} {σ : L2.St} {F : Fps} {T : Xt}
/-- a name's data is shared from here on: its lists are locked -/
theorem share_slot {i : Nat} {d : D} (I : Inv X pins σ H s) (w : ER X.kw H ρ σ F) (hd : ρ[i]? = some (some d)) :
    ∃ H', Inv X pins σ H' s ∧ ER X.kw H' (ρ.set i (some d.fz)) σ (setF F i []) ∧ Stp F H (setF F i []) H' := by
  obtain ⟨v, hv, r⟩ := w.at_ i d hd
  have hl := r.lists
  obtain ⟨H', z, I'⟩ := lock_all (F i) r.own_ok.2 hl I
  have fr : Frm (· ∈ F i) H H' := fun a o e n => by rw [z.out a n]; exact e
  have w1 : ER X.kw H' (ρ.set i none) σ (setF F i []) := (w.drop i).frm fr r.own_ok.1 fun a ⟨j, h⟩ hb => by
    by_cases e : j = i
    · subst e; rw [setF_same] at h; cases h
    · rw [setF_ne e] at h; exact w.dj j i e a h hb
  have hi : i < ρ.length := by
    rcases Nat.lt_or_ge i ρ.length with h | h
    · exact h
    · rw [List.getElem?_eq_none h] at hd; cases hd
  have w2 := w1.put (i := i) (by rw [List.length_set]; exact hi) hv (r.lock z hl fun a ha => ha) (f := []) nilF
  rw [List.set_set] at w2
  have e2 : setF (setF F i []) i [] = setF F i [] := by
    funext j
    unfold setF
    split <;> rfl
  rw [e2] at w2
  refine ⟨H', I', w2, ⟨fr.mono fun a ha => ⟨i, ha⟩, fun a h => ?_⟩⟩
  rcases inF_setF h with q | q
  · cases q
  · exact .inl q
end
end VL

/-! VL15: the machine does what evX tells. -/
namespace VL
open PySem PySem.Spec PyProof.Rows L2

abbrev W0 : WX := fun _ _ _ _ => False
def pureN (o : Op) (cs : List Ex) : Bool := pureCs cs && (!isDisp o || flatE.flatEs cs)
mutual
/-- the syntax, as a value -/
def mX (N : List Str) (sc : Scope) (fn : FnB) : Ex → Expr → Bool
  | .lit d, e => mE N sc fn (.lit d) e
  | .var i, e => mE N sc fn (.var i) e
  | .glob y, e => mE N sc fn (.glob y) e
  | .chain o o' a b c, e => mE N sc fn (.chain o o' a b c) e
  | .tk i, e => mE N sc fn (.var i) e
  | .sh i, e => mE N sc fn (.var i) e
  | .fz a, e => mX N sc fn a e
  | .no, _ => true
  | .dct ks vs, e => mE N sc fn (.dct ks vs) e
  | .mkE x a, e => match e with
    | .Call (.Name y _) [b] [] _ => decide (y = x) && gl sc x && !(x == ("__debug__" : Str)) && notStar b && mX N sc fn a b
    | _ => false
  | .strE x a, e => match e with
    | .Call (.Name z _) [.Call (.Name y _) [b] [] _] [] _ => decide (z = ("str" : Str)) && gl sc z && decide (y = x) && gl sc x && !(x == ("__debug__" : Str)) && notStar b && mX N sc fn a b
    | _ => false
  | .orv a b, e => (pureC a && pureC b) && mE N sc fn (.orv a b) e
  | .node o cs, e => if pureN o cs = true then mE N sc fn (.node o cs) e else match opnds sc o e with
    | some es => isiOk o && mXs N sc fn cs es
    | none => false
  | .and a b, e => if (pureC a && pureC b) = true then mE N sc fn (.and a b) e else match e with
    | .BoolOp .And [x, y] _ => mX N sc fn a x && mX N sc fn b y
    | .BoolOp .And (x :: y :: z :: r) pos => mX N sc fn a x && mX N sc fn b (.BoolOp .And (y :: z :: r) pos)
    | _ => false
  | .or a b, e => if (pureC a && pureC b) = true then mE N sc fn (.or a b) e else match e with
    | .BoolOp .Or [x, y] _ => mX N sc fn a x && mX N sc fn b y
    | .BoolOp .Or (x :: y :: z :: r) pos => mX N sc fn a x && mX N sc fn b (.BoolOp .Or (y :: z :: r) pos)
    | _ => false
  | .not a, e => if pureC a = true then mE N sc fn (.not a) e else match e with
    | .UnaryOp .Not x _ => mX N sc fn a x
    | _ => false
  | .ite t a b, e => if (pureC t && pureC a && pureC b) = true then mE N sc fn (.ite t a b) e else match e with
    | .IfExp x y z _ => mXT N sc fn t x && mX N sc fn a y && mX N sc fn b z
    | _ => false
  | .comp own elt p k ss ifs, e => if (pureC elt && flatE elt && pureCs ss && pureCs ifs) = true then mE N sc fn (.comp own elt p k ss ifs) e else match e with
    | .ListComp e1 [⟨tg, iter, ts, 0⟩] scope _ => match srcOp sc k iter with
      | some es => mXs N sc fn ss es && blkC N sc scope own && (slotsP p).all (fun i => decide (i ∈ own.map (·.2))) && notSet iter &&
        mPat N (relS scope sc) (fnBlk scope) p tg && (isTuple tg || !needT k) && oneTest ifs ts && mXTs N (relS scope sc) (fnBlk scope) ifs ts && mX N (relS scope sc) (fnBlk scope) elt e1
      | none => false
    | _ => false
  | .call f cs, e => match e with
    | .Call (.Name x _) es [] _ => decide (x = f) && gl sc x && !(x == ("__debug__" : Str)) && mXs N sc fn cs es
    | _ => false
def mXs (N : List Str) (sc : Scope) (fn : FnB) : List Ex → List Expr → Bool
  | [], es => es.isEmpty
  | c :: cs, es => match es with
    | e :: es => notStar e && mX N sc fn c e && mXs N sc fn cs es
    | [] => false
/-- as a test -/
def mXT (N : List Str) (sc : Scope) (fn : FnB) : Ex → Expr → Bool
  | .and a b, e => if (pureC a && pureC b) = true then mT N sc fn (.and a b) e else match e with
    | .BoolOp .And [x, y] _ => mXT N sc fn a x && mXT N sc fn b y
    | .BoolOp .And (x :: y :: z :: r) pos => mXT N sc fn a x && mXT N sc fn b (.BoolOp .And (y :: z :: r) pos)
    | _ => false
  | .or a b, e => if (pureC a && pureC b) = true then mT N sc fn (.or a b) e else match e with
    | .BoolOp .Or [x, y] _ => mXT N sc fn a x && mXT N sc fn b y
    | .BoolOp .Or (x :: y :: z :: r) pos => mXT N sc fn a x && mXT N sc fn b (.BoolOp .Or (y :: z :: r) pos)
    | _ => false
  | .not a, e => if pureC a = true then mT N sc fn (.not a) e else match e with
    | .UnaryOp .Not x _ => mXT N sc fn a x
    | _ => false
  | .node o cs, e => if pureN o cs = true then mT N sc fn (.node o cs) e else match opnds sc o e with
    | some es => isiOk o && mXs N sc fn cs es && (plainT e || (match o with
      | .cmp _ => true
      | _ => false))
    | none => false
  | .call f cs, e => match e with
    | .Call (.Name x _) es [] _ => decide (x = f) && gl sc x && !(x == ("__debug__" : Str)) && mXs N sc fn cs es
    | _ => false
  | .chain o o' a b c, e => mT N sc fn (.chain o o' a b c) e
  | .var i, e => mT N sc fn (.var i) e
  | .lit d, e => mT N sc fn (.lit d) e
  | _, _ => false
def mXTs (N : List Str) (sc : Scope) (fn : FnB) : List Ex → List Expr → Bool
  | [], _ => true
  | c :: _, es => match es with
    | e :: _ => mXT N sc fn c e
    | [] => false
end
theorem CokX.blk {X : Cx} {P : Prg} {T : Xt} {k : Nat} {W : WX} (C : CokX X P T k W) {s : Shared} {H : Hp} {scope : Scope} {cenv : Env} {fp : List Addr} : CokX (X.blk s H scope cenv fp) P T k W0 :=
  ⟨C.toCokG.blk, C.room, C.k2, C.fns, takes0⟩
section
variable {X : Cx} {P : Prg} {T : Xt} {k : Nat} {W : WX}
/-- f() at the slots -/
theorem call0_pe {CX : CXT} {j : Nat} {f : Addr} {fd : FuncData} {ps : List Str} {sp : Sp} {E : L2.St → XK} {x : Str} {p pos : Pos} (F : FnOk X.prog X.w X.kw X.mg X.base CX j f fd ps sp) (hr : Room j X.A) (hg : Gl X x) (hm : X.mg x = some (.ref f))
    (hk : PySem.W.keepIn X.kw (.ref f) = true) (hb : Binds X.kw fd ps []) (hx : ∀ σ, PassesAt CX X σ (E σ)) (hdb : (x == ("__debug__" : Str)) = false) : PE X (.Call (.Name x p) [] [] pos) (tCallSD sp [] E tNil) :=
  ⟨fun _ _ σ _ _ I h => wpAny_Call_Name_kw (ld_glob I hg hm (PySem.W.callWith_K0 I.kIn hk (run_fnSD (us := []) F hr hb (.nil : Vals [] []) (hx σ) I .nil h)) hdb)⟩
/-- a call of a def -/
theorem call_pe (C : CokX X P T k W) {cs : List Ex} {f : Str} {es : List Expr} {p pos : Pos} (g : gl X.env.scope f = true) (nd : (f == ("__debug__" : Str)) = false) (ps : PEs X es (cs.map (tOpd X.kw T P W))) :
    PE X (.Call (.Name f p) es [] pos) (tX X.kw T P W (.call f cs)) := by
  -- which def, the reading must tell
  refine ⟨fun pins s σ H Q I ⟨ρ, F, w, gg⟩ => ?_⟩
  simp only [evX] at gg
  cases hf : P.fns f with
  | none => rw [hf] at gg; exact gg.elim
  | some run =>
  rw [hf, optX_some] at gg
  obtain ⟨fa, fd, nm, hm, hk, FO, hb⟩ := C.fns f run hf
  have red : tL (cs.map (tOpd X.kw T P W)) σ H (fun vs H1 => FnSp X.kw T run (vs ++ []) H1 Q (WE W σ)) := by
    refine argsX cs w ?_
    cases e : evOps P cs ρ with
    | ok os ρ1 =>
      rw [e] at gg
      intro vs H1 F1 gp s1 w1 r1 o1
      rw [List.append_nil]
      exact call_goal w1 s1 r1 o1 gg
    | exc x ρ1 => rw [e] at gg; exact gg
    | bad => rw [e] at gg; exact gg
  have hg : Gl X f := show X.env.scope.names.lookup f = some .globalImplicit from of_decide_eq_true g
  cases es with
  | nil =>
    cases cs with
    | nil => exact (call0_pe FO C.room hg hm hk hb (passAt C.tk) nd).run pins s σ H Q I red
    | cons _ _ => cases ps
  | cons e es => exact (pe_callSD (dvs := []) FO C.room hg hm hk hb .nil (passAt C.tk) ps.pa nd (star_cons (ps.stars e List.mem_cons_self)) (stars_plain fun z hz => ps.stars z (List.mem_cons_of_mem _ hz))).run pins s σ H Q I red
theorem pure_pe {c : Ex} {e : Expr} (h : PE X e (tP X.kw P.G c)) (q : ∀ ρ, evX P c ρ = pureX P c ρ) : PE X e (tX X.kw T P W c) :=
  peWeak h fun σ H Q ⟨ρ, F, w, g⟩ => pure_goal w (by rw [q ρ] at g; exact g)
theorem pure_pt {c : Ex} {e : Expr} (h : PT X e (tPT X.kw P.G c)) (q : ∀ ρ, evX P c ρ = pureX P c ρ) : PT X e (tXT X.kw T P W c) :=
  ptWeak h fun σ H Q ⟨ρ, F, w, g⟩ => pure_goalT w (by rw [q ρ] at g; exact g)
theorem val_pt {c : Ex} {e : Expr} (h : PE X e (tX X.kw T P W c)) (hp : plainT e = true) : PT X e (tXT X.kw T P W c) :=
  ptWeak (pt_val h (plainT_ok hp)) fun σ H Q ⟨ρ, F, w, g⟩ => ⟨ρ, F, w, g.val⟩
/-- what has come is shared -/
theorem fz_pe {c : Ex} {e : Expr} (h : PE X e (tX X.kw T P W c)) : PE X e (tX X.kw T P W (.fz c)) := by
  refine ⟨fun pins s σ H Q I ⟨ρ, F, w, g⟩ => ?_⟩
  simp only [evX] at g
  cases e1 : evX P c ρ with
  | ok d ρ1 =>
    rw [e1, th_ok] at g
    refine thn (h.run pins s σ H (fun v H1 => ∃ F1 f, Stp F H F1 H1 ∧ ER X.kw H1 ρ1 σ F1 ∧ Rep X.kw H1 d v f ∧ Own F H F1 f) I ⟨ρ, F, w, by rw [e1]; exact fun v H1 F1 f s w r o => ⟨F1, f, s, w, r, o⟩⟩) fun u s1 hh => ?_
    obtain ⟨v, H1, I1, r1, F1, f, st, w1, r, o⟩ := hh
    have hl := r.lists
    obtain ⟨H2, z, I2⟩ := lock_all f r.own_ok.2 hl I1
    have fr : Frm (· ∈ f) H1 H2 := fun a ob e n => by rw [z.out a n]; exact e
    have w2 : ER X.kw H2 ρ1 σ F1 := w1.frm fr r.own_ok.1 fun a h hb => o.out a hb h
    refine ⟨v, H2, I2, r1, g v H2 F1 [] ⟨fun a ob ha n => ?_, st.old⟩ w2 (r.lock z hl fun a ha => ha) ⟨nilF, nilF⟩⟩
    have h1 := st.frm a ob ha n
    exact fr a ob h1 fun hb => (o.old a hb).elim n fun q => by rw [ha] at q; cases q
  | exc x ρ1 =>
    rw [e1] at g
    exact h.run pins s σ H Q I ⟨ρ, F, w, by rw [e1]; exact g⟩
  | bad => rw [e1] at g; exact g.elim
/-- the operands of an operation -/
theorem ops_red {o : Op} {cs : List Ex} {σ : L2.St} {H : Hp} {Q : VK} {ρ : Rho} {F : Fps} (w : ER X.kw H ρ σ F) (hp : pureN o cs = false) (hd : isDisp o = false) (g : GoalX X.kw T σ F H (evX P (.node o cs) ρ) Q (fun cls dx H' => W cls dx σ H')) :
    tNode X.kw o (cs.map (tOpd X.kw T P W)) σ H Q := by
  simp only [evX] at g
  rw [if_neg (by unfold pureN at hp; rw [hp]; exact Bool.false_ne_true)] at g
  refine argsXc cs w ?_
  cases e : evOpsC P o cs ρ with
  | ok os ρ1 =>
    rw [e, th_ok, hd, if_neg Bool.false_ne_true] at g
    intro vs H1 F1 gp s1 w1 r1 o1
    exact app_goal w1 s1 r1 g
  | exc x ρ1 => rw [e] at g; exact g
  | bad => rw [e] at g; exact g
theorem tOpds_mono {cs : List Ex} : ∀ t ∈ cs.map (tOpd X.kw T P W), Mono t := fun t ht => by
  obtain ⟨c, _, rfl⟩ := List.mem_map.mp ht
  exact tOpd_mono
theorem dsp_red {o : Op} {cs : List Ex} {σ : L2.St} {H : Hp} {Q : VK} {ρ : Rho} {F : Fps} (w : ER X.kw H ρ σ F) (hp : pureN o cs = false) (hd : isDisp o = true) (g : GoalX X.kw T σ F H (evX P (.node o cs) ρ) Q (fun cls dx H' => W cls dx σ H')) :
    tL (cs.map (tOpd X.kw T P W)) σ H fun vs H1 => vs.length ≤ sizeLine ∧ ∀ p, H1 p = none → Q (.ref p) (upd H1 p (dispH o vs)) := by
  simp only [evX] at g
  rw [if_neg (by unfold pureN at hp; rw [hp]; exact Bool.false_ne_true)] at g
  refine tLc_drop tOpds_mono σ H _ (argsXc (o := o) cs w ?_)
  cases e : evOpsC P o cs ρ with
  | ok os ρ1 =>
    rw [e, th_ok, if_pos hd] at g
    intro vs H1 F1 gp s1 w1 r1 o1
    exact disp_goal w1 s1 r1 o1 g
  | exc x ρ1 => rw [e] at g; exact g
  | bad => rw [e] at g; exact g
theorem node_px (C : CokX X P T k W) {o : Op} {cs : List Ex} {e : Expr} {es : List Expr} (ho : opnds X.env.scope o e = some es) (hi : isiOk o = true) (hp : pureN o cs = false) (ps : PEs X es (cs.map (tOpd X.kw T P W))) : PE X e (tX X.kw T P W (.node o cs)) := by
  by_cases hd : isDisp o = true
  · cases o with
    | lst =>
      simp only [opnds] at ho
      split at ho
      · cases ho
        exact peWeak (pe_lst ps.pa) fun σ H Q ⟨ρ, F, w, g⟩ => dsp_red w hp hd g
      · cases ho
    | tup =>
      simp only [opnds] at ho
      split at ho
      · cases ho
        exact peWeak (pe_tup ps.pa) fun σ H Q ⟨ρ, F, w, g⟩ => dsp_red w hp hd g
      · cases ho
    | _ => cases hd
  · exact peWeak (node_pe C.toCok o ho (fun T hT => by subst hT; exact hi) ps) fun σ H Q ⟨ρ, F, w, g⟩ => ops_red w hp (by simpa using hd) g
theorem node_pxt (C : CokX X P T k W) {o : CmpOp} {cs : List Ex} {e : Expr} {es : List Expr} (ho : opnds X.env.scope (.cmp o) e = some es) (hp : pureN (.cmp o) cs = false) (ps : PEs X es (cs.map (tOpd X.kw T P W))) : PT X e (tXT X.kw T P W (.node (.cmp o) cs)) := by
  refine ptWeak (cmpN_pe C.toCok ho ps).2 fun σ H Q ⟨ρ, F, w, g⟩ => ?_
  exact tLc_drop tOpds_mono σ H _ (ops_red w hp rfl g.val)
theorem WL.imm_frm {K : KW} {H H' : Hp} {U : Addr → Prop} {ds : List D} {vs : List V} (w : WL K H ds vs) (i : immL ds = true) (h : Frm U H H') (o : OwnW U H) : WL K H' ds vs := ((w.reps i).frm h o nilF).wl
theorem immL_of {d : D} {ds : List D} (h : immL ds = true) (m : d ∈ ds) : d.imm = true := immL_iff.mp h d m
theorem Reps.append {K : KW} {H : Hp} {ys : List D} {ws : List V} {g : List Addr} (b : Reps K H ys ws g) : ∀ {xs : List D} {us : List V} {f : List Addr}, Reps K H xs us f → (∀ a ∈ f, a ∉ g) → Reps K H (xs ++ ys) (us ++ ws) (f ++ g)
  | _, _, _, .nil, _ => b
  | _, _, _, .cons (f := f1) (g := f2) r rs n, d => by
    rw [List.append_assoc]
    refine .cons r (Reps.append b rs fun a ha => d a (List.mem_append_right _ ha)) fun a ha q => ?_
    rcases List.mem_append.mp q with z | z
    · exact n a ha z
    · exact d a (List.mem_append_left _ ha) z
theorem enumD_imm : ∀ {xs : List D} {k : Nat}, immL xs = true → immL (enumD k xs) = true
  | [], _, _ => rfl
  | x :: xs, k, h => by
    simp only [immL, Bool.and_eq_true] at h
    simp only [enumD, immL, D.imm, h.1, enumD_imm h.2, Bool.and_self]
theorem zipD_imm : ∀ {xs ys : List D}, immL xs = true → immL ys = true → immL (zipD xs ys) = true
  | [], _, _, _ => by simp only [zipD, immL]
  | _ :: _, [], _, _ => by simp only [zipD, immL]
  | x :: xs, y :: ys, h, h2 => by
    simp only [immL, Bool.and_eq_true] at h h2
    simp only [zipD, immL, D.imm, h.1, h2.1, zipD_imm h.2 h2.2, Bool.and_self]
theorem pairsD_imm : ∀ {ks vs : List D}, immL ks = true → immL vs = true → immL (pairsD ks vs) = true
  | [], _, _, _ => rfl
  | _ :: _, [], _, _ => rfl
  | k :: ks, v :: vs, h, h2 => by
    simp only [immL, Bool.and_eq_true] at h h2
    simp only [pairsD, immL, D.imm, h.1, h2.1, pairsD_imm h.2 h2.2, Bool.and_self]
theorem itemsOf_imm {d : D} {items : List D} (i : d.imm = true) (h : itemsOf d = some items) : immL items = true := by
  cases d with
  | lst o xs =>
    cases h
    simp only [D.imm, Bool.and_eq_true] at i
    exact i.2
  | tup xs =>
    cases h
    simpa only [D.imm] using i
  | str l =>
    cases h
    exact immL_iff.mpr fun d hd => by
      obtain ⟨c, _, rfl⟩ := List.mem_map.mp hd
      rfl
  | _ => cases h
theorem items_imm {k : SrcK} {ds items : List D} (i : immL ds = true) (h : srcItems k ds = some items) : immL items = true := by
  unfold srcItems at h
  split at h
  · simp only [immL, Bool.and_eq_true] at i
    rename_i d
    cases d with
    | dic o ks vs =>
      cases o with
      | true => cases h
      | false =>
        cases h
        simp only [D.imm, Bool.and_eq_true] at i
        exact i.1.2.1
    | _ => exact itemsOf_imm i.1 h
  · split at h
    · cases h
      exact immL_iff.mpr fun d hd => by
        obtain ⟨c, _, rfl⟩ := List.mem_map.mp hd
        rfl
    · cases h
  · split at h
    · cases h
      exact immL_iff.mpr fun d hd => by
        obtain ⟨c, _, rfl⟩ := List.mem_map.mp hd
        rfl
    · cases h
  · simp only [Option.map_eq_some_iff] at h
    obtain ⟨xs, e, rfl⟩ := h
    simp only [immL, Bool.and_eq_true] at i
    exact enumD_imm (itemsOf_imm i.1 e)
  · split at h
    rotate_left
    · cases h
    rename_i ea eb
    split at h
    · cases h
      simp only [immL, Bool.and_eq_true] at i
      exact zipD_imm (itemsOf_imm i.1 ea) (itemsOf_imm i.2.1 eb)
    · cases h
  · split at h
    · cases h
      simp only [immL, D.imm, Bool.and_eq_true] at i
      exact pairsD_imm i.1.2.1 i.1.2.2
    · cases h
  · cases h
    simp only [immL, D.imm, Bool.and_eq_true] at i
    exact i.1.2.2
  · cases h
theorem merge_at {vs : List Nat} {ρ ρ' : Rho} {i : Nat} (h : i < ρ.length) : (mergeR vs ρ ρ')[i]? = some (if vs.contains i then (ρ[i]?).join else (ρ'[i]?).join) := by
  unfold mergeR
  rw [List.getElem?_map, List.getElem?_range h]
  rfl
theorem merge_out {vs : List Nat} {ρ ρ' : Rho} {i : Nat} (h : ¬ i < ρ.length) : (mergeR vs ρ ρ')[i]? = none := by
  unfold mergeR
  rw [List.getElem?_eq_none (by simpa using h)]
theorem joined {ρ : Rho} {i : Nat} {d : D} (h : (ρ[i]?).join = some d) : ρ[i]? = some (some d) := by
  cases e : ρ[i]? with
  | none => rw [e] at h; cases h
  | some y => rw [e] at h; rw [show y = some d from h]
/-- the block's names are as they were ahead of it -/
theorem ER.merge {K : KW} {H1 Hc : Hp} {ρ0 ρc : Rho} {σ : L2.St} {F1 Fc : Fps} {vs : List Nat} (w1 : ER K H1 ρ0 σ F1) (sc : Stp (wipeF F1 vs) H1 Fc Hc) (wc : ER K Hc ρc (L2.wipe σ vs) Fc) :
    ER K Hc (mergeR vs ρ0 ρc) σ (fun i => if i ∈ vs then F1 i else Fc i) := by
  have lenc : ρc.length = ρ0.length := by rw [wc.len, wipe_length, w1.len]
  have cross : ∀ i j, i ∈ vs → j ∉ vs → ∀ a ∈ F1 i, a ∉ Fc j := fun i j hi hj a ha hb => by
    rcases sc.old a ⟨j, hb⟩ with z | z
    · obtain ⟨k, hk, hb⟩ := inF_wipe z
      exact w1.dj i k (fun e => hk (e ▸ hi)) a ha hb
    · exact w1.there ⟨i, ha⟩ z
  refine ⟨by unfold mergeR; simpa using w1.len, fun i d e => ?_, fun i h => ?_, fun i j hij a ha hb => ?_⟩
  · by_cases hl : i < ρ0.length
    · rw [merge_at hl] at e
      by_cases hi : i ∈ vs
      · rw [if_pos (by simpa using hi)] at e
        obtain ⟨v, hv, r⟩ := w1.at_ i d (joined (Option.some.inj e))
        refine ⟨v, hv, ?_⟩
        simp only [if_pos hi]
        exact r.frm sc.frm (w1.wipe vs).own fun a ha q => by
          obtain ⟨k, hk, hb⟩ := inF_wipe q
          exact w1.dj i k (fun e => hk (e ▸ hi)) a ha hb
      · rw [if_neg (by simpa using hi)] at e
        obtain ⟨v, hv, r⟩ := wc.at_ i d (joined (Option.some.inj e))
        rw [wipe_not hi] at hv
        refine ⟨v, hv, ?_⟩
        simp only [if_neg hi]
        exact r
    · rw [merge_out hl] at e; cases e
  · by_cases hi : i ∈ vs
    · simp only [if_pos hi]
      refine w1.no i fun d e => h d ?_
      have hl : i < ρ0.length := by
        rcases Nat.lt_or_ge i ρ0.length with z | z
        · exact z
        · rw [List.getElem?_eq_none z] at e; cases e
      rw [merge_at hl, if_pos (by simpa using hi), e]
      rfl
    · simp only [if_neg hi]
      refine wc.no i fun d e => h d ?_
      have hl : i < ρ0.length := by
        rcases Nat.lt_or_ge i ρc.length with z | z
        · omega
        · rw [List.getElem?_eq_none z] at e; cases e
      rw [merge_at hl, if_neg (by simpa using hi), e]
      rfl
  · by_cases hi : i ∈ vs
    · simp only [if_pos hi] at ha
      by_cases hj : j ∈ vs
      · simp only [if_pos hj] at hb
        exact w1.dj i j hij a ha hb
      · simp only [if_neg hj] at hb
        exact cross i j hi hj a ha hb
    · simp only [if_neg hi] at ha
      by_cases hj : j ∈ vs
      · simp only [if_pos hj] at hb
        exact cross j i hj hi a hb ha
      · simp only [if_neg hj] at hb
        exact wc.dj i j hij a ha hb
/-- a comprehension with effect -/
theorem comp_redX {own : List (Str × Nat)} {elt : Ex} {p : Pat} {kk : SrcK} {ss ifs : List Ex} (hpu : (pureC elt && flatE elt && pureCs ss && pureCs ifs) = false) (hsl : ∀ i ∈ slotsP p, i ∈ own.map (·.2)) {σ : L2.St} {H : Hp} {Q : VK} (h : tX X.kw T P W (.comp own elt p kk ss ifs) σ H Q) :
    L2.tLc (iSrc X.kw kk (ss.map (tOpd X.kw T P W))) (gP X.kw p) (fun σ H Q => ∃ ρ F b ρ', ER X.kw H ρ σ F ∧ evXt P ifs ρ = .ok b ρ' ∧ ∀ H' F', Stp F H F' H' → ER X.kw H' ρ' σ F' → Q b H') (tX X.kw T P W0 elt) (own.map (·.2)) σ H Q := by
  obtain ⟨ρ, F, w, g⟩ := h
  simp only [evX] at g
  rw [if_neg (by rw [hpu]; exact Bool.false_ne_true)] at g
  generalize eI : own.map (·.2) = vs at *
  refine argsX ss w ?_
  cases e : evOps P ss ρ with
  | exc x ρ1 => rw [e] at g; exact g
  | bad => rw [e] at g; exact g
  | ok os ρ0 =>
  rw [e, th_ok] at g
  intro us H1 F1 gp s1 w1 r1 o1
  cases eds : getAll ρ0 os with
  | none => rw [eds] at g; exact g.elim
  | some ds =>
  rw [eds, optX_some] at g
  split at g
  rotate_left
  · exact g.elim
  rename_i hln
  cases eit : srcItems kk ds with
  | none => rw [eit] at g; exact g.elim
  | some items =>
  rw [eit, optX_some] at g
  split at g
  rotate_left
  · exact g.elim
  rename_i hlim
  obtain ⟨hlim, him⟩ := hlim
  have rs1 := r1.reps w1 eds hln
  have wl1 : WL X.kw H1 ds us := r1.wl w1 eds
  obtain ⟨J, wk, wd⟩ := src_ok wl1 eit
  refine ⟨J, wk, fun L hL => ?_⟩
  generalize est : (fun d ρ1 => optX (bindP p d ρ1) fun ρ2 => (evXt P ifs ρ2).th fun b ρ3 => if b = true then (evX P elt ρ3).th fun y ρ4 => (RX.ok (some y) (wipeR ρ4 vs) : RX (Option D)) else .ok none (wipeR ρ3 vs)) = step at g
  have hstep : ∀ d ρ1, step d ρ1 = optX (bindP p d ρ1) fun ρ2 => (evXt P ifs ρ2).th fun b ρ3 => if b = true then (evX P elt ρ3).th fun y ρ4 => (RX.ok (some y) (wipeR ρ4 vs) : RX (Option D)) else .ok none (wipeR ρ3 vs) := fun d ρ1 => by rw [← est]
  cases ec : compX step [] items (wipeR ρ0 vs) with
  | exc x ρ1 => exact absurd ec compX_no
  | bad => rw [ec] at g; exact g.elim
  | ok ys ρE =>
  rw [ec, th_ok] at g
  have w1w := w1.wipe vs
  have subW : ∀ a, inF (wipeF F1 vs) a → inF F1 a := fun a h => let ⟨i, _, h⟩ := inF_wipe h; ⟨i, h⟩
  -- what the sources are stays
  have wlAt : ∀ {Hc : Hp} {Fc : Fps}, Stp (wipeF F1 vs) H1 Fc Hc → WL X.kw Hc ds us ∧ KpS H1 Hc := fun s => ⟨(rs1.stp w1w s fun a ha q => r1.out a ha (subW a q)).wl, _, s.frm, w1w.own⟩
  refine ⟨fun i m Hc => m = items.length - i ∧ i ≤ items.length ∧ ∃ ρc Fc zs acc gg, compX step zs (items.drop i) ρc = .ok ys ρE ∧ ER X.kw Hc ρc (L2.wipe σ vs) Fc ∧ Stp (wipeF F1 vs) H1 Fc Hc ∧ Hc L = some (.lst acc) ∧ ¬ inF Fc L ∧
      Reps X.kw Hc zs acc gg ∧ (∀ a ∈ gg, ¬ inF Fc a ∧ a ≠ L) ∧ (∀ a ∈ gg, inF (wipeF F1 vs) a ∨ H1 a = none) ∧ acc.length ≤ i,
    ⟨_, rfl, Nat.zero_le _, _, wipeF F1 vs, [], [], [], by rw [List.drop_zero]; exact ec, w1w.same (same_upd hL), .same (same_upd hL), upd_same, fun q => w1w.there q hL, .nil, nilF, nilF, Nat.le_refl _⟩, ?_⟩
  rintro i m Hc ⟨rfl, hi', ρc, Fc, zs, acc, gg, ec, wc, sc, hLc, nL, rz, og, ogo, hlen⟩
  by_cases hlt : i < items.length
  · have hd : items[i]? = some items[i] := List.getElem?_eq_getElem hlt
    rw [List.drop_eq_getElem_cons hlt] at ec
    refine .inr ⟨wd.go i Hc (wlAt sc) hlt, fun H' => ∃ ρc Fc zs acc gg, compX step zs (items.drop (i + 1)) ρc = .ok ys ρE ∧ ER X.kw H' ρc (L2.wipe σ vs) Fc ∧ Stp (wipeF F1 vs) H1 Fc H' ∧ H' L = some (.lst acc) ∧ ¬ inF Fc L ∧
      Reps X.kw H' zs acc gg ∧ (∀ a ∈ gg, ¬ inF Fc a ∧ a ≠ L) ∧ (∀ a ∈ gg, inF (wipeF F1 vs) a ∨ H1 a = none) ∧ acc.length ≤ i + 1,
      fun H' z => ⟨items.length - (i + 1), by omega, rfl, hlt, z⟩, fun x H2 hy => ?_⟩
    obtain ⟨sm2, f0, r0⟩ := wd.yld i Hc x H2 (wlAt sc) hy _ hd
    have im0 : (items[i]).imm = true := immL_of him (List.getElem_mem hlt)
    have r0 : Rep X.kw H2 items[i] x [] := by have q := r0.imm_nil im0; rw [q] at r0; exact r0
    have wc2 := wc.same sm2
    have hL2 : H2 L = some (.lst acc) := sm2 _ _ hLc
    have main : ∀ o ρ1, step items[i] ρc = .ok o ρ1 → ∃ ρ2 b ρ3, bindP p items[i] ρc = some ρ2 ∧ evXt P ifs ρ2 = .ok b ρ3 ∧ (if b = true then ∃ y ρ4, evX P elt ρ3 = .ok y ρ4 ∧ o = some y ∧ ρ1 = wipeR ρ4 vs else o = none ∧ ρ1 = wipeR ρ3 vs) := fun o ρ1 es => by
      rw [hstep] at es
      obtain ⟨ρ2, e1, es⟩ := optX_is es
      obtain ⟨b, ρ3, e2, es⟩ := th_is es
      refine ⟨ρ2, b, ρ3, e1, e2, ?_⟩
      cases b with
      | true =>
        rw [if_pos rfl] at es ⊢
        obtain ⟨y, ρ4, e3, es⟩ := th_is es
        cases es
        exact ⟨y, ρ4, e3, rfl, rfl⟩
      | false =>
        rw [if_neg Bool.false_ne_true] at es ⊢
        cases es
        exact ⟨rfl, rfl⟩
    have goOn : ∀ o ρ1, step items[i] ρc = .ok o ρ1 → compX step (match o with
        | none => zs
        | some y => zs ++ [y]) (items.drop (i + 1)) ρ1 = .ok ys ρE → gP X.kw p x (L2.wipe σ vs) H2 fun σ2 H2 => L2.wipe σ2 vs = L2.wipe σ vs ∧ (∃ ρ F b ρ', ER X.kw H2 ρ σ2 F ∧ evXt P ifs ρ = .ok b ρ' ∧ ∀ H' F', Stp F H2 F' H' → ER X.kw H' ρ' σ2 F' →
          if b = true then tX X.kw T P W0 elt σ2 H' fun y H4 => ∃ acc, H4 L = some (.lst acc) ∧ acc.length < sizeLine ∧ (∃ ρc Fc zs acc' gg, compX step zs (items.drop (i + 1)) ρc = .ok ys ρE ∧ ER X.kw (upd H4 L (.lst (acc ++ [y]))) ρc (L2.wipe σ vs) Fc ∧ Stp (wipeF F1 vs) H1 Fc (upd H4 L (.lst (acc ++ [y]))) ∧ (upd H4 L (.lst (acc ++ [y]))) L = some (.lst acc') ∧ ¬ inF Fc L ∧
            Reps X.kw (upd H4 L (.lst (acc ++ [y]))) zs acc' gg ∧ (∀ a ∈ gg, ¬ inF Fc a ∧ a ≠ L) ∧ (∀ a ∈ gg, inF (wipeF F1 vs) a ∨ H1 a = none) ∧ acc'.length ≤ i + 1)
          else ∃ ρc Fc zs acc gg, compX step zs (items.drop (i + 1)) ρc = .ok ys ρE ∧ ER X.kw H' ρc (L2.wipe σ vs) Fc ∧ Stp (wipeF F1 vs) H1 Fc H' ∧ H' L = some (.lst acc) ∧ ¬ inF Fc L ∧
            Reps X.kw H' zs acc gg ∧ (∀ a ∈ gg, ¬ inF Fc a ∧ a ≠ L) ∧ (∀ a ∈ gg, inF (wipeF F1 vs) a ∨ H1 a = none) ∧ acc.length ≤ i + 1) := by
      intro o ρ1 es ec'
      obtain ⟨ρ2, b, ρ3, eb, et, rest⟩ := main o ρ1 es
      obtain ⟨σ2, F2, bv, w2, c2⟩ := bindP_er p wc2 r0 nilF eb
      have bw : L2.wipe σ2 vs = L2.wipe σ vs := bv.wipe hsl
      have c2' : ∀ a, inF F2 a → inF Fc a := fun a h => (c2 a h).elim id fun z => by cases z
      have s2 : Stp (wipeF F1 vs) H1 F2 H2 := (sc.trans (.same sm2)).sub c2'
      have nL2 : ¬ inF F2 L := fun q => nL (c2' L q)
      refine ⟨σ2, bv, bw, ρ2, F2, b, ρ3, w2, et, fun H3 F3 s3 w3 => ?_⟩
      have s3' := s2.trans s3
      have hL3 : H3 L = some (.lst acc) := s3.frm _ _ hL2 nL2
      have nL3 : ¬ inF F3 L := fun q => (s3.old L q).elim nL2 fun z => by rw [hL2] at z; cases z
      have rz2 := rz.same sm2
      have og2 : ∀ a ∈ gg, ¬ inF F2 a := fun a ha q => (og a ha).1 (c2' a q)
      have rz3 := rz2.stp w2 s3 og2
      have og3 := out_stp s3 rz2.there og2
      cases b with
      | false =>
        rw [if_neg Bool.false_ne_true] at rest
        obtain ⟨rfl, rfl⟩ := rest
        refine iteF ?_
        refine ⟨_, wipeF F3 vs, zs, acc, gg, ec', by have q := w3.wipe vs; rw [bw] at q; exact q, s3'.sub fun a h => let ⟨j, _, h⟩ := inF_wipe h; ⟨j, h⟩, hL3, fun q => nL3 (let ⟨j, _, h⟩ := inF_wipe q; ⟨j, h⟩), rz3, fun a ha => ⟨fun q => og3 a ha (let ⟨j, _, h⟩ := inF_wipe q; ⟨j, h⟩), (og a ha).2⟩, ogo, by omega⟩
      | true =>
        rw [if_pos rfl] at rest
        obtain ⟨y, ρ4, ey, rfl, rfl⟩ := rest
        refine iteT ⟨ρ3, F3, w3, ?_⟩
        rw [ey]
        intro v H4 F4 f s4 w4 r4 o4
        have s4' := s3'.trans s4
        have hL4 : H4 L = some (.lst acc) := s4.frm _ _ hL3 nL3
        have nL4 : ¬ inF F4 L := fun q => (s4.old L q).elim nL3 fun z => by rw [hL3] at z; cases z
        have rz4 := rz3.stp w3 s4 og3
        have og4 := out_stp s4 rz3.there og3
        have th3 := rz3.there
        have nLf : L ∉ f := fun q => (o4.old L q).elim nL3 fun z => by rw [hL3] at z; cases z
        have fr : Frm (fun a => a = L) H4 (upd H4 L (.lst (acc ++ [v]))) := fun a ob ha n => by rw [upd_ne n]; exact ha
        have oU : OwnW (fun a => a = L) H4 := fun a ha => by subst ha; exact ⟨_, hL4, id⟩
        refine ⟨acc, hL4, by rw [lim_eq]; omega, wipeR ρ4 vs, wipeF F4 vs, zs ++ [y], acc ++ [v], gg ++ f, ec', ?_, ?_, upd_same, fun q => nL4 (let ⟨j, _, h⟩ := inF_wipe q; ⟨j, h⟩), ?_, ?_, ?_, ?_⟩
        · have q := (w4.frm fr oU fun a h z => nL4 (z ▸ h)).wipe vs
          rw [bw] at q
          exact q
        · refine ⟨fun a ob ha n => ?_, fun a ha => s4'.old a (let ⟨j, _, h⟩ := inF_wipe ha; ⟨j, h⟩)⟩
          rw [upd_ne (ne_of_none ha hL)]
          exact s4'.frm a ob ha n
        · refine Reps.append ?_ (rz4.frm fr oU fun a ha z => (og a ha).2 z) fun a ha hb => ?_
          · have q := Reps.cons (r4.frm fr oU fun a ha z => nLf (z ▸ ha)) (.nil (H := upd H4 L (.lst (acc ++ [v])))) (fun a _ z => by cases z)
            rw [List.append_nil] at q
            exact q
          · rcases o4.old a hb with z | z
            · exact og3 a ha z
            · exact th3 a ha z
        · intro a ha
          rcases List.mem_append.mp ha with z | z
          · exact ⟨fun q => og4 a z (let ⟨j, _, h⟩ := inF_wipe q; ⟨j, h⟩), (og a z).2⟩
          · exact ⟨fun q => o4.out a z (let ⟨j, _, h⟩ := inF_wipe q; ⟨j, h⟩), fun q => nLf (q ▸ z)⟩
        · intro a ha
          rcases List.mem_append.mp ha with z | z
          · exact ogo a z
          · rcases o4.old a z with y | y
            · exact s3'.old a y
            · exact s3'.none_back y
        · rw [List.length_append, List.length_singleton]; omega
    rcases compX_is ec with ⟨ρ1, es, ec'⟩ | ⟨y, ρ1, es, ec'⟩
    · exact goOn none ρ1 es ec'
    · exact goOn (some y) ρ1 es ec'
  · have e : i = items.length := by omega
    subst e
    refine .inl ⟨wd.stop Hc (wlAt sc), ?_⟩
    rw [List.drop_length] at ec
    cases ec
    refine g (.ref L) Hc (fun i => if i ∈ vs then F1 i else Fc i) (L :: gg) ?_ (w1.merge sc wc) (.own hLc rz fun q => (og L q).2 rfl) ?_
    · refine s1.trans ⟨sc.frm.mono subW, fun a ⟨i, h⟩ => ?_⟩
      by_cases hi : i ∈ vs
      · simp only [if_pos hi] at h
        exact .inl ⟨i, h⟩
      · simp only [if_neg hi] at h
        exact (sc.old a ⟨i, h⟩).imp (subW a) id
    · refine ⟨fun a ha ⟨i, h⟩ => ?_, fun a ha => ?_⟩
      · by_cases hi : i ∈ vs
        · simp only [if_pos hi] at h
          rcases List.mem_cons.mp ha with z | z
          · rw [z] at h; exact w1.there ⟨i, h⟩ hL
          · rcases ogo a z with q | q
            · obtain ⟨k', hk, hb⟩ := inF_wipe q
              exact w1.dj i k' (fun e => hk (e ▸ hi)) a h hb
            · exact w1.there ⟨i, h⟩ q
        · simp only [if_neg hi] at h
          rcases List.mem_cons.mp ha with z | z
          · rw [z] at h; exact nL ⟨i, h⟩
          · exact (og a z).1 ⟨i, h⟩
      · rcases List.mem_cons.mp ha with z | z
        · rw [z]; exact s1.none_back hL
        · rcases ogo a z with q | q
          · exact s1.old a (subW a q)
          · exact s1.none_back q
theorem comp_px (C : CokX X P T k W) {own : List (Str × Nat)} {elt : Ex} {p : Pat} {kk : SrcK} {ss ifs : List Ex} {e1 tg iter : Expr} {ts : List Expr} {scope : Scope} {pos : Pos}
    (hpu : (pureC elt && flatE elt && pureCs ss && pureCs ifs) = false)
    (hi : PI X tg iter (iSrc X.kw kk (ss.map (tOpd X.kw T P W)))) (hb : blkC X.N X.env.scope scope own = true) (hsl : ∀ i ∈ slotsP p, i ∈ own.map (·.2)) (hns : notSet iter = true)
    (hg : ∀ (s : Shared) (H : Hp) (A : Addr) (cl : List (Str × Addr)) (fp : List Addr), PG (X.blk s H scope (compEnvC scope cl A X.env) fp) tg (gP X.kw p))
    (ht : ∀ (s : Shared) (H : Hp) (A : Addr) (cl : List (Str × Addr)) (fp : List Addr), PTs (X.blk s H scope (compEnvC scope cl A X.env) fp) ts (fun σ H Q => ∃ ρ F b ρ', ER X.kw H ρ σ F ∧ evXt P ifs ρ = .ok b ρ' ∧ ∀ H' F', Stp F H F' H' → ER X.kw H' ρ' σ F' → Q b H'))
    (he : ∀ (s : Shared) (H : Hp) (A : Addr) (cl : List (Str × Addr)) (fp : List Addr), PE (X.blk s H scope (compEnvC scope cl A X.env) fp) e1 (tX X.kw T P W0 elt)) :
    PE X (.ListComp e1 [⟨tg, iter, ts, 0⟩] scope pos) (tX X.kw T P W (.comp own elt p kk ss ifs)) := by
  exact peWeak (pe_lc C.calm C.nd hi (blkOk_by hb) hg ht he (folded_plain hns)) fun σ H Q h => comp_redX hpu hsl h
end
end VL

/-! VLM: exceptions made as values. -/
namespace VL
open PySem PySem.Spec PyProof.Rows L2

/-- what may be kept has no parts of its own -/
theorem ini_rep {K : KW} {H : Hp} {d : D} {v : V} {f : List Addr} (r : Rep K H d v f) (h : iniD d = true) : f = [] ∧ d.imm = true ∧ ∀ H', Same H H' → iniV K H' v := by
  unfold iniD at h
  split at h
  · cases r
    exact ⟨rfl, rfl, fun H' _ => .inl ⟨_, rfl, h⟩⟩
  · simp only [Bool.and_eq_true] at h
    cases r with
    | tup sq rs =>
      cases rs with
      | cons r1 rs _ =>
        cases r1
        cases rs with
        | cons r2 rs _ =>
          cases r2
          cases rs
          refine ⟨rfl, rfl, fun H' sm => .inr ⟨_, _, _, rfl, ?_, h.1, h.2⟩⟩
          rcases sq with (q | ⟨o, q⟩) | q
          · exact .inl (.inl (sm _ _ q))
          · exact .inl (.inr ⟨o, sm _ _ q⟩)
          · exact .inr q
  · cases h
/-- what makes an exception gives it -/
theorem pe_of_mk {X : Cx} {e : Expr} {t : L2.St → Hp → XK → Prop} (h : PMk X e t) : PE X e (fun σ H Q => t σ H fun cls d H' => ∀ a, H' a = none → XcE cls d a → Q (.ref a) (upd H' a (XcO cls d a))) := by
  refine ⟨fun pins s σ H Q I q => wpAny_mono (h pins s σ H _ I q) (fun u s1 hu => ?_) fun _ _ z => z⟩
  obtain ⟨a, oe, vs, sI, H', cls, d, rfl, J, k, hne, ha, hz, hd, h1, na, os, ag, r, q⟩ := hu
  have new : ∀ H2, ObjOk X.prog X.w H2 s1.heap a (XcO cls d a) := fun H2 => ⟨⟨oe, vs, ha, hz, hd⟩, ⟨oe, ha⟩, fun h1 h2 ⟨o, v, k, r⟩ f => ⟨o, v, f o k, r⟩⟩
  have J2 := J.laidN (t' := s1.toks) k hne na (new _)
  refine ⟨.ref a, _, ⟨J2.ok, ?_, ag, J2.base, J2.loc, J2.cell, J2.free, J2.freeC, J2.pin, J2.hok, J2.len⟩, rfl, q a na ⟨s1.heap, oe, vs, ha, hz, hd⟩⟩
  rw [os]
  exact J.os
section
variable {X : Cx} {P : Prg} {T : Xt} {k : Nat} {W : WX}
/-- X(a), X keeping it -/
theorem mkE_pe (C : CokX X P T k W) {y : Str} {yp pos : Pos} {a : Expr} {e : Ex} (hg : gl X.env.scope y = true) (hdb : (y == ("__debug__" : Str)) = false) (ns : notStar a = true) (pv : PE X a (tX X.kw T P W e)) :
    PE X (.Call (.Name y yp) [a] [] pos) (tX X.kw T P W (.mkE y e)) := by
  cases hI : iniC P y with
  | none => exact ⟨fun pins s σ H Q I ⟨ρ, F, w, g⟩ => by simp only [evX, hI] at g; exact g.elim⟩
  | some cm =>
    obtain ⟨c, mk⟩ := cm
    have hI0 := hI
    unfold iniC at hI
    split at hI
    rotate_left
    · cases hI
    rename_i c' mk' yes no ct m2 y2 n2 hG hT
    split at hI
    rotate_left
    · cases hI
    rename_i hm0
    obtain ⟨hm1, hm2, rfl⟩ := hm0
    cases hI
    obtain ⟨v, u, hm, rv, rp⟩ := C.glob _ _ hG
    cases rp (fun _ => none) with
    | @cls CA _ _ _ _ ci =>
      cases rv
      have ik := ci.mki hm1 hm2
      obtain ⟨fI, C0, fd, ps, iC, tI, bd, cT, F1⟩ := ik.ex
      obtain ⟨v2, u2, hmT, rv2, rp2⟩ := C.glob _ _ hT
      cases rp2 (fun _ => none) with
      | cls cj =>
        cases rv2
        have e0 := cj.gc
        rw [cT] at e0
        cases e0
        have st := star_cons (es := []) (env := X.env) ns
        refine peWeak (pe_of_mk (pmk_oex (k := 1) ik.ox iC tI (F1 X.mg X.base 0 C.blt hmT) (C.room.mono C.k2) bd Paired.nil (fun pins σ H s e s' I h => by obtain ⟨_, _, _, _, _, _, _, _, _, _, _, _, z⟩ := h; exact z.elim) (show X.env.scope.names.lookup y = some .globalImplicit from of_decide_eq_true hg) hm (pa_cons pv pa_nil st) hdb st (by rfl))) fun σ H Q ⟨ρ, F, w, g⟩ => ?_
        simp only [evX, hI0] at g
        refine ⟨ρ, F, w, ?_⟩
        cases er : evX P e ρ with
        | bad => rw [er] at g; exact g
        | exc x ρ1 => rw [er] at g; exact g
        | ok d ρ1 =>
          rw [er] at g
          simp only [th_ok] at g
          intro v1 H1 F1' f1 s1 w1 r1 o1
          by_cases hi : iniD d = true
          rotate_left
          · rw [if_neg hi] at g; exact g.elim
          rw [if_pos hi] at g
          obtain ⟨hf1, hdi, hvi⟩ := ini_rep r1 hi
          subst hf1
          refine ⟨by simp, fun a na => ⟨a, _, v1, rfl, ik.ox, ik.fo, upd_same, hvi _ (same_upd na), fun H' dx sm nd ne => ⟨rfl, dx, [(Str.ofString mk, v1)], upd_same, ?_, ?_, ?_⟩⟩⟩
          · rw [upd_ne ne, upd_same]
          · cases e1 : H1 dx with
            | none => rfl
            | some o =>
              have := sm dx o (by rw [upd_ne ne]; exact e1)
              rw [nd] at this
              cases this
          · have n1 : H1 dx = none := by
              cases e1 : H1 dx with
              | none => rfl
              | some o =>
                have := sm dx o (by rw [upd_ne ne]; exact e1)
                rw [nd] at this
                cases this
            generalize hH3 : upd (del (upd (upd H' dx (exd dx [(Str.ofString mk, v1)])) a (exo a _ (some dx))) a) dx (.xd [(Str.ofString mk, v1)]) = H3
            have sm3 : Same H1 H3 := fun b o hb => by
              have hba : b ≠ a := fun z => by rw [z, na] at hb; cases hb
              have hbd : b ≠ dx := fun z => by rw [z, n1] at hb; cases hb
              rw [← hH3, upd_ne hbd, del_ne hba, upd_ne hba, upd_ne hbd]
              exact sm b o (by rw [upd_ne hba]; exact hb)
            intro a2 na2 xe
            have sm4 : Same H3 (upd H3 a2 (XcO (.ref CA) (some dx) a2)) := same_upd na2
            have sm5 := sm3.trans sm4
            refine g _ _ F1' [] (s1.trans (.same sm5)) (w1.same sm5) (.exc1 ci.toXIs ik.fo ik.ne xe upd_same (sm4 _ _ (by rw [← hH3, upd_same])) hdi (r1.same sm5)) ⟨nilF, nilF⟩
/-- an exception of the class at C, with its arguments at t0 -/
def ExT (C a t0 : Addr) : HO := .ext fun h => ∃ (oe : Obj) (vs : Array Value), h.get? a = some oe ∧ oe.cls = .ref C ∧ oe.data = .fields vs ∧ vs[0]? = some (.ref t0)
theorem pe_excT {C : Addr} {bmB : List Value} {B newId initId : String} {x : Str} {e : Expr} {te : TE} {p pos : Pos} (F : ExcBaseFacts B newId initId bmB) (q : PySem.W.excIn X.K C bmB newId = true) (gC : X.mg x = some (.ref C)) (kC : PySem.W.keepIn X.K (.ref C) = true) (hg : Gl X x) (hdb : (x == ("__debug__" : Str)) = false)
    (ns : notStar e = true) (he : PE X e te) : PE X (.Call (.Name x p) [e] [] pos) (fun σ H Q => te σ H fun v H1 => ∀ a t, H1 a = none → H1 t = none → a ≠ t → Q (.ref a) (upd (upd H1 t (.tup [v])) a (ExT C a t))) := by
  have hs := star_cons (es := []) (env := X.env) ns
  refine ⟨fun pins s σ H Q I h => wpAny_Call_Name_kw (ld_glob I hg gC ?_ hdb)⟩
  refine PySem.W.callWith_K (h₀ := X.base) I.ok.mod.kin kC ?_ hs (by rfl)
  rw [hs]
  refine Calls.spliced_cons (thn (he.run pins s σ H _ I h) fun u s1 hh => Calls.spliced_nil ?_)
  obtain ⟨v, H1, I1, r1, q1⟩ := hh
  obtain ⟨bm, N, nm, qn, bs, hdct, sn, sub, ab, col, dd, k0, k1, k2, k3, k5, mN, hC, hN, hni, T⟩ := exc_obj I1.kIn q
  refine ⟨I1.kIn, wpAny_call_exc_subT F T hC hN hni (fun h' a hm => ?_) (by show 1 ≤ sizeLine; rw [sizeLine_eq]; omega)⟩
  obtain ⟨t, ht, tn, tt⟩ := hm.there
  have na : H1 a = none := I1.hok.gone hm.new
  have nt : H1 t = none := I1.hok.gone tn
  have hat : a ≠ t := fun z => by
    subst z
    rw [ht] at tt
    have := congrArg Obj.data (Option.some.inj tt)
    cases this
  have kp : ∀ b o, (s1.heap).get? b = some o → h'.get? b = some o := hm.keeps
  -- the row first, then the exception
  have I2 : Inv X pins σ (upd H1 t (.tup [v])) { s1 with heap := h' } := I1.laidN (t' := s1.toks) kp tn nt ⟨by show 1 ≤ sizeLine; rw [sizeLine_eq]; omega, [u], .cons r1 .nil, ⟨_, tt, rfl, _, rfl⟩⟩
  have na2 : upd H1 t (.tup [v]) a = none := by rw [upd_ne hat]; exact na
  have U : Un X.fs [] H1 (upd (upd H1 t (.tup [v])) a (ExT C a t)) s1.heap h' := by
    have U1 : Un X.fs [] H1 (upd H1 t (.tup [v])) s1.heap h' := Un.laidN kp tn nt
    refine ⟨U1.keep, U1.slot, fun b o e n x => ?_, U1.there, fun b xs e => ?_, fun b o w e => ?_, fun b ps e => ?_⟩
    · rw [upd_ne (fun z => by rw [z, hm.new] at e; cases e)]
      exact U1.free b o e n x
    · rw [upd_ne (fun z => by rw [z, na] at e; cases e)]
      exact U1.tups b xs e
    · rw [upd_ne (fun z => by rw [z, na] at e; cases e)]
      exact U1.frzs b o w e
    · obtain ⟨m, q⟩ := U1.tbls b ps e
      exact ⟨m, by rw [upd_ne (fun z => by rw [z, na] at e; cases e)]; exact q⟩
  have K2 : HOk X.prog X.w (upd (upd H1 t (.tup [v])) a (ExT C a t)) h' := fun b o e => by
    by_cases hb : b = a
    · subst hb
      rw [upd_same] at e
      cases e
      exact ⟨⟨_, _, ht, rfl, rfl, rfl⟩, ⟨_, ht⟩, fun h1 h2 ⟨o, w, k, r⟩ f => ⟨o, w, f o k, r⟩⟩
    · rw [upd_ne hb] at e
      exact (I2.hok b o e).stay (fun _ _ _ z => z) (fun c z => by rw [upd_ne (fun y => by rw [y, na2] at z; cases z)]; exact z) fun c xs z => by rw [upd_ne (fun y => by rw [y, na2] at z; cases z)]; exact z
  have I3 : Inv X pins σ (upd (upd H1 t (.tup [v])) a (ExT C a t)) { s1 with heap := h' } := I1.un (t' := s1.toks) U K2
  exact ⟨.ref a, _, I3, rfl, q1 a t na nt hat⟩
/-- its text -/
theorem strT_ok (hu : X.A.units + 65 < cLine) {C : Addr} (hs : PySem.W.findIn X.K (.ref C) "__str__" = some (some (.builtin "BaseException.__str__"))) (hB : PySem.W.subIn X.K (.ref C) (.type "BaseException") = some true) :
    CallR X (.type "str") (fun xs H Q => ∃ a t m, xs = [.ref a] ∧ H a = some (ExT C a t) ∧ H t = some (.tup [.str m]) ∧ Q (.str m) H) := by
  intro pins s σ H xs us Q I r h
  obtain ⟨a, t, m, rfl, ha, ht, q⟩ := h
  cases r with
  | cons r0 rn =>
    cases rn
    cases r0
    obtain ⟨⟨oe, vs, ho, hc, hd, h0⟩, _, _⟩ := I.hok a _ ha
    obtain ⟨_, its, rv, o, h1, h2, n, h3⟩ := (show ObjOk X.prog X.w H s.heap t (.tup [.str m]) from I.hok t _ ht)
    cases rv with
    | cons r1 rr =>
      cases rr
      obtain ⟨tk, rfl⟩ := r1
      exact PySem.P.str_of_C_one (by omega) ⟨I.kIn, oe, vs, ho, hc, hd, h0⟩ ⟨o, n, h1, h2, h3⟩ hs hB ⟨.str m, H, I, ⟨tk, rfl⟩, q⟩
/-- str(X(a)), a a text -/
theorem strE_pe (C : CokX X P T k W) {z y : Str} {zp yp ip pos : Pos} {a : Expr} {e : Ex} (hz : z = ("str" : Str)) (hgs : gl X.env.scope z = true) (hg : gl X.env.scope y = true) (hdb : (y == ("__debug__" : Str)) = false) (ns : notStar a = true) (pv : PE X a (tX X.kw T P W e)) :
    PE X (.Call (.Name z zp) [.Call (.Name y yp) [a] [] ip] [] pos) (tX X.kw T P W (.strE y e)) := by
  subst hz
  cases hG : P.G y with
  | none => exact ⟨fun pins s σ H Q I ⟨ρ, F, w, g⟩ => by simp only [evX, hG] at g; exact g.elim⟩
  | some d =>
    cases d with
    | cls c mk yes no =>
      by_cases hmk : mk = "="
      rotate_left
      · refine ⟨fun pins s σ H Q I ⟨ρ, F, w, g⟩ => ?_⟩
        simp only [evX, hG] at g
        split at g
        · rename_i h0
          cases h0
          exact absurd rfl hmk
        · exact g.elim
      subst hmk
      obtain ⟨v, u, hm, rv, rp⟩ := C.glob _ _ hG
      cases rp (fun _ => none) with
      | @cls CA _ _ _ _ ci =>
        cases rv
        obtain ⟨hx, hs⟩ := ci.mkd rfl
        have hgl : X.env.scope.names.lookup y = some .globalImplicit := of_decide_eq_true hg
        have inner := pe_excT PySem.F.excBase_ValueError hx hm ci.kp hgl hdb ns pv (pos := ip) (p := yp)
        refine peWeak (pe_callTy (strT_ok C.units hs ci.sub) (show X.env.scope.names.lookup ("str" : Str) = some .globalImplicit from of_decide_eq_true hgs) (C.blt _ (by decide +kernel)) boot_str (pa_cons inner pa_nil) (by decide +kernel) (by decide +kernel)) fun σ H Q ⟨ρ, F, w, g⟩ => ?_
        simp only [evX, hG] at g
        refine ⟨ρ, F, w, ?_⟩
        cases er : evX P e ρ with
        | bad => rw [er] at g; exact g
        | exc x ρ1 => rw [er] at g; exact g
        | ok d ρ1 =>
          rw [er] at g
          simp only [th_ok] at g
          intro v1 H1 F1' f1 s1 w1 r1 o1
          cases d with
          | str m =>
            cases r1 with
            | str _ hok =>
              intro a t na nt hat
              have sm : Same H1 (upd (upd H1 t (.tup [.str ⟨m.toArray⟩])) a (ExT CA a t)) := fun b o hb => by
                rw [upd_ne (fun z => by rw [z, na] at hb; cases hb), upd_ne (fun z => by rw [z, nt] at hb; cases hb)]
                exact hb
              refine ⟨a, t, ⟨m.toArray⟩, rfl, upd_same, by rw [upd_ne (Ne.symm hat), upd_same], ?_⟩
              exact g _ _ F1' [] (s1.trans (.same sm)) (w1.same sm) (.str m hok) ⟨nilF, nilF⟩
          | _ => exact g.elim
    | _ => exact ⟨fun pins s σ H Q I ⟨ρ, F, w, g⟩ => by simp only [evX, hG] at g; exact g.elim⟩
end
end VL

/-! VL16: expressions with effect: sound. -/
namespace VL
open PySem PySem.Spec PyProof.Rows L2
section
variable {P : Prg} {T : Xt} {k : Nat}
theorem neg_if {b : Bool} (h : ¬ b = true) : b = false := by cases b <;> first | rfl | exact absurd rfl h
mutual
theorem px_ok : ∀ (c : Ex) {X : Cx} {W : WX} (C : CokX X P T k W) (e : Expr), mX X.N X.env.scope X.fn c e = true → PE X e (tX X.kw T P W c)
  | .lit d, X, W, C, e, h => by
    unfold mX at h
    exact pure_pe (pe_ok (.lit d) C.toCokG e h) fun ρ => by simp only [evX]
  | .var i, X, W, C, e, h => by
    unfold mX at h
    exact pure_pe (pe_ok (.var i) C.toCokG e h) fun ρ => by simp only [evX]
  | .glob y, X, W, C, e, h => by
    unfold mX at h
    exact pure_pe (pe_ok (.glob y) C.toCokG e h) fun ρ => by simp only [evX]
  | .chain o o' a b c, X, W, C, e, h => by
    unfold mX at h
    exact pure_pe (pe_ok (.chain o o' a b c) C.toCokG e h) fun ρ => by simp only [evX]
  | .tk i, X, W, C, e, h => by
    unfold mX mE at h
    split at h
    · simp only [Bool.and_eq_true, decide_eq_true_eq] at h
      obtain ⟨n1, n2⟩ := okName_ok h.2
      refine peWeak (pe_var h.1.1 (vis_ok h.1.2) n1 n2) fun σ H Q ⟨ρ, F, w, g⟩ => ?_
      simp only [evX] at g
      cases hd : slotOf ρ i with
      | none => rw [hd] at g; exact g.elim
      | some d =>
      rw [hd, optX_some] at g
      obtain ⟨v, hv, r⟩ := w.at_ i d (slotOf_some hd)
      exact ⟨v, hv, take_goal w (slotOf_some hd) hv g⟩
    · cases h
  | .fz a, X, W, C, e, h => by
    unfold mX at h
    exact fz_pe (px_ok a C e h)
  | .no, X, W, C, e, h => pure_pe (pe_ok .no C.toCokG e (by unfold mE; rfl)) fun ρ => by simp only [evX]
  | .dct ks vs, X, W, C, e, h => by
    unfold mX at h
    exact pure_pe (pe_ok (.dct ks vs) C.toCokG e h) fun ρ => by simp only [evX]
  | .mkE x a, X, W, C, e, h => by
    unfold mX at h
    split at h
    · simp only [Bool.and_eq_true, decide_eq_true_eq, Bool.not_eq_true'] at h
      obtain ⟨⟨⟨⟨rfl, hg⟩, hdb⟩, ns⟩, ha⟩ := h
      exact mkE_pe C hg hdb ns (px_ok a C _ ha)
    · cases h
  | .strE x a, X, W, C, e, h => by
    unfold mX at h
    split at h
    · simp only [Bool.and_eq_true, decide_eq_true_eq, Bool.not_eq_true'] at h
      obtain ⟨⟨⟨⟨⟨⟨rfl, hgs⟩, rfl⟩, hg⟩, hdb⟩, ns⟩, ha⟩ := h
      exact strE_pe C rfl hgs hg hdb ns (px_ok a C _ ha)
    · cases h
  | .orv a b, X, W, C, e, h => by
    unfold mX at h
    simp only [Bool.and_eq_true] at h
    exact pure_pe (pe_ok (.orv a b) C.toCokG e h.2) fun ρ => by
      simp only [evX]
      exact if_pos (by simp only [Bool.and_eq_true]; exact h.1)
  | .sh i, X, W, C, e, h => by
    unfold mX mE at h
    split at h
    · simp only [Bool.and_eq_true, decide_eq_true_eq] at h
      obtain ⟨n1, n2⟩ := okName_ok h.2
      refine ⟨fun pins s σ H Q I ⟨ρ, F, w, g⟩ => ?_⟩
      simp only [evX] at g
      cases hd : slotOf ρ i with
      | none => rw [hd] at g; exact g.elim
      | some d =>
      rw [hd, optX_some] at g
      obtain ⟨v, hv, r⟩ := w.at_ i d (slotOf_some hd)
      unfold shareX at g
      split at g
      · rename_i im
        rw [r.imm_nil im] at r
        exact (pe_var h.1.1 (vis_ok h.1.2) n1 n2).run pins s σ H Q I ⟨v, hv, g v H F [] .refl w r ⟨nilF, nilF⟩⟩
      · obtain ⟨H', I', w', st⟩ := share_slot I w (slotOf_some hd)
        have hi : i < ρ.length := by
          rcases Nat.lt_or_ge i ρ.length with z | z
          · exact z
          · have q := slotOf_some hd
            rw [List.getElem?_eq_none z] at q; cases q
        obtain ⟨v', hv', r'⟩ := w'.at_ i d.fz (List.getElem?_set_self hi)
        rw [hv] at hv'
        cases hv'
        rw [setF_same] at r'
        exact (pe_var h.1.1 (vis_ok h.1.2) n1 n2).run pins s σ H' Q I' ⟨v, hv, g v H' _ [] st w' r' ⟨nilF, nilF⟩⟩
    · cases h
  | .node o cs, X, W, C, e, h => by
    unfold mX at h
    split at h
    · rename_i hp
      exact pure_pe (pe_ok (.node o cs) C.toCokG e h) fun ρ => by
        simp only [evX]
        exact if_pos hp
    · rename_i hp
      split at h
      · rename_i es ho
        simp only [Bool.and_eq_true] at h
        exact node_px C ho h.1 (neg_if hp) (pxs_ok cs C es h.2)
      · cases h
  | .and a b, X, W, C, e, h => by
    unfold mX at h
    split at h
    · rename_i hp
      exact pure_pe (pe_ok (.and a b) C.toCokG e h) fun ρ => by
        simp only [evX]
        exact if_pos hp
    · rename_i hp
      have red : ∀ σ H Q, tX X.kw T P W (.and a b) σ H Q → tAndV (tX X.kw T P W a) (tX X.kw T P W b) σ H Q := fun σ H Q ⟨ρ, F, w, g⟩ => by
        simp only [evX] at g
        rw [if_neg hp] at g
        exact ⟨ρ, F, w, (onB_xt g (fun ρ1 F1 H1 w1 g1 => ⟨ρ1, F1, w1, g1⟩) fun ρ1 F1 H1 w1 g1 => g1 _ H1 F1 [] .refl w1 (.bl false) ⟨nilF, nilF⟩).val⟩
      split at h
      · simp only [Bool.and_eq_true] at h
        exact peWeak (pe_and (px_ok a C _ h.1) (pe_one (px_ok b C _ h.2))) red
      · simp only [Bool.and_eq_true] at h
        exact peWeak (pe_and (px_ok a C _ h.1) (px_ok b C _ h.2)) red
      · cases h
  | .or a b, X, W, C, e, h => by
    unfold mX at h
    split at h
    · rename_i hp
      exact pure_pe (pe_ok (.or a b) C.toCokG e h) fun ρ => by
        simp only [evX]
        exact if_pos hp
    · rename_i hp
      have red : ∀ σ H Q, tX X.kw T P W (.or a b) σ H Q → tOrV (tX X.kw T P W a) (tX X.kw T P W b) σ H Q := fun σ H Q ⟨ρ, F, w, g⟩ => by
        simp only [evX] at g
        rw [if_neg hp] at g
        exact ⟨ρ, F, w, (onB_xt (A := fun ρ' => .ok (.bl true) ρ') g (fun ρ1 F1 H1 w1 g1 => g1 _ H1 F1 [] .refl w1 (.bl true) ⟨nilF, nilF⟩) fun ρ1 F1 H1 w1 g1 => ⟨ρ1, F1, w1, g1⟩).val⟩
      split at h
      · simp only [Bool.and_eq_true] at h
        exact peWeak (pe_or (px_ok a C _ h.1) (pe_one (px_ok b C _ h.2))) red
      · simp only [Bool.and_eq_true] at h
        exact peWeak (pe_or (px_ok a C _ h.1) (px_ok b C _ h.2)) red
      · cases h
  | .not a, X, W, C, e, h => by
    unfold mX at h
    split at h
    · rename_i hp
      exact pure_pe (pe_ok (.not a) C.toCokG e h) fun ρ => by
        simp only [evX]
        exact if_pos hp
    · rename_i hp
      split at h
      · refine peWeak (pe_not (px_ok a C _ h)) fun σ H Q ⟨ρ, F, w, g⟩ => ?_
        simp only [evX] at g
        rw [if_neg hp] at g
        refine ⟨ρ, F, w, ?_⟩
        cases e1 : evX P a ρ with
        | ok d ρ1 =>
          rw [e1, th_ok] at g
          intro v H1 F1 f s1 w1 r1 o1
          cases d with
          | bl b => exact ⟨b, W1.bl ⟨f, r1⟩, g _ H1 F1 [] s1 w1 (.bl _) ⟨nilF, nilF⟩⟩
          | _ => exact g.elim
        | exc x ρ1 => rw [e1] at g; exact g
        | bad => rw [e1] at g; exact g
      · cases h
  | .ite t a b, X, W, C, e, h => by
    unfold mX at h
    split at h
    · rename_i hp
      exact pure_pe (pe_ok (.ite t a b) C.toCokG e h) fun ρ => by
        simp only [evX]
        exact if_pos hp
    · rename_i hp
      split at h
      · simp only [Bool.and_eq_true] at h
        refine peWeak (pe_ifExp (pxt_ok t C _ h.1.1) (px_ok a C _ h.1.2) (px_ok b C _ h.2)) fun σ H Q ⟨ρ, F, w, g⟩ => ?_
        simp only [evX] at g
        rw [if_neg hp] at g
        exact ⟨ρ, F, w, onB_xt g (fun ρ1 F1 H1 w1 g1 => ⟨ρ1, F1, w1, g1⟩) fun ρ1 F1 H1 w1 g1 => ⟨ρ1, F1, w1, g1⟩⟩
      · cases h
  | .comp own elt p kk ss ifs, X, W, C, e, h => by
    unfold mX at h
    split at h
    · rename_i hp
      exact pure_pe (pe_ok (.comp own elt p kk ss ifs) C.toCokG e h) fun ρ => by
        simp only [evX]
        exact if_pos hp
    · rename_i hp
      split at h
      rotate_left
      · cases h
      rename_i e1 tg iter ts scope pos
      split at h
      rotate_left
      · cases h
      rename_i es ho
      simp only [Bool.and_eq_true, List.all_eq_true, decide_eq_true_eq, Bool.or_eq_true, Bool.not_eq_true'] at h
      obtain ⟨⟨⟨⟨⟨⟨⟨⟨h1, h2⟩, h3⟩, h4⟩, h5⟩, h6⟩, h7⟩, h8⟩, h9⟩ := h
      have ps := pxs_ok ss C es h1
      have hit : needT kk = true → isTuple tg = true := fun hk => by
        rcases h6 with h6 | h6
        · exact h6
        · rw [h6] at hk; cases hk
      refine comp_px C (neg_if hp) (src_pi C.toCok ho hit ps) h2 h3 h4 (fun s H A cl fp => pat_pe (C.blk).toCok p tg h5) (fun s H A cl fp => ?_) fun s H A cl fp => px_ok elt (C.blk) e1 h9
      cases ifs with
      | nil =>
        cases ts with
        | nil => exact ⟨fun pins s' σ H' Q I ⟨ρ, F, b, ρ', w, e, q⟩ => by
            simp only [evXt] at e
            cases e
            exact pts_nil.run pins s' σ H' Q I (q H' F .refl w)⟩
        | cons _ _ => cases h7
      | cons c cs =>
        cases ts with
        | nil => cases cs <;> cases h7
        | cons t1 tr =>
          have e0 : cs = [] ∧ tr = [] := by
            cases cs <;> cases tr <;> first | exact ⟨rfl, rfl⟩ | cases h7
          obtain ⟨rfl, rfl⟩ := e0
          have hT : PT (X.blk s H scope (compEnvC scope cl A X.env) fp) t1 (tXT X.kw T P W0 c) := pxt_ok c (C.blk) t1 (by unfold mXTs at h8; exact h8)
          refine ⟨fun pins s' σ H' Q I ⟨ρ, F, b, ρ', w, e, q⟩ => (pts_one hT).run pins s' σ H' Q I ⟨ρ, F, w, ?_⟩⟩
          simp only [evXt] at e
          obtain ⟨d, ρ1, e1, e⟩ := th_is e
          rw [e1]
          cases d with
          | bl b' =>
            cases b' <;> (cases e; exact q)
          | _ => cases e
  | .call f cs, X, W, C, e, h => by
    unfold mX at h
    split at h
    · simp only [Bool.and_eq_true, decide_eq_true_eq, Bool.not_eq_true'] at h
      obtain ⟨⟨⟨rfl, g⟩, nd⟩, hs⟩ := h
      exact call_pe C g nd (pxs_ok cs C _ hs)
    · cases h
theorem pxs_ok : ∀ (cs : List Ex) {X : Cx} {W : WX} (C : CokX X P T k W) (es : List Expr), mXs X.N X.env.scope X.fn cs es = true → PEs X es (cs.map (tOpd X.kw T P W))
  | [], X, W, C, es, h => by
    unfold mXs at h
    cases es with
    | nil => exact .nil
    | cons _ _ => cases h
  | c :: cs, X, W, C, es, h => by
    unfold mXs at h
    split at h
    · rename_i e es'
      simp only [Bool.and_eq_true] at h
      refine .cons ?_ tOpd_mono h.1.1 (pxs_ok cs C _ h.2)
      by_cases hc : ∃ i, c = .var i
      · obtain ⟨i, rfl⟩ := hc
        have h2 := h.1.2
        unfold mX mE at h2
        split at h2
        · simp only [Bool.and_eq_true, decide_eq_true_eq] at h2
          obtain ⟨n1, n2⟩ := okName_ok h2.2
          exact pe_var h2.1.1 (vis_ok h2.1.2) n1 n2
        · cases h2
      · have hT : tOpd X.kw T P W c = tX X.kw T P W c := by
          cases c with
          | var i => exact absurd ⟨i, rfl⟩ hc
          | _ => rfl
        rw [hT]
        exact px_ok c C _ h.1.2
    · cases h
theorem pxt_ok : ∀ (c : Ex) {X : Cx} {W : WX} (C : CokX X P T k W) (e : Expr), mXT X.N X.env.scope X.fn c e = true → PT X e (tXT X.kw T P W c)
  | .and a b, X, W, C, e, h => by
    unfold mXT at h
    split at h
    · rename_i hp
      exact pure_pt (pt_ok (.and a b) C.toCokG e h) fun ρ => by
        simp only [evX]
        exact if_pos hp
    · rename_i hp
      cases e with
      | BoolOp op vs pos => exact (pxw_ok (.and a b) C op vs pos (by unfold mXT; rw [if_neg hp]; exact h)).pt
      | _ => cases h
  | .or a b, X, W, C, e, h => by
    unfold mXT at h
    split at h
    · rename_i hp
      exact pure_pt (pt_ok (.or a b) C.toCokG e h) fun ρ => by
        simp only [evX]
        exact if_pos hp
    · rename_i hp
      cases e with
      | BoolOp op vs pos => exact (pxw_ok (.or a b) C op vs pos (by unfold mXT; rw [if_neg hp]; exact h)).pt
      | _ => cases h
  | .not a, X, W, C, e, h => by
    unfold mXT at h
    split at h
    · rename_i hp
      exact pure_pt (pt_ok (.not a) C.toCokG e h) fun ρ => by
        simp only [evX]
        exact if_pos hp
    · rename_i hp
      split at h
      · refine ptWeak (pt_not (pxt_ok a C _ h)) fun σ H Q ⟨ρ, F, w, g⟩ => ?_
        simp only [evX] at g
        rw [if_neg hp] at g
        refine ⟨ρ, F, w, ?_⟩
        cases e1 : evX P a ρ with
        | ok d ρ1 =>
          rw [e1, th_ok] at g
          cases d with
          | bl b => exact g
          | _ => exact g.elim
        | exc x ρ1 => rw [e1] at g; exact g
        | bad => rw [e1] at g; exact g
      · cases h
  | .node o cs, X, W, C, e, h => by
    unfold mXT at h
    split at h
    · rename_i hp
      exact pure_pt (pt_ok (.node o cs) C.toCokG e h) fun ρ => by
        simp only [evX]
        exact if_pos hp
    · rename_i hp
      split at h
      · rename_i es ho
        simp only [Bool.and_eq_true, Bool.or_eq_true] at h
        obtain ⟨⟨h1, h2⟩, h3⟩ := h
        have ps := pxs_ok cs C es h2
        rcases h3 with h3 | h3
        · exact val_pt (node_px C ho h1 (neg_if hp) ps) h3
        · cases o with
          | cmp o => exact node_pxt C ho (neg_if hp) ps
          | _ => cases h3
      · cases h
  | .call f cs, X, W, C, e, h => by
    unfold mXT at h
    split at h
    · simp only [Bool.and_eq_true, decide_eq_true_eq, Bool.not_eq_true'] at h
      obtain ⟨⟨⟨rfl, g⟩, nd⟩, hs⟩ := h
      exact val_pt (call_pe C g nd (pxs_ok cs C _ hs)) rfl
    · cases h
  | .chain o o' a b c, X, W, C, e, h => by
    unfold mXT at h
    exact pure_pt (pt_ok (.chain o o' a b c) C.toCokG e h) fun ρ => by simp only [evX]
  | .var i, X, W, C, e, h => by
    unfold mXT at h
    exact pure_pt (pt_ok (.var i) C.toCokG e h) fun ρ => by simp only [evX]
  | .lit d, X, W, C, e, h => by
    unfold mXT at h
    exact pure_pt (pt_ok (.lit d) C.toCokG e h) fun ρ => by simp only [evX]
  | .glob _, _, _, _, _, h => by unfold mXT at h; cases h
  | .ite _ _ _, _, _, _, _, h => by unfold mXT at h; cases h
  | .comp .., _, _, _, _, h => by unfold mXT at h; cases h
  | .tk _, _, _, _, _, h => by unfold mXT at h; cases h
  | .sh _, _, _, _, _, h => by unfold mXT at h; cases h
  | .fz _, _, _, _, _, h => by unfold mXT at h; cases h
  | .no, _, _, _, _, h => by unfold mXT at h; cases h
  | .dct _ _, _, _, _, _, h => by unfold mXT at h; cases h
  | .mkE _ _, _, _, _, _, h => by unfold mXT at h; cases h
  | .strE _ _, _, _, _, _, h => by unfold mXT at h; cases h
  | .orv _ _, _, _, _, _, h => by unfold mXT at h; cases h
theorem pxw_ok : ∀ (c : Ex) {X : Cx} {W : WX} (C : CokX X P T k W) (op : BoolOp) (vs : List Expr) (pos : Pos), mXT X.N X.env.scope X.fn c (.BoolOp op vs pos) = true → PW X (.BoolOp op vs pos) (tXT X.kw T P W c)
  | .and a b, X, W, C, op, vs, pos, h => by
    unfold mXT at h
    split at h
    · rename_i hp
      refine pwWeak (pw_ok (.and a b) C.toCokG op vs pos h) fun σ H Q ⟨ρ, F, w, g⟩ => ?_
      simp only [evX] at g
      rw [if_pos hp] at g
      exact pure_goalT w g
    · rename_i hp
      have red : ∀ σ H Q, tXT X.kw T P W (.and a b) σ H Q → tAnd (tXT X.kw T P W a) (tXT X.kw T P W b) σ H Q := fun σ H Q ⟨ρ, F, w, g⟩ => by
        simp only [evX] at g
        rw [if_neg hp] at g
        exact ⟨ρ, F, w, onB_tt g (fun ρ1 F1 H1 w1 g1 => ⟨ρ1, F1, w1, g1⟩) fun ρ1 F1 H1 w1 g1 => g1 H1 F1 .refl w1⟩
      split at h
      · rename_i he
        cases he
        simp only [Bool.and_eq_true] at h
        exact pwWeak (pw_and (pxt_ok a C _ h.1) (pw_and1 (pxt_ok b C _ h.2))) red
      · rename_i he
        cases he
        simp only [Bool.and_eq_true] at h
        exact pwWeak (pw_and (pxt_ok a C _ h.1) (pxw_ok b C _ _ _ h.2)) red
      · cases h
  | .or a b, X, W, C, op, vs, pos, h => by
    unfold mXT at h
    split at h
    · rename_i hp
      refine pwWeak (pw_ok (.or a b) C.toCokG op vs pos h) fun σ H Q ⟨ρ, F, w, g⟩ => ?_
      simp only [evX] at g
      rw [if_pos hp] at g
      exact pure_goalT w g
    · rename_i hp
      have red : ∀ σ H Q, tXT X.kw T P W (.or a b) σ H Q → tOr (tXT X.kw T P W a) (tXT X.kw T P W b) σ H Q := fun σ H Q ⟨ρ, F, w, g⟩ => by
        simp only [evX] at g
        rw [if_neg hp] at g
        exact ⟨ρ, F, w, onB_tt (A := fun ρ' => .ok (.bl true) ρ') g (fun ρ1 F1 H1 w1 g1 => g1 H1 F1 .refl w1) fun ρ1 F1 H1 w1 g1 => ⟨ρ1, F1, w1, g1⟩⟩
      split at h
      · rename_i he
        cases he
        simp only [Bool.and_eq_true] at h
        exact pwWeak (pw_or (pxt_ok a C _ h.1) (pw_or1 (pxt_ok b C _ h.2))) red
      · rename_i he
        cases he
        simp only [Bool.and_eq_true] at h
        exact pwWeak (pw_or (pxt_ok a C _ h.1) (pxw_ok b C _ _ _ h.2)) red
      · cases h
  | .not a, X, W, C, op, vs, pos, h => by
    unfold mXT at h
    split at h
    · unfold mT at h; cases h
    · cases h
  | .node o cs, X, W, C, op, vs, pos, h => by
    unfold mXT at h
    split at h
    · unfold mT at h
      cases o <;> simp [opnds, nCall, nMeth1, nMeth12] at h
    · cases o <;> simp [opnds, nCall, nMeth1, nMeth12] at h
  | .chain .., _, _, _, _, _, _, h => by unfold mXT mT at h; cases h
  | .var _, _, _, _, _, _, _, h => by unfold mXT mT at h; cases h
  | .lit _, _, _, _, _, _, _, h => by unfold mXT mT at h; cases h
  | .glob _, _, _, _, _, _, _, h => by unfold mXT at h; cases h
  | .ite _ _ _, _, _, _, _, _, _, h => by unfold mXT at h; cases h
  | .comp .., _, _, _, _, _, _, h => by unfold mXT at h; cases h
  | .call _ _, _, _, _, _, _, _, h => by unfold mXT at h; cases h
  | .tk _, _, _, _, _, _, _, h => by unfold mXT at h; cases h
  | .sh _, _, _, _, _, _, _, h => by unfold mXT at h; cases h
  | .fz _, _, _, _, _, _, _, h => by unfold mXT at h; cases h
  | .no, _, _, _, _, _, _, h => by unfold mXT at h; cases h
  | .dct _ _, _, _, _, _, _, _, h => by unfold mXT at h; cases h
  | .mkE _ _, _, _, _, _, _, _, h => by unfold mXT at h; cases h
  | .strE _ _, _, _, _, _, _, _, h => by unfold mXT at h; cases h
  | .orv _ _, _, _, _, _, _, _, h => by unfold mXT at h; cases h
end
end
end VL

/-! VLX: try .. except X as n, where the caught exception stays known behind the suite. -/
namespace VL
open PySem PySem.Spec PyProof.Rows L2

section
variable {X : Cx} {pins : List (Addr × Obj)} {σ : L2.St} {H : Hp} {s : Shared}
theorem xco_ok {P : Program} {w : World} {H : Hp} {h : Heap} {a : Addr} {cls : Value} {d : Option Addr} {oe : Obj} {vs : Array Value} (e : h.get? a = some oe) (z : Zc cls d oe) (q : oe.data = .fields vs) : ObjOk P w H h a (XcO cls d a) :=
  ⟨⟨oe, vs, e, z, q⟩, ⟨oe, e⟩, fun h1 h2 ⟨o, v, k, r⟩ f => ⟨o, v, f o k, r⟩⟩
/-- an object that is there, and was not at the entry, is told of from here on -/
theorem Inv.tell {a : Addr} {φ : Heap → Prop} (I : Inv X pins σ H s) (h0 : X.s_0.heap.get? a = none) (na : H a = none) (nL : a ≠ X.env.locals) (nc : ∀ x c, X.env.cells.lookup x = some c → c ≠ a) (np : ∀ p ∈ X.pn ++ pins, p.1 ≠ a)
    (ok : ∀ H', ObjOk X.prog X.w H' s.heap a (.ext φ)) : Inv X pins σ (upd H a (.ext φ)) s := by
  have old : ∀ {b : Addr} {o : Obj}, X.s_0.heap.get? b = some o → b ≠ a := fun e z => by rw [z, h0] at e; cases e
  have kept : ∀ {b : Addr} {u : HO}, H b = some u → b ≠ a := fun e z => by rw [z, na] at e; cases e
  have B := I.base
  refine ⟨I.ok, I.os, I.bare, ⟨B.keep, B.slot, fun b o e n x => ?_, B.there, fun b xs e => ?_, fun b o u e => ?_, fun b ps e => ?_⟩, I.loc, I.cell, ?_, fun x c e => ?_, fun p hp => ?_, fun b u e => ?_, I.len⟩
  · rw [upd_ne (old e)]; exact B.free b o e n x
  · have q := B.tups b xs e
    rw [upd_ne (kept q)]; exact q
  · have q := B.frzs b o u e
    rw [upd_ne (kept q)]; exact q
  · obtain ⟨m, q⟩ := B.tbls b ps e
    exact ⟨m, by rw [upd_ne (kept q)]; exact q⟩
  · rw [upd_ne (Ne.symm nL)]; exact I.free
  · rw [upd_ne (nc x c e)]; exact I.freeC x c e
  · obtain ⟨e, n, r⟩ := I.pin p hp
    exact ⟨e, by rw [upd_ne (np p hp)]; exact n, r⟩
  · by_cases q : b = a
    · subst q
      rw [upd_same] at e
      cases e
      exact ok _
    · rw [upd_ne q] at e
      exact (I.hok b u e).stay (fun _ _ _ y => y) (fun c y => by rw [upd_ne (kept y)]; exact y) fun c xs y => by rw [upd_ne (kept y)]; exact y
theorem Inv.inSuite (I : Inv X pins σ H s) (a : Addr) : Inv (X.suite a X.pn) pins σ H s := ⟨I.ok.suite _ _, I.os, I.bare, I.base, I.loc, I.cell, I.free, I.freeC, I.pin, I.hok, I.len⟩
theorem Inv.outSuite {a : Addr} (I : Inv (X.suite a X.pn) pins σ H s) (ok : X.Ok) : Inv X pins σ H s := ⟨ok, I.os, I.bare, I.base, I.loc, I.cell, I.free, I.freeC, I.pin, I.hok, I.len⟩
end
/-- what the clause wishes of an exception of the body: it is the clause's, and the suite runs with it told of -/
def wKeep (K : KW) (c : Value) (i : Nat) (ts : TS) (D : Ends) : WX := fun cls d σ H => PySem.W.exmOne K cls c = some true ∧ ∀ a, H a = none → XcE cls d a →
  ts { nx := fun σ1 H1 => D.nx (σ1.set i none) H1, rt := D.rt, bk := fun σ1 H1 => D.bk (σ1.set i none) H1, ct := fun σ1 H1 => D.ct (σ1.set i none) H1 } (σ.set i (some (.ref a))) (upd H a (XcO cls d a))
section
variable {X : Cx} {x n : Str} {c : Value} {i : Nat} {body suite : List Stmt} {st0 : Stmt} {np pos pos1 : Pos} {tb : WX → TS} {ts : TS}
theorem ps_keep (hst : X.stack = X.env :: X.outer) (hfm : X.env.frame = some X.env.locals) (hex : X.ex = []) (nd : X.N.Nodup) (hi : X.N[i]? = some n) (hl : X.env.kindOf n = some .local) (hc : Names X x c)
    (hb : ∀ (W : WX) (pn : List (Addr × Obj)) (xe : Value → Shared → Prop), Takes (X.tr pn xe) W → PassesOwn (model X.prog X.w) X.A X.env xe → PSs (X.tr pn xe) body (tb W))
    (hsu : ∀ a, PSs (X.suite a X.pn) (st0 :: suite) ts) :
    PS X (.Try body [.ExceptHandler (some (.Name x np)) (some n) (st0 :: suite) pos1] [] [] pos) (fun D σ H => tb (wKeep X.kw c i ts D) D σ H) := by
  refine ⟨fun pins s σ H D I hw => wpAny_Try_except ?_⟩
  have ok := I.ok
  have hframes : X.A.frames = some (X.env :: X.outer) := by rw [ok.frames, hst]
  -- the body, in its own air
  have inBody := hb (wKeep X.kw c i ts D) (X.pn ++ pins) (fun e s1 => wpAny (model X.prog X.w) X.A (noteFrame e X.env)
    (fun _ s2 => wpAny (model X.prog X.w) X.A (setFlight e none)
      (fun _ s3 => wpAny (model X.prog X.w) X.A (handleBy e X.env [.ExceptHandler (some (.Name x np)) (some n) (st0 :: suite) pos1]) (SP X pins D) X.xe s3) X.xe s2) X.xe s1) (fun u s1 air => ?_) PassesOwn.looking
  · refine wpAny_mono (inBody.run [] s σ H D (I.toTry _) hw) (fun f s1 hf => ?_) fun _ _ z => z
    cases f with
    | next =>
      obtain ⟨σ1, H1, J, q⟩ := hf
      exact wpAny_execs_nil ⟨_, _, J.ofTry ok, q⟩
    | brk =>
      obtain ⟨σ1, H1, J, q⟩ := hf
      exact ⟨_, _, J.ofTry ok, q⟩
    | cont =>
      obtain ⟨σ1, H1, J, q⟩ := hf
      exact ⟨_, _, J.ofTry ok, q⟩
    | ret w =>
      obtain ⟨v, σ1, H1, J, r, q⟩ := hf
      exact ⟨_, _, _, J.ofTry ok, r, q⟩
  · -- an exception of the body
    obtain ⟨a, B, sI, pp, σ1, H1, cls, d, rfl, J0, nb, up, sky, na, os, ag, mt, run⟩ := air
    have J : Inv X pins σ1 H1 sI := J0.ofTry ok
    have sky1 : Sky B (X.env :: X.outer) a (Zc cls d) X.env.locals s1.heap := by rw [← hst]; exact sky
    show wpAny (model X.prog X.w) X.A (noteFrame (.ref a) X.env) _ _ _
    refine Sky.land Zc.steady hframes hfm sky1 fun hA fA upA => ?_
    have JA : Inv X pins σ1 H1 { s1 with heap := hA } := J.landed nb fA.1 (up.trans upA) os ag
    obtain ⟨oA, vA, eA, zA, dA⟩ := fA.there
    have away : a ∉ frs (X.env :: X.outer) := fun hm => by
      obtain ⟨_, o, e, nf⟩ := fA.2.2.1.mem hm
      rw [eA] at e
      cases e
      exact nf _ dA
    have nL : a ≠ X.env.locals := fun z => away (List.mem_filterMap.mpr ⟨X.env, List.mem_cons_self, by rw [hfm, z]⟩)
    -- it was nowhere ahead
    have nI : sI.heap.get? a = none := by
      cases e : sI.heap.get? a with
      | none => rfl
      | some o =>
        have q := nb a o e (by rw [hst]; exact away)
        rw [fA.2.1] at q; cases q
    have n0 : X.s_0.heap.get? a = none := by
      cases e : X.s_0.heap.get? a with
      | none => rfl
      | some o =>
        obtain ⟨o', q⟩ := J.base.there a o e (by rw [hex]; exact List.not_mem_nil)
        rw [nI] at q; cases q
    have nc : ∀ y b, X.env.cells.lookup y = some b → b ≠ a := fun y b e z => by
      obtain ⟨v, o, q, _⟩ := J.cell y b e
      rw [z, nI] at q; cases q
    have npn : ∀ p ∈ X.pn ++ pins, p.1 ≠ a := fun p hp z => by
      have q := (J.pin p hp).1
      rw [z, nI] at q; cases q
    have told : ∀ {h : Heap} {o : Obj} {vs : Array Value}, Inv X pins σ1 H1 { s1 with heap := h } → h.get? a = some o → Zc cls d o → o.data = .fields vs → Inv X pins σ1 (upd H1 a (XcO cls d a)) { s1 with heap := h } :=
      fun {h o vs} K e z q => Inv.tell K n0 na nL nc npn fun H' => xco_ok e z q
    have SA := Inv.inSuite (told JA eA zA dA) a
    refine wpAny_handleBy_cons (codeAny_handlers_test ?_) (by intro q; cases q)
    have isCls : PySem.W.Looks (model X.prog X.w) hA (typeOf (.ref a)) cls := fun A1 Q1 E1 s1' k q => wpAny_typeOf_ref (k _ _ eA) (by rw [zA.1]; exact q)
    have fits := PySem.W.exm_one (M := model X.prog X.w) JA.kIn isCls mt
    have named : ∀ {Q : Value → Shared → Prop} {E : Value → Shared → Prop}, Q c { s1 with heap := hA } → wpAny (model X.prog X.w) (X.A.mark (some (.ref a))) (eval (.Name x np) X.env) Q E { s1 with heap := hA } := fun {Q E} q => by
      obtain ⟨g, hdb, m | ⟨m, bv, nn⟩⟩ := hc
      · exact ld_glob (X := X.suite a X.pn) SA g m q hdb
      · exact ld_blt (X := X.suite a X.pn) SA g m bv q nn hdb
    refine named (fits.here (codeAny_handlers_suite_as ?_))
    refine HandSPX.lands_againZ fA fun hB fB upB => ?_
    have JB : Inv X pins σ1 H1 { s1 with heap := hB } := J.landed nb fB.1 ((up.trans upA).trans upB) os ag
    obtain ⟨oB, vB, eB, zB, dB⟩ := fB.there
    have SB := Inv.inSuite (told JB eB zB dB) a
    refine store_ok (X := X.suite a X.pn) (v := .ref a) SB nd hi (.inl hl) rfl (fun s5 S5 => ?_) (.inr hl)
    have goes : ∀ {σ6 : L2.St} {H6 : Hp} {s6 : Shared} {Q : Shared → Prop}, Inv (X.suite a X.pn) pins σ6 H6 s6 → (∀ s7, Inv X pins (σ6.set i none) H6 s7 → Q s7) →
        wpAny (model X.prog X.w) X.A (do bindName X.env n .none; unbindBehindTheSuite X.env n pos1) (fun _ s7 => Q s7) X.xe s6 := fun {σ6 H6 s6 Q} S6 q => gone_ok (Inv.outSuite S6 ok) nd hi hl q
    refine wpAny_mono ((hsu a).run pins s5 _ _ _ S5 (run a na ⟨hA, oA, vA, eA, zA, dA⟩)) (fun f s6 hf => ?_) fun _ _ z => z.elim
    cases f with
    | next =>
      obtain ⟨σ6, H6, S6, q⟩ := hf
      exact goes S6 fun s7 J7 => ⟨_, _, J7, q⟩
    | brk =>
      obtain ⟨σ6, H6, S6, q⟩ := hf
      exact goes S6 fun s7 J7 => ⟨_, _, J7, q⟩
    | cont =>
      obtain ⟨σ6, H6, S6, q⟩ := hf
      exact goes S6 fun s7 J7 => ⟨_, _, J7, q⟩
    | ret w =>
      obtain ⟨v, σ6, H6, S6, r, q⟩ := hf
      exact goes S6 fun s7 J7 => ⟨_, _, _, J7, r, q⟩
end
end VL

/-! VL17: statements: what they do. -/
namespace VL
open PySem PySem.Spec PyProof.Rows L2

/-- what changes a list -/
inductive MOp where
  | set | app | ext | ins | pop
  deriving DecidableEq
inductive Sx where
  | asg (p : Pat) (e : Ex)
  | par (i j : Nat) (a b : Ex)
  | mut (o : MOp) (i : Nat) (ks : List Ex) (args : List Ex)
  | aug (i : Nat) (o : Operator) (e : Ex)
  | ifS (t : Ex) (a b : List Sx)
  | whl (t : Ex) (b : List Sx)
  | forS (p : Pat) (k : SrcK) (ss : List Ex) (b : List Sx)
  | ret (e : Ex) | retN | brk | pass | expr (e : Ex) | never
  /-- x[k], x[l] = a, b -/
  | swp (i : Nat) (k l a b : Ex)
  /-- d[k] = e, the slot i a dict -/
  | dst (i : Nat) (e k : Ex)
  /-- xs[k] += e, the slot i a list -/
  | augI (i : Nat) (o : Operator) (k e : Ex)
  /-- x = x[::-1] -/
  | rvS (i : Nat)
  /-- raise C(e), C keeping the number as a field -/
  | raiE (x : Str) (e : Ex)
  /-- try: b except x: j = None .. -/
  | tryN (b : List Sx) (hs : List (Str × Nat))
  /-- raise C('m') -/
  | rai (x m : Str)
  /-- try: b except x as (slot) ie: (slot) j = it -/
  | tryAs (b : List Sx) (x : Str) (ie j : Nat)
inductive RS where
  | nx (ρ : Rho) | bk (ρ : Rho) | rt (d : D) (ρ : Rho) | ex (x : Xn) (ρ : Rho) | bad
def RX.to {α : Type} : RX α → (α → Rho → RS) → RS
  | .ok a ρ, f => f a ρ
  | .exc x ρ, _ => .ex x ρ
  | .bad, _ => .bad
@[simp] theorem to_ok {α : Type} {a : α} {ρ : Rho} {f : α → Rho → RS} : (RX.ok a ρ).to f = f a ρ := rfl
@[simp] theorem to_exc {α : Type} {x : Xn} {ρ : Rho} {f : α → Rho → RS} : (RX.exc x ρ : RX α).to f = .ex x ρ := rfl
@[simp] theorem to_bad {α : Type} {f : α → Rho → RS} : (RX.bad : RX α).to f = .bad := rfl
def RS.th : RS → (Rho → RS) → RS
  | .nx ρ, f => f ρ
  | r, _ => r
@[simp] theorem sth_nx {ρ : Rho} {f : Rho → RS} : (RS.nx ρ).th f = f ρ := rfl
@[simp] theorem sth_bk {ρ : Rho} {f : Rho → RS} : (RS.bk ρ).th f = .bk ρ := rfl
@[simp] theorem sth_rt {d : D} {ρ : Rho} {f : Rho → RS} : (RS.rt d ρ).th f = .rt d ρ := rfl
@[simp] theorem sth_ex {x : Xn} {ρ : Rho} {f : Rho → RS} : (RS.ex x ρ).th f = .ex x ρ := rfl
@[simp] theorem sth_bad {f : Rho → RS} : RS.bad.th f = .bad := rfl
def optS {α : Type} : Option α → (α → RS) → RS
  | some a, f => f a
  | none, _ => .bad
@[simp] theorem optS_some {α : Type} {a : α} {f : α → RS} : optS (some a) f = f a := rfl
@[simp] theorem optS_none {α : Type} {f : α → RS} : optS none f = .bad := rfl
def onBS : D → RS → RS → RS
  | .bl true, a, _ => a
  | .bl false, _, b => b
  | _, _, _ => .bad
@[simp] theorem onBS_t {a b : RS} : onBS (.bl true) a b = a := rfl
@[simp] theorem onBS_f {a b : RS} : onBS (.bl false) a b = b := rfl
/-- the turns of a for -/
def forX (step : D → Rho → RS) : List D → Rho → RS
  | [], ρ => .nx ρ
  | x :: xs, ρ => match step x ρ with
    | .nx ρ' => forX step xs ρ'
    | .bk ρ' => .nx ρ'
    | r => r
/-- so many turns of a while -/
def loopN (t : Rho → RX D) (b : Rho → RS) : Nat → Rho → RS
  | 0, _ => .bad
  | n + 1, ρ => (t ρ).to fun d ρ' => onBS d (match b ρ' with
    | .nx ρ'' => loopN t b n ρ''
    | .bk ρ'' => .nx ρ''
    | r => r) (.nx ρ')
open Classical in
/-- a while: as many as it needs -/
noncomputable def loopW (t : Rho → RX D) (b : Rho → RS) (ρ : Rho) : RS := if h : ∃ n, loopN t b n ρ ≠ .bad then loopN t b (choose h) ρ else .bad
/-- the list at a path: its items -/
def leafD : List Int → D → Option (List D)
  | [], .lst true xs => some xs
  | k :: ks, .lst true xs => ((ixN xs.length k).bind fun j => xs[j]?).bind (leafD ks)
  | _, _ => none
/-- .. exchanged -/
def putD : List Int → List D → D → D
  | [], ys, _ => .lst true ys
  | k :: ks, ys, .lst true xs => match ixN xs.length k with
    | some j => match xs[j]? with
      | some x => .lst true (xs.set j (putD ks ys x))
      | none => .lst true xs
    | none => .lst true xs
  | _, _, d => d
/-- what becomes of the list's items -/
def MOp.run : MOp → List D → List D → Option (List D)
  | .set, xs, [d, .int k] => (ixN xs.length k).map fun j => xs.set j d
  | .app, xs, [d] => if xs.length < LIM then some (xs ++ [d]) else none
  | .ins, xs, [d, .int k] => if xs.length < LIM ∧ 0 ≤ k ∧ k < 2 ^ 62 then some (xs.take k.toNat ++ [d] ++ xs.drop k.toNat) else none
  | .pop, xs, [.int k] => if xs.length ≤ LIM then (ixN xs.length k).map fun j => xs.eraseIdx j else none
  | .ext, xs, [.lst true ys] => if immL ys = true ∧ xs.length + ys.length ≤ LIM then some (xs ++ ys) else none
  | _, _, _ => none
def intsD : List D → Option (List Int)
  | [] => some []
  | .int k :: ds => (intsD ds).map (k :: ·)
  | _ :: _ => none
/-- the list at slot i, by a path, is changed -/
def mutX (o : MOp) (i : Nat) (ks : List Int) (args : List D) (ρ : Rho) : RS :=
  optS (slotOf ρ i) fun d => optS (leafD ks d) fun xs => optS (o.run xs args) fun ys => .nx (ρ.set i (some (putD ks ys d)))
def augX (o : Operator) (x y : D) : Option D := match o, x, y with
  | .Add, .int i, .int j => some (.int (i + j))
  | .Sub, .int i, .int j => some (.int (i - j))
  | _, _, _ => none
def nnD : D → Bool
  | .int n => decide (0 ≤ n)
  | _ => false
/-- each is a class -/
def allCl (P : Prg) : List (Str × Nat) → Bool
  | [] => true
  | (x, _) :: hs => match P.G x with
    | some (.cls _ _ _ _) => allCl P hs
    | _ => false
/-- the first class that fits: its name becomes None -/
def hdsN (P : Prg) : List (Str × Nat) → Xn → Rho → RS
  | [], _, _ => .bad
  | (x, j) :: hs, xn, ρ => match P.G x with
    | some (.cls _ _ yes no) => if yes.contains xn.cls = true then (if j < ρ.length then .nx (ρ.set j (some .non)) else .bad) else if no.contains xn.cls = true then hdsN P hs xn ρ else .bad
    | _ => .bad
mutual
noncomputable def evS (P : Prg) : Sx → Rho → RS
  | .asg p e, ρ => (evX P e ρ).to fun d ρ1 => optS (bindP p d ρ1) .nx
  | .par i j a b, ρ => (evOps P [a, b] ρ).to fun os ρ1 => optS (getAll ρ1 os) fun ds => if lent ρ1 os = [] ∧ i < ρ1.length ∧ j < ρ1.length then (match ds with
    | [x, y] => .nx ((ρ1.set i (some x)).set j (some y))
    | _ => .bad) else .bad
  | .mut o i ks args, ρ => match o, args with
    | .set, [e, k] => (evX P e ρ).to fun d ρ1 => optS ((evPs P.G ks ρ1).bind intsD) fun is => optS (evP P.G k ρ1) fun kd => mutX .set i is [d, kd] ρ1
    | .ext, [e] => optS ((slotOf ρ i).bind (leafD [])) fun _ => (evX P e ρ).to fun d ρ1 => if ks.isEmpty = true then mutX .ext i [] [d] ρ1 else .bad
    | .ins, [k, e] => optS ((slotOf ρ i).bind (leafD [])) fun _ => optS (evP P.G k ρ) fun kd => optS (evP P.G e ρ) fun d => if ks.isEmpty = true ∧ d.imm = true then mutX .ins i [] [d, kd] ρ else .bad
    | .pop, [k] => optS ((slotOf ρ i).bind (leafD [])) fun _ => optS (evP P.G k ρ) fun kd => if ks.isEmpty = true then mutX .pop i [] [kd] ρ else .bad
    | .app, [e] => optS ((evPs P.G ks ρ).bind intsD) fun is => optS ((slotOf ρ i).bind (leafD is)) fun _ => (if ks.isEmpty = true then evX P e ρ else pureX P e ρ).to fun d ρ1 => mutX .app i is [d] ρ1
    | _, _ => .bad
  | .dst i e k, ρ => (evX P e ρ).to fun d ρ1 => optS (evP P.G k ρ1) fun kd => match slotOf ρ1 i with
    | some (.dic true ks vs) => if (keyT kd).isSome = true ∧ ks.length < LIM then .nx (ρ1.set i (some (.dic true (stD ks vs kd d).1 (stD ks vs kd d).2))) else .bad
    | _ => .bad
  | .rvS i, ρ => match slotOf ρ i with
    | some (.lst true xs) => .nx (ρ.set i (some (.lst true xs.reverse)))
    | _ => .bad
  | .augI i o k e, ρ => optS ((slotOf ρ i).bind (leafD [])) fun xs => optS (evP P.G k ρ) fun kd => optS (dIx [.lst true xs, kd]) fun x => optS (evP P.G e ρ) fun y => optS (augX o x y) fun z => if nnD kd = true then mutX .set i [] [z, kd] ρ else .bad
  | .aug i o e, ρ => optS (slotOf ρ i) fun x => (evX P e ρ).to fun y ρ1 => optS (augX o x y) fun z => .nx (ρ1.set i (some z))
  | .ifS t a b, ρ => (evX P t ρ).to fun d ρ1 => onBS d (evSs P a ρ1) (evSs P b ρ1)
  | .whl t b, ρ => loopW (evX P t) (evSs P b) ρ
  | .forS p k ss b, ρ => (evOps P ss ρ).to fun os ρ0 => optS (getAll ρ0 os) fun ds => if lent ρ0 os = [] then optS (srcItems k ds) fun items => if immL items = true then
      forX (fun d ρ1 => optS (bindP p d ρ1) (evSs P b)) items ρ0 else .bad else .bad
  | .ret e, ρ => (evX P e ρ).to .rt
  | .retN, ρ => .rt .non ρ
  | .brk, ρ => .bk ρ
  | .pass, ρ => .nx ρ
  | .never, _ => .bad
  | .expr e, ρ => (evX P e ρ).to fun _ ρ1 => .nx ρ1
  | .swp i k l a b, ρ => (evX P (.node .tup [a, b]) ρ).to fun d ρ0 => match d with
    | .tup [x, y] => if x.imm = true ∧ y.imm = true then optS (evP P.G k ρ0) fun kd => (mutX .set i [] [x, kd] ρ0).th fun ρ1 => optS (evP P.G l ρ1) fun ld => mutX .set i [] [y, ld] ρ1 else .bad
    | _ => .bad
  | .rai x _, ρ => match P.G x with
    | some (.cls c "=" _ _) => .ex ⟨c, none⟩ ρ
    | _ => .bad
  | .raiE x e, ρ => match iniC P x with
    | some (c, mk) => (evX P e ρ).to fun d ρ1 => if iniD d = true then .ex ⟨c, some (mk, d)⟩ ρ1 else .bad
    | none => .bad
  | .tryN b hs, ρ => if allCl P hs = true then (match evSs P b ρ with
    | .ex xn ρ1 => hdsN P hs xn ρ1
    | r => r) else .bad
  | .tryAs b x ie j, ρ => match P.G x with
    | some (.cls _ _ yes _) => match evSs P b ρ with
      | .ex xn ρ1 => if yes.contains xn.cls = true ∧ ie < ρ1.length ∧ j < ρ1.length then .nx ((ρ1.set j (some xn.toD)).set ie none) else .bad
      | r => r
    | _ => .bad
noncomputable def evSs (P : Prg) : List Sx → Rho → RS
  | [], ρ => .nx ρ
  | s :: r, ρ => (evS P s ρ).th (evSs P r)
end
theorem loopN_more {t : Rho → RX D} {b : Rho → RS} : ∀ {n : Nat} {ρ : Rho}, loopN t b n ρ ≠ .bad → loopN t b (n + 1) ρ = loopN t b n ρ
  | 0, ρ, h => absurd rfl h
  | n + 1, ρ, h => by
    unfold loopN at h ⊢
    cases e : t ρ with
    | ok d ρ' =>
      rw [e] at h
      simp only [to_ok] at h ⊢
      cases d with
      | bl c =>
        cases c with
        | false => rfl
        | true =>
          simp only [onBS_t] at h ⊢
          cases eb : b ρ' with
          | nx ρ'' =>
            rw [eb] at h
            exact loopN_more h
          | _ => rfl
      | _ => rfl
    | exc x ρ' => rfl
    | bad => rfl
theorem loopN_le {t : Rho → RX D} {b : Rho → RS} {n m : Nat} {ρ : Rho} (h : loopN t b n ρ ≠ .bad) (l : n ≤ m) : loopN t b m ρ = loopN t b n ρ := by
  induction l with
  | refl => rfl
  | step l ih => rw [loopN_more (by rw [ih]; exact h), ih]
/-- a while by so many turns -/
theorem loopW_is {t : Rho → RX D} {b : Rho → RS} {n : Nat} {ρ : Rho} (h : loopN t b n ρ ≠ .bad) : loopW t b ρ = loopN t b n ρ := by
  have hx : ∃ n, loopN t b n ρ ≠ .bad := ⟨n, h⟩
  unfold loopW
  rw [dif_pos hx]
  have hc := Classical.choose_spec hx
  rcases Nat.le_total n (Classical.choose hx) with l | l
  · exact loopN_le h l
  · exact (loopN_le hc l).symm
theorem loopW_ex {t : Rho → RX D} {b : Rho → RS} {ρ : Rho} : ∃ n, loopW t b ρ = loopN t b n ρ := by
  unfold loopW
  split
  · exact ⟨_, rfl⟩
  · exact ⟨0, rfl⟩
/-- a while, one turn -/
theorem loopW_eq {t : Rho → RX D} {b : Rho → RS} {ρ : Rho} : loopW t b ρ = (t ρ).to fun d ρ' => onBS d (match b ρ' with
    | .nx ρ'' => loopW t b ρ''
    | .bk ρ'' => .nx ρ''
    | r => r) (.nx ρ') := by
  -- the right side by a number of turns
  have key : ∀ n, loopN t b (n + 1) ρ ≠ .bad → loopN t b (n + 1) ρ = (t ρ).to fun d ρ' => onBS d (match b ρ' with
      | .nx ρ'' => loopW t b ρ''
      | .bk ρ'' => .nx ρ''
      | r => r) (.nx ρ') := fun n h => by
    unfold loopN at h ⊢
    cases e : t ρ with
    | ok d ρ' =>
      rw [e] at h
      simp only [to_ok] at h ⊢
      cases d with
      | bl c =>
        cases c with
        | false => rfl
        | true =>
          simp only [onBS_t] at h ⊢
          cases eb : b ρ' with
          | nx ρ'' =>
            rw [eb] at h
            exact (loopW_is h).symm
          | _ => rfl
      | _ => rfl
    | exc x ρ' => rfl
    | bad => rfl
  by_cases h : ∃ n, loopN t b n ρ ≠ .bad
  · obtain ⟨n, h⟩ := h
    rw [loopW_is h]
    cases n with
    | zero => exact absurd rfl h
    | succ n => exact key n h
  · have e : loopW t b ρ = .bad := by unfold loopW; rw [dif_neg h]
    rw [e]
    have all : ∀ n, loopN t b n ρ = .bad := fun n => Classical.byContradiction fun q => h ⟨n, q⟩
    cases et : t ρ with
    | ok d ρ' =>
      simp only [to_ok]
      cases d with
      | bl c =>
        cases c with
        | false =>
          have := all 1
          unfold loopN at this
          rw [et] at this
          cases this
        | true =>
          simp only [onBS_t]
          cases eb : b ρ' with
          | nx ρ'' =>
            simp only
            obtain ⟨m, em⟩ := loopW_ex (t := t) (b := b) (ρ := ρ'')
            rw [em]
            have := all (m + 1)
            unfold loopN at this
            rw [et] at this
            simp only [to_ok, onBS_t, eb] at this
            exact this.symm
          | bad => rfl
          | _ =>
            have := all 1
            unfold loopN at this
            rw [et] at this
            simp only [to_ok, onBS_t, eb] at this
            cases this
      | _ => rfl
    | exc x ρ' =>
      have := all 1
      unfold loopN at this
      rw [et] at this
      cases this
    | bad => rfl
end VL

/-! VL18: lists within lists: the way to them, their change. -/
namespace VL
open PySem PySem.Spec PyProof.Rows L2

/-- the list at a is come to from v by the indices -/
def Reach (H : Hp) : V → List Int → Addr → Prop
  | v, [], a => v = .ref a
  | v, k :: ks, a => ∃ b vs j v', v = .ref b ∧ H b = some (.lst vs) ∧ ixN vs.length k = some j ∧ vs[j]? = some v' ∧ Reach H v' ks a
theorem Reach.same {H H' : Hp} (s : Same H H') : ∀ {ks : List Int} {v : V} {a : Addr}, Reach H v ks a → Reach H' v ks a
  | [], _, _, h => h
  | _ :: _, _, _, ⟨b, vs, j, v', e, hb, hj, hv, r⟩ => ⟨b, vs, j, v', e, s _ _ hb, hj, hv, r.same s⟩
theorem Reach.inj {H : Hp} : ∀ {ks : List Int} {v : V} {a a' : Addr}, Reach H v ks a → Reach H v ks a' → a = a'
  | [], _, _, _, h, h' => by
    have h : _ = _ := h
    have h' : _ = _ := h'
    rw [h] at h'; cases h'; rfl
  | _ :: _, _, _, _, ⟨b, vs, j, v', e, hb, hj, hv, r⟩, ⟨b2, vs2, j2, v2, e2, hb2, hj2, hv2, r2⟩ => by
    rw [e] at e2; cases e2
    rw [hb] at hb2; cases hb2
    rw [hj] at hj2; cases hj2
    rw [hv] at hv2; cases hv2
    exact r.inj r2
theorem Reach.snoc {H : Hp} {k : Int} : ∀ {ks : List Int} {v : V} {a : Addr}, Reach H v (ks ++ [k]) a → ∃ b us j, Reach H v ks b ∧ H b = some (.lst us) ∧ ixN us.length k = some j ∧ us[j]? = some (.ref a)
  | [], _, _, ⟨b, vs, j, v', e, hb, hj, hv, r⟩ => by
    have r : v' = .ref _ := r
    subst r
    exact ⟨b, vs, j, e, hb, hj, hv⟩
  | _ :: _, _, _, ⟨b, vs, j, v', e, hb, hj, hv, r⟩ => by
    obtain ⟨c, us, i, r', hc, hi, hu⟩ := r.snoc
    exact ⟨c, us, i, ⟨b, vs, j, v', e, hb, hj, hv, r'⟩, hc, hi, hu⟩
theorem evPs_append {G : Str → Option D} {ρ : Rho} {k : Ex} : ∀ {ks : List Ex} {ds : List D}, evPs G (ks ++ [k]) ρ = some ds → ∃ ds' d, evPs G ks ρ = some ds' ∧ evP G k ρ = some d ∧ ds = ds' ++ [d]
  | [], ds, h => by
    simp only [List.nil_append, evPs] at h
    cases e : evP G k ρ with
    | none => rw [e] at h; cases h
    | some d => rw [e] at h; cases h; exact ⟨[], d, by simp only [evPs], rfl, rfl⟩
  | x :: xs, ds, h => by
    simp only [List.cons_append, evPs] at h ⊢
    cases e : evP G x ρ with
    | none => rw [e] at h; cases h
    | some d =>
      rw [e] at h
      simp only [Option.map_eq_some_iff] at h
      obtain ⟨ds1, h, rfl⟩ := h
      obtain ⟨ds', d', h1, h2, rfl⟩ := evPs_append h
      exact ⟨d :: ds', d', by simp only [h1, Option.map_some], h2, rfl⟩
theorem intsD_append {d : D} : ∀ {ds : List D} {is : List Int}, intsD (ds ++ [d]) = some is → ∃ is' k, intsD ds = some is' ∧ d = .int k ∧ is = is' ++ [k]
  | [], is, h => by
    cases d with
    | int k =>
      simp only [List.nil_append, intsD, Option.map_some, Option.some.injEq] at h
      exact ⟨[], k, rfl, rfl, h.symm⟩
    | _ => simp only [List.nil_append, intsD] at h; cases h
  | x :: xs, is, h => by
    cases x with
    | int k =>
      simp only [List.cons_append, intsD, Option.map_eq_some_iff] at h
      obtain ⟨is1, h, rfl⟩ := h
      obtain ⟨is', k', h1, rfl, rfl⟩ := intsD_append h
      exact ⟨k :: is', k', by simp only [intsD, h1, Option.map_some], rfl, rfl⟩
    | _ => simp only [List.cons_append, intsD] at h; cases h
/-- the reading of a place: the indices from behind -/
def tPl (K : KW) (G : Str → Option D) (i : Nat) : List Ex → TE
  | [] => tVar i
  | k :: r => tOp (rIxL K) (tPl K G i r) (tP K G k)
section
variable {K : KW} {H H' : Hp} {ρ : Rho} {σ : L2.St} {F : Fps} {G : Str → Option D}
theorem place_red {i : Nat} {v : V} (hv : σ[i]? = some (some v)) : ∀ (r : List Ex) {H : Hp} {is : List Int} {ds : List D} {a : Addr} {Q : VK}, WR K H ρ σ → evPs G r.reverse ρ = some ds → intsD ds = some is → Reach H v is a →
    (∀ H', Same H H' → Q (.ref a) H') → tPl K G i r σ H Q
  | [], H, is, ds, a, Q, w, e, hi, hr, q => by
    simp only [List.reverse_nil, evPs] at e
    cases e
    cases hi
    have hr : v = .ref a := hr
    exact ⟨v, hv, by rw [hr]; exact q H (Same.refl H)⟩
  | k :: r, H, is, ds, a, Q, w, e, hi, hr, q => by
    rw [List.reverse_cons] at e
    obtain ⟨ds', d, e1, e2, rfl⟩ := evPs_append e
    obtain ⟨is', n, hi', rfl, rfl⟩ := intsD_append hi
    obtain ⟨b, us, j, hr', hb, hj, hu⟩ := hr.snoc
    refine place_red hv r w e1 hi' hr' fun H1 s1 => ?_
    refine ⟨ρ, .int n, w.same s1, e2, fun y H2 f s2 ry _ => ?_⟩
    refine ⟨b, us, n, .ref a, rfl, W1.int ⟨f, ry⟩, .inl (.inl (s2 _ _ (s1 _ _ hb))), ?_, q H2 (s1.trans s2)⟩
    unfold L2.atI
    rw [hj]
    exact hu
/-- an item exchanged -/
theorem Reps.exch : ∀ {xs : List D} {vs : List V} {f : List Addr} {j : Nat} {x : D}, Reps K H xs vs f → xs[j]? = some x → ∃ v g, vs[j]? = some v ∧ Rep K H x v g ∧ (∀ a ∈ g, a ∈ f) ∧
    ∀ {U : Addr → Prop} {H' : Hp} {x' : D} {v' : V} {g' : List Addr}, Frm U H H' → OwnW U H → (∀ a ∈ f, a ∉ g → ¬ U a) → Rep K H' x' v' g' → (∀ a ∈ g', a ∈ f → a ∈ g) → ∃ f', Reps K H' (xs.set j x') (vs.set j v') f' ∧ ∀ a ∈ f', (a ∈ f ∧ a ∉ g) ∨ a ∈ g'
  | _, _, _, j, _, .nil, e => by simp at e
  | _, _, _, 0, _, .cons (v := v) (f := g) (g := h) r rs n, e => by
    cases e
    refine ⟨v, g, rfl, r, fun a ha => List.mem_append_left _ ha, fun {U H' x' v' g'} fr ow out r' dj => ⟨g' ++ h, ?_, fun a ha => ?_⟩⟩
    · exact .cons r' (rs.frm fr ow fun a ha => out a (List.mem_append_right _ ha) fun q => n a q ha) fun a ha hb => n a (dj a ha (List.mem_append_right _ hb)) hb
    · rcases List.mem_append.mp ha with z | z
      · exact .inr z
      · exact .inl ⟨List.mem_append_right _ z, fun q => n a q z⟩
  | _, _, _, j + 1, _, .cons (f := g0) (g := h) r rs n, e => by
    obtain ⟨v, g, hv, rx, sub, up⟩ := Reps.exch rs (by simpa using e)
    refine ⟨v, g, by simpa using hv, rx, fun a ha => List.mem_append_right _ (sub a ha), fun {U H' x' v' g'} fr ow out r' dj => ?_⟩
    obtain ⟨f', rs', cov⟩ := up fr ow (fun a ha q => out a (List.mem_append_right _ ha) q) r' fun a ha hb => dj a ha (List.mem_append_right _ hb)
    refine ⟨g0 ++ f', ?_, fun a ha => ?_⟩
    · refine .cons (r.frm fr ow fun a ha => out a (List.mem_append_left _ ha) fun q => n a ha (sub a q)) rs' fun a ha hb => ?_
      rcases cov a hb with z | z
      · exact n a ha z.1
      · exact n a ha (sub a (dj a z (List.mem_append_left _ ha)))
    · rcases List.mem_append.mp ha with z | z
      · exact .inl ⟨List.mem_append_left _ z, fun q => n a z (sub a q)⟩
      · rcases cov a z with y | y
        · exact .inl ⟨List.mem_append_right _ y.1, y.2⟩
        · exact .inr y
theorem set_self {α : Type} {xs : List α} {j : Nat} {x : α} (h : xs[j]? = some x) : xs.set j x = xs := by
  apply List.ext_getElem?
  intro i
  by_cases e : j = i
  · subst e
    have hl : j < xs.length := by
      rcases Nat.lt_or_ge j xs.length with z | z
      · exact z
      · rw [List.getElem?_eq_none z] at h; cases h
    rw [List.getElem?_set_self hl, h]
  · rw [List.getElem?_set_ne e]
/-- the list at a path, and what comes of its change -/
theorem Rep.leaf : ∀ (ks : List Int) {d : D} {v : V} {f : List Addr} {xs : List D}, Rep K H d v f → leafD ks d = some xs → ∃ a us g, Reach H v ks a ∧ H a = some (.lst us) ∧ Reps K H xs us g ∧ a ∈ f ∧ (∀ b ∈ g, b ∈ f) ∧ a ∉ g ∧
    ∀ {us' : List V} {ys : List D} {g' : List Addr}, Reps K (upd H a (.lst us')) ys us' g' → (∀ b ∈ g', b ∈ f → b ∈ g) → ∃ f', Rep K (upd H a (.lst us')) (putD ks ys d) v f' ∧ ∀ b ∈ f', b ∈ f ∨ b ∈ g'
  | [], d, v, f, xs, r, e => by
    cases d with
    | lst o zs =>
      cases o with
      | false => cases e
      | true =>
        cases e
        cases r with
        | own h rs na =>
          rename_i a us f0
          refine ⟨a, us, f0, rfl, h, rs, List.mem_cons_self, fun b hb => List.mem_cons_of_mem _ hb, na, fun {us' ys g'} rs' dj => ⟨a :: g', .own upd_same rs' (fun z => na (dj a z List.mem_cons_self)), fun b hb => ?_⟩⟩
          rcases List.mem_cons.mp hb with z | z
          · exact .inl (z ▸ List.mem_cons_self)
          · exact .inr z
    | _ => cases e
  | k :: ks, d, v, f, xs, r, e => by
    cases d with
    | lst o zs =>
      cases o with
      | false => cases e
      | true =>
        simp only [leafD, Option.bind_eq_some_iff] at e
        obtain ⟨x, ⟨j, hj, hx⟩, e⟩ := e
        cases r with
        | own h rs na =>
          rename_i b vs f0
          have lenv : vs.length = zs.length := rs.length.symm
          obtain ⟨v', g0, hv, rx, sub, upj⟩ := rs.exch hx
          obtain ⟨a, us, g, hr, ha, rg, ma, mg, nag, up⟩ := Rep.leaf ks rx e
          have hba : b ≠ a := fun z => na (sub b (z ▸ ma))
          refine ⟨a, us, g, ⟨b, vs, j, v', rfl, h, by rw [lenv]; exact hj, hv, hr⟩, ha, rg, List.mem_cons_of_mem _ (sub a ma), fun c hc => List.mem_cons_of_mem _ (sub c (mg c hc)), nag, fun {us' ys g'} rs' dj => ?_⟩
          obtain ⟨f1, r1, cov1⟩ := up rs' fun c hc hb => dj c hc (List.mem_cons_of_mem _ (sub c hb))
          obtain ⟨f2, r2, cov2⟩ := upj (U := fun c => c = a) (H' := upd H a (.lst us')) (fun c o hc n => by rw [upd_ne n]; exact hc) (fun c hc => by subst hc; exact ⟨_, ha, id⟩) (fun c hc n z => n (z ▸ ma)) r1 fun c hc hb => by
            rcases cov1 c hc with z | z
            · exact z
            · exact mg c (dj c z (List.mem_cons_of_mem _ hb))
          rw [set_self hv] at r2
          refine ⟨b :: f2, ?_, fun c hc => ?_⟩
          · simp only [putD, hj, hx]
            refine .own (by rw [upd_ne hba]; exact h) r2 fun z => ?_
            rcases cov2 b z with y | y
            · exact na y.1
            · rcases cov1 b y with q | q
              · exact na (sub b q)
              · exact na (sub b (mg b (dj b q List.mem_cons_self)))
          · rcases List.mem_cons.mp hc with z | z
            · exact .inl (z ▸ List.mem_cons_self)
            · rcases cov2 c z with y | y
              · exact .inl (List.mem_cons_of_mem _ y.1)
              · rcases cov1 c y with q | q
                · exact .inl (List.mem_cons_of_mem _ (sub c q))
                · exact .inr q
    | _ => cases e
end
end VL

/-! VL19: what is wanted behind statements. -/
namespace VL
open PySem PySem.Spec PyProof.Rows L2

/-- the slots that keep their values -/
def Kpt (kp : List Nat) (σ σ' : L2.St) : Prop := ∀ i ∈ kp, σ'[i]? = σ[i]?
def GoalS (K : KW) (T : Xt) (kp : List Nat) (W : WX) (σ : L2.St) (F : Fps) (H : Hp) (r : RS) (N : Ends) : Prop :=
  match r with
  | .nx ρ' => ∀ σ' H' F', Stp F H F' H' → ER K H' ρ' σ' F' → Kpt kp σ σ' → N.nx σ' H'
  | .bk ρ' => ∀ σ' H' F', Stp F H F' H' → ER K H' ρ' σ' F' → Kpt kp σ σ' → N.bk σ' H'
  | .rt d ρ' => ∀ v σ' H' F' f, Stp F H F' H' → ER K H' ρ' σ' F' → Kpt kp σ σ' → Rep K H' d v f → Own F H F' f → N.rt v H'
  | .ex x ρ' => ∀ cls dx σ' H' F', Stp F H F' H' → ER K H' ρ' σ' F' → Kpt kp σ σ' → XRep K T H' x cls dx → W cls dx σ' H'
  | .bad => False
def tS (K : KW) (T : Xt) (P : Prg) (kp : List Nat) (W : WX) (c : Sx) : TS := fun N σ H => ∃ ρ F, ER K H ρ σ F ∧ GoalS K T kp W σ F H (evS P c ρ) N
def tSs (K : KW) (T : Xt) (P : Prg) (kp : List Nat) (W : WX) (c : List Sx) : TS := fun N σ H => ∃ ρ F, ER K H ρ σ F ∧ GoalS K T kp W σ F H (evSs P c ρ) N
structure CokS (X : Cx) (P : Prg) (T : Xt) (k : Nat) (W : WX) : Prop extends CokX X P T k W where
  ownx : PassesOwn (model X.prog X.w) X.A X.env X.xe
  stk : X.stack = X.env :: X.outer
  frm : X.env.frame = some X.env.locals
  noex : X.ex = []
section
variable {K : KW} {T : Xt} {P : Prg} {kp : List Nat} {W : WX} {H H' H1 : Hp} {ρ ρ' : Rho} {σ σ' σ1 : L2.St} {F F' F1 : Fps} {N : Ends}
theorem Kpt.refl : Kpt kp σ σ := fun _ _ => rfl
theorem Kpt.trans {σ2 : L2.St} (a : Kpt kp σ σ1) (b : Kpt kp σ1 σ2) : Kpt kp σ σ2 := fun i h => (b i h).trans (a i h)
theorem Kpt.set {i : Nat} {x : Option V} (h : i ∉ kp) : Kpt kp σ (σ.set i x) := fun j hj => List.getElem?_set_ne (by intro e; subst e; exact h hj)
theorem GoalS.from {r : RS} (s : Stp F H F1 H1) (k : Kpt kp σ σ1) (g : GoalS K T kp W σ F H r N) : GoalS K T kp W σ1 F1 H1 r N := by
  cases r with
  | nx ρ => exact fun σ' H' F' s' w k' => g σ' H' F' (s.trans s') w (k.trans k')
  | bk ρ => exact fun σ' H' F' s' w k' => g σ' H' F' (s.trans s') w (k.trans k')
  | rt d ρ => exact fun v σ' H' F' f s' w k' r o => g v σ' H' F' f (s.trans s') w (k.trans k') r (o.trans s)
  | ex x ρ => exact fun cls dx σ' H' F' s' w k' xr => g cls dx σ' H' F' (s.trans s') w (k.trans k') xr
  | bad => exact g
/-- an expression ahead -/
theorem to_goal {r : RX D} {f : D → Rho → RS} {Q : VK} (g : GoalS K T kp W σ F H (r.to f) N)
    (q : ∀ d ρ1 v H1 F1 f1, r = .ok d ρ1 → Stp F H F1 H1 → ER K H1 ρ1 σ F1 → Rep K H1 d v f1 → Own F H F1 f1 → GoalS K T kp W σ F H (f d ρ1) N → Q v H1) : GoalX K T σ F H r Q (fun cls dx H' => W cls dx σ H') := by
  cases r with
  | ok d ρ1 => exact fun v H1 F1 f1 s w r o => q d ρ1 v H1 F1 f1 rfl s w r o g
  | exc x ρ1 => exact fun cls dx H' F' s w xr => g cls dx σ H' F' s w Kpt.refl xr
  | bad => exact g
theorem to_goalT {r : RX D} {A B : Rho → RS} {KA KB : Hp → Prop} (g : GoalS K T kp W σ F H (r.to fun d ρ' => onBS d (A ρ') (B ρ')) N)
    (ha : ∀ ρ1 F1 H1, Stp F H F1 H1 → ER K H1 ρ1 σ F1 → GoalS K T kp W σ F1 H1 (A ρ1) N → KA H1)
    (hb : ∀ ρ1 F1 H1, Stp F H F1 H1 → ER K H1 ρ1 σ F1 → GoalS K T kp W σ F1 H1 (B ρ1) N → KB H1) : GoalT K T σ F H r (fun c H1 => if c = true then KA H1 else KB H1) (fun cls dx H' => W cls dx σ H') := by
  cases r with
  | ok d ρ1 =>
    cases d with
    | bl b =>
      intro H1 F1 s1 w1
      cases b with
      | true => exact iteT (ha ρ1 F1 H1 s1 w1 (GoalS.from s1 Kpt.refl g))
      | false => exact iteF (hb ρ1 F1 H1 s1 w1 (GoalS.from s1 Kpt.refl g))
    | _ => exact g.elim
  | exc x ρ1 => exact fun cls dx H' F' s w xr => g cls dx σ H' F' s w Kpt.refl xr
  | bad => exact g
theorem to_goalO {r : RX (List Opd)} {f : List Opd → Rho → RS} {Q : List V → Hp → Prop} (g : GoalS K T kp W σ F H (r.to f) N)
    (q : ∀ os ρ1 vs H1 F1 gp, Stp F H F1 H1 → ER K H1 ρ1 σ F1 → OpsR K H1 σ F1 os vs gp → (∀ a ∈ gp, inF F a ∨ H a = none) → GoalS K T kp W σ F H (f os ρ1) N → Q vs H1) : GoalO K T σ F H r Q (fun cls dx H' => W cls dx σ H') := by
  cases r with
  | ok os ρ1 => exact fun vs H1 F1 gp s w r o => q os ρ1 vs H1 F1 gp s w r o g
  | exc x ρ1 => exact fun cls dx H' F' s w xr => g cls dx σ H' F' s w Kpt.refl xr
  | bad => exact g
/-- the end of a straight statement -/
theorem GoalS.next (g : GoalS K T kp W σ F H (.nx ρ') N) (s : Stp F H F' H') (w : ER K H' ρ' σ' F') (k : Kpt kp σ σ') : N.nx σ' H' := g σ' H' F' s w k
theorem BindV.kpt {p : Pat} {v : V} (b : BindV K H p v σ σ') (h : ∀ i ∈ slotsP p, i ∉ kp) : Kpt kp σ σ' := fun i hi => b.out i fun z => h i z hi
/-- a target takes what has come -/
theorem asg_goal {p : Pat} {d : D} {v : V} {f1 : List Addr} (hp : ∀ i ∈ slotsP p, i ∉ kp) (s : Stp F H F1 H1) (w : ER K H1 ρ σ F1) (r : Rep K H1 d v f1) (o : Own F H F1 f1) (g : GoalS K T kp W σ F H (optS (bindP p d ρ) .nx) N) : gP K p v σ H1 N.nx := by
  cases e : bindP p d ρ with
  | none => rw [e] at g; exact g.elim
  | some ρ' =>
    rw [e] at g
    obtain ⟨σ', F', bv, w', cov⟩ := bindP_er p w r o.out e
    refine ⟨σ', bv, g σ' H1 F' ⟨s.frm, fun a h => ?_⟩ w' (bv.kpt hp)⟩
    rcases cov a h with z | z
    · exact s.old a z
    · exact o.old a z
/-- a list is changed -/
theorem mut_goal {i : Nat} {ks : List Int} {d : D} {xs : List D} {fd : List Addr} (s : Stp F H F1 H1) (w : ER K H1 ρ σ F1) (o : Own F H F1 fd) (hd : slotOf ρ i = some d) (hl : leafD ks d = some xs) :
    ∃ v a us g, σ[i]? = some (some v) ∧ Reach H1 v ks a ∧ H1 a = some (.lst us) ∧ Reps K H1 xs us g ∧ a ∉ g ∧ a ∉ fd ∧ (∀ b ∈ g, b ∉ fd) ∧
      ∀ {us' : List V} {ys : List D} {g' : List Addr}, Reps K (upd H1 a (.lst us')) ys us' g' → (∀ b ∈ g', b ∈ g ∨ b ∈ fd) → ∃ F', ER K (upd H1 a (.lst us')) (ρ.set i (some (putD ks ys d))) σ F' ∧ Stp F H F' (upd H1 a (.lst us')) := by
  obtain ⟨v, hv, r⟩ := w.at_ i d (slotOf_some hd)
  obtain ⟨a, us, g, hr, ha, rg, ma, mg, nag, up⟩ := r.leaf ks hl
  have nfd : ∀ b ∈ fd, b ∉ F1 i := fun b hb q => o.out b hb ⟨i, q⟩
  have hi : i < ρ.length := by
    rcases Nat.lt_or_ge i ρ.length with z | z
    · exact z
    · have q := slotOf_some hd
      rw [List.getElem?_eq_none z] at q; cases q
  refine ⟨v, a, us, g, hv, hr, ha, rg, nag, fun z => nfd a z ma, fun b hb z => nfd b z (mg b hb), fun {us' ys g'} rs' sub => ?_⟩
  obtain ⟨f', r', cov⟩ := up rs' fun b hb hf => (sub b hb).elim id fun z => absurd hf (nfd b z)
  have fr : Frm (fun c => c = a) H1 (upd H1 a (.lst us')) := fun c ob hc n => by rw [upd_ne n]; exact hc
  have ow : OwnW (fun c => c = a) H1 := fun c hc => by subst hc; exact ⟨_, ha, id⟩
  have w1 : ER K (upd H1 a (.lst us')) (ρ.set i none) σ (setF F1 i []) := (w.drop i).frm fr ow fun c ⟨j, h⟩ z => by
    by_cases e : j = i
    · subst e; rw [setF_same] at h; cases h
    · rw [setF_ne e] at h; rw [z] at h; exact w.dj j i e a h ma
  have covF : ∀ b ∈ f', b ∈ F1 i ∨ b ∈ fd := fun b hb => by
    rcases cov b hb with z | z
    · exact .inl z
    · exact (sub b z).imp (mg b) id
  have w2 := w1.put (i := i) (by rw [List.length_set]; exact hi) hv r' fun b hb j hj q => by
    rw [setF_ne hj] at q
    rcases covF b hb with z | z
    · exact w.dj j i hj b q z
    · exact o.out b z ⟨j, q⟩
  rw [List.set_set] at w2
  refine ⟨_, w2, ⟨fun c ob hc n => ?_, fun c hc => ?_⟩⟩
  · by_cases e : c = a
    · subst e
      have h1 : H1 c = some ob := s.frm c ob hc n
      rcases s.old c ⟨i, ma⟩ with z | z
      · exact absurd z n
      · rw [hc] at z; cases z
    · rw [upd_ne e]; exact s.frm c ob hc n
  · have hc : inF F1 c ∨ c ∈ fd := by
      rcases inF_setF hc with z | z
      · exact (covF c z).imp (fun q => ⟨i, q⟩) id
      · rcases inF_setF z with z | z
        · cases z
        · exact .inl z
    rcases hc with z | z
    · exact s.old c z
    · exact o.old c z
theorem evX_pure {c : Ex} {ρ : Rho} (h : pureC c = true) : evX P c ρ = pureX P c ρ := by
  cases c <;> simp only [pureC] at h <;> first
    | (simp only [evX]; done)
    | (simp only [evX]; exact if_pos h)
    | cases h
end
end VL

/-! VL20: statements: the syntax, the cases. -/
namespace VL
open PySem PySem.Spec PyProof.Rows L2

def isLc : Expr → Bool
  | .ListComp .. => true
  | .SetComp .. => true
  | .DictComp .. => true
  | _ => false
def isFn (sc : Scope) : Bool := match sc.kind with
  | .function => true
  | _ => false
/-- a comprehension in one line with its name: the name is written first -/
def swapC (sc : Scope) (y : Str) (py : Pos) : Expr → Bool
  | .ListComp _ _ scope pos => isFn sc && decide (sc.names.lookup y = some .local) && (py.line == pos.line) && !(scope.names.any fun (n, k) => n == y && (k == .local || k == .cell))
  | _ => false
theorem sw_no {e : Expr} {t : Option Expr} {l : Nat} {env : Env} (h : isLc e = false) : swapsWith e t l env = pure false := by
  cases e <;> first | rfl | cases h
theorem sw_cell {e : Expr} {y : Str} {py : Pos} {l : Nat} {env : Env} (h : env.scope.names.lookup y = some .cell) : swapsWith e (some (.Name y py)) l env = pure false := by
  have k : env.kindOf y = some .cell := h
  cases e <;> first
    | rfl
    | (unfold swapsWith
       simp only [k]
       rw [show (some NameKind.cell == some NameKind.local) = false from rfl]
       simp)
theorem sw_tup {e : Expr} {es : List Expr} {k : Nat} {p : Pos} {l : Nat} {env : Env} : swapsWithSole [.Tuple es k p] e l env = pure false := by
  cases e <;> rfl
theorem sw_sub {e a b : Expr} {p : Pos} {l : Nat} {env : Env} : swapsWithSole [.Subscript a b p] e l env = pure false := by
  cases e <;> rfl
def notTup : Expr → Bool
  | .Tuple .. => false
  | _ => true
theorem st_tup {e : Expr} {es : List Expr} {k : Nat} {p : Pos} {env : Env} (h : notTup e = true) : swappedStores [.Tuple es k p] e env = pure none := by
  cases e <;> first | rfl | cases h
theorem st_sub {e a b : Expr} {p : Pos} {env : Env} : swappedStores [.Subscript a b p] e env = pure none := by
  cases e <;> rfl
theorem st_name {e : Expr} {y : Str} {p : Pos} {env : Env} : swappedStores [.Name y p] e env = pure none := by
  cases e <;> rfl
theorem st_subs {e a b c d : Expr} {p q r : Pos} {k : Nat} {env : Env} : swappedStores [.Tuple [.Subscript a b p, .Subscript c d q] k r] e env = pure none := by
  cases e with
  | Tuple vs k2 p2 =>
    unfold swappedStores
    simp only [List.filterMap_cons, List.filterMap_nil]
    simp
  | _ => rfl
/-- two names take two values at once -/
def parC (sc : Scope) (x y : Str) (px py : Pos) (a b : Expr) : Bool :=
  isFn sc && decide (sc.names.lookup x = some .local) && decide (sc.names.lookup y = some .local) && decide (x ≠ y) && (py.line == px.line) && notStar a && notStar b &&
    !(foldedForSure 8 a && foldedForSure 8 b) && !(constantsAlone 8 a && constantsAlone 8 b)
theorem isFn_ok {sc : Scope} (h : isFn sc = true) : sc.kind = .function := by
  unfold isFn at h
  split at h
  · assumption
  · cases h
theorem st_par {x y : Str} {px py pt pt2 : Pos} {kt k2 : Nat} {a b : Expr} {env : Env} (h : parC env.scope x y px py a b = true) :
    swappedStores [.Tuple [.Name x px, .Name y py] kt pt] (.Tuple [a, b] k2 pt2) env = pure (some [x, y]) := by
  unfold parC at h
  simp only [Bool.and_eq_true, decide_eq_true_eq, Bool.not_eq_true'] at h
  obtain ⟨⟨⟨⟨⟨⟨⟨⟨h1, h2⟩, h3⟩, h4⟩, h5⟩, h6⟩, h7⟩, h8⟩, h9⟩ := h
  have kx : env.kindOf x = some .local := h2
  have ky : env.kindOf y = some .local := h3
  have hb : env.blockKind = .function := by unfold Env.blockKind; rw [isFn_ok h1]; rfl
  have nst : ([a, b].any fun | .Starred .. => true | _ => false) = false := by
    cases a <;> cases b <;> first | rfl | (cases h6; done) | (cases h7; done)
  have hne : (x == y) = false := by simpa using h4
  unfold swappedStores
  simp only [hb, nst, List.filterMap_cons, List.filterMap_nil, kx, ky, Expr.pos, List.head?_cons, Option.map_some, Option.getD_some, h5]
  simp [h8, h9, List.eraseDups_cons, hne, Ne.symm h4, h4]
  intro hh
  exfalso
  rcases hh with hh | hh
  · cases a <;> first | (cases hh; done) | (cases h6; done)
  · cases b <;> first | (cases hh; done) | (cases h7; done)

section
variable {X : Cx} {P : Prg} {T : Xt} {k : Nat} {W : WX} {kp : List Nat}
theorem psWeak {st : Stmt} {t t' : TS} (h : PS X st t) (w : ∀ N σ H, t' N σ H → t N σ H) : PS X st t' := ⟨fun pins s σ H N I q => h.run pins s σ H N I (w N σ H q)⟩
theorem pssWeak {st : List Stmt} {t t' : TS} (h : PSs X st t) (w : ∀ N σ H, t' N σ H → t N σ H) : PSs X st t' := ⟨fun pins s σ H N I q => h.run pins s σ H N I (w N σ H q)⟩
/-- the value goes to the target -/
theorem asg_red {p : Pat} {e : Ex} (hp : ∀ i ∈ slotsP p, i ∉ kp) : ∀ N σ H, tS X.kw T P kp W (.asg p e) N σ H → tAsg (tX X.kw T P W e) (gP X.kw p) N σ H := fun N σ H ⟨ρ, F, w, g⟩ => by
  simp only [evS] at g
  exact ⟨ρ, F, w, to_goal g fun d ρ1 v H1 F1 f1 _ s w1 r o g1 => asg_goal hp s w1 r o g1⟩
/-- name = [..] in one line -/
theorem swap_ok (C : CokX X P T k W) {own : List (Str × Nat)} {elt : Ex} {p : Pat} {kk : SrcK} {ss ifs : List Ex} {v : Expr} {i : Nat} {y : Str} {py spos : Pos} (hp : i ∉ kp) (hy : X.N[i]? = some y)
    (hsw : swapC X.env.scope y py v = true) (h : mX X.N X.env.scope X.fn (.comp own elt p kk ss ifs) v = true) : PS X (.Assign [.Name y py] v spos) (tS X.kw T P kp W (.asg (.nm i) (.comp own elt p kk ss ifs))) := by
  have gn : ∀ {x : V} {σ : L2.St} {H : Hp} {Q : L2.St → Hp → Prop}, gP X.kw (.nm i) x σ H Q → gName i x σ H Q := fun ⟨σ', b, q⟩ => by
    cases b
    exact q
  cases v with
  | ListComp e1 gens scope pos =>
    simp only [swapC, Bool.and_eq_true, decide_eq_true_eq, Bool.not_eq_true'] at hsw
    obtain ⟨⟨⟨hk, hyl⟩, hl⟩, ha⟩ := hsw
    have sw := sw_true (elt := e1) (gs := gens) (scope := scope) (pos := pos) (py := py) (l := spos.line) (isFn_ok hk) hyl hl ha
    unfold mX at h
    split at h
    · rename_i hpu
      unfold mE at h
      split at h
      rotate_left
      · cases h
      rename_i e1' tg iter ts scope' pos' heq
      cases heq
      split at h
      rotate_left
      · cases h
      rename_i es ho
      simp only [Bool.and_eq_true, List.all_eq_true, decide_eq_true_eq, Bool.or_eq_true, Bool.not_eq_true'] at h
      obtain ⟨⟨⟨⟨⟨⟨⟨⟨h1, h2⟩, h3⟩, h4⟩, h5⟩, h6⟩, h7⟩, h8⟩, h9⟩ := h
      have G := C.toCokG
      have ps := pes_ok ss G es h1
      have hit : needT kk = true → isTuple tg = true := fun hk => by
        rcases h6 with h6 | h6
        · exact h6
        · rw [h6] at hk; cases hk
      have ht : ∀ (s : Shared) (H : Hp) (A : Addr) (cl : List (Str × Addr)) (fp : List Addr), PTs (X.blk s H scope (compEnvC scope cl A X.env) fp) ts (fun σ H Q => ∃ ρ b, WR X.kw H ρ σ ∧ evTs P.G ifs ρ = some b ∧ ∀ H', Same H H' → Q b H') := fun s H A cl fp => by
        cases ifs with
        | nil =>
          cases ts with
          | nil => exact ⟨fun pins s' σ H' Q I ⟨ρ, b, w, e, q⟩ => by cases e; exact pts_nil.run pins s' σ H' Q I (q H' (Same.refl H'))⟩
          | cons _ _ => cases h7
        | cons c cs =>
          cases ts with
          | nil => cases cs <;> cases h7
          | cons t1 tr =>
            have e0 : cs = [] ∧ tr = [] := by
              cases cs <;> cases tr <;> first | exact ⟨rfl, rfl⟩ | cases h7
            obtain ⟨rfl, rfl⟩ := e0
            have hT : PT (X.blk s H scope (compEnvC scope cl A X.env) fp) t1 (tPT X.kw P.G c) := pt_ok c (G.blk) t1 (by unfold mTs at h8; exact h8)
            refine ⟨fun pins s' σ H' Q I ⟨ρ, b, w, e, q⟩ => (pts_one hT).run pins s' σ H' Q I ⟨ρ, b, w, ?_, q⟩⟩
            unfold evTs at e
            split at e
            · rename_i b' e1; cases e; exact e1
            · cases e
      refine psWeak (ps_setLc (g := gP X.kw p) (te := tP X.kw P.G elt) C.calm C.nd hy hyl sw (src_pi C.toCok ho hit ps) (blkOk_by h2) (fun s H A cl fp => pat_pe (G.blk).toCok p tg h5) ht (fun s H A cl fp => pe_ok elt (G.blk) e1 h9) (folded_plain h4)) fun N σ H q => ?_
      obtain ⟨ρ, F, w, g⟩ := asg_red (p := .nm i) (fun j hj z => by rw [List.mem_singleton.mp hj] at z; exact hp z) N σ H q
      refine comp_red h3 (pure_goal w (by simp only [evX] at g; rw [if_pos hpu] at g; exact g.mono fun v H' q => gn q))
    · rename_i hpu
      split at h
      rotate_left
      · cases h
      rename_i e1' tg iter ts scope' pos' heq
      cases heq
      split at h
      rotate_left
      · cases h
      rename_i es ho
      simp only [Bool.and_eq_true, List.all_eq_true, decide_eq_true_eq, Bool.or_eq_true, Bool.not_eq_true'] at h
      obtain ⟨⟨⟨⟨⟨⟨⟨⟨h1, h2⟩, h3⟩, h4⟩, h5⟩, h6⟩, h7⟩, h8⟩, h9⟩ := h
      have ps := pxs_ok ss C es h1
      have hit : needT kk = true → isTuple tg = true := fun hk => by
        rcases h6 with h6 | h6
        · exact h6
        · rw [h6] at hk; cases hk
      have ht : ∀ (s : Shared) (H : Hp) (A : Addr) (cl : List (Str × Addr)) (fp : List Addr), PTs (X.blk s H scope (compEnvC scope cl A X.env) fp) ts (fun σ H Q => ∃ ρ F b ρ', ER X.kw H ρ σ F ∧ evXt P ifs ρ = .ok b ρ' ∧ ∀ H' F', Stp F H F' H' → ER X.kw H' ρ' σ F' → Q b H') := fun s H A cl fp => by
        cases ifs with
        | nil =>
          cases ts with
          | nil => exact ⟨fun pins s' σ H' Q I ⟨ρ, F, b, ρ', w, e, q⟩ => by
              simp only [evXt] at e
              cases e
              exact pts_nil.run pins s' σ H' Q I (q H' F .refl w)⟩
          | cons _ _ => cases h7
        | cons c cs =>
          cases ts with
          | nil => cases cs <;> cases h7
          | cons t1 tr =>
            have e0 : cs = [] ∧ tr = [] := by
              cases cs <;> cases tr <;> first | exact ⟨rfl, rfl⟩ | cases h7
            obtain ⟨rfl, rfl⟩ := e0
            have hT : PT (X.blk s H scope (compEnvC scope cl A X.env) fp) t1 (tXT X.kw T P W0 c) := pxt_ok c (C.blk) t1 (by unfold mXTs at h8; exact h8)
            refine ⟨fun pins s' σ H' Q I ⟨ρ, F, b, ρ', w, e, q⟩ => (pts_one hT).run pins s' σ H' Q I ⟨ρ, F, w, ?_⟩⟩
            simp only [evXt] at e
            obtain ⟨d, ρ1, e1, e⟩ := th_is e
            rw [e1]
            cases d with
            | bl b' =>
              cases b' <;> (cases e; exact q)
            | _ => cases e
      refine psWeak (ps_setLc (g := gP X.kw p) (te := tX X.kw T P W0 elt) C.calm C.nd hy hyl sw (src_pi C.toCok ho hit ps) (blkOk_by h2) (fun s H A cl fp => pat_pe (C.blk).toCok p tg h5) ht (fun s H A cl fp => px_ok elt (C.blk) e1 h9) (folded_plain h4)) fun N σ H q => ?_
      obtain ⟨ρ, F, w, g⟩ := asg_red (p := .nm i) (fun j hj z => by rw [List.mem_singleton.mp hj] at z; exact hp z) N σ H q
      exact comp_redX (neg_if hpu) h3 ⟨ρ, F, w, g.mono fun v H' q => gn q⟩
  | _ => cases hsw
end
end VL

/-! VL21: statements: the machine does what evS tells. -/
namespace VL
open PySem PySem.Spec PyProof.Rows L2

def mPl (N : List Str) (sc : Scope) (fn : FnB) (i : Nat) : List Ex → Expr → Bool
  | [], e => mE N sc fn (.var i) e
  | k :: r, e => match e with
    | .Subscript a b _ => notSlice b && mE N sc fn k b && mPl N sc fn i r a
    | _ => false
def asgC (sc : Scope) (p : Pat) (e : Ex) (tg v : Expr) : Bool := match tg with
  | .Name y py => !isLc v || decide (sc.names.lookup y = some .cell) || (swapC sc y py v && (match p, e with
    | .nm _, .comp .. => true
    | _, _ => false))
  | .Tuple .. => notTup v
  | _ => false
def outK (kp : List Nat) (is : List Nat) : Bool := is.all fun i => !kp.contains i
/-- except clauses, each putting None to a name -/
def mHs (N : List Str) (sc : Scope) (kp : List Nat) : List (Str × Nat) → List ExceptHandler → Bool
  | [], hds => hds.isEmpty
  | (x, j) :: hs, hds => match hds with
    | .ExceptHandler (some (.Name y _)) none [.Assign [.Name t _] (.Constant .none _ _) _] _ :: r => decide (y = x) && gl sc x && !(x == ("__debug__" : Str)) && decide (N[j]? = some t) && decide (sc.names.lookup t = some .local) && outK kp [j] && mHs N sc kp hs r
    | _ => false
mutual
def mS (N : List Str) (sc : Scope) (fn : FnB) (kp : List Nat) : Sx → Stmt → Bool
  | .asg p e, st => match st with
    | .Assign [tg] v _ => mPat N sc fn p tg && outK kp (slotsP p) && mX N sc fn e v && asgC sc p e tg v
    | _ => false
  | .par i j a b, st => match st with
    | .Assign [.Tuple [.Name x px, .Name y py] _ _] (.Tuple [a', b'] _ _) _ => decide (N[i]? = some x) && decide (N[j]? = some y) && decide (i ≠ j) && outK kp [i, j] && parC sc x y px py a' b' && mXs N sc fn [a, b] [a', b']
    | _ => false
  | .mut o i ks args, st => match o, args, st with
    | .set, [e, k], .Assign [.Subscript ob kk _] v _ => mPl N sc fn i ks.reverse ob && notSlice kk && mE N sc fn k kk && mX N sc fn e v
    | .app, [e], .Expr (.Call (.Attribute ob nm apos) [v] [] cpos) _ => decide (nm = ("append" : Str)) && notBare ob && (apos.endLine == cpos.line) && mPl N sc fn i ks.reverse ob && notStar v && (if ks.isEmpty = true then mX N sc fn e v else mE N sc fn e v)
    | .ins, [k, e], .Expr (.Call (.Attribute ob nm apos) [u, v] [] cpos) _ => decide (nm = ("insert" : Str)) && ks.isEmpty && notBare ob && (apos.endLine == cpos.line) && mPl N sc fn i [] ob && notStar u && notStar v && mE N sc fn k u && mE N sc fn e v
    | .pop, [k], .Expr (.Call (.Attribute ob nm apos) [u] [] cpos) _ => decide (nm = ("pop" : Str)) && ks.isEmpty && notBare ob && (apos.endLine == cpos.line) && mPl N sc fn i [] ob && notStar u && mE N sc fn k u
    | .ext, [e], .Expr (.Call (.Attribute ob nm apos) [v] [] cpos) _ => decide (nm = ("extend" : Str)) && ks.isEmpty && notBare ob && (apos.endLine == cpos.line) && mPl N sc fn i [] ob && notStar v && mX N sc fn e v
    | _, _, _ => false
  | .dst i e k, st => match st with
    | .Assign [.Subscript ob kk _] v _ => mPl N sc fn i [] ob && notSlice kk && mE N sc fn k kk && mX N sc fn e v
    | _ => false
  | .rvS i, st => match st with
    | .Assign [.Name y _] (.Subscript ob (.Slice none none (some (.UnaryOp .USub (.Constant (.int 1) _ _) _)) _) _) _ => decide (N[i]? = some y) && locB sc fn y && outK kp [i] && mPl N sc fn i [] ob
    | _ => false
  | .augI i o k e, st => match st with
    | .AugAssign (.Subscript ob kk _) o' v _ => decide (o' = o) && (decide (o = .Add) || decide (o = .Sub)) && mPl N sc fn i [] ob && notSlice kk && mE N sc fn k kk && mE N sc fn e v
    | _ => false
  | .swp i k l a b, st => match st with
    | .Assign [.Tuple [.Subscript o1 k1 _, .Subscript o2 k2 _] _ _] v _ => mX N sc fn (.node .tup [a, b]) v && mPl N sc fn i [] o1 && mPl N sc fn i [] o2 && notSlice k1 && notSlice k2 && mE N sc fn k k1 && mE N sc fn l k2
    | _ => false
  | .rai x m, st => match st with
    | .Raise (some (.Call (.Name y _) [.Constant (.str s) _ _] [] _)) none _ => decide (y = x) && decide (s = m) && gl sc x && !(x == ("__debug__" : Str))
    | _ => false
  | .raiE x e, st => match st with
    | .Raise (some (.Call (.Name y _) [a] [] _)) none _ => decide (y = x) && gl sc x && !(x == ("__debug__" : Str)) && notStar a && mX N sc fn e a
    | _ => false
  | .tryN b hs, st => match st with
    | .Try body (h0 :: hds) [] [] _ => mHs N sc kp hs (h0 :: hds) && mSs N sc fn kp b body
    | _ => false
  | .tryAs b x ie j, st => match st with
    | .Try body [.ExceptHandler (some (.Name y _)) (some n) [.Assign [.Name t _] (.Name n2 _) _] _] [] [] _ => decide (y = x) && gl sc x && !(x == ("__debug__" : Str)) && decide (N[ie]? = some n) && decide (sc.names.lookup n = some .local) && decide (n2 = n) &&
        okName n && decide (N[j]? = some t) && decide (sc.names.lookup t = some .local) && decide (ie ≠ j) && outK kp [ie, j] && mSs N sc fn kp b body
    | _ => false
  | .aug i o e, st => match st with
    | .AugAssign (.Name x _) o' v _ => decide (o' = o) && (decide (o = .Add) || decide (o = .Sub)) && decide (N[i]? = some x) && locB sc fn x && outK kp [i] && mX N sc fn e v
    | _ => false
  | .ifS t a b, st => match st with
    | .If c x y _ => mXT N sc fn t c && mSs N sc fn kp a x && mSs N sc fn kp b y
    | _ => false
  | .whl t b, st => match st with
    | .While c x [] _ => mXT N sc fn t c && mSs N sc fn kp b x
    | _ => false
  | .forS p k ss b, st => match st with
    | .For tg iter x [] _ => match srcOp sc k iter with
      | some es => mXs N sc fn ss es && notSet iter && mPat N sc fn p tg && (isTuple tg || !needT k) && outK kp (slotsP p) && mSs N sc fn kp b x
      | none => false
    | _ => false
  | .ret e, st => match st with
    | .Return (some v) _ => mX N sc fn e v
    | _ => false
  | .retN, st => match st with
    | .Return none _ => true
    | _ => false
  | .brk, st => match st with
    | .Break _ => true
    | _ => false
  | .pass, st => match st with
    | .Pass _ => true
    | .Expr (.Constant (.str _) _ _) _ => true
    | _ => false
  | .expr e, st => match st with
    | .Expr v _ => !isLc v && mX N sc fn e v
    | _ => false
  | .never, _ => true
def mSs (N : List Str) (sc : Scope) (fn : FnB) (kp : List Nat) : List Sx → List Stmt → Bool
  | [], st => st.isEmpty
  | c :: cs, st => match st with
    | s :: st => mS N sc fn kp c s && mSs N sc fn kp cs st
    | [] => false
end
theorem outK_ok {kp is : List Nat} (h : outK kp is = true) : ∀ i ∈ is, i ∉ kp := fun i hi => by
  unfold outK at h
  have := List.all_eq_true.mp h i hi
  simpa using this
section
variable {X : Cx} {P : Prg} {T : Xt} {k : Nat} {W : WX} {kp : List Nat}
theorem place_pe {G : Str → Option D} (C : CokG X G) {i : Nat} : ∀ (r : List Ex) (e : Expr), mPl X.N X.env.scope X.fn i r e = true → PE X e (tPl X.kw G i r)
  | [], e, h => by
    unfold mPl mE at h
    split at h
    · simp only [Bool.and_eq_true, decide_eq_true_eq] at h
      obtain ⟨n1, n2⟩ := okName_ok h.2
      exact pe_var h.1.1 (vis_ok h.1.2) n1 n2
    · cases h
  | k :: r, e, h => by
    unfold mPl at h
    split at h
    · simp only [Bool.and_eq_true] at h
      exact pe_ix ix_list (place_pe C r _ h.2) (pe_ok k C _ h.1.2) (plainIx h.1.1)
    · cases h
theorem asg_env {e : Expr} {env : Env} (h : notStar e = true) : (assignEach [e] env).map (·.2) = [assign e env] := by
  cases e <;> first | rfl | cases h
theorem ret_red {e : Ex} : ∀ N σ H, tS X.kw T P kp W (.ret e) N σ H → tRet (tX X.kw T P W e) N σ H := fun N σ H ⟨ρ, F, w, g⟩ => by
  simp only [evS] at g
  exact ⟨ρ, F, w, to_goal g fun d ρ1 v H1 F1 f1 _ s w1 r o g1 => g1 v σ H1 F1 f1 s w1 Kpt.refl r o⟩
theorem par_red {i j : Nat} {a b : Ex} (hp : ∀ x ∈ [i, j], x ∉ kp) (hij : i ≠ j) : ∀ N σ H, tS X.kw T P kp W (.par i j a b) N σ H → tPar i j (tL ([a, b].map (tOpd X.kw T P W))) N σ H := fun N σ H ⟨ρ, F, w, g⟩ => by
  simp only [evS] at g
  refine argsX [a, b] w (to_goalO g fun os ρ1 vs H1 F1 gp s1 w1 r1 o1 g1 => ?_)
  cases eds : getAll ρ1 os with
  | none => rw [eds] at g1; exact g1.elim
  | some ds =>
  rw [eds, optS_some] at g1
  split at g1
  rotate_left
  · exact g1.elim
  rename_i hc
  have rs := r1.reps w1 eds hc.1
  have out := r1.out
  split at g1
  rotate_left
  · exact g1.elim
  rename_i x y _
  cases rs with
  | cons ra rb n1 =>
    rename_i v1 vs1 f1 g1'
    cases rb with
    | cons rb rn n2 =>
      rename_i v2 vs2 f2 g2
      cases rn
      have w2 := w1.set (i := i) hc.2.1 ra fun c hcf q _ hb => out c (List.mem_append_left _ hcf) ⟨q, hb⟩
      have w3 := w2.set (i := j) (by rw [List.length_set]; exact hc.2.2) rb fun c hcf q hq hb => by
        by_cases e : q = i
        · subst e
          rw [setF_same] at hb
          exact n1 c hb (List.mem_append_left _ hcf)
        · rw [setF_ne e] at hb
          exact out c (List.mem_append_right _ (List.mem_append_left _ hcf)) ⟨q, hb⟩
      refine ⟨v1, v2, rfl, g1 _ H1 _ ⟨s1.frm, fun c hcf => ?_⟩ w3 ((Kpt.set (hp i List.mem_cons_self)).trans (Kpt.set (hp j (List.mem_cons_of_mem _ List.mem_cons_self))))⟩
      rcases inF_setF hcf with z | z
      · exact o1 c (List.mem_append_right _ (List.mem_append_left _ z))
      · rcases inF_setF z with y' | y'
        · exact o1 c (List.mem_append_left _ y')
        · exact s1.old c y'
/-- an item is stored -/
theorem sub_goal {i : Nat} {ks : List Ex} {kx : Ex} {F0 F : Fps} {H0 H : Hp} {ρ ρ2 : Rho} {σ : L2.St} {ds : List D} {is : List Int} {kd d : D} {v : V} {f : List Addr} {Q : L2.St → Hp → Prop} (s : Stp F0 H0 F H) (w : ER X.kw H ρ σ F) (r : Rep X.kw H d v f) (o : Own F0 H0 F f)
    (hds : evPs P.G ks ρ = some ds) (his : intsD ds = some is) (hkd : evP P.G kx ρ = some kd) (hm : mutX .set i is [d, kd] ρ = .nx ρ2) (q : ∀ H' F', Stp F0 H0 F' H' → ER X.kw H' ρ2 σ F' → Q σ H') :
    gSub (tPl X.kw P.G i ks.reverse) (tP X.kw P.G kx) rSetL v σ H Q := by
  simp only [mutX] at hm
  cases hsl : slotOf ρ i with
  | none => rw [hsl] at hm; cases hm
  | some dl =>
  rw [hsl, optS_some] at hm
  cases hlf : leafD is dl with
  | none => rw [hlf] at hm; cases hm
  | some xs =>
  rw [hlf, optS_some] at hm
  cases hrun : MOp.run .set xs [d, kd] with
  | none => rw [hrun] at hm; cases hm
  | some ys =>
  rw [hrun, optS_some] at hm
  cases hm
  obtain ⟨v0, a, us, gg, hv, hr, ha, rg, nag, nafd, ngf, up⟩ := mut_goal s w o hsl hlf
  refine place_red hv ks.reverse w.wr (by rw [List.reverse_reverse]; exact hds) his hr fun H2 s2 => ?_
  refine ⟨ρ, kd, w.wr.same s2, hkd, fun y H3 fy s3 ry _ => ?_⟩
  have s13 := s2.trans s3
  obtain ⟨v0', a', us', gg', hv', hr', ha', rg', nag', nafd', ngf', up'⟩ := mut_goal (s.trans (.same s13)) (w.same s13) o hsl hlf
  rw [hv] at hv'
  cases hv'
  have ea := (hr.same s13).inj hr'
  subst ea
  cases kd with
  | int kn =>
    simp only [MOp.run, Option.map_eq_some_iff] at hrun
    obtain ⟨j, hj, rfl⟩ := hrun
    have hjl := (ixN_seq hj).2.1
    obtain ⟨v1, g1', hv1, rx, sub, ex⟩ := rg'.exch (List.getElem?_eq_getElem hjl)
    have rd : Rep X.kw H3 d v f := r.same s13
    obtain ⟨f', r', cov⟩ := ex (U := fun c => c = a) (H' := upd H3 a (.lst (us'.set j v))) (x' := d) (v' := v) (g' := f) (fun c ob hc n => by rw [upd_ne n]; exact hc) (fun c hc => by subst hc; exact ⟨_, ha', id⟩)
      (fun c hc _ z => nag' (z ▸ hc)) (rd.frm (W := fun c => c = a) (fun c ob hc n => by rw [upd_ne n]; exact hc) (fun c hc => by subst hc; exact ⟨_, ha', id⟩) fun c hc z => nafd' (z ▸ hc)) fun c hc hg => absurd hc (ngf' c hg)
    obtain ⟨F', wF, sF⟩ := up' r' fun b hb => (cov b hb).imp (fun z => z.1) id
    exact ⟨a, us', kn, j, rfl, W1.int ⟨fy, ry⟩, ha', by rw [← rg'.length]; exact hj, q _ F' sF wF⟩
  | _ => simp only [MOp.run] at hrun; cases hrun
theorem mutX_or {o : MOp} {i : Nat} {is : List Int} {args : List D} {ρ : Rho} : (∃ ρ2, mutX o i is args ρ = .nx ρ2) ∨ mutX o i is args ρ = .bad := by
  unfold mutX
  cases slotOf ρ i with
  | none => exact .inr rfl
  | some d =>
    rw [optS_some]
    cases leafD is d with
    | none => exact .inr rfl
    | some xs =>
      rw [optS_some]
      cases o.run xs args with
      | none => exact .inr rfl
      | some ys => exact .inl ⟨_, rfl⟩
theorem mutX_nx {o : MOp} {i : Nat} {is : List Int} {args : List D} {ρ : Rho} {K : KW} {T : Xt} {kp : List Nat} {W : WX} {σ : L2.St} {F : Fps} {H : Hp} {N : Ends} (g : GoalS K T kp W σ F H (mutX o i is args ρ) N) : ∃ ρ2, mutX o i is args ρ = .nx ρ2 := by
  rcases mutX_or (o := o) (i := i) (is := is) (args := args) (ρ := ρ) with h | h
  · exact h
  · rw [h] at g; exact g.elim
theorem set_red {i : Nat} {ks : List Ex} {e kx : Ex} : ∀ N σ H, tS X.kw T P kp W (.mut .set i ks [e, kx]) N σ H → tAsg (tX X.kw T P W e) (gSub (tPl X.kw P.G i ks.reverse) (tP X.kw P.G kx) rSetL) N σ H := fun N σ H ⟨ρ, F, w, g⟩ => by
  simp only [evS] at g
  refine ⟨ρ, F, w, to_goal g fun d ρ1 v H1 F1 f1 _ s w1 r o g1 => ?_⟩
  cases his : (evPs P.G ks ρ1).bind intsD with
  | none => rw [his] at g1; exact g1.elim
  | some is =>
  rw [his, optS_some] at g1
  simp only [Option.bind_eq_some_iff] at his
  obtain ⟨ds, hds, his⟩ := his
  cases hkd : evP P.G kx ρ1 with
  | none => rw [hkd] at g1; exact g1.elim
  | some kd =>
  rw [hkd, optS_some] at g1
  obtain ⟨ρ2, e2⟩ := mutX_nx g1
  rw [e2] at g1
  exact sub_goal s w1 r o hds his hkd e2 fun H' F' s' w' => g1 σ H' F' s' w' Kpt.refl
theorem swp_red {i : Nat} {k l a b : Ex} : ∀ N σ H, tS X.kw T P kp W (.swp i k l a b) N σ H →
    tAsg (tX X.kw T P W (.node .tup [a, b])) (gTup X.kw 2 (gCons (gSub (tPl X.kw P.G i []) (tP X.kw P.G k) rSetL) (gCons (gSub (tPl X.kw P.G i []) (tP X.kw P.G l) rSetL) gNil))) N σ H := fun N σ H ⟨ρ, F, w, g⟩ => by
  simp only [evS] at g
  refine ⟨ρ, F, w, to_goal g fun d ρ1 v H1 F1 f1 _ s w1 r o g1 => ?_⟩
  split at g1
  rotate_left
  · exact g1.elim
  rename_i x y e0
  split at g1
  rotate_left
  · exact g1.elim
  rename_i im
  cases hk : evP P.G k ρ1 with
  | none => rw [hk] at g1; exact g1.elim
  | some kd =>
  rw [hk, optS_some] at g1
  cases r with
  | tup sq rs =>
    cases rs with
    | cons rx rs1 _ =>
      cases rs1 with
      | cons ry rs2 _ =>
        cases rs2
        have ex := rx.imm_nil im.1
        have ey := ry.imm_nil im.2
        subst ex
        subst ey
        refine ⟨_, _, rfl, sq, rfl, _, _, rfl, ?_⟩
        rcases mutX_or (o := .set) (i := i) (is := []) (args := [x, kd]) (ρ := ρ1) with ⟨ρ2, h2⟩ | h2
        · rw [h2, sth_nx] at g1
          refine sub_goal (ks := []) (F0 := F1) (H0 := H1) .refl w1 rx ⟨nilF, nilF⟩ (ds := []) (is := []) (by simp only [evPs]) rfl hk h2 fun H2 F2 s2 w2 => ?_
          cases hl : evP P.G l ρ2 with
          | none => rw [hl] at g1; exact g1.elim
          | some ld =>
            rw [hl, optS_some] at g1
            obtain ⟨ρ3, e3⟩ := mutX_nx g1
            rw [e3] at g1
            refine ⟨_, _, rfl, ?_⟩
            exact sub_goal (ks := []) (F0 := F) (H0 := H) (s.trans s2) w2 (ry.stp w1 s2 nilF) ⟨nilF, nilF⟩ (ds := []) (is := []) (by simp only [evPs]) rfl hl e3 fun H3 F3 s3 w3 => ⟨rfl, g1 σ H3 F3 s3 w3 Kpt.refl⟩
        · rw [h2] at g1
          exact g1.elim
theorem app_fin {K : KW} {T : Xt} {F F1 : Fps} {H H1 : Hp} {ρ : Rho} {σ : L2.St} {N : Ends} {i : Nat} {is : List Int} {d : D} {v : V} {f1 : List Addr} {W : WX} {kp : List Nat} (s : Stp F H F1 H1) (w1 : ER K H1 ρ σ F1) (r : Rep K H1 d v f1) (o : Own F H F1 f1)
    (g1 : GoalS K T kp W σ F H (mutX .app i is [d] ρ) N) : ∃ v0 a us, σ[i]? = some (some v0) ∧ Reach H1 v0 is a ∧ H1 a = some (.lst us) ∧ us.length < sizeLine ∧ N.nx σ (upd H1 a (.lst (us ++ [v]))) := by
  simp only [mutX] at g1
  cases hsl : slotOf ρ i with
  | none => rw [hsl] at g1; exact g1.elim
  | some dl =>
  rw [hsl, optS_some] at g1
  cases hlf : leafD is dl with
  | none => rw [hlf] at g1; exact g1.elim
  | some xs =>
  rw [hlf, optS_some] at g1
  simp only [MOp.run] at g1
  split at g1
  rotate_left
  · exact g1.elim
  rename_i hlim
  rw [optS_some] at g1
  obtain ⟨v0, a, us, gg, hv, hr, ha, rg, nag, nafd, ngf, up⟩ := mut_goal s w1 o hsl hlf
  have fr : Frm (fun c => c = a) H1 (upd H1 a (.lst (us ++ [v]))) := fun c ob hc n => by rw [upd_ne n]; exact hc
  have ow : OwnW (fun c => c = a) H1 := fun c hc => by subst hc; exact ⟨_, ha, id⟩
  have rr : Reps K (upd H1 a (.lst (us ++ [v]))) (xs ++ [d]) (us ++ [v]) (gg ++ f1) := by
    refine Reps.append ?_ (rg.frm fr ow fun c hc z => nag (z ▸ hc)) ngf
    have q := Reps.cons (r.frm fr ow fun c hc z => nafd (z ▸ hc)) (.nil (H := upd H1 a (.lst (us ++ [v])))) (fun a _ z => by cases z)
    rw [List.append_nil] at q
    exact q
  obtain ⟨F', wF, sF⟩ := up rr fun b hb => List.mem_append.mp hb
  exact ⟨v0, a, us, hv, hr, ha, by rw [lim_eq, ← rg.length]; exact hlim, g1 σ _ F' sF wF Kpt.refl⟩
theorem app0_red {i : Nat} {e : Ex} : ∀ N σ H, tS X.kw T P kp W (.mut .app i [] [e]) N σ H → tDrop (tBM X.kw "list" rAppend (tPl X.kw P.G i []) (tL [tX X.kw T P W e])) N σ H := fun N σ H ⟨ρ, F, w, g⟩ => by
  simp only [evS, evPs, Option.bind_some, intsD, optS_some, List.isEmpty_nil, if_true] at g
  cases h0 : (slotOf ρ i).bind (leafD []) with
  | none => rw [h0] at g; exact g.elim
  | some xs0 =>
  rw [h0, optS_some] at g
  simp only [Option.bind_eq_some_iff] at h0
  obtain ⟨d0, hd0, hl0⟩ := h0
  obtain ⟨v, hv, r0⟩ := w.at_ i d0 (slotOf_some hd0)
  obtain ⟨a0, us0, g0, hr0, ha0, _⟩ := r0.leaf [] hl0
  have hr0 : v = .ref a0 := hr0
  subst hr0
  refine ⟨_, hv, .inl ⟨rfl, us0, .inl (.inl ha0)⟩, ρ, F, w, to_goal g fun d ρ1 u H1 F1 f1 _ s w1 r o g1 => ?_⟩
  obtain ⟨v0, a, us, hv0, hr, ha, hlim, nx⟩ := app_fin s w1 r o g1
  rw [hv] at hv0
  cases hv0
  have hr : V.ref a0 = .ref a := hr
  cases hr
  exact ⟨a0, us, u, rfl, rfl, ha, hlim, nx⟩
theorem _root_.VL.ER.gone {K : KW} {H : Hp} {ρ : Rho} {σ : L2.St} {F : Fps} (w : ER K H ρ σ F) (i : Nat) : ER K H (ρ.set i none) (σ.set i none) (setF F i []) := by
  have d := w.drop i
  refine ⟨by rw [List.length_set, List.length_set]; exact w.len, fun j x e => ?_, d.no, d.dj⟩
  obtain ⟨v, hv, r⟩ := d.at_ j x e
  refine ⟨v, ?_, r⟩
  by_cases h : i = j
  · subst h
    by_cases hl : i < ρ.length
    · rw [List.getElem?_set_self hl] at e; cases e
    · rw [List.getElem?_eq_none (by simpa using hl)] at e; cases e
  · rw [List.getElem?_set_ne h]; exact hv
theorem never_of {c : Sx} {st : Stmt} (h : ∀ ρ, evS P c ρ = .bad) : PS X st (tS X.kw T P kp W c) := psWeak ps_never fun N σ H ⟨ρ, F, w, g⟩ => by
  rw [h ρ] at g
  exact g.elim
theorem ext0_red {i : Nat} {e : Ex} : ∀ N σ H, tS X.kw T P kp W (.mut .ext i [] [e]) N σ H → tDrop (tBM X.kw "list" rExtend (tPl X.kw P.G i []) (tL [tX X.kw T P W e])) N σ H := fun N σ H ⟨ρ, F, w, g⟩ => by
  simp only [evS] at g
  cases h0 : (slotOf ρ i).bind (leafD []) with
  | none => rw [h0] at g; exact g.elim
  | some xs0 =>
  rw [h0, optS_some] at g
  simp only [Option.bind_eq_some_iff] at h0
  obtain ⟨d0, hd0, hl0⟩ := h0
  obtain ⟨v, hv, r0⟩ := w.at_ i d0 (slotOf_some hd0)
  obtain ⟨a0, us0, g0, hr0, ha0, _⟩ := r0.leaf [] hl0
  have hr0 : v = .ref a0 := hr0
  subst hr0
  refine ⟨_, hv, .inl ⟨rfl, us0, .inl (.inl ha0)⟩, ρ, F, w, to_goal g fun d ρ1 u H1 F1 f1 _ s w1 r o g1 => ?_⟩
  rw [if_pos (show ([] : List Ex).isEmpty = true from rfl)] at g1
  simp only [mutX] at g1
  cases hsl : slotOf ρ1 i with
  | none => rw [hsl] at g1; exact g1.elim
  | some dl =>
  rw [hsl, optS_some] at g1
  cases hlf : leafD [] dl with
  | none => rw [hlf] at g1; exact g1.elim
  | some xs =>
  rw [hlf, optS_some] at g1
  cases hrun : MOp.run .ext xs [d] with
  | none => rw [hrun] at g1; exact g1.elim
  | some zs =>
  rw [hrun, optS_some] at g1
  cases d with
  | lst oo ys =>
    cases oo with
    | false => simp only [MOp.run] at hrun; cases hrun
    | true =>
    simp only [MOp.run] at hrun
    split at hrun
    rotate_left
    · cases hrun
    rename_i hlim
    cases hrun
    obtain ⟨v0, a, us, gg, hv0, hr, ha, rg, nag, nafd, ngf, up⟩ := mut_goal s w1 o hsl hlf
    rw [hv] at hv0
    cases hv0
    have hr : V.ref a0 = .ref a := hr
    cases hr
    cases r with
    | own hb rs nb =>
      rename_i b ws f0
      have e0 := rs.imm_nil hlim.1
      subst e0
      have fr : Frm (fun c => c = a0) H1 (upd H1 a0 (.lst (us ++ ws))) := fun c ob hc n => by rw [upd_ne n]; exact hc
      have ow : OwnW (fun c => c = a0) H1 := fun c hc => by subst hc; exact ⟨_, ha, id⟩
      have rr : Reps X.kw (upd H1 a0 (.lst (us ++ ws))) (xs ++ ys) (us ++ ws) (gg ++ []) :=
        Reps.append (rs.frm fr ow nilF) (rg.frm fr ow fun c hc z => nag (z ▸ hc)) fun c _ q => by cases q
      obtain ⟨F', wF, sF⟩ := up rr fun c hc => .inl (by simpa using hc)
      refine ⟨a0, b, us, ws, rfl, rfl, ha, hb, ?_, g1 σ _ F' sF wF Kpt.refl⟩
      rw [← rg.length, ← rs.length, lim_eq]
      exact hlim.2
  | _ => simp only [MOp.run] at hrun; cases hrun
theorem appP_red {i : Nat} {ks : List Ex} {e : Ex} (hk : ks.isEmpty = false) : ∀ N σ H, tS X.kw T P kp W (.mut .app i ks [e]) N σ H → tDrop (tBM X.kw "list" rAppend (tPl X.kw P.G i ks.reverse) (tL [tP X.kw P.G e])) N σ H := fun N σ H ⟨ρ, F, w, g⟩ => by
  simp only [evS, hk] at g
  rw [if_neg Bool.false_ne_true] at g
  cases his : (evPs P.G ks ρ).bind intsD with
  | none => rw [his] at g; exact g.elim
  | some is =>
  rw [his, optS_some] at g
  simp only [Option.bind_eq_some_iff] at his
  obtain ⟨ds, hds, his⟩ := his
  cases h0 : (slotOf ρ i).bind (leafD is) with
  | none => rw [h0] at g; exact g.elim
  | some xs0 =>
  rw [h0, optS_some] at g
  simp only [Option.bind_eq_some_iff] at h0
  obtain ⟨d0, hd0, hl0⟩ := h0
  obtain ⟨v, hv, r0⟩ := w.at_ i d0 (slotOf_some hd0)
  obtain ⟨a0, us0, g0, hr0, ha0, _⟩ := r0.leaf is hl0
  refine place_red hv ks.reverse w.wr (by rw [List.reverse_reverse]; exact hds) his hr0 fun H1 s1 => ⟨.inl ⟨rfl, us0, .inl (.inl (s1 _ _ ha0))⟩, ?_⟩
  unfold pureX at g
  cases ee : evP P.G e ρ with
  | none => rw [ee] at g; exact g.elim
  | some d =>
  rw [ee, optX_some] at g
  split at g
  rotate_left
  · exact g.elim
  rename_i himm
  rw [to_ok] at g
  refine ⟨ρ, d, w.wr.same s1, ee, fun u H2 f s2 r n => ?_⟩
  have s12 := s1.trans s2
  have o : Own F H F f := by
    simp only [Bool.or_eq_true] at himm
    rcases himm with h | h
    · rw [r.imm_nil h]
      exact ⟨nilF, nilF⟩
    · have fresh : ∀ a ∈ f, H a = none := fun a ha => Same.free s1 (n h a ha)
      exact ⟨fun a ha q => w.there q (fresh a ha), fun a ha => .inr (fresh a ha)⟩
  obtain ⟨v0, a, us, hv0, hr, ha, hlim, nx⟩ := app_fin (.same s12) (w.same s12) r o g
  rw [hv] at hv0
  cases hv0
  have ea := (hr0.same s12).inj hr
  subst ea
  exact ⟨a0, us, u, rfl, rfl, ha, hlim, nx⟩
theorem aug_red {i : Nat} {oo : Operator} {e : Ex} {f : Int → Int → Int} (hf : ∀ x y z, augX oo x y = some z → ∃ a b, x = .int a ∧ y = .int b ∧ z = .int (f a b)) (hp : ∀ x ∈ [i], x ∉ kp) :
    ∀ N σ H, tS X.kw T P kp W (.aug i oo e) N σ H → tAug i (tX X.kw T P W e) (ipI f) N σ H := fun N σ H ⟨ρ, F, w, g⟩ => by
  simp only [evS] at g
  cases hx : slotOf ρ i with
  | none => rw [hx] at g; exact g.elim
  | some x =>
  rw [hx, optS_some] at g
  obtain ⟨v, hv, r0⟩ := w.at_ i x (slotOf_some hx)
  refine ⟨v, hv, ρ, F, w, to_goal g fun y ρ1 u H1 F1 f1 _ s w1 r o g1 => ?_⟩
  cases hz : augX oo x y with
  | none => rw [hz] at g1; exact g1.elim
  | some z =>
  rw [hz, optS_some] at g1
  obtain ⟨a, b, rfl, rfl, rfl⟩ := hf _ _ _ hz
  refine ⟨a, b, W1.int ⟨_, r0⟩, W1.int ⟨_, r⟩, ?_⟩
  have hi : i < ρ1.length := by
    rcases Nat.lt_or_ge i ρ1.length with q | q
    · exact q
    · rw [w1.len] at q
      rw [List.getElem?_eq_none q] at hv; cases hv
  have w2 := w1.set (i := i) hi (.int (f a b)) nilF
  refine g1 _ H1 _ ⟨s.frm, fun c hc => ?_⟩ w2 (Kpt.set (hp i List.mem_cons_self))
  rcases inF_setF hc with q | q
  · cases q
  · exact s.old c q
theorem if_red {t : Ex} {a b : List Sx} : ∀ N σ H, tS X.kw T P kp W (.ifS t a b) N σ H → tIfS (tXT X.kw T P W t) (tSs X.kw T P kp W a) (tSs X.kw T P kp W b) N σ H := fun N σ H ⟨ρ, F, w, g⟩ => by
  simp only [evS] at g
  exact ⟨ρ, F, w, to_goalT g (fun ρ1 F1 H1 s1 w1 g1 => ⟨ρ1, F1, w1, g1⟩) fun ρ1 F1 H1 s1 w1 g1 => ⟨ρ1, F1, w1, g1⟩⟩
theorem whl_red {t : Ex} {b : List Sx} : ∀ N σ H, tS X.kw T P kp W (.whl t b) N σ H → tWhile (tXT X.kw T P W t) (tSs X.kw T P kp W b) N σ H := fun N σ H ⟨ρ, F, w, g⟩ => by
  simp only [evS] at g
  obtain ⟨n, en⟩ := loopW_ex (t := evX P t) (b := evSs P b) (ρ := ρ)
  rw [en] at g
  refine ⟨fun m σ1 H1 => ∃ ρ1 F1, ER X.kw H1 ρ1 σ1 F1 ∧ GoalS X.kw T kp W σ1 F1 H1 (loopN (evX P t) (evSs P b) m ρ1) N, ⟨n, ρ, F, w, g⟩, ?_⟩
  rintro m σ1 H1 ⟨ρ1, F1, w1, g1⟩
  cases m with
  | zero => exact g1.elim
  | succ m =>
    unfold loopN at g1
    refine ⟨ρ1, F1, w1, to_goalT (A := fun ρ' => match evSs P b ρ' with
      | .nx ρ'' => loopN (evX P t) (evSs P b) m ρ''
      | .bk ρ'' => .nx ρ''
      | r => r) (B := .nx) g1 (fun ρ2 F2 H2 s2 w2 g2 => ?_) fun ρ2 F2 H2 s2 w2 g2 => g2 σ1 H2 F2 .refl w2 Kpt.refl⟩
    refine ⟨fun σ' H' => ∃ ρ1 F1, ER X.kw H' ρ1 σ' F1 ∧ GoalS X.kw T kp W σ' F1 H' (loopN (evX P t) (evSs P b) m ρ1) N, fun σ' H' z => ⟨m, Nat.lt_succ_self m, z⟩, ρ2, F2, w2, ?_⟩
    cases eb : evSs P b ρ2 with
    | nx ρ3 =>
      simp only [eb] at g2
      exact fun σ3 H3 F3 s3 w3 k3 => ⟨ρ3, F3, w3, g2.from s3 k3⟩
    | bk ρ3 => simp only [eb] at g2; exact g2
    | rt d ρ3 => simp only [eb] at g2; exact g2
    | ex x ρ3 => simp only [eb] at g2; exact g2
    | bad => simp only [eb] at g2; exact g2
theorem for_red {p : Pat} {kk : SrcK} {ss : List Ex} {b : List Sx} (hp : ∀ i ∈ slotsP p, i ∉ kp) : ∀ N σ H, tS X.kw T P kp W (.forS p kk ss b) N σ H → tFor (iSrc X.kw kk (ss.map (tOpd X.kw T P W))) (gP X.kw p) (tSs X.kw T P kp W b) N σ H := fun N σ H ⟨ρ, F, w, g⟩ => by
  simp only [evS] at g
  refine argsX ss w (to_goalO g fun os ρ0 us H1 F1 gp s1 w1 r1 o1 g1 => ?_)
  cases eds : getAll ρ0 os with
  | none => rw [eds] at g1; exact g1.elim
  | some ds =>
  rw [eds, optS_some] at g1
  split at g1
  rotate_left
  · exact g1.elim
  rename_i hln
  cases eit : srcItems kk ds with
  | none => rw [eit] at g1; exact g1.elim
  | some items =>
  rw [eit, optS_some] at g1
  split at g1
  rotate_left
  · exact g1.elim
  rename_i him
  have rs1 := r1.reps w1 eds hln
  obtain ⟨J, wk, wd⟩ := src_ok rs1.wl eit
  refine ⟨J, wk, ?_⟩
  generalize est : (fun d ρ1 => optS (bindP p d ρ1) (evSs P b)) = step at g1
  have hstep : ∀ d ρ1, step d ρ1 = optS (bindP p d ρ1) (evSs P b) := fun d ρ1 => by rw [← est]
  have wlAt : ∀ {Hc : Hp} {Fc : Fps}, Stp F1 H1 Fc Hc → WL X.kw Hc ds us ∧ KpS H1 Hc := fun s => ⟨(rs1.stp w1 s r1.out).wl, _, s.frm, w1.own⟩
  refine ⟨fun i m σc Hc => m = items.length - i ∧ i ≤ items.length ∧ ∃ ρc Fc, ER X.kw Hc ρc σc Fc ∧ Stp F1 H1 Fc Hc ∧ GoalS X.kw T kp W σc Fc Hc (forX step (items.drop i) ρc) N,
    ⟨_, rfl, Nat.zero_le _, ρ0, F1, w1, .refl, by rw [List.drop_zero]; exact g1.from s1 Kpt.refl⟩, ?_⟩
  rintro i m σc Hc ⟨rfl, hi, ρc, Fc, wc, sc, gc⟩
  by_cases hlt : i < items.length
  · have hd : items[i]? = some items[i] := List.getElem?_eq_getElem hlt
    rw [List.drop_eq_getElem_cons hlt] at gc
    refine .inr ⟨wd.go i Hc (wlAt sc) hlt, fun σ' H' => ∃ ρc Fc, ER X.kw H' ρc σ' Fc ∧ Stp F1 H1 Fc H' ∧ GoalS X.kw T kp W σ' Fc H' (forX step (items.drop (i + 1)) ρc) N, fun σ' H' z => ⟨items.length - (i + 1), by omega, rfl, hlt, z⟩, fun x H2 hy => ?_⟩
    obtain ⟨sm2, f0, r0⟩ := wd.yld i Hc x H2 (wlAt sc) hy _ hd
    have im0 : (items[i]).imm = true := immL_of him (List.getElem_mem hlt)
    have r0 : Rep X.kw H2 items[i] x [] := by have q := r0.imm_nil im0; rw [q] at r0; exact r0
    have wc2 := wc.same sm2
    unfold forX at gc
    rw [hstep] at gc
    cases eb : bindP p items[i] ρc with
    | none => rw [eb] at gc; exact gc.elim
    | some ρ2 =>
    rw [eb, optS_some] at gc
    obtain ⟨σ2, F2, bv, w2, c2⟩ := bindP_er p wc2 r0 nilF eb
    have s2 : Stp Fc Hc F2 H2 := ⟨same_frm sm2, fun a h => (c2 a h).elim .inl fun z => by cases z⟩
    refine ⟨σ2, bv, ρ2, F2, w2, ?_⟩
    have gc2 := gc.from s2 (bv.kpt hp)
    cases ebd : evSs P b ρ2 with
    | nx ρ3 =>
      simp only [ebd] at gc2
      exact fun σ3 H3 F3 s3 w3 k3 => ⟨ρ3, F3, w3, (sc.trans s2).trans s3, gc2.from s3 k3⟩
    | bk ρ3 => simp only [ebd] at gc2; exact gc2
    | rt d ρ3 => simp only [ebd] at gc2; exact gc2
    | ex x ρ3 => simp only [ebd] at gc2; exact gc2
    | bad => simp only [ebd] at gc2; exact gc2
  · have e : i = items.length := by omega
    subst e
    refine .inl ⟨wd.stop Hc (wlAt sc), ?_⟩
    rw [List.drop_length] at gc
    exact gc σc Hc Fc .refl wc Kpt.refl
theorem augA : ∀ x y z, augX .Add x y = some z → ∃ a b, x = .int a ∧ y = .int b ∧ z = .int (a + b) := fun x y z h => by
  cases x <;> cases y <;> simp only [augX] at h <;> first
    | (cases h; exact ⟨_, _, rfl, rfl, rfl⟩)
    | cases h
theorem augS : ∀ x y z, augX .Sub x y = some z → ∃ a b, x = .int a ∧ y = .int b ∧ z = .int (a - b) := fun x y z h => by
  cases x <;> cases y <;> simp only [augX] at h <;> first
    | (cases h; exact ⟨_, _, rfl, rfl, rfl⟩)
    | cases h
theorem hds_ok {X : Cx} {W : WX} (C : CokS X P T k W) : ∀ (hs : List (Str × Nat)) (hds : List ExceptHandler), mHs X.N X.env.scope kp hs hds = true → allCl P hs = true → ∃ l, HdsOk X hds l ∧
    ∀ (N : Ends) (σ0 σ : L2.St) (F0 F : Fps) (H0 H : Hp) (ρ : Rho) (xn : Xn) (cls : Value) (dx : Option Addr), Stp F0 H0 F H → ER X.kw H ρ σ F → Kpt kp σ0 σ → XRep X.kw T H xn cls dx → GoalS X.kw T kp W σ0 F0 H0 (hdsN P hs xn ρ) N → wMany X.kw W N l cls dx σ H
  | [], hds, h, _ => by
    unfold mHs at h
    cases hds with
    | nil => exact ⟨[], .nil, fun N σ0 σ F0 F H0 H ρ xn cls dx _ _ _ _ g => g.elim⟩
    | cons _ _ => cases h
  | (x, j) :: hs, hds, h, ho => by
    unfold mHs at h
    split at h
    rotate_left
    · cases h
    rename_i y yp t tp ck cp ap hp r
    simp only [Bool.and_eq_true, decide_eq_true_eq, Bool.not_eq_true'] at h
    obtain ⟨⟨⟨⟨⟨⟨rfl, hg⟩, hdb⟩, hj⟩, hlt⟩, hk⟩, hr⟩ := h
    unfold allCl at ho
    split at ho
    rotate_left
    · cases ho
    rename_i c mk yes no hG
    obtain ⟨v, u, hm, rv, rp⟩ := C.glob _ _ hG
    cases rp (fun _ => none) with
    | cls ci =>
      cases rv
      obtain ⟨l, hl, hw⟩ := hds_ok C hs r hr ho
      refine ⟨_, .cons (c := .ref _) (ts := fun a cls d => tAsg (tP X.kw P.G (.lit .non)) (gName j)) ⟨show X.env.scope.names.lookup y = some .globalImplicit from of_decide_eq_true hg, hdb, .inl hm⟩ (fun a oe cls d pn _ _ => pss_one (ps_asg (X := X.suite a ((a, oe) :: pn)) (lit_pe rfl rfl) (pg_name C.nd hj (.inl hlt) (.inr hlt)) (by rfl) st_name rfl)) hl, ?_⟩
      intro N σ0 σ F0 F H0 H ρ xn cls dx s' w' k' xr g
      unfold hdsN at g
      rw [hG] at g
      simp only at g
      obtain ⟨C', xi, rfl, hfn⟩ := xr.cls
      by_cases hy : yes.contains xn.cls = true
      · rw [if_pos hy] at g
        obtain ⟨E, e1, e2, e3⟩ := ci.y xn.cls (by simpa using hy)
        rw [xi.gc] at e1
        cases e1
        refine ⟨true, e3, fun _ a na => ⟨ρ, .non, w'.wr, rfl, fun v H1 f sm r1 _ => ?_⟩, fun z => by cases z⟩
        cases r1
        split at g
        rotate_left
        · exact g.elim
        rename_i hjl
        have w2 := (w'.same sm).set (i := j) hjl .non nilF
        refine g _ _ _ ((s'.trans (.same sm)).sub fun c hc => ?_) w2 (k'.trans (Kpt.set (outK_ok hk j (by simp))))
        rcases inF_setF hc with z | z
        · cases z
        · exact z
      · rw [if_neg hy] at g
        by_cases hn : no.contains xn.cls = true
        · rw [if_pos hn] at g
          obtain ⟨E, e1, e2, e3⟩ := ci.n xn.cls (by simpa using hn)
          rw [xi.gc] at e1
          cases e1
          exact ⟨false, e3, (fun z => by cases z), fun _ => hw N σ0 σ F0 F H0 H ρ xn (.ref C') dx s' w' k' xr g⟩
        · rw [if_neg hn] at g
          exact g.elim
theorem Reps.erase {K : KW} {H : Hp} : ∀ {xs : List D} {vs : List V} {f : List Addr} (j : Nat), Reps K H xs vs f → ∃ f', Reps K H (xs.eraseIdx j) (vs.eraseIdx j) f' ∧ ∀ a ∈ f', a ∈ f
  | _, _, _, j, .nil => ⟨[], by simpa using Reps.nil, nilF⟩
  | _, _, _, 0, .cons (g := g) r rs n => ⟨g, by simpa using rs, fun a h => List.mem_append_right _ h⟩
  | _, _, _, j + 1, .cons (f := f0) (g := g) r rs n => by
    obtain ⟨f', r', sub⟩ := Reps.erase j rs
    exact ⟨f0 ++ f', by simpa using Reps.cons r r' (fun a h q => n a h (sub a q)), fun a h => (List.mem_append.mp h).elim (List.mem_append_left _) fun z => List.mem_append_right _ (sub a z)⟩
theorem Reps.cut2 {K : KW} {H : Hp} : ∀ (j : Nat) {xs : List D} {vs : List V} {f : List Addr}, Reps K H xs vs f → ∃ f1 f2, Reps K H (xs.take j) (vs.take j) f1 ∧ Reps K H (xs.drop j) (vs.drop j) f2 ∧ f = f1 ++ f2 ∧ ∀ a ∈ f1, a ∉ f2
  | 0, _, _, f, r => ⟨[], f, .nil, by simpa using r, rfl, nilF⟩
  | j + 1, _, _, _, .nil => ⟨[], [], .nil, by simpa using Reps.nil, rfl, nilF⟩
  | j + 1, _, _, _, .cons (f := f0) (g := g) r rs n => by
    obtain ⟨f1, f2, r1, r2, e, d⟩ := Reps.cut2 j rs
    subst e
    refine ⟨f0 ++ f1, f2, by simpa using Reps.cons r r1 (fun a h q => n a h (List.mem_append_left _ q)), by simpa using r2, by rw [List.append_assoc], fun a h q => ?_⟩
    rcases List.mem_append.mp h with z | z
    · exact n a z (List.mem_append_right _ q)
    · exact d a z q
theorem leaf0 {K : KW} {H : Hp} {ρ : Rho} {σ : L2.St} {F : Fps} {i : Nat} {xs : List D} (w : ER K H ρ σ F) (h : (slotOf ρ i).bind (leafD []) = some xs) : ∃ d a us, slotOf ρ i = some d ∧ leafD [] d = some xs ∧ σ[i]? = some (some (.ref a)) ∧ H a = some (.lst us) := by
  simp only [Option.bind_eq_some_iff] at h
  obtain ⟨d0, hd0, hl0⟩ := h
  obtain ⟨v, hv, r0⟩ := w.at_ i d0 (slotOf_some hd0)
  obtain ⟨a0, us0, g0, hr0, ha0, _⟩ := r0.leaf [] hl0
  have hr0 : v = .ref a0 := hr0
  subst hr0
  exact ⟨d0, a0, us0, hd0, hl0, hv, ha0⟩
theorem same_stp {F : Fps} {H H' : Hp} (s : Same H H') : Stp F H F H' := .same s
theorem ins_red {i : Nat} {k e : Ex} : ∀ N σ H, tS X.kw T P kp W (.mut .ins i [] [k, e]) N σ H → tDrop (tBM X.kw "list" (fun x vs H Q => ∃ (l : Addr) (xs : List V) (i : Int) (y : V), x = .ref l ∧ vs = [.int i, y] ∧ H l = some (.lst xs) ∧ xs.length < sizeLine ∧ 0 ≤ i ∧ i < 2 ^ 63 ∧ Q .non (upd H l (.lst (xs.take i.toNat ++ [y] ++ xs.drop i.toNat)))) (tPl X.kw P.G i []) (tL [tP X.kw P.G k, tP X.kw P.G e])) N σ H := fun N σ H ⟨ρ, F, w, g⟩ => by
  simp only [evS] at g
  cases h0 : (slotOf ρ i).bind (leafD []) with
  | none => rw [h0] at g; exact g.elim
  | some xs0 =>
  rw [h0, optS_some] at g
  obtain ⟨d0, a0, us0, hd0, hl0, hv, ha0⟩ := leaf0 w h0
  cases hk : evP P.G k ρ with
  | none => rw [hk] at g; exact g.elim
  | some kd =>
  rw [hk, optS_some] at g
  cases he : evP P.G e ρ with
  | none => rw [he] at g; exact g.elim
  | some d =>
  rw [he, optS_some] at g
  split at g
  rotate_left
  · exact g.elim
  rename_i hc
  refine ⟨_, hv, .inl ⟨rfl, us0, .inl (.inl ha0)⟩, ρ, kd, w.wr, hk, fun kv H1 f1 s1 r1 _ => ⟨ρ, d, w.wr.same s1, he, fun u H2 f2 s2 r2 _ => ?_⟩⟩
  have s12 := s1.trans s2
  have e2 := r2.imm_nil hc.2
  subst e2
  simp only [mutX, hd0, hl0, optS_some] at g
  cases kd with
  | int ki =>
    cases r1
    simp only [MOp.run] at g
    split at g
    rotate_left
    · exact g.elim
    rename_i hl
    rw [optS_some] at g
    obtain ⟨v1, a, us, gg, hv1, hr, ha, rg, nag, nafd, ngf, up⟩ := mut_goal (F := F) (H := H) (fd := []) (.same s12) (w.same s12) ⟨nilF, nilF⟩ hd0 hl0
    rw [hv] at hv1
    cases hv1
    have hr : V.ref a0 = .ref a := hr
    cases hr
    obtain ⟨f1, f2, r3, r4, ef, dj⟩ := rg.cut2 ki.toNat
    have fr : Frm (fun c => c = a0) H2 (upd H2 a0 (.lst (us.take ki.toNat ++ [u] ++ us.drop ki.toNat))) := fun c ob hc n => by rw [upd_ne n]; exact hc
    have ow : OwnW (fun c => c = a0) H2 := fun c hc => by subst hc; exact ⟨_, ha, id⟩
    have n1 : ∀ c ∈ f1, ¬ c = a0 := fun c hc z => nag (by rw [ef, ← z]; exact List.mem_append_left _ hc)
    have n2 : ∀ c ∈ f2, ¬ c = a0 := fun c hc z => nag (by rw [ef, ← z]; exact List.mem_append_right _ hc)
    have one : Reps X.kw (upd H2 a0 (.lst (us.take ki.toNat ++ [u] ++ us.drop ki.toNat))) [d] [u] ([] ++ []) := .cons (r2.frm fr ow nilF) .nil nilF
    have rr := Reps.append (r4.frm fr ow n2) (Reps.append one (r3.frm fr ow n1) fun c _ z => by cases z) fun c hc q => by
      rcases List.mem_append.mp hc with z | z
      · exact dj c z q
      · cases z
    obtain ⟨F', wF, sF⟩ := up rr fun b hb => .inl (by
      rw [ef]
      rcases List.mem_append.mp hb with z | z
      · rcases List.mem_append.mp z with y | y
        · exact List.mem_append_left _ y
        · cases y
      · exact List.mem_append_right _ z)
    exact ⟨a0, us, ki, u, rfl, rfl, ha, by rw [lim_eq, ← rg.length]; exact hl.1, hl.2.1, by have := hl.2.2; omega, g σ _ F' sF wF Kpt.refl⟩
  | _ => simp only [MOp.run] at g; exact g.elim
theorem pop_red {i : Nat} {k : Ex} : ∀ N σ H, tS X.kw T P kp W (.mut .pop i [] [k]) N σ H → tDrop (tBM X.kw "list" rPopAt (tPl X.kw P.G i []) (tL [tP X.kw P.G k])) N σ H := fun N σ H ⟨ρ, F, w, g⟩ => by
  simp only [evS] at g
  cases h0 : (slotOf ρ i).bind (leafD []) with
  | none => rw [h0] at g; exact g.elim
  | some xs0 =>
  rw [h0, optS_some] at g
  obtain ⟨d0, a0, us0, hd0, hl0, hv, ha0⟩ := leaf0 w h0
  cases hk : evP P.G k ρ with
  | none => rw [hk] at g; exact g.elim
  | some kd =>
  rw [hk, optS_some, if_pos (show ([] : List Ex).isEmpty = true from rfl)] at g
  refine ⟨_, hv, .inl ⟨rfl, us0, .inl (.inl ha0)⟩, ρ, kd, w.wr, hk, fun kv H2 f1 s1 r1 _ => ?_⟩
  simp only [mutX, hd0, hl0, optS_some] at g
  cases kd with
  | int ki =>
    cases r1
    simp only [MOp.run] at g
    split at g
    rotate_left
    · exact g.elim
    rename_i hlen
    cases hj : ixN xs0.length ki with
    | none => rw [hj] at g; exact g.elim
    | some j =>
    rw [hj, Option.map_some, optS_some] at g
    obtain ⟨v1, a, us, gg, hv1, hr, ha, rg, nag, nafd, ngf, up⟩ := mut_goal (F := F) (H := H) (fd := []) (.same s1) (w.same s1) ⟨nilF, nilF⟩ hd0 hl0
    rw [hv] at hv1
    cases hv1
    have hr : V.ref a0 = .ref a := hr
    cases hr
    have fr : Frm (fun c => c = a0) H2 (upd H2 a0 (.lst (us.eraseIdx j))) := fun c ob hc n => by rw [upd_ne n]; exact hc
    have ow : OwnW (fun c => c = a0) H2 := fun c hc => by subst hc; exact ⟨_, ha, id⟩
    obtain ⟨f', rr, sub⟩ := (rg.frm fr ow fun c hc z => nag (z ▸ hc)).erase j
    obtain ⟨F', wF, sF⟩ := up rr fun b hb => .inl (sub b hb)
    obtain ⟨h1, h2, h3, h4⟩ := ixN_seq hj
    have hul : us.length = xs0.length := rg.length.symm
    have l3 : (LIM : Nat) = 16777216 := rfl
    exact ⟨a0, us, ki, j, us[j]'(by omega), rfl, rfl, ha, by omega, by omega, by rw [hul]; exact h1, List.getElem?_eq_getElem (by omega), g σ _ F' sF wF Kpt.refl⟩
  | _ => simp only [MOp.run] at g; exact g.elim
theorem dst_red {i : Nat} {e k : Ex} : ∀ N σ H, tS X.kw T P kp W (.dst i e k) N σ H → tAsg (tX X.kw T P W e) (gSub (tPl X.kw P.G i []) (tP X.kw P.G k) (rSetD X.kw)) N σ H := fun N σ H ⟨ρ, F, w, g⟩ => by
  simp only [evS] at g
  refine ⟨ρ, F, w, to_goal g fun d ρ1 v H1 F1 f1 _ s w1 r o g1 => ?_⟩
  cases hk : evP P.G k ρ1 with
  | none => rw [hk] at g1; exact g1.elim
  | some kd =>
  rw [hk, optS_some] at g1
  split at g1
  rotate_left
  · exact g1.elim
  rename_i ks vs hsl
  split at g1
  rotate_left
  · exact g1.elim
  rename_i hc
  obtain ⟨nk, hnk⟩ := Option.isSome_iff_exists.mp hc.1
  obtain ⟨v0, hv0, r0⟩ := w1.at_ i _ (slotOf_some hsl)
  have hi : i < ρ1.length := by
    rcases Nat.lt_or_ge i ρ1.length with z | z
    · exact z
    · have q := slotOf_some hsl
      rw [List.getElem?_eq_none z] at q; cases q
  cases hF : F1 i with
  | nil => rw [hF] at r0; cases r0
  | cons a0 fr0 =>
  rw [hF] at r0
  cases r0 with
  | @dicO _ kvs _ _ f ha kr rk rv na =>
    refine ⟨_, hv0, ρ1, kd, w1.wr, hk, fun y H2 fy s2 ry _ => ?_⟩
    have ha2 := s2 _ _ ha
    have wk2 : W1 X.kw H2 kd y := ⟨fy, ry⟩
    obtain ⟨h1, h2, xs, rfl⟩ := keyT_of hnk
    obtain ⟨b, vsx, rfl, _, _⟩ := wk2.tup
    refine ⟨a0, kvs, ks, _, nk, b, rfl, ha2, kr, (rk.same s2).wl, wk2, hnk, rfl, by rw [lim_eq, ← kr.len]; exact hc.2, ?_⟩
    have fr : Frm (fun c => c = a0) H2 (upd H2 a0 (DkO X.kw a0 (stR kvs nk b v))) := fun c ob hc n => by rw [upd_ne n]; exact hc
    have ow : OwnW (fun c => c = a0) H2 := fun c hc => by subst hc; exact ⟨_, ha2, dk_free⟩
    have nfd : ∀ c ∈ f1, c ∉ F1 i := fun c hc q => o.out c hc ⟨i, q⟩
    have nad : ∀ c ∈ f1, ¬ c = a0 := fun c hc z => nfd c hc (by rw [hF, z]; exact List.mem_cons_self)
    have rk2 := ((rk.same s2).frm fr ow fun _ z => nomatch z).wl
    have rv2 := (rv.same s2).frm fr ow fun c hc z => na (z ▸ hc)
    have rd2 := (r.same s2).frm fr ow nad
    have imk := keyImm h1
    have wkk : W1 X.kw (upd H2 a0 (DkO X.kw a0 (stR kvs nk b v))) (.tup xs) (.ref b) := ⟨[], (wk2.rep imk).frm fr ow fun _ z => nomatch z⟩
    obtain ⟨k1, k2, f', k3, k4⟩ := st_ok hnk wkk rd2 kr rk2 rv2 fun c hc q => nfd c q (by rw [hF]; exact List.mem_cons_of_mem _ hc)
    have naf : a0 ∉ f' := fun z => (k4 a0 z).elim na fun q => nad a0 q rfl
    have newR : Rep X.kw (upd H2 a0 (DkO X.kw a0 (stR kvs nk b v))) (.dic true (stD ks vs (.tup xs) d).1 (stD ks vs (.tup xs) d).2) (.ref a0) (a0 :: f') := .dicO upd_same k1 (k2.reps (keysR_imm k1)) k3 naf
    have w2 : ER X.kw (upd H2 a0 (DkO X.kw a0 (stR kvs nk b v))) (ρ1.set i none) σ (setF F1 i []) := ((w1.same s2).drop i).frm fr ow fun c ⟨j, h⟩ z => by
      by_cases e : j = i
      · subst e; rw [setF_same] at h; cases h
      · rw [setF_ne e] at h; rw [z] at h; exact w1.dj j i e a0 h (by rw [hF]; exact List.mem_cons_self)
    have covF : ∀ c ∈ a0 :: f', c ∈ F1 i ∨ c ∈ f1 := fun c hc => by
      rcases List.mem_cons.mp hc with z | z
      · exact .inl (by rw [hF, z]; exact List.mem_cons_self)
      · rcases k4 c z with y | y
        · exact .inl (by rw [hF]; exact List.mem_cons_of_mem _ y)
        · exact .inr y
    have w3 := w2.put (i := i) (by rw [List.length_set]; exact hi) hv0 newR fun c hc j hj q => by
      rw [setF_ne hj] at q
      rcases covF c hc with z | z
      · exact w1.dj j i hj c q z
      · exact o.out c z ⟨j, q⟩
    rw [List.set_set] at w3
    refine g1 σ _ _ ⟨fun c ob hc n => ?_, fun c hc => ?_⟩ w3 Kpt.refl
    · have h1 : H2 c = some ob := s2 _ _ (s.frm c ob hc n)
      by_cases e : c = a0
      · subst e
        rcases s.old c ⟨i, by rw [hF]; exact List.mem_cons_self⟩ with z | z
        · exact absurd z n
        · rw [hc] at z; cases z
      · rw [upd_ne e]; exact h1
    · have hc : inF F1 c ∨ c ∈ f1 := by
        rcases inF_setF hc with z | z
        · exact (covF c z).imp (fun q => ⟨i, q⟩) id
        · rcases inF_setF z with z | z
          · cases z
          · exact .inl z
      rcases hc with z | z
      · exact s.old c z
      · exact o.old c z
/-- xs[k], by values, k from 0 on -/
def rGetL (K : PySem.W.Frag) : V → V → Hp → VK → Prop := fun x y H Q => ∃ p xs i v, x = .ref p ∧ y = .int i ∧ 0 ≤ i ∧ SqL K H p xs ∧ xs[i.toNat]? = some v ∧ Q v H
theorem get_list : PGet X (rGetL X.K) := by
  intro pins s σ H o i ov iv Q I ro ri h
  obtain ⟨p, xs, k, v, rfl, rfl, h0, hq, he, q⟩ := h
  cases ro
  obtain ⟨t, rfl⟩ := ri
  obtain ⟨its, r, pl, hz⟩ := I.list hq
  obtain ⟨w, ew, rw'⟩ := r.get he
  have hl := r.length
  have hn := line63
  have hlt : k.toNat < xs.length := (List.getElem?_eq_some_iff.mp he).1
  exact wpAny_getItem_list pl.isList h0 (by omega) (by simpa using ew) ⟨v, H, I, rw', q⟩
theorem Reps.rev {K : KW} {H : Hp} : ∀ {xs : List D} {vs : List V} {f : List Addr}, Reps K H xs vs f → ∃ f', Reps K H xs.reverse vs.reverse f' ∧ ∀ a ∈ f', a ∈ f
  | _, _, _, .nil => ⟨[], .nil, nilF⟩
  | _, _, _, .cons (f := f0) (g := g) r rs n => by
    obtain ⟨f', r', sub⟩ := Reps.rev rs
    have one := Reps.cons r .nil (fun _ _ z => by cases z)
    rw [List.reverse_cons, List.reverse_cons]
    refine ⟨f' ++ (f0 ++ []), Reps.append one r' fun a ha q => ?_, fun a ha => ?_⟩
    · rw [List.append_nil] at q
      exact n a q (sub a ha)
    · rw [List.append_nil] at ha
      rcases List.mem_append.mp ha with z | z
      · exact List.mem_append_right _ (sub a z)
      · exact List.mem_append_left _ z
theorem rvS_red {i : Nat} (hp : ∀ x ∈ [i], x ∉ kp) : ∀ N σ H, tS X.kw T P kp W (.rvS i) N σ H → tAsg (fun σ H Q => tPl X.kw P.G i [] σ H fun x H1 => ∃ p us, x = .ref p ∧ SqL X.K H1 p us ∧ ∀ z, H1 z = none → Q (.ref z) (upd H1 z (.lst us.reverse))) (gName i) N σ H := fun N σ H ⟨ρ, F, w, g⟩ => by
  simp only [evS] at g
  cases hx : slotOf ρ i with
  | none => rw [hx] at g; exact g.elim
  | some x =>
  rw [hx] at g
  cases x with
  | lst o xs =>
    cases o with
    | false => exact g.elim
    | true =>
      obtain ⟨v, hv, r0⟩ := w.at_ i _ (slotOf_some hx)
      have hi : i < ρ.length := by
        rcases Nat.lt_or_ge i ρ.length with z | z
        · exact z
        · rw [w.len] at z
          rw [List.getElem?_eq_none z] at hv; cases hv
      cases hF : F i with
      | nil => rw [hF] at r0; cases r0
      | cons a0 f0 =>
      rw [hF] at r0
      cases r0 with
      | @own _ us _ f ha rr na =>
        refine ⟨_, hv, a0, us, rfl, .inl (.inl ha), fun z hz => ?_⟩
        have sm := same_upd (o := HO.lst us.reverse) hz
        obtain ⟨f', r', sub⟩ := (rr.same sm).rev
        have th := fun a h => (Rep.own ha rr na).there a (List.mem_cons_of_mem _ h)
        have nz : z ∉ f' := fun q => th z (sub z q) hz
        have w2 := (w.same sm).set (i := i) hi (Rep.own upd_same r' nz) (fun a h j hj q => by
          rcases List.mem_cons.mp h with rfl | h
          · exact w.there ⟨j, q⟩ hz
          · exact w.dj j i hj a q (by rw [hF]; exact List.mem_cons_of_mem _ (sub a h)))
        refine g _ _ _ ⟨same_frm sm, fun c hc => ?_⟩ w2 (Kpt.set (hp i List.mem_cons_self))
        rcases inF_setF hc with q | q
        · rcases List.mem_cons.mp q with rfl | q
          · exact .inr hz
          · exact .inl ⟨i, by rw [hF]; exact List.mem_cons_of_mem _ (sub c q)⟩
        · exact .inl q
  | _ => exact g.elim
theorem augI_red {i : Nat} {oo : Operator} {k e : Ex} {f : Int → Int → Int} (hf : ∀ x y z, augX oo x y = some z → ∃ a b, x = .int a ∧ y = .int b ∧ z = .int (f a b)) :
    ∀ N σ H, tS X.kw T P kp W (.augI i oo k e) N σ H → tAugS (tPl X.kw P.G i []) (tP X.kw P.G k) (tP X.kw P.G e) (rGetL X.kw) (ipI f) rSetL N σ H := fun N σ H ⟨ρ, F, w, g⟩ => by
  simp only [evS] at g
  cases h0 : (slotOf ρ i).bind (leafD []) with
  | none => rw [h0] at g; exact g.elim
  | some xs0 =>
  rw [h0, optS_some] at g
  obtain ⟨d0, a0, us0, hd0, hl0, hv, ha0⟩ := leaf0 w h0
  cases hk : evP P.G k ρ with
  | none => rw [hk] at g; exact g.elim
  | some kd =>
  rw [hk, optS_some] at g
  cases hx : dIx [.lst true xs0, kd] with
  | none => rw [hx] at g; exact g.elim
  | some x =>
  rw [hx, optS_some] at g
  cases he : evP P.G e ρ with
  | none => rw [he] at g; exact g.elim
  | some y =>
  rw [he, optS_some] at g
  cases hz : augX oo x y with
  | none => rw [hz] at g; exact g.elim
  | some z =>
  rw [hz, optS_some] at g
  obtain ⟨a, b, rfl, rfl, rfl⟩ := hf x y z hz
  split at g
  rotate_left
  · exact g.elim
  rename_i hnn
  cases kd with
  | int ki =>
    have hnn : 0 ≤ ki := by simpa [nnD] using hnn
    have hx : atI xs0 ki = some (.int a) := hx
    refine ⟨_, hv, ρ, .int ki, w.wr, hk, fun kv H1 f1 s1 r1 _ => ?_⟩
    cases r1
    obtain ⟨v1, aa, us, gg, hv1, hr, ha, rg, nag, nafd, ngf, up⟩ := mut_goal (F := F) (H := H) (fd := []) (.same s1) (w.same s1) ⟨nilF, nilF⟩ hd0 hl0
    rw [hv] at hv1
    cases hv1
    have hr : V.ref a0 = .ref aa := hr
    cases hr
    obtain ⟨v0, hv0, f0, r0⟩ := rg.wl.atI hx
    have hat : us[ki.toNat]? = some v0 := by
      unfold L2.atI ixN at hv0
      rw [if_pos hnn] at hv0
      split at hv0
      · exact hv0
      · cases hv0
    cases r0
    refine ⟨a0, us, ki, _, rfl, rfl, hnn, .inl (.inl ha), hat, ρ, .int b, w.wr.same s1, he, fun yv H2 f2 s2 r2 _ => ?_⟩
    cases r2
    refine ⟨a, b, rfl, rfl, ?_⟩
    have s12 := s1.trans s2
    obtain ⟨v1, aa, us2, gg2, hv1, hr, ha2, rg2, nag2, nafd2, ngf2, up2⟩ := mut_goal (F := F) (H := H) (fd := []) (.same s12) (w.same s12) ⟨nilF, nilF⟩ hd0 hl0
    rw [hv] at hv1
    cases hv1
    have hr : V.ref a0 = .ref aa := hr
    cases hr
    simp only [mutX, hd0, hl0, optS_some, MOp.run] at g
    cases hj : ixN xs0.length ki with
    | none => rw [hj] at g; exact g.elim
    | some j =>
    rw [hj, Option.map_some, optS_some] at g
    have hjl := (ixN_seq hj).2.1
    obtain ⟨v1, g1', hv1, rx, sub, ex⟩ := rg2.exch (List.getElem?_eq_getElem hjl)
    have fr : Frm (fun c => c = a0) H2 (upd H2 a0 (.lst (us2.set j (.int (f a b))))) := fun c ob hc n => by rw [upd_ne n]; exact hc
    have ow : OwnW (fun c => c = a0) H2 := fun c hc => by subst hc; exact ⟨_, ha2, id⟩
    obtain ⟨f', r', cov⟩ := ex (U := fun c => c = a0) (H' := upd H2 a0 (.lst (us2.set j (.int (f a b))))) (x' := .int (f a b)) (v' := .int (f a b)) (g' := []) fr ow (fun c hc _ z => nag2 (z ▸ hc)) (.int _) nilF
    obtain ⟨F', wF, sF⟩ := up2 r' fun b hb => (cov b hb).imp (fun z => z.1) fun z => by cases z
    exact ⟨a0, us2, ki, j, rfl, rfl, ha2, by rw [← rg2.length]; exact hj, g σ _ F' sF wF Kpt.refl⟩
  | _ => exact absurd hnn (by simp [nnD])
mutual
theorem s_ok : ∀ (c : Sx) {X : Cx} {W : WX} (C : CokS X P T k W) (st : Stmt), mS X.N X.env.scope X.fn kp c st = true → PS X st (tS X.kw T P kp W c)
  | .asg p e, X, W, C, st, h => by
    unfold mS at h
    split at h
    rotate_left
    · cases h
    rename_i tg v pos
    simp only [Bool.and_eq_true] at h
    obtain ⟨⟨⟨h1, h2⟩, h3⟩, h4⟩ := h
    have hk := outK_ok h2
    have gp := pat_pe C.toCok p tg h1
    have ev := px_ok e C.toCokX v h3
    cases tg with
    | Name y py =>
      simp only [asgC, Bool.or_eq_true, Bool.not_eq_true', decide_eq_true_eq, Bool.and_eq_true] at h4
      rcases h4 with (h4 | h4) | h4
      · exact psWeak (ps_asg ev gp (by show swapsWith v (some (.Name y py)) pos.line X.env = _; exact sw_no h4) st_name rfl) (asg_red hk)
      · exact psWeak (ps_asg ev gp (by show swapsWith v (some (.Name y py)) pos.line X.env = _; exact sw_cell h4) st_name rfl) (asg_red hk)
      · obtain ⟨h5, h6⟩ := h4
        split at h6
        · rename_i i own elt p kk ss ifs
          unfold mPat at h1
          simp only [Bool.and_eq_true, decide_eq_true_eq] at h1
          exact swap_ok C.toCokX (hk i (List.mem_singleton.mpr rfl)) h1.1 h5 h3
        · cases h6
    | Tuple es kq pq => exact psWeak (ps_asg ev gp sw_tup (st_tup h4) rfl) (asg_red hk)
    | _ => cases h4
  | .par i j a b, X, W, C, st, h => by
    unfold mS at h
    split at h
    rotate_left
    · cases h
    simp only [Bool.and_eq_true, decide_eq_true_eq] at h
    obtain ⟨⟨⟨⟨⟨h1, h2⟩, h3⟩, h4⟩, h5⟩, h6⟩ := h
    have ps := pxs_ok [a, b] C.toCokX _ h6
    have h5' := h5
    unfold parC at h5'
    simp only [Bool.and_eq_true, decide_eq_true_eq] at h5'
    exact psWeak (ps_par C.calm C.nd h1 h2 h3 h5'.1.1.1.1.1.1.1.2 h5'.1.1.1.1.1.1.2 ps.pa (st_par h5) sw_tup) (par_red (outK_ok h4) h3)
  | .mut o i ks args, X, W, C, st, h => by
    unfold mS at h
    split at h
    · rename_i e kx ob kk p2 v pos
      simp only [Bool.and_eq_true] at h
      obtain ⟨⟨⟨h1, h2⟩, h3⟩, h4⟩ := h
      have pl := place_pe C.toCokG (i := i) ks.reverse ob h1
      have pk := pe_ok kx C.toCokG kk h3
      have pv := px_ok e C.toCokX v h4
      exact psWeak (ps_asg pv (pg_sub pl pk set_list (by cases kk <;> first | (intro _; rfl) | cases h2)) sw_sub st_sub rfl) set_red
    · rename_i e ob nm apos v cpos pos
      simp only [Bool.and_eq_true, decide_eq_true_eq] at h
      obtain ⟨⟨⟨⟨⟨rfl, nb⟩, ln⟩, h1⟩, ns⟩, h2⟩ := h
      have pl := place_pe C.toCokG (i := i) ks.reverse ob h1
      cases hk : ks.isEmpty with
      | true =>
        have e0 : ks = [] := by simpa using hk
        subst e0
        simp only [List.isEmpty_nil, if_true] at h2
        have pv := px_ok e C.toCokX v h2
        have st := star_cons (es := []) (env := X.env) ns
        exact psWeak (ps_expr (pe_bm PySem.F.plainAttrs_list PySem.F.slot_list_append PySem.F.type_list_append mt_append pl (pa_cons pv pa_nil st) (base_plain nb) (by rw [st]; rfl) ln st (by rfl)) (sw_no rfl)) app0_red
      | false =>
        rw [hk, if_neg Bool.false_ne_true] at h2
        have pv := pe_ok e C.toCokG v h2
        have st := star_cons (es := []) (env := X.env) ns
        exact psWeak (ps_expr (pe_bm PySem.F.plainAttrs_list PySem.F.slot_list_append PySem.F.type_list_append mt_append pl (pa_cons pv pa_nil st) (base_plain nb) (by rw [st]; rfl) ln st (by rfl)) (sw_no rfl)) (appP_red hk)
    · rename_i k e ob nm apos u v cpos pos
      simp only [Bool.and_eq_true, decide_eq_true_eq] at h
      obtain ⟨⟨⟨⟨⟨⟨⟨⟨rfl, hk⟩, nb⟩, ln⟩, h1⟩, ns⟩, ns2⟩, h2⟩, h3⟩ := h
      have e0 : ks = [] := by simpa using hk
      subst e0
      have pl := place_pe C.toCokG (i := i) [] ob h1
      have st2 := star_cons (es := []) (env := X.env) ns2
      have st := star_cons (es := [v]) (env := X.env) ns
      exact psWeak (ps_expr (pe_bm PySem.F.plainAttrs_list PySem.F.slot_list_insert PySem.F.type_list_insert mt_insert pl (pa_cons (pe_ok k C.toCokG u h2) (pa_cons (pe_ok e C.toCokG v h3) pa_nil st2) st) (base_plain nb) (by rw [st, st2]; rfl) ln st (by rw [st2]; rfl)) (sw_no rfl)) ins_red
    · rename_i k ob nm apos u cpos pos
      simp only [Bool.and_eq_true, decide_eq_true_eq] at h
      obtain ⟨⟨⟨⟨⟨⟨rfl, hk⟩, nb⟩, ln⟩, h1⟩, ns⟩, h2⟩ := h
      have e0 : ks = [] := by simpa using hk
      subst e0
      have pl := place_pe C.toCokG (i := i) [] ob h1
      have st := star_cons (es := []) (env := X.env) ns
      exact psWeak (ps_expr (pe_bm PySem.F.plainAttrs_list PySem.F.slot_list_pop PySem.F.type_list_pop mt_popAt pl (pa_cons (pe_ok k C.toCokG u h2) pa_nil st) (base_plain nb) (by rw [st]; rfl) ln st (by rfl)) (sw_no rfl)) pop_red
    · rename_i e ob nm apos v cpos pos
      simp only [Bool.and_eq_true, decide_eq_true_eq] at h
      obtain ⟨⟨⟨⟨⟨⟨rfl, hk⟩, nb⟩, ln⟩, h1⟩, ns⟩, h2⟩ := h
      have e0 : ks = [] := by simpa using hk
      subst e0
      have pl := place_pe C.toCokG (i := i) [] ob h1
      have pv := px_ok e C.toCokX v h2
      have st := star_cons (es := []) (env := X.env) ns
      exact psWeak (ps_expr (pe_bm PySem.F.plainAttrs_list PySem.F.slot_list_extend PySem.F.type_list_extend mt_extend pl (pa_cons pv pa_nil st) (base_plain nb) (by rw [st]; rfl) ln st (by rfl)) (sw_no rfl)) ext0_red
    · cases h
  | .dst i e k, X, W, C, st, h => by
    unfold mS at h
    split at h
    rotate_left
    · cases h
    rename_i ob kk p2 v pos
    simp only [Bool.and_eq_true] at h
    obtain ⟨⟨⟨h1, h2⟩, h3⟩, h4⟩ := h
    have pl := place_pe C.toCokG (i := i) [] ob h1
    have pk := pe_ok k C.toCokG kk h3
    have pv := px_ok e C.toCokX v h4
    exact psWeak (ps_asg pv (pg_sub pl pk (set_dic C.units) (by cases kk <;> first | (intro _; rfl) | cases h2)) sw_sub st_sub rfl) dst_red
  | .rvS i, X, W, C, st, h => by
    unfold mS at h
    split at h
    rotate_left
    · cases h
    rename_i y py ob kk q1 q2 q3 q4 pos
    simp only [Bool.and_eq_true, decide_eq_true_eq] at h
    obtain ⟨⟨⟨h2, h3⟩, h4⟩, h5⟩ := h
    obtain ⟨lc, fc⟩ := locB_ok h3
    have pl := place_pe C.toCokG (i := i) [] _ h5
    exact psWeak (ps_asg (revL_pe pl) (pg_name C.nd h2 lc fc) (by show swapsWith (.Subscript ob (.Slice none none (some (.UnaryOp .USub (.Constant (.int 1) kk q1) q2)) q3) q4) (some (.Name y py)) pos.line X.env = _; exact sw_no rfl) st_name rfl) (rvS_red (outK_ok h4))
  | .augI i o k e, X, W, C, st, h => by
    unfold mS at h
    split at h
    rotate_left
    · cases h
    rename_i ob kk p2 o' v pos
    simp only [Bool.and_eq_true, decide_eq_true_eq, Bool.or_eq_true] at h
    obtain ⟨⟨⟨⟨⟨rfl, h1⟩, h2⟩, h3⟩, h4⟩, h5⟩ := h
    have pl := place_pe C.toCokG (i := i) [] ob h2
    have pk := pe_ok k C.toCokG kk h4
    have pv := pe_ok e C.toCokG v h5
    rcases h1 with rfl | rfl
    · exact psWeak (ps_augS pl pk get_list pv ip_add set_list (by cases kk <;> first | (intros; rfl) | cases h3)) (augI_red augA)
    · exact psWeak (ps_augS pl pk get_list pv ip_sub set_list (by cases kk <;> first | (intros; rfl) | cases h3)) (augI_red augS)
  | .swp i k l a b, X, W, C, st, h => by
    unfold mS at h
    split at h
    rotate_left
    · cases h
    rename_i o1 k1 p1 o2 k2 p2 kq pq v pos
    simp only [Bool.and_eq_true] at h
    obtain ⟨⟨⟨⟨⟨⟨h1, h2⟩, h3⟩, h4⟩, h5⟩, h6⟩, h7⟩ := h
    have pv := px_ok (.node .tup [a, b]) C.toCokX v h1
    have g1 := pg_sub (place_pe C.toCokG (i := i) [] o1 h2) (pe_ok k C.toCokG k1 h6) set_list (pos := p1) (by cases k1 <;> first | (intro _; rfl) | cases h4)
    have g2 := pg_sub (place_pe C.toCokG (i := i) [] o2 h3) (pe_ok l C.toCokG k2 h7) set_list (pos := p2) (by cases k2 <;> first | (intro _; rfl) | cases h5)
    exact psWeak (ps_asg pv (pg_tup C.calm (pgs_cons g1 (pgs_cons g2 pgs_nil))) sw_tup st_subs rfl) swp_red
  | .rai x m, X, W, C, st, h => by
    unfold mS at h
    split at h
    rotate_left
    · cases h
    rename_i y yp sm kk p2 pos p3
    simp only [Bool.and_eq_true, decide_eq_true_eq, Bool.not_eq_true'] at h
    obtain ⟨⟨⟨rfl, rfl⟩, hg⟩, hdb⟩ := h
    cases hG : P.G y with
    | none => exact never_of fun ρ => by simp only [evS, hG]
    | some d =>
      cases d with
      | cls c mk yes no =>
        by_cases hmk : mk = "="
        rotate_left
        · exact never_of fun ρ => by
            simp only [evS, hG]
            split
            · rename_i h
              cases h
              exact absurd rfl hmk
            · rfl
        subst hmk
        obtain ⟨v, u, hm, rv, rp⟩ := C.glob _ _ hG
        cases rp (fun _ => none) with
        | cls ci =>
          cases rv
          refine psWeak (ps_raise C.calm C.tk (pmk_own PySem.F.excBase_ValueError (ci.mkd rfl).1 hm ci.kp (raises_own ci.sub ci.ty) (show X.env.scope.names.lookup y = some .globalImplicit from of_decide_eq_true hg) hdb)) fun N σ H ⟨ρ, F, w, g⟩ => ?_
          simp only [evS, hG] at g
          exact g _ none σ H F .refl w Kpt.refl ⟨⟨_, ci.toXIs, rfl, fun f d e => by cases e⟩, fun _ => rfl, fun f d e => by cases e⟩
      | _ => exact never_of fun ρ => by simp only [evS, hG]
  | .raiE x e, X, W, C, st, h => by
    unfold mS at h
    split at h
    rotate_left
    · cases h
    rename_i y yp a p2 pos
    simp only [Bool.and_eq_true, decide_eq_true_eq, Bool.not_eq_true'] at h
    obtain ⟨⟨⟨⟨rfl, hg⟩, hdb⟩, ns⟩, he⟩ := h
    have pv := px_ok e C.toCokX a he
    cases hI : iniC P y with
    | none => exact never_of fun ρ => by simp only [evS, hI]
    | some cm =>
      obtain ⟨c, mk⟩ := cm
      have hI0 := hI
      unfold iniC at hI
      split at hI
      rotate_left
      · cases hI
      rename_i c' mk' yes no ct m2 y2 n2 hG hT
      split at hI
      rotate_left
      · cases hI
      rename_i hm0
      obtain ⟨hm1, hm2, rfl⟩ := hm0
      cases hI
      obtain ⟨v, u, hm, rv, rp⟩ := C.glob _ _ hG
      cases rp (fun _ => none) with
      | cls ci =>
        cases rv
        have ik := ci.mki hm1 hm2
        obtain ⟨fI, C0, fd, ps, iC, tI, bd, cT, F1⟩ := ik.ex
        obtain ⟨v2, u2, hmT, rv2, rp2⟩ := C.glob _ _ hT
        cases rp2 (fun _ => none) with
        | cls cj =>
          cases rv2
          have e0 := cj.gc
          rw [cT] at e0
          cases e0
          have st := star_cons (es := []) (env := X.env) ns
          refine psWeak (ps_raise C.calm C.tk (pmk_oex (k := 1) ik.ox iC tI (F1 X.mg X.base 0 C.blt hmT) (C.room.mono C.k2) bd Paired.nil (fun pins σ H s e s' I h => by obtain ⟨_, _, _, _, _, _, _, _, _, _, _, _, z⟩ := h; exact z.elim) (show X.env.scope.names.lookup y = some .globalImplicit from of_decide_eq_true hg) hm (pa_cons pv pa_nil st) hdb st (by rfl))) fun N σ H ⟨ρ, F, w, g⟩ => ?_
          simp only [evS, hI0] at g
          refine ⟨ρ, F, w, ?_⟩
          cases er : evX P e ρ with
          | bad => rw [er] at g; exact g
          | exc x ρ1 =>
            rw [er] at g
            intro cls dx H' F' s' w' xr
            exact g cls dx σ H' F' s' w' Kpt.refl xr
          | ok d ρ1 =>
            rw [er] at g
            simp only [to_ok] at g
            intro v1 H1 F1' f1 s1 w1 r1 o1
            by_cases hi : iniD d = true
            rotate_left
            · rw [if_neg hi] at g; exact g.elim
            rw [if_pos hi] at g
            obtain ⟨hf1, hdi, hvi⟩ := ini_rep r1 hi
            subst hf1
            refine ⟨by simp, fun a na => ⟨a, _, v1, rfl, ik.ox, ik.fo, upd_same, hvi _ (same_upd na), fun H' dx sm nd ne => ⟨rfl, dx, [(Str.ofString mk, v1)], upd_same, ?_, ?_, ?_⟩⟩⟩
            · rw [upd_ne ne, upd_same]
            · cases e1 : H1 dx with
              | none => rfl
              | some o =>
                have := sm dx o (by rw [upd_ne ne]; exact e1)
                rw [nd] at this
                cases this
            · have n1 : H1 dx = none := by
                cases e1 : H1 dx with
                | none => rfl
                | some o =>
                  have := sm dx o (by rw [upd_ne ne]; exact e1)
                  rw [nd] at this
                  cases this
              generalize hH3 : upd (del (upd (upd H' dx (exd dx [(Str.ofString mk, v1)])) a (exo a _ (some dx))) a) dx (.xd [(Str.ofString mk, v1)]) = H3
              have sm3 : Same H1 H3 := fun b o hb => by
                have hba : b ≠ a := fun z => by rw [z, na] at hb; cases hb
                have hbd : b ≠ dx := fun z => by rw [z, n1] at hb; cases hb
                rw [← hH3, upd_ne hbd, del_ne hba, upd_ne hba, upd_ne hbd]
                exact sm b o (by rw [upd_ne hba]; exact hb)
              refine g _ (some dx) σ H3 F1' (s1.trans (.same sm3)) (w1.same sm3) Kpt.refl ⟨⟨_, ci.toXIs, rfl, fun f d e => by cases e; exact ik.fo⟩, (fun e => by cases e), fun f d e => ?_⟩
              cases e
              exact ⟨ik.ne, hdi, dx, v1, rfl, by rw [← hH3, upd_same], r1.same sm3⟩
  | .tryN b hs, X, W, C, st, h => by
    unfold mS at h
    split at h
    rotate_left
    · cases h
    rename_i body h0 hds pos
    simp only [Bool.and_eq_true] at h
    cases ho : allCl P hs with
    | false => exact never_of fun ρ => by simp only [evS, ho]; exact if_neg Bool.false_ne_true
    | true =>
      obtain ⟨l, hl, hw⟩ := hds_ok C hs (h0 :: hds) h.1 ho
      refine psWeak (ps_try_many (tb := fun W => tSs X.kw T P kp W b) C.stk C.frm C.tk (fun W' pn xe tk' po => ss_ok b (X := X.tr pn xe) ⟨⟨⟨⟨C.calm, C.nd, C.blt, C.units⟩, C.glob⟩, C.room, C.k2, C.fns, tk'⟩, po, C.stk, C.frm, C.noex⟩ body h.2) hl) fun N σ H ⟨ρ, F, w, g⟩ => ?_
      simp only [evS, ho, if_true] at g
      refine ⟨ρ, F, w, ?_⟩
      cases eb : evSs P b ρ with
      | nx ρ1 => rw [eb] at g; exact g
      | bk ρ1 => rw [eb] at g; exact g
      | rt d ρ1 => rw [eb] at g; exact g
      | bad => rw [eb] at g; exact g
      | ex xn ρ1 =>
        simp only [eb] at g
        intro cls dx σ' H' F' s' w' k' xr
        exact hw N σ σ' F F' H H' ρ1 xn cls dx s' w' k' xr g
  | .tryAs b x ie j, X, W, C, st, h => by
    unfold mS at h
    split at h
    rotate_left
    · cases h
    rename_i body y yp n t tp n2 np ap hp pos
    simp only [Bool.and_eq_true, decide_eq_true_eq, Bool.not_eq_true'] at h
    obtain ⟨⟨⟨⟨⟨⟨⟨⟨⟨⟨⟨rfl, hg⟩, hdb⟩, hi⟩, hl⟩, rfl⟩, hn⟩, hj⟩, hlt⟩, hne⟩, hk⟩, hb⟩ := h
    obtain ⟨n1, n2'⟩ := okName_ok hn
    cases hG : P.G y with
    | none => exact never_of fun ρ => by simp only [evS, hG]
    | some d =>
      cases d with
      | cls c mk yes no =>
        obtain ⟨v, u, hm, rv, rp⟩ := C.glob _ _ hG
        cases rp (fun _ => none) with
        | cls ci =>
          cases rv
          refine psWeak (ps_keep (tb := fun W => tSs X.kw T P kp W b) (ts := tAsg (tVar ie) (gName j)) C.stk C.frm C.noex C.nd hi hl ⟨show X.env.scope.names.lookup y = some .globalImplicit from of_decide_eq_true hg, hdb, .inl hm⟩ (fun W' pn xe tk' po => ?_) fun a => ?_) fun N σ H ⟨ρ, F, w, g⟩ => ?_
          · exact ss_ok b (X := X.tr pn xe) ⟨⟨⟨⟨C.calm, C.nd, C.blt, C.units⟩, C.glob⟩, C.room, C.k2, C.fns, tk'⟩, po, C.stk, C.frm, C.noex⟩ body hb
          · exact pss_one (ps_asg (X := X.suite a X.pn) (pe_var hi (.inl hl) n1 n2') (pg_name C.nd hj (.inl hlt) (.inr hlt)) (by show swapsWith (.Name n2 np) (some (.Name t tp)) ap.line (X.suite a X.pn).env = _; exact sw_no rfl) st_name rfl)
          · simp only [evS, hG] at g
            refine ⟨ρ, F, w, ?_⟩
            cases eb : evSs P b ρ with
            | nx ρ1 => rw [eb] at g; exact g
            | bk ρ1 => rw [eb] at g; exact g
            | rt d ρ1 => rw [eb] at g; exact g
            | bad => rw [eb] at g; exact g
            | ex xn ρ1 =>
              simp only [eb] at g
              intro cls dx σ' H' F' s' w' k' xr
              split at g
              rotate_left
              · exact g.elim
              rename_i hc
              obtain ⟨C', xi, rfl, hfn⟩ := xr.cls
              obtain ⟨E, e1, e2, e3⟩ := ci.y xn.cls (by simpa using hc.1)
              rw [xi.gc] at e1
              cases e1
              refine ⟨e3, fun a na xe => ⟨.ref a, List.getElem?_set_self (by rw [← w'.len]; exact hc.2.1), ?_⟩⟩
              have sm : Same H' (upd H' a (XcO (.ref C') dx a)) := same_upd na
              have w2 := (w'.same sm).set (i := j) hc.2.2 (xr.rep na xe) nilF
              have w3 := w2.gone ie
              have e4 : ((σ'.set ie (some (.ref a))).set j (some (.ref a))).set ie none = (σ'.set j (some (.ref a))).set ie none := by rw [List.set_comm _ _ hne, List.set_set]
              show N.nx (((σ'.set ie (some (.ref a))).set j (some (.ref a))).set ie none) (upd H' a (XcO (.ref C') dx a))
              rw [e4]
              refine g _ _ _ ((s'.trans (.same sm)).sub fun c hc => ?_) w3 (k'.trans ((Kpt.set (outK_ok hk j (by simp))).trans (Kpt.set (outK_ok hk ie (by simp)))))
              rcases inF_setF hc with z | z
              · cases z
              · rcases inF_setF z with z | z
                · cases z
                · exact z
      | _ => exact never_of fun ρ => by simp only [evS, hG]
  | .aug i o e, X, W, C, st, h => by
    unfold mS at h
    split at h
    rotate_left
    · cases h
    simp only [Bool.and_eq_true, decide_eq_true_eq, Bool.or_eq_true] at h
    obtain ⟨⟨⟨⟨⟨rfl, h1⟩, h2⟩, h3⟩, h4⟩, h5⟩ := h
    obtain ⟨lc, fc⟩ := locB_ok h3
    have pv := px_ok e C.toCokX _ h5
    rcases h1 with rfl | rfl
    · exact psWeak (ps_aug C.nd h2 lc pv ip_add fc) (aug_red augA (outK_ok h4))
    · exact psWeak (ps_aug C.nd h2 lc pv ip_sub fc) (aug_red augS (outK_ok h4))
  | .ifS t a b, X, W, C, st, h => by
    unfold mS at h
    split at h
    · simp only [Bool.and_eq_true] at h
      exact psWeak (ps_if (pxt_ok t C.toCokX _ h.1.1) (ss_ok a C _ h.1.2) (ss_ok b C _ h.2)) if_red
    · cases h
  | .whl t b, X, W, C, st, h => by
    unfold mS at h
    split at h
    · simp only [Bool.and_eq_true] at h
      exact psWeak (ps_while C.ownx (pxt_ok t C.toCokX _ h.1) (ss_ok b C _ h.2)) whl_red
    · cases h
  | .forS p kk ss b, X, W, C, st, h => by
    unfold mS at h
    split at h
    rotate_left
    · cases h
    rename_i tg iter x pos
    split at h
    rotate_left
    · cases h
    rename_i es ho
    simp only [Bool.and_eq_true, Bool.or_eq_true, Bool.not_eq_true'] at h
    obtain ⟨⟨⟨⟨⟨h1, h2⟩, h3⟩, h4⟩, h5⟩, h6⟩ := h
    have ps := pxs_ok ss C.toCokX es h1
    have hit : needT kk = true → isTuple tg = true := fun hk => by
      rcases h4 with h4 | h4
      · exact h4
      · rw [h4] at hk; cases hk
    exact psWeak (ps_for C.ownx C.calm (src_pi C.toCok ho hit ps) (pat_pe C.toCok p tg h3) (ss_ok b C _ h6) (folded_plain h2)) (for_red (outK_ok h5))
  | .ret e, X, W, C, st, h => by
    unfold mS at h
    split at h
    · exact psWeak (ps_ret (px_ok e C.toCokX _ h)) ret_red
    · cases h
  | .retN, X, W, C, st, h => by
    unfold mS at h
    split at h
    · exact psWeak ps_retN fun N σ H ⟨ρ, F, w, g⟩ => by
        simp only [evS] at g
        exact g .non σ H F [] .refl w Kpt.refl .non ⟨nilF, nilF⟩
    · cases h
  | .brk, X, W, C, st, h => by
    unfold mS at h
    split at h
    · exact psWeak ps_break fun N σ H ⟨ρ, F, w, g⟩ => by
        simp only [evS] at g
        exact g σ H F .refl w Kpt.refl
    · cases h
  | .pass, X, W, C, st, h => by
    have red : ∀ N σ H, tS X.kw T P kp W .pass N σ H → tNext N σ H := fun N σ H ⟨ρ, F, w, g⟩ => by
      simp only [evS] at g
      exact g σ H F .refl w Kpt.refl
    unfold mS at h
    split at h
    · exact psWeak ps_pass red
    · exact psWeak ps_doc red
    · cases h
  | .expr e, X, W, C, st, h => by
    unfold mS at h
    split at h
    · simp only [Bool.and_eq_true, Bool.not_eq_true'] at h
      refine psWeak (ps_expr (px_ok e C.toCokX _ h.2) (sw_no h.1)) fun N σ H ⟨ρ, F, w, g⟩ => ?_
      simp only [evS] at g
      exact ⟨ρ, F, w, to_goal g fun d ρ1 v H1 F1 f1 _ s w1 r o g1 => g1 σ H1 F1 s w1 Kpt.refl⟩
    · cases h
  | .never, X, W, C, st, h => psWeak ps_never fun N σ H ⟨ρ, F, w, g⟩ => by
      simp only [evS] at g
      exact g.elim
theorem ss_ok : ∀ (c : List Sx) {X : Cx} {W : WX} (C : CokS X P T k W) (st : List Stmt), mSs X.N X.env.scope X.fn kp c st = true → PSs X st (tSs X.kw T P kp W c)
  | [], X, W, C, st, h => by
    unfold mSs at h
    cases st with
    | nil =>
      refine pssWeak pss_nil ?_
      rintro N σ H ⟨ρ, F, w, g⟩
      simp only [evSs] at g
      exact g σ H F .refl w Kpt.refl
    | cons _ _ => cases h
  | c :: cs, X, W, C, st, h => by
    unfold mSs at h
    split at h
    · simp only [Bool.and_eq_true] at h
      refine pssWeak (pss_cons (s_ok c C _ h.1) (ss_ok cs C _ h.2)) fun N σ H ⟨ρ, F, w, g⟩ => ?_
      simp only [evSs] at g
      refine ⟨ρ, F, w, ?_⟩
      cases e : evS P c ρ with
      | nx ρ1 =>
        rw [e, sth_nx] at g
        exact fun σ' H' F' s w' k' => ⟨ρ1, F', w', g.from s k'⟩
      | bk ρ1 => rw [e] at g; exact g
      | rt d ρ1 => rw [e] at g; exact g
      | ex x ρ1 => rw [e] at g; exact g
      | bad => rw [e] at g; exact g
    · cases h
end
end
end VL

/-! VL22: defs, a table of defs. -/
namespace VL
open PySem PySem.Spec PyProof.Rows L2

/-- a def: its slots' names, its parameters, those that keep their values, its body -/
structure FnD where
  N : List Str
  ps : List Str
  kp : List Nat
  body : List Sx
/-- what the parameters are in the end -/
def FnD.ends (f : FnD) (ρ : Rho) : Rho := (List.range f.ps.length).map fun i => if f.kp.contains i then (ρ[i]?).join else none
def FnD.fin (f : FnD) : RS → RX D
  | .nx ρ => .ok .non (f.ends ρ)
  | .rt d ρ => .ok d (f.ends ρ)
  | .ex x ρ => .exc x (f.ends ρ)
  | _ => .bad
noncomputable def FnD.run (f : FnD) (P : Prg) : FnR := fun ds => if ds.length = f.ps.length then f.fin (evSs P f.body (ds.map some ++ List.replicate (f.N.length - f.ps.length) none)) else .bad
/-- a def that stands, with its promise -/
def FnAt (K : KW) (mg : Str → Option Value) (base : Heap) (T : Xt) (k : Nat) (x : Str) (run : FnR) : Prop :=
  ∃ f fd ps, mg x = some (.ref f) ∧ PySem.W.keepIn K (.ref f) = true ∧ FnOk K.P K.w K mg base (L2.CX K.P K.w) k f fd ps (FnSp K T run) ∧ Binds K fd ps []
section
variable {K : KW} {T : Xt} {H H' : Hp} {ρ : Rho} {σ : L2.St} {F : Fps}
theorem ER.pad (w : ER K H ρ σ F) (n : Nat) : ER K H (ρ ++ List.replicate n none) (σ ++ List.replicate n none) F := by
  have hl := w.len
  refine ⟨by simp [hl], fun i d e => ?_, fun i h => ?_, w.dj⟩
  · by_cases hi : i < ρ.length
    · rw [List.getElem?_append_left hi] at e
      obtain ⟨v, hv, r⟩ := w.at_ i d e
      exact ⟨v, by rw [List.getElem?_append_left (by omega)]; exact hv, r⟩
    · rw [List.getElem?_append_right (by omega), List.getElem?_replicate] at e
      split at e <;> cases e
  · refine w.no i fun d e => h d ?_
    have hi : i < ρ.length := by
      rcases Nat.lt_or_ge i ρ.length with z | z
      · exact z
      · rw [List.getElem?_eq_none z] at e; cases e
    rw [List.getElem?_append_left hi]
    exact e
def endF (f : FnD) (F : Fps) : Fps := fun i => if i < f.ps.length ∧ i ∈ f.kp then F i else []
theorem ends_at {f : FnD} {ρ : Rho} {i : Nat} (h : i < f.ps.length) : (f.ends ρ)[i]? = some (if f.kp.contains i then (ρ[i]?).join else none) := by
  unfold FnD.ends
  rw [List.getElem?_map, List.getElem?_range h]
  rfl
theorem ends_er {f : FnD} {vs : List V} {n : Nat} {σ' : L2.St} (hv : vs.length = f.ps.length) (w : ER K H ρ σ' F) (k : Kpt f.kp (vs.map some ++ List.replicate n none) σ') : ER K H (f.ends ρ) (vs.map some) (endF f F) := by
  refine ⟨by simp [FnD.ends, hv], fun i d e => ?_, fun i h => ?_, fun i j hij a ha hb => ?_⟩
  · by_cases hi : i < f.ps.length
    · rw [ends_at hi] at e
      by_cases hk : i ∈ f.kp
      · rw [if_pos (by simpa using hk)] at e
        obtain ⟨v, hv', r⟩ := w.at_ i d (joined (Option.some.inj e))
        have q := k i hk
        rw [List.getElem?_append_left (by simp [hv, hi])] at q
        refine ⟨v, by rw [← q]; exact hv', ?_⟩
        unfold endF
        rw [if_pos ⟨hi, hk⟩]
        exact r
      · rw [if_neg (by simpa using hk)] at e
        cases e
    · rw [List.getElem?_eq_none (by simp [FnD.ends]; omega)] at e; cases e
  · unfold endF
    split
    · rename_i hc
      refine w.no i fun d e => h d ?_
      rw [ends_at hc.1, if_pos (by simpa using hc.2), e]
      rfl
    · rfl
  · unfold endF at ha hb
    split at ha
    · split at hb
      · exact w.dj i j hij a ha hb
      · cases hb
    · cases ha
theorem endF_sub {f : FnD} {a : Addr} (h : inF (endF f F) a) : inF F a := by
  obtain ⟨i, h⟩ := h
  unfold endF at h
  split at h
  · exact ⟨i, h⟩
  · cases h
end
section
variable {K : KW} {mg : Str → Option Value} {base : Heap} {T : Xt} {P : Prg} {k : Nat}
/-- a def's body does what its run tells -/
theorem fn_okV {x : Str} {st : Stmt} {f : Addr} {fd : FuncData} {fn : FnD} (F : Fun K x x st f fd) (S : FnScope fn.N fn.ps (defScope st)) (hb : mSs fn.N (defScope st) (fun _ => true) fn.kp fn.body (defBody st) = true)
    (blt : ∀ y ∈ bnames, mg y = none) (glob : ∀ y d, P.G y = some d → ∃ v u, mg y = some u ∧ RelV v u ∧ ∀ H, Rep K H d v []) (k2 : 2 ≤ k) (fns : ∀ y run, P.fns y = some run → FnAt K mg base T k y run) :
    FnOk K.P K.w K mg base (L2.CX K.P K.w) (k + 1) f fd fn.ps (FnSp K T (fn.run P)) := by
  have hlen : ∀ vs H (QQ : VK) E, FnSp K T (fn.run P) vs H QQ E → vs.length = fn.ps.length := fun vs H QQ E ⟨ds, F0, w0, g⟩ => by
    have e : ds.length = vs.length := by simpa using w0.len
    rw [← e]
    unfold FnD.run at g
    split at g
    · assumption
    · exact g.elim
  refine F.okX S hlen fun cdv A outer s H vs QQ E hr hsp => ?_
  have hl := hlen vs H QQ E hsp
  obtain ⟨ds, F0, w0, g⟩ := hsp
  have hds : ds.length = fn.ps.length := by
    have e : ds.length = vs.length := by simpa using w0.len
    rw [e, hl]
  unfold FnD.run at g
  rw [if_pos hds] at g
  refine ⟨tSs K T P fn.kp (fun cls d _ H' => E cls d H') fn.body, ?_, ?_⟩
  · refine ss_ok (X := cxOf (L2.CX K.P K.w) K.P K.w K mg base fn.N x (defScope st) f cdv A outer s H E) (k := k) fn.body ?_ (defBody st) hb
    have hu := hr.un
    exact ⟨⟨⟨⟨rfl, S.nd, blt, by show (A.deeper _).units + 65 < cLine; omega⟩, glob⟩, hr, k2, fun y run hy => fns y run hy, takes_of rfl rfl rfl rfl⟩, passes_of rfl, rfl, rfl, rfl⟩
  · refine ⟨ds.map some ++ List.replicate (fn.N.length - fn.ps.length) none, F0, ?_, ?_⟩
    · unfold L2.start
      rw [hl]
      exact w0.pad _
    · have hst : L2.start fn.N vs = vs.map some ++ List.replicate (fn.N.length - fn.ps.length) none := by unfold L2.start; rw [hl]
      cases er : evSs P fn.body (ds.map some ++ List.replicate (fn.N.length - fn.ps.length) none) with
      | nx ρ' =>
        rw [er] at g
        intro σ' H' F' s' w' k'
        rw [hst] at k'
        exact g .non H' (endF fn F') [] (s'.sub fun a => endF_sub) (ends_er hl w' k') .non ⟨nilF, nilF⟩
      | bk ρ' => rw [er] at g; exact g.elim
      | rt d ρ' =>
        rw [er] at g
        intro v σ' H' F' f1 s' w' k' r o
        rw [hst] at k'
        exact g v H' (endF fn F') f1 (s'.sub fun a => endF_sub) (ends_er hl w' k') r ⟨fun a ha q => o.out a ha (endF_sub q), o.old⟩
      | ex x' ρ' =>
        rw [er] at g
        intro cls dx σ' H' F' s' w' k' xr
        rw [hst] at k'
        exact g cls dx H' (endF fn F') (s'.sub fun a => endF_sub) (ends_er hl w' k') xr
      | bad => rw [er] at g; exact g.elim

/-! ### a table: the last def first, each calls those behind it -/
abbrev Tbl := List (Str × FnD)
noncomputable def prg (G : Str → Option D) : Tbl → Prg
  | [] => ⟨G, fun _ => none⟩
  | (x, f) :: t => ⟨G, fun y => if y = x then some (f.run (prg G t)) else (prg G t).fns y⟩
theorem prg_G {G : Str → Option D} : ∀ t : Tbl, (prg G t).G = G
  | [] => rfl
  | _ :: _ => rfl
/-- what is wanted of each def of the table -/
structure Row1 (K : KW) (mg : Str → Option Value) (x : Str) (fn : FnD) : Prop where
  ex : ∃ st f fd, Fun K x x st f fd ∧ mg x = some (.ref f) ∧ Binds K fd fn.ps [] ∧ FnScope fn.N fn.ps (defScope st) ∧ mSs fn.N (defScope st) (fun _ => true) fn.kp fn.body (defBody st) = true
theorem FnAt.mono {x : Str} {run : FnR} {j : Nat} (h : FnAt K mg base T j x run) (l : j ≤ k) : FnAt K mg base T k x run := by
  obtain ⟨f, fd, ps, a, b, c, d⟩ := h
  exact ⟨f, fd, ps, a, b, c.mono l, d⟩
theorem tbl_ok {G : Str → Option D} (blt : ∀ y ∈ bnames, mg y = none) (glob : ∀ y d, G y = some d → ∃ v u, mg y = some u ∧ RelV v u ∧ ∀ H, Rep K H d v []) :
    ∀ t : Tbl, (∀ e ∈ t, Row1 K mg e.1 e.2) → ∀ y run, (prg G t).fns y = some run → FnAt K mg base T (t.length + 2) y run
  | [], _, y, run, h => by cases h
  | (x, f) :: t, hr, y, run, h => by
    have ih := tbl_ok blt glob t fun e he => hr e (List.mem_cons_of_mem _ he)
    simp only [prg] at h
    split at h
    · rename_i e
      subst e
      cases h
      obtain ⟨st, fa, fd, F, hm, hb, S, hc⟩ := (hr _ List.mem_cons_self).ex
      exact ⟨fa, fd, f.ps, hm, F.kp, (fn_okV F S hc blt (by rw [prg_G]; exact glob) (by omega) ih).mono (by simp), hb⟩
    · exact (ih y run h).mono (by simp)
/-- the law's promise from its run -/
theorem law_sp {run : FnR} {ns : List Int} {H : Hp} {a : Addr} (hS : SqL K H a (ns.map V.int)) (h : ∀ o, ∃ xs, run [.lst o (ns.map D.int)] = .ok (.bl true) xs) : FnSp K T run [.ref a] H (fun v _ => v = .bl true) fun _ _ _ => False := by
  have intsR : ∀ l : List Int, Reps K H (l.map D.int) (l.map V.int) [] := fun l => by
    induction l with
    | nil => exact .nil
    | cons x l ih => exact Reps.cons (f := []) (g := []) (.int x) ih nilF
  have key : ∃ o f, Rep K H (.lst o (ns.map D.int)) (.ref a) f := by
    rcases hS with (q | ⟨o, q⟩) | q
    · exact ⟨true, _, .own q (intsR ns) (by simp)⟩
    · exact ⟨false, _, .frz (.inl ⟨o, q⟩) (intsR ns)⟩
    · exact ⟨false, _, .frz (.inr q) (intsR ns)⟩
  obtain ⟨o, f, r⟩ := key
  obtain ⟨xs, e⟩ := h o
  refine ⟨[.lst o (ns.map D.int)], Fl [f], ER.cons r nilER (fun c _ ⟨i, q⟩ => by simp [Fl] at q), ?_⟩
  rw [e]
  exact fun v H' F' f' _ _ rv _ => W1.bl ⟨f', rv⟩
end
/-- the built-ins' names are free -/
theorem free_all {K : KW} {h : Heap} {mg : Str → Option Value} (X : PySem.W.Frag.In K.f h) (G : h.Ns mainGlobals mg) (z : ∀ y ∈ bnames, PySem.W.nsIn K mainGlobals y = some none) : ∀ y ∈ bnames, mg y = none := fun y hy => PySem.W.mg_none_of X G (z y hy)
abbrev kwOf (l : PySem.W.OpenLaw) (K : Params → PySem.W.Frag) (w : World) : KW := ⟨K w.params, l.prog, w⟩
/-- what the head leaves, from a run that ends in True -/
theorem walkV {l : PySem.W.OpenLaw} {n k : Nat} {q : Program} {loose : List Str} {XP : (Str → Option Value) → Heap → Prop} {YP : World → Heap → Prop} {d : DefRec} {K : Params → PySem.W.Frag} {x : Str} (run : FnR)
    (hn : l.most = some n) (hn2 : n ≤ sizeLine) (hdf : d.params.defaults = []) (hr : Room k callerA) (hY : ∀ (w : World) (h : Heap), YP w h → (K w.params).In h)
    (ht : ∀ ns : List Int, ns.length ≤ n → ∀ o, ∃ xs, run [.lst o (ns.map D.int)] = .ok (.bl true) xs)
    (F : ∀ (w : World) (mg : Str → Option Value) (fa : Addr) (h : Heap), PySem.W.Frag.In (kwOf l K w).f h → h.Ns mainGlobals mg → mg d.name = some (.ref fa) → ∃ fd : FuncData, (∀ (s : Shared) (u : Value), BindsTo s fd ⟨[u], []⟩ [(x, u)]) ∧
      ∀ base : Heap, PySem.W.Frag.In (kwOf l K w).f base → base.Ns mainGlobals mg → FnOk (kwOf l K w).P (kwOf l K w).w (kwOf l K w).f mg base (L2.CX (kwOf l K w).P (kwOf l K w).w) k fa fd [x] (FnSp (kwOf l K w) (clsOf (kwOf l K w)) run)) :
    PySem.W.WalkO q loose XP YP l.row.toRowW d [] (fun f vs => PySem.call f vs) :=
  L2.walk_of (K := K) (CX := fun w => L2.CX l.prog w) (sp := fun w => FnSp (kwOf l K w) (clsOf (kwOf l K w)) run) hn hn2 hdf hr hY F (fun _ _ _ ns hl _ hS => law_sp hS (ht ns hl)) fun _ _ _ _ _ h => by
    obtain ⟨_, _, _, _, _, _, _, _, _, _, _, _, z⟩ := h
    exact z
end VL

/-! VL23: runs reckoned. -/
namespace VL
open PySem PySem.Spec PyProof.Rows L2
theorem prg_hit {G : Str → Option D} {x : Str} {f : FnD} {t : Tbl} : (prg G ((x, f) :: t)).fns x = some (f.run (prg G t)) := if_pos rfl
theorem prg_miss {G : Str → Option D} {x y : Str} {f : FnD} {t : Tbl} (h : y ≠ x) : (prg G ((x, f) :: t)).fns y = (prg G t).fns y := if_neg h
@[simp] theorem dEqD_int {n : Bool} {a : Int} {y : D} : dEqD n [.int a, y] = dEq n [.int a, y] := rfl
@[simp] theorem dEqD_str {n : Bool} {a : List Nat} {y : D} : dEqD n [.str a, y] = dEq n [.str a, y] := rfl
@[simp] theorem dEqD_bl {n : Bool} {a : Bool} {y : D} : dEqD n [.bl a, y] = dEq n [.bl a, y] := rfl
@[simp] theorem dEqD_tup {n : Bool} {a : List D} {y : D} : dEqD n [.tup a, y] = dEq n [.tup a, y] := rfl
@[simp] theorem dEqD_lst {n o : Bool} {a : List D} {y : D} : dEqD n [.lst o a, y] = dEq n [.lst o a, y] := rfl
@[simp] theorem dEqD_non {n : Bool} {y : D} : dEqD n [.non, y] = dEq n [.non, y] := rfl
@[simp] theorem slot0 {d : D} {ρ : Rho} : slotOf (some d :: ρ) 0 = some d := rfl
@[simp] theorem slotS {x : Option D} {ρ : Rho} {i : Nat} : slotOf (x :: ρ) (i + 1) = slotOf ρ i := rfl
@[simp] theorem fin_nx {f : FnD} {ρ : Rho} : f.fin (.nx ρ) = .ok .non (f.ends ρ) := rfl
@[simp] theorem fin_rt {f : FnD} {d : D} {ρ : Rho} : f.fin (.rt d ρ) = .ok d (f.ends ρ) := rfl
@[simp] theorem fin_ex {f : FnD} {x : Xn} {ρ : Rho} : f.fin (.ex x ρ) = .exc x (f.ends ρ) := rfl
theorem run_eq {f : FnD} {P : Prg} {ds : List D} (h : ds.length = f.ps.length) : f.run P ds = f.fin (evSs P f.body (ds.map some ++ List.replicate (f.N.length - f.ps.length) none)) := if_pos h
theorem mul_is {a b : Int} (h : (-(2 ^ 64) < a ∧ a < 2 ^ 64) ∨ (-(2 ^ 64) < b ∧ b < 2 ^ 64)) : dMul [.int a, .int b] = some (.int (a * b)) := by
  simp only [dMul]
  exact if_pos h
theorem immL_ints (xs : List Int) : immL (xs.map D.int) = true := immL_iff.mpr fun d hd => by
  obtain ⟨i, _, rfl⟩ := List.mem_map.mp hd
  rfl
theorem immL_txts (xs : List (List Nat)) : immL (xs.map D.str) = true := immL_strs xs
theorem intsOf_map : ∀ xs : List Int, intsOf (xs.map D.int) = some xs
  | [] => rfl
  | x :: xs => by simp [intsOf, intsOf_map xs]
theorem strsOf_map : ∀ xs : List (List Nat), strsOf (xs.map D.str) = some xs
  | [] => rfl
  | x :: xs => by simp [strsOf, strsOf_map xs]
theorem cut_map {α β : Type} (f : α → β) (xs : List α) (lo hi : Option Int) : cutL (xs.map f) lo hi = (cutL xs lo hi).map f := by
  unfold cutL
  simp [List.map_take, List.map_drop]
section
variable {P : Prg} {ρ ρ' : Rho} {c : Sx} {cs a b : List Sx} {d : D} {t : Ex}
theorem ss_nx (h : evS P c ρ = .nx ρ') : evSs P (c :: cs) ρ = evSs P cs ρ' := by simp only [evSs, h, sth_nx]
theorem ss_rt (h : evS P c ρ = .rt d ρ') : evSs P (c :: cs) ρ = .rt d ρ' := by simp only [evSs, h, sth_rt]
theorem ss_nil : evSs P [] ρ = .nx ρ := by simp only [evSs]
theorem if_t (h : evX P t ρ = .ok (.bl true) ρ') : evS P (.ifS t a b) ρ = evSs P a ρ' := by simp only [evS, h, to_ok, onBS_t]
theorem if_f (h : evX P t ρ = .ok (.bl false) ρ') : evS P (.ifS t a b) ρ = evSs P b ρ' := by simp only [evS, h, to_ok, onBS_f]
theorem posOf_none {ρ : Rho} {i : Nat} {os : List Opd} (h : i ∉ lent ρ os) : posOf ρ i os = none := by
  cases e : posOf ρ i os with
  | none => rfl
  | some j =>
    exfalso
    have q := posOf_some e
    have : ∀ (os : List Opd) (j : Nat), os[j]? = some (.b i) → hasOwn ρ i = true → i ∈ lent ρ os := by
      intro os
      induction os with
      | nil => intro j h _; simp at h
      | cons o os ih =>
        intro j hj ho
        cases j with
        | zero =>
          simp only [List.getElem?_cons_zero, Option.some.injEq] at hj
          subst hj
          simp only [lent, ho, if_true]
          exact List.mem_cons_self
        | succ j =>
          simp only [List.getElem?_cons_succ] at hj
          have m := ih j hj ho
          cases o with
          | b k =>
            simp only [lent]
            split
            · exact List.mem_cons_of_mem _ m
            · exact m
          | o d => simpa only [lent] using m
    exact h (this os j q.1 q.2)
theorem back_none {os : List Opd} {xs : Rho} (h : lent ρ os = []) : back ρ os xs = ρ := by
  apply List.ext_getElem?
  intro i
  rw [back_at, posOf_none (by rw [h]; exact List.not_mem_nil)]
  cases ρ[i]? <;> rfl
theorem back_one {os : List Opd} {xs : Rho} {i j : Nat} (h : lent ρ os = [i]) (hj : posOf ρ i os = some j) : back ρ os xs = ρ.set i (xs[j]?).join := by
  apply List.ext_getElem?
  intro k
  rw [back_at]
  by_cases e : k = i
  · subst e
    rw [hj]
    have hl : k < ρ.length := by
      have ho := (posOf_some hj).2
      obtain ⟨d, hd, _⟩ := hasOwn_some ho
      have q := slotOf_some hd
      rcases Nat.lt_or_ge k ρ.length with z | z
      · exact z
      · rw [List.getElem?_eq_none z] at q; cases q
    rw [List.getElem?_set_self hl, List.getElem?_eq_getElem hl]
    rfl
  · rw [posOf_none (by rw [h]; exact fun z => e (List.mem_singleton.mp z)), List.getElem?_set_ne (Ne.symm e)]
    cases ρ[k]? <;> rfl
/-- a call that is lent nothing of one's own -/
theorem call_imm {run : FnR} {os : List Opd} {ds : List D} {xs : Rho} (g : getAll ρ os = some ds) (l : lent ρ os = []) (h : run ds = .ok d xs) : callX run os ρ = .ok d ρ := by
  unfold callX
  simp only [g, optX_some, l, noDup, if_true, h, back_none l]
/-- a call that is lent one slot -/
theorem call_one {run : FnR} {os : List Opd} {ds : List D} {xs : Rho} {i j : Nat} (g : getAll ρ os = some ds) (l : lent ρ os = [i]) (hj : posOf ρ i os = some j) (h : run ds = .ok d xs) : callX run os ρ = .ok d (ρ.set i (xs[j]?).join) := by
  unfold callX
  simp only [g, optX_some, l, noDup, List.contains_nil, Bool.not_false, Bool.true_and, if_true, h, back_one l hj]
end
/-! ### loops -/
theorem forX_inv {step : D → Rho → RS} (I : Nat → Rho → Prop) : ∀ {items : List D} (k : Nat) (h : ∀ i x ρ, items[i]? = some x → I (k + i) ρ → ∃ ρ', step x ρ = .nx ρ' ∧ I (k + i + 1) ρ') {ρ : Rho}, I k ρ → ∃ ρ', forX step items ρ = .nx ρ' ∧ I (k + items.length) ρ'
  | [], k, h, ρ, hi => ⟨ρ, rfl, hi⟩
  | x :: xs, k, h, ρ, hi => by
    obtain ⟨ρ1, e1, i1⟩ := h 0 x ρ rfl hi
    obtain ⟨ρ2, e2, i2⟩ := forX_inv I (items := xs) (k + 1) (fun i y ρ hy q => by
      have := h (i + 1) y ρ (by simpa using hy) (by rw [show k + (i + 1) = k + 1 + i by omega]; exact q)
      rw [show k + (i + 1) + 1 = k + 1 + i + 1 by omega] at this
      exact this) i1
    refine ⟨ρ2, ?_, by rw [List.length_cons, show k + (xs.length + 1) = k + 1 + xs.length by omega]; exact i2⟩
    unfold forX
    rw [e1]
    exact e2
theorem compX_inv {step : D → Rho → RX (Option D)} (I : Nat → List D → Rho → Prop) : ∀ {items : List D} (k : Nat) (h : ∀ i x acc ρ, items[i]? = some x → I (k + i) acc ρ → ∃ y ρ', step x ρ = .ok (some y) ρ' ∧ I (k + i + 1) (acc ++ [y]) ρ') {acc : List D} {ρ : Rho}, I k acc ρ →
    ∃ ys ρ', compX step acc items ρ = .ok ys ρ' ∧ I (k + items.length) ys ρ'
  | [], k, h, acc, ρ, hi => ⟨acc, ρ, rfl, hi⟩
  | x :: xs, k, h, acc, ρ, hi => by
    obtain ⟨y, ρ1, e1, i1⟩ := h 0 x acc ρ rfl hi
    obtain ⟨ys, ρ2, e2, i2⟩ := compX_inv I (items := xs) (k + 1) (fun i y acc ρ hy q => by
      have := h (i + 1) y acc ρ (by simpa using hy) (by rw [show k + (i + 1) = k + 1 + i by omega]; exact q)
      rw [show k + (i + 1) + 1 = k + 1 + i + 1 by omega] at this
      exact this) i1
    refine ⟨ys, ρ2, ?_, by rw [List.length_cons, show k + (xs.length + 1) = k + 1 + xs.length by omega]; exact i2⟩
    unfold compX
    rw [e1]
    exact e2
theorem compP_map {step : D → Option (Option D)} (f : D → D) : ∀ {items acc : List D}, (∀ x ∈ items, step x = some (some (f x))) → compP step acc items = some (acc ++ items.map f)
  | [], acc, _ => by simp [compP]
  | x :: xs, acc, h => by
    unfold compP
    rw [h x List.mem_cons_self]
    simp only
    rw [compP_map f fun y hy => h y (List.mem_cons_of_mem _ hy)]
    simp
theorem compP_none {step : D → Option (Option D)} : ∀ {items acc : List D}, (∀ x ∈ items, step x = some none) → compP step acc items = some acc
  | [], acc, _ => rfl
  | x :: xs, acc, h => by
    unfold compP
    rw [h x List.mem_cons_self]
    exact compP_none fun y hy => h y (List.mem_cons_of_mem _ hy)
theorem rng_imm {lo : Int} {n : Nat} : immL (rngItems lo n) = true := immL_iff.mpr fun d hd => by
  obtain ⟨i, _, rfl⟩ := List.mem_map.mp hd
  rfl
theorem rng_len {lo : Int} {n : Nat} : (rngItems lo n).length = n := by simp [rngItems]
theorem rng_at {n i : Nat} {x : D} (h : (rngItems 0 n)[i]? = some x) : i < n ∧ x = .int i := by
  unfold rngItems at h
  rw [List.getElem?_map] at h
  by_cases hi : i < n
  · rw [List.getElem?_range hi] at h
    simp only [Option.map_some, Option.some.injEq] at h
    exact ⟨hi, by rw [← h]; simp⟩
  · rw [List.getElem?_eq_none (by simpa using hi)] at h; cases h
theorem nat_small {n : Nat} (h : n ≤ 1000000) : -(2 ^ 62) ≤ (n : Int) ∧ (n : Int) < 2 ^ 62 := ⟨by omega, by omega⟩
theorem src_rng {n : Nat} (h : n ≤ 1000000) : srcItems .rng [.int n] = some (rngItems 0 n) := by
  have e : srcItems .rng [.int n] = if -(2 ^ 62) ≤ (n : Int) ∧ (n : Int) < 2 ^ 62 then some (rngItems 0 (n : Int).toNat) else none := by rw [srcItems]
  rw [e, if_pos (nat_small h), Int.toNat_natCast]
section
variable {P : Prg} {ρ ρ' : Rho} {b : List Sx} {p : Pat}
/-- a for over what has come -/
theorem for_is {k : SrcK} {ss : List Ex} {os : List Opd} {ds items : List D} (he : evOps P ss ρ = .ok os ρ') (hg : getAll ρ' os = some ds) (hl : lent ρ' os = []) (hs : srcItems k ds = some items) (hi : immL items = true) :
    evS P (.forS p k ss b) ρ = forX (fun d ρ1 => optS (bindP p d ρ1) (evSs P b)) items ρ' := by
  rw [evS, he, to_ok, hg, optS_some, if_pos hl, hs, optS_some, if_pos hi]
/-- for i in range(a number) -/
theorem for_rng {e : Ex} {o : Opd} {n : Nat} (he : evOps P [e] ρ = .ok [o] ρ) (hg : getAll ρ [o] = some [.int n]) (hl : lent ρ [o] = []) (hn : n ≤ 1000000) :
    evS P (.forS p .rng [e] b) ρ = forX (fun d ρ1 => optS (bindP p d ρ1) (evSs P b)) (rngItems 0 n) ρ := for_is he hg hl (src_rng hn) rng_imm
end
theorem atI_map {α β : Type} (f : α → β) (xs : List α) (i : Int) : L2.atI (xs.map f) i = (L2.atI xs i).map f := by
  unfold L2.atI
  rw [List.length_map]
  cases ixN xs.length i with
  | none => rfl
  | some j => simp
theorem atI_in {α : Type} {xs : List α} {i : Int} (h0 : 0 ≤ i) (h1 : i < xs.length) : ∃ x, L2.atI xs i = some x := by
  unfold L2.atI ixN
  rw [if_pos h0, if_pos h1]
  refine ⟨xs[i.toNat]'(by omega), ?_⟩
  simp only [Option.bind_some]
  exact List.getElem?_eq_getElem (by omega)
theorem eqz {i j : Int} : dEq false [.int i, .int j] = some (.bl (i == j)) := by simp [dEq, D.depth, eqD]
theorem nez {i j : Int} : dEq true [.int i, .int j] = some (.bl (!(i == j))) := by simp [dEq, D.depth, eqD]
section
variable {G : Str → Option D} {ρ : Rho} {a b c : Ex} {x y z d : D} {o : Op}
theorem v_lit : evP G (.lit d) ρ = some d := rfl
theorem v_1 (h1 : evP G a ρ = some x) (h : applyOp o [x] = some d) : evP G (.node o [a]) ρ = some d := by
  simp only [evP, evPs, h1, Option.map_some, Option.bind_some, h]
theorem v_2 (h1 : evP G a ρ = some x) (h2 : evP G b ρ = some y) (h : applyOp o [x, y] = some d) : evP G (.node o [a, b]) ρ = some d := by
  simp only [evP, evPs, h1, h2, Option.map_some, Option.bind_some, h]
theorem v_3 (h1 : evP G a ρ = some x) (h2 : evP G b ρ = some y) (h3 : evP G c ρ = some z) (h : applyOp o [x, y, z] = some d) : evP G (.node o [a, b, c]) ρ = some d := by
  simp only [evP, evPs, h1, h2, h3, Option.map_some, Option.bind_some, h]
theorem v_and {p q : Bool} (h1 : evP G a ρ = some (.bl p)) (h2 : p = true → evP G b ρ = some (.bl q)) : evP G (.and a b) ρ = some (.bl (p && q)) := by
  cases p with
  | true => simp only [evP, h1, h2 rfl, Bool.true_and]
  | false => simp only [evP, h1, Bool.false_and]
theorem v_or {p q : Bool} (h1 : evP G a ρ = some (.bl p)) (h2 : p = false → evP G b ρ = some (.bl q)) : evP G (.or a b) ρ = some (.bl (p || q)) := by
  cases p with
  | true => simp only [evP, h1, Bool.true_or]
  | false => simp only [evP, h1, h2 rfl, Bool.false_or]
theorem v_not {p : Bool} (h1 : evP G a ρ = some (.bl p)) : evP G (.not a) ρ = some (.bl (!p)) := by simp only [evP, h1]
/-- lo <= x < hi -/
theorem v_in {i j k : Int} (h1 : evP G a ρ = some (.int i)) (h2 : evP G b ρ = some (.int j)) (h3 : evP G c ρ = some (.int k)) : evP G (.chain .LtE .Lt a b c) ρ = some (.bl (decide (i ≤ j) && decide (j < k))) := by
  simp only [evP, h1, h2, dCmpO, dCmp]
  by_cases h : i ≤ j
  · simp only [h, decide_true, h3, Bool.true_and]
  · simp only [h, decide_false, Bool.false_and]
/-- without effect: what stands -/
theorem x_of {P : Prg} (hp : pureC a = true) (h : evP P.G a ρ = some d) (hi : (d.imm || det a) = true) : evX P a ρ = .ok d ρ := by
  rw [evX_pure hp, pureX, h, optX_some, if_pos hi]
/-- name = a value -/
theorem s_asg {P : Prg} {ρ' : Rho} {i : Nat} (h : evX P a ρ = .ok d ρ') (hi : i < ρ'.length) : evS P (.asg (.nm i) a) ρ = .nx (ρ'.set i (some d)) := by
  rw [evS, h, to_ok]
  simp only [bindP, if_pos hi, optS_some]
end
/-- x.append(a value) -/
theorem s_app {P : Prg} {ρ ρ' : Rho} {a : Ex} {d : D} {i : Nat} {xs0 xs : List D} (h0 : slotOf ρ i = some (.lst true xs0)) (h : evX P a ρ = .ok d ρ') (h1 : slotOf ρ' i = some (.lst true xs)) (hl : xs.length < LIM) :
    evS P (.mut .app i [] [a]) ρ = .nx (ρ'.set i (some (.lst true (xs ++ [d])))) := by
  rw [evS]
  simp only [evPs, Option.bind_some, intsD, optS_some, h0, leafD, List.isEmpty_nil, if_true, h, to_ok, mutX, h1, MOp.run, if_pos hl, putD]
/-- return a value -/
theorem s_ret {P : Prg} {ρ ρ' : Rho} {a : Ex} {d : D} (h : evX P a ρ = .ok d ρ') : evS P (.ret a) ρ = .rt d ρ' := by rw [evS, h, to_ok]
theorem x_tk {P : Prg} {ρ : Rho} {i : Nat} {xs : List D} (h : slotOf ρ i = some (.lst true xs)) : evX P (.tk i) ρ = .ok (.lst true xs) (ρ.set i none) := by
  rw [evX, h, optX_some, takeX, if_neg (by simp [D.imm])]
theorem lim_lt {n : Nat} (h : n < 1000) : n < LIM := Nat.lt_of_lt_of_le h (by decide)
theorem lim_le {n : Nat} (h : n < 100000) : n ≤ LIM := Nat.le_trans (Nat.le_of_lt h) (by decide)
/-- a name takes an item -/
theorem nm_to {i : Nat} {d : D} {ρ : Rho} {f : Rho → RS} (h : i < ρ.length) : optS (bindP (.nm i) d ρ) f = f (ρ.set i (some d)) := by
  simp only [bindP, if_pos h, optS_some]
/-- name = a value, the slots behind it given -/
theorem s_as {P : Prg} {ρ ρ1 ρ' : Rho} {i : Nat} {a : Ex} {d : D} (h : evX P a ρ = .ok d ρ1) (e : ρ1.set i (some d) = ρ') (hi : i < ρ1.length) : evS P (.asg (.nm i) a) ρ = .nx ρ' := e ▸ s_asg h hi
theorem eqs {a b : List Nat} : dEq false [.str a, .str b] = some (.bl (a == b)) := by simp [dEq, D.depth, eqD]
theorem nes {a b : List Nat} : dEq true [.str a, .str b] = some (.bl (!(a == b))) := by simp [dEq, D.depth, eqD]
theorem add_int {a b : Int} : dAdd [.int a, .int b] = some (.int (a + b)) := rfl
theorem sub_int {a b : Int} : dSub [.int a, .int b] = some (.int (a - b)) := rfl
/-! ### comprehensions -/
def stepP (G : Str → Option D) (vs : List Nat) (elt : Ex) (p : Pat) (ifs : List Ex) (ρ : Rho) (d : D) : Option (Option D) := match bindP p d (wipeR ρ vs) with
  | some ρ1 => match evTs G ifs ρ1 with
    | some true => (evP G elt ρ1).map some
    | some false => some none
    | none => none
  | none => none
theorem v_comp {G : Str → Option D} {own : List (Str × Nat)} {elt : Ex} {p : Pat} {k : SrcK} {ss ifs : List Ex} {ρ : Rho} {ds items ys : List D} (he : evPs G ss ρ = some ds) (hs : srcItems k ds = some items) (hl : items.length ≤ LIM)
    (hc : compP (stepP G (own.map (·.2)) elt p ifs ρ) [] items = some ys) (hi : immL ys = true) : evP G (.comp own elt p k ss ifs) ρ = some (.lst true ys) := by
  rw [evP, he]
  simp only [hs, if_pos hl]
  split
  · rename_i ys' h
    have q : some ys' = some ys := h.symm.trans hc
    cases q
    exact if_pos hi
  · rename_i h
    have q : none = some ys := h.symm.trans hc
    cases q
def stepX (P : Prg) (vs : List Nat) (elt : Ex) (p : Pat) (ifs : List Ex) (d : D) (ρ1 : Rho) : RX (Option D) := optX (bindP p d ρ1) fun ρ2 => (evXt P ifs ρ2).th fun b ρ3 =>
        if b = true then (evX P elt ρ3).th fun y ρ4 => .ok (some y) (wipeR ρ4 vs) else .ok none (wipeR ρ3 vs)
theorem x_comp {P : Prg} {own : List (Str × Nat)} {elt : Ex} {p : Pat} {k : SrcK} {ss ifs : List Ex} {ρ ρ0 ρ' : Rho} {os : List Opd} {ds items ys : List D} (hp : (pureC elt && flatE elt && pureCs ss && pureCs ifs) = false)
    (he : evOps P ss ρ = .ok os ρ0) (hg : getAll ρ0 os = some ds) (hl : lent ρ0 os = []) (hs : srcItems k ds = some items) (hn : items.length ≤ LIM) (hi : immL items = true)
    (hc : compX (stepX P (own.map (·.2)) elt p ifs) [] items (wipeR ρ0 (own.map (·.2))) = .ok ys ρ') : evX P (.comp own elt p k ss ifs) ρ = .ok (.lst true ys) (mergeR (own.map (·.2)) ρ0 ρ') := by
  rw [evX, if_neg (by rw [hp]; exact Bool.false_ne_true), he, th_ok, hg, optX_some, if_pos hl, hs, optX_some, if_pos ⟨hn, hi⟩]
  have e : compX (fun d ρ1 => optX (bindP p d ρ1) fun ρ2 => (evXt P ifs ρ2).th fun b ρ3 =>
        if b = true then (evX P elt ρ3).th fun y ρ4 => .ok (some y) (wipeR ρ4 (own.map (·.2))) else .ok none (wipeR ρ3 (own.map (·.2)))) [] items (wipeR ρ0 (own.map (·.2))) = .ok ys ρ' := hc
  rw [e, th_ok]
theorem stepX_is {P : Prg} {vs : List Nat} {elt : Ex} {p : Pat} {d y : D} {ρ1 ρ2 ρ4 : Rho} (hb : bindP p d ρ1 = some ρ2) (he : evX P elt ρ2 = .ok y ρ4) : stepX P vs elt p [] d ρ1 = .ok (some y) (wipeR ρ4 vs) := by
  unfold stepX
  rw [hb, optX_some, evXt, th_ok, if_pos rfl, he, th_ok]
theorem joinL_nil : ∀ ys : List (List Nat), TL.joinL [] ys = ys.flatten
  | [] => rfl
  | [x] => by simp [TL.joinL]
  | x :: y :: ys => by
    have := joinL_nil (y :: ys)
    simp [TL.joinL] at this ⊢
    exact this
end VL

/-! VLS: str of a pair of numbers: some text. -/
namespace VL
open PySem PySem.Spec PyProof.Rows L2

section
variable {prog : Program} {w : World} {A : Around} {E : Value → Shared → Prop} {s : Shared}
theorem str_tuple_call {a : Addr} {items : Array Value} {ts : List Str} {Q : Value → Shared → Prop} (ha : IsTup s.heap a items) (hT : ∀ (prog : Program) (w : World), ReprAll prog w items.toList ts) (hsz : (tupleText ts).length ≤ sizeLine) (hu : A.units + 3 < cLine)
    (h : ∀ (m : Str) (u tk : Tok), m.length ≤ (tupleText ts).length + 5 → Q (.str m u) { s with toks := tk }) : wpAny (model prog w) A (call (.type "str") [.ref a]) Q E s := by
  refine callType_new F.called_str (by decide) (F.typeCall_str_1 _) (F.newCall_str_1 _) (fun obj => F.args_object_init_2 obj _) F.entry_str_new
    (meets_str_new (S := fun A' R s' => A'.units + 2 < cLine ∧ IsTup s'.heap a items ∧ ∀ (m : Str) (u tk : Tok), m.length ≤ (tupleText ts).length + 5 → R (.ok (.ret (.str m u))) { s' with toks := tk })
      fun prog' w' A' R s' hq => ?_)
    ⟨by show A.units + 1 + 2 < cLine; omega, ha, fun m u tk hm => ⟨typeIs_str _ _ _, h m u tk hm⟩⟩
  obtain ⟨h1, ⟨o, ho, hc, n, hd⟩, h3⟩ := hq
  refine wpAny_strOf_slot (T := "tuple") rfl (by show A'.units + 1 + 1 < cLine; omega) ⟨o, ho, hc⟩ F.slot_tuple_str F.slot_tuple_repr ?_
  exact fmt_tuple_repr ho hc hd (hT prog' w') hsz fun m u tk hm => ⟨m, u, rfl, h3 m u tk hm⟩
end
/-- the text of a number, of a pair of numbers -/
def rStrA (K : PySem.W.Frag) : List V → Hp → VK → Prop := fun xs H Q => (∃ i, xs = [.int i] ∧ i.natAbs.log2 < 1920 ∧ Q (.str (toString i)) H) ∨
  ∃ (b : Addr) (i j : Int), xs = [.ref b] ∧ SqT K H b [.int i, .int j] ∧ i.natAbs.log2 < 1920 ∧ j.natAbs.log2 < 1920 ∧ (tupleText [toString i, toString j]).length ≤ 4000000 ∧ ∀ m : Str, m.length ≤ 4000005 → Q (.str m) H
theorem strA_ok {X : Cx} (hu : X.A.units + 65 < cLine) : CallR X (.type "str") (rStrA X.K) := by
  intro pins s σ H xs us Q I r h
  rcases h with ⟨i, rfl, hi, q⟩ | ⟨b, i, j, rfl, hb, hi, hj, hz, q⟩
  · exact call_str_int pins s σ H [.int i] us Q I r ⟨i, rfl, hi, q⟩
  · cases r with
    | cons r0 rn =>
      cases rn
      cases r0
      obtain ⟨its, rv, ht, _⟩ := I.tuple hb
      cases rv with
      | cons r1 rr =>
        cases rr with
        | cons r2 rr =>
          cases rr
          obtain ⟨t1, rfl⟩ := r1
          obtain ⟨t2, rfl⟩ := r2
          refine str_tuple_call (ts := [toString i, toString j]) ht (fun prog w => .cons (ReprIs.int _ hi) (.cons (ReprIs.int _ hj) .nil)) (by have := lim_eq; have : (LIM : Nat) = 16777216 := rfl; omega) (by omega) fun m u tk hm => ⟨.str m, H, I.tok _, ⟨u, rfl⟩, q m (by omega)⟩
end VL

/-! VL24: the module's constants and classes. -/
namespace VL
open PySem PySem.Spec PyProof.Rows L2

/-- a value that stands in the written part, as data -/
def RK (K : KW) (d : D) (v : V) (u : Value) : Prop := RelV v u ∧ ∀ H, Rep K H d v []
inductive RKs (K : KW) : List D → List V → List Value → Prop
  | nil : RKs K [] [] []
  | cons {d : D} {ds : List D} {v : V} {vs : List V} {u : Value} {us : List Value} : RK K d v u → RKs K ds vs us → RKs K (d :: ds) (v :: vs) (u :: us)
/-- a global name's data -/
def QG (K : KW) (mg : Str → Option Value) (y : Str) (d : D) : Prop := ∃ v u, mg y = some u ∧ RelV v u ∧ ∀ H, Rep K H d v []
section
variable {K : KW} {mg : Str → Option Value}
theorem RKs.vals : ∀ {ds : List D} {vs : List V} {us : List Value}, RKs K ds vs us → Vals vs us
  | _, _, _, .nil => .nil
  | _, _, _, .cons r rs => .cons r.1 rs.vals
theorem RKs.reps (H : Hp) : ∀ {ds : List D} {vs : List V} {us : List Value}, RKs K ds vs us → Reps K H ds vs []
  | _, _, _, .nil => .nil
  | _, _, _, .cons r rs => Reps.cons (f := []) (g := []) (r.2 H) (rs.reps H) nilF
theorem rk_int {i : Int} {t : Tok} : RK K (.int i) (.int i) (.int i t) := ⟨⟨t, rfl⟩, fun _ => .int i⟩
theorem rk_str {s : List Nat} {t : Tok} (h : okS s = true) : RK K (.str s) (.str ⟨s.toArray⟩) (.str ⟨s.toArray⟩ t) := ⟨⟨t, rfl⟩, fun _ => .str s h⟩
theorem rk_tup {a : Addr} {od : Option Addr} {us : List Value} {n : Nat} {sl : Array (Option Value)} {ds : List D} {vs : List V} (h : K.lookup a = some ⟨.type "tuple", od, .seq us.toArray n, sl⟩) (hz : us.length ≤ 1000) (r : RKs K ds vs us) : RK K (.tup ds) (.ref a) (.ref a) :=
  ⟨rfl, fun H => .tup (.inr ⟨_, us.toArray, n, h, rfl, rfl, by rw [List.size_toArray, lim_eq]; exact Nat.le_trans hz (by decide), r.vals⟩) (r.reps H)⟩
theorem RK.qg {y : Str} {d : D} {v : V} {u : Value} (r : RK K d v u) (m : mg y = some u) : QG K mg y d := ⟨v, u, m, r.1, r.2⟩
/-- a table of the top with texts as keys -/
inductive RKd (K : KW) (a : Addr) : List (List Nat) → List D → List (Str × V) → Prop
  | nil : RKd K a [] [] []
  | cons {s : Str} {x : List Nat} {d : D} {v : V} {u : Value} {ks : List (List Nat)} {ds : List D} {kvs : List (Str × V)} : s.cps.toList = x → PySem.W.nsIn K a s = some (some u) → RK K d v u → RKd K a ks ds kvs → RKd K a (x :: ks) (d :: ds) ((s, v) :: kvs)
theorem RKd.ks {K : KW} {a : Addr} : ∀ {ks : List (List Nat)} {ds : List D} {kvs : List (Str × V)}, RKd K a ks ds kvs → ks = kvs.map fun p => p.1.cps.toList
  | _, _, _, .nil => rfl
  | _, _, _, .cons e _ _ r => by rw [List.map_cons, ← r.ks, e]
theorem RKd.reps {K : KW} {a : Addr} (H : Hp) : ∀ {ks : List (List Nat)} {ds : List D} {kvs : List (Str × V)}, RKd K a ks ds kvs → Reps K H ds (kvs.map (·.2)) []
  | _, _, _, .nil => .nil
  | _, _, _, .cons _ _ k r => Reps.cons (f := []) (g := []) (k.2 H) (r.reps H) fun _ z => by cases z
theorem RKd.all {K : KW} {a : Addr} {es : Array DictEntry} {n : Nat} (hl : K.lookup a = some ⟨.type "dict", none, .dict es n, #[]⟩) (hk : PySem.W.KeysLit K.w.params es.toList) : ∀ {ks : List (List Nat)} {ds : List D} {kvs : List (Str × V)}, RKd K a ks ds kvs → ∀ p ∈ kvs, KDct K K.w a p.1 p.2
  | _, _, _, .nil, _, h => by cases h
  | _, _, _, .cons e g k r, p, h => by
    rcases List.mem_cons.mp h with rfl | h
    · exact ⟨es, n, _, hl, hk, g, k.1⟩
    · exact r.all hl hk p h
theorem q_dks {K : KW} {mg : Str → Option Value} {y : Str} {a : Addr} {es : Array DictEntry} {n : Nat} {ks : List (List Nat)} {ds : List D} {kvs : List (Str × V)} (m : mg y = some (.ref a)) (hl : K.lookup a = some ⟨.type "dict", none, .dict es n, #[]⟩) (hk : PySem.W.KeysLit K.w.params es.toList) (r : RKd K a ks ds kvs) : QG K mg y (.dks ks ds) :=
  ⟨.ref a, .ref a, m, rfl, fun H => .dks (.inr (r.all hl hk)) r.ks (r.reps H)⟩
theorem xis_mk {c : String} {C : Addr} (g : PySem.W.nsIn K mainGlobals (Str.ofString c) = some (some (.ref C))) (hd : PySem.W.hasDictIn K C = true)
    (ga : PySem.W.findIn K (.ref C) "__getattribute__" = some (some (.builtin "BaseException.__getattribute__"))) (gt : PySem.W.findIn K (.ref C) "__getattr__" = some none) (sub : PySem.W.subIn K (.ref C) (.type "BaseException") = some true)
    (ha : PySem.W.findIn K (.ref C) "__class__" = some (some (.builtin "object.__class__"))) (hn : PySem.W.specialIn K (.builtin "object.__class__") "__get__" = some (some (.builtin "getset_descriptor.__get__"))) (ht : PySem.W.takesIn K (.builtin "object.__class__") = some true)
    (so : PySem.W.subIn K (.ref C) (.type "object") = some true) (sv : PySem.W.subIn K (.ref C) (.type "ValueError") = some true) (ty : PySem.W.typeIn K (.ref C) = some (.type "type")) (kp : PySem.W.keepIn K (.ref C) = true) : XIs K c C where
  gc := by unfold clsOf; rw [g]
  cl := by
    unfold PySem.W.hasDictIn at hd
    cases e : PySem.W.clsIn K C with
    | none => rw [e] at hd; cases hd
    | some _ => rfl
  ga := ga
  gt := gt
  sub := sub
  hd := hd
  ha := ha
  hn := hn
  ht := ht
  hm := so
  ve := by
    unfold PySem.W.kitOne
    rw [if_neg (show ¬ ((Value.ref C == Value.type "ValueError") = true) from fun z => by have := beq_iff_eq.mp z; cases this)]
    show (if PySem.W.kitMeta "ValueError" = true then PySem.W.subIn K (.ref C) (.type "ValueError") else none) = some true
    rw [if_pos (by decide +kernel)]
    exact sv
  ty := ty
  kp := kp
theorem kit_sub {E C : Addr} {b : Bool} {c : String} (i : XIs K c C) (self : PySem.W.subIn K (.ref C) (.ref C) = some true) (s : PySem.W.subIn K (.ref E) (.ref C) = some b) : PySem.W.kitOne K (.ref E) (.ref C) = some b := by
  unfold PySem.W.kitOne
  split
  · rename_i e
    have e := beq_iff_eq.mp e
    cases e
    rw [self] at s
    exact s
  · show (if ((PySem.W.clsIn K C).isSome && PySem.W.typeIn K (.ref C) == some (.type "type")) = true then PySem.W.subIn K (.ref E) (.ref C) else none) = some b
    rw [i.cl, i.ty, if_pos (by simp)]
    exact s
theorem exm_sub {E C : Addr} {b : Bool} {c : String} (i : XIs K c C) (s : PySem.W.subIn K (.ref E) (.ref C) = some b) : PySem.W.exmOne K (.ref E) (.ref C) = some b := by
  unfold PySem.W.exmOne
  rw [i.sub, if_pos (by simp)]
  show (if ((PySem.W.clsIn K C).isSome && PySem.W.typeIn K (.ref C) == some (.type "type")) = true then PySem.W.subIn K (.ref E) (.ref C) else none) = some b
  rw [i.cl, i.ty, if_pos (by simp)]
  exact s
/-- who is (not) under a class -/
def Und (K : KW) (C : Addr) (b : Bool) (ns : List String) : Prop := ∀ s ∈ ns, ∃ E, PySem.W.nsIn K mainGlobals (Str.ofString s) = some (some (.ref E)) ∧ PySem.W.subIn K (.ref E) (.ref C) = some b
theorem und_nil {C : Addr} {b : Bool} : Und K C b [] := fun _ h => nomatch h
theorem und_cons {C E : Addr} {b : Bool} {s : String} {ns : List String} (g : PySem.W.nsIn K mainGlobals (Str.ofString s) = some (some (.ref E))) (h : PySem.W.subIn K (.ref E) (.ref C) = some b) (r : Und K C b ns) : Und K C b (s :: ns) := fun x hx => by
  rcases List.mem_cons.mp hx with e | e
  · subst e; exact ⟨E, g, h⟩
  · exact r x e
theorem v_var0 {G : Str → Option D} {ρ : Rho} {i : Nat} {d : D} (h : slotOf ρ i = some d) : evP G (.var i) ρ = some d := by simp only [evP]; exact h
theorem clsOf_is {s : String} {E : Addr} (g : PySem.W.nsIn K mainGlobals (Str.ofString s) = some (some (.ref E))) : clsOf K s = some E := by unfold clsOf; rw [g]
/-- an own __init__: TurnError's, then the number is kept -/
def iniBody (sn pn f : Str) (pre : List Nat) (sc : Scope) : List Stmt → Bool
  | [.Expr (.Call (.Attribute (.Name t _) i ap) [.Name s1 p1, .BinOp (.Constant (.str ps) _ _) .Add (.Call (.Name sy _) [.Name v1 p4] [] _) _] [] cp) _, .Assign [.Attribute (.Name s2 p2) f2 _] (.Name v2 p3) _] =>
    decide (t = ("TurnError" : Str)) && gl sc t && decide (i = ("__init__" : Str)) && mE [sn, pn] sc (fun _ => true) (.var 0) (.Name s1 p1) && decide (ps.cps.toList = pre) && decide (sy = ("str" : Str)) && gl sc sy && mE [sn, pn] sc (fun _ => true) (.var 1) (.Name v1 p4) &&
      mE [sn, pn] sc (fun _ => true) (.var 0) (.Name s2 p2) && decide (f2 = f) && mE [sn, pn] sc (fun _ => true) (.var 1) (.Name v2 p3) && decide (pre.length ≤ 1000) && (ap.endLine == cp.line)
  | _ => false
theorem pe_tinit {X : Cx} {C0 : Addr} {e : Expr} {es : List Expr} {ta : TA} {p1 p2 pos : Pos} (hg : Gl X "TurnError") (hm : X.mg "TurnError" = some (.ref C0)) (h1 : PySem.W.specialIn X.kw (.ref C0) "__getattribute__" = some (some (.builtin "type.__getattribute__"))) (h2 : PySem.W.readsIn X.kw C0 (.type "type") = true)
    (h3 : PySem.W.findCls X.kw (.ref C0) (.type "type") "__init__" = some (.val (.builtin "ValueError.__init__"))) (ha : PA X (e :: es) ta)
    (hfew : ((backTo pos (starEach (e :: es) X.env)).all (fun x => !x.1) && (backToKw pos (keywordEach [] X.env)).all (fun x => x.1.isSome) && decide ((e :: es).length + ([] : List Keyword).length + (if ([] : List Keyword).isEmpty then 0 else 1) < 30)) = true)
    (hline : (p2.endLine == pos.line) = true) (he : starEach (e :: es) X.env = (false, eval e X.env) :: starEach es X.env := by rfl) (hpl : (backTo pos (starEach es X.env)).any (·.1) = false := by rfl) :
    PE X (.Call (.Attribute (.Name "TurnError" p1) "__init__" p2) (e :: es) [] pos) (tVeI X.kw ta) := by
  refine ⟨fun pins s σ H Q I h => ?_⟩
  have hbase : attributeBase (.Name "TurnError" p1) "__init__" X.env (eval (.Name "TurnError" p1) X.env) = eval (.Name "TurnError" p1) X.env := by rfl
  rw [arm_eval_Call, hbase]
  refine wpAny_bind (ld_glob I hg hm ?_ (by decide +kernel))
  refine wpAny_bind (wpAny_standAt ?_)
  have hform : methodCallForm ((e :: es).length + ([] : List Keyword).length) (backTo pos (starEach (e :: es) X.env)) (backToKw pos (keywordEach [] X.env)) = true := hfew
  have hpos : methodCallPos true (.Name "TurnError" p1) X.env p2 pos = pure pos := by unfold methodCallPos; simp [hline]
  unfold methodCall
  rw [hform]
  refine wpAny_bind (wpAny_holding (PySem.W.method_cls I.kIn h1 (PySem.W.cls_value I.kIn h2 h3 (by decide +kernel) ?_)))
  refine wpAny_bind (wpAny_of_eq hpos ?_)
  show wpAny _ _ (callWith pos (Value.builtin "ValueError.__init__") [] (backTo pos (starEach (e :: es) X.env)) []) _ _ _
  refine PyProof.Rows.callWith_method1 (thn (ha.run pos pins _ σ H _ (I.tok _) h) fun us s1 ⟨vs, H1, I1, r1, a, C, ws, ev, hl, T, ea, q⟩ => ?_) he hpl
  subst ev
  cases r1 with
  | @cons _ u0 _ ur ra rw' =>
    obtain rfl : u0 = Value.ref a := ra
    have hlen : ur.length ≤ sizeLine := by
      rw [← Paired.length rw', sizeLine_eq]
      omega
    exact oinit_ok T I1 ea hlen fun s' J => ⟨.non, H1, J, rfl, q⟩
theorem pair_len {i j : Int} (hi : iniI i = true) (hj : iniI j = true) : (tupleText [toString i, toString j]).length ≤ 4000000 := by
  unfold iniI at hi hj
  simp only [Bool.and_eq_true, decide_eq_true_eq] at hi hj
  have h1 : ((toString i : String) : Str).length ≤ 1000000 := by
    have := hi.2.2
    rw [Array.length_toList] at this
    exact this
  have h2 : ((toString j : String) : Str).length ≤ 1000000 := by
    have := hj.2.2
    rw [Array.length_toList] at this
    exact this
  have h3 := fmt_text [((toString i : String) : Str), ((toString j : String) : Str)]
  have h4 : piled [((toString i : String) : Str), ((toString j : String) : Str)] = (((toString i : String) : Str).length + 2) + ((((toString j : String) : Str).length + 2) + 0) := by rw [piled_cons, piled_cons, piled_nil]
  omega
theorem ini_mk {C C0 fI : Addr} {f : String} {nm qual sn pn : Str} {pre : List Nat} {st : Stmt} {fd : FuncData} (ne : f ≠ "") (ox : OexC K C) (fo : PySem.W.findIn K (.ref C) (Str.ofString f) = some none) (iC : PySem.W.findIn K (.ref C) "__init__" = some (some (.ref fI))) (tI : PySem.W.typeIn K (.ref fI) = some (.type "function"))
    (F : Fun K nm qual st fI fd) (b : Binds K fd [sn, pn] []) (S : FnScope [sn, pn] [sn, pn] (defScope st)) (hb : iniBody sn pn (Str.ofString f) pre (defScope st) (defBody st) = true)
    (gT : PySem.W.nsIn K mainGlobals (Str.ofString "TurnError") = some (some (.ref C0))) (g1 : PySem.W.specialIn K (.ref C0) "__getattribute__" = some (some (.builtin "type.__getattribute__"))) (g2 : PySem.W.readsIn K C0 (.type "type") = true) (g3 : PySem.W.findCls K (.ref C0) (.type "type") "__init__" = some (.val (.builtin "ValueError.__init__"))) : IniK K C f := by
  refine ⟨ne, ox, fo, fI, C0, fd, [sn, pn], iC, tI, b, clsOf_is gT, fun mg base k blt hmT => ?_⟩
  have hlen : ∀ vs H (QQ : VK) E, spIni K (Str.ofString f) vs H QQ E → vs.length = ([sn, pn] : List Str).length := fun vs H QQ E ⟨a, C', i, e, _⟩ => by rw [e]; rfl
  refine F.okX S hlen fun cdv A outer s H vs QQ E hr hsp => ?_
  obtain ⟨a, C', v, rfl, T, fo', ea, hi, q⟩ := hsp
  unfold iniBody at hb
  split at hb
  rotate_left
  · cases hb
  rename_i t tp ii ap s1 p1 ps pk pp sy syp v1 p4 cp2 bp cp ep s2 p2 f2 fp v2 p3 asp hbody
  simp only [Bool.and_eq_true, decide_eq_true_eq] at hb
  obtain ⟨⟨⟨⟨⟨⟨⟨⟨⟨⟨⟨⟨rfl, hg⟩, rfl⟩, h0⟩, hps⟩, rfl⟩, hgs⟩, h1⟩, h2⟩, rfl⟩, h3⟩, hp⟩, hln⟩ := hb
  have hu := hr.un
  have hv : ∀ {X : Cx} {e : Expr} {i : Nat}, X.N = [sn, pn] → mE [sn, pn] X.env.scope (fun _ => true) (.var i) e = true → PE X e (tVar i) := fun {X e i} hN h => by
    unfold mE at h
    split at h
    · simp only [Bool.and_eq_true, decide_eq_true_eq] at h
      obtain ⟨n1, n2⟩ := okName_ok h.2
      exact pe_var (by rw [hN]; exact h.1.1) (vis_ok h.1.2) n1 n2
    · cases h
  have he0 : PE (cxOf (L2.CX K.P K.w) K.P K.w K mg base [sn, pn] qual (defScope st) fI cdv A outer s H E) (.Name s1 p1) (tVar 0) := hv rfl h0
  have he2 : PE (cxOf (L2.CX K.P K.w) K.P K.w K mg base [sn, pn] qual (defScope st) fI cdv A outer s H E) (.Name s2 p2) (tVar 0) := hv rfl h2
  have he3 : PE (cxOf (L2.CX K.P K.w) K.P K.w K mg base [sn, pn] qual (defScope st) fI cdv A outer s H E) (.Name v2 p3) (tVar 1) := hv rfl h3
  have he4 : PE (cxOf (L2.CX K.P K.w) K.P K.w K mg base [sn, pn] qual (defScope st) fI cdv A outer s H E) (.Name v1 p4) (tVar 1) := hv rfl h1
  have hs1 : PE (cxOf (L2.CX K.P K.w) K.P K.w K mg base [sn, pn] qual (defScope st) fI cdv A outer s H E) (.Call (.Name "str" syp) [.Name v1 p4] [] cp2) (tCB (rStrA K) (tCons (tVar 1) tNil)) :=
    pe_callTy (strA_ok (by show (A.deeper _).units + 65 < cLine; omega)) (show (cxOf (L2.CX K.P K.w) K.P K.w K mg base [sn, pn] qual (defScope st) fI cdv A outer s H E).env.scope.names.lookup _ = some .globalImplicit from of_decide_eq_true hgs)
      (blt _ (by decide +kernel)) boot_str (pa_cons he4 pa_nil) (by decide +kernel) (by decide +kernel)
  have he1 := pe_op (pos := bp) op_add_str (pe_str (X := cxOf (L2.CX K.P K.w) K.P K.w K mg base [sn, pn] qual (defScope st) fI cdv A outer s H E) (x := ps) (j := pk) (pos := pp)) hs1
  have hbody' := hbody
  refine ⟨_, (by rw [hbody']; exact pss_cons (ps_expr (pe_tinit (show (cxOf (L2.CX K.P K.w) K.P K.w K mg base [sn, pn] qual (defScope st) fI cdv A outer s H E).env.scope.names.lookup _ = some .globalImplicit from of_decide_eq_true hg) hmT g1 g2 g3 (pa_cons he0 (pa_cons he1 pa_nil)) (by rfl) hln) (by rfl)) (pss_one (ps_ost he2 he3 (by rfl)))), ?_⟩
  have hpl : ps.length ≤ 1000 := by
    have e : ps.length = pre.length := by rw [← hps, Array.length_toList]; rfl
    omega
  have hout : ∀ m : Str, m.length ≤ 4000005 → ps.length + m.length ≤ sizeLine := fun m hm => by
    have := lim_eq
    have : (LIM : Nat) = 16777216 := rfl
    omega
  refine ⟨.ref a, rfl, ⟨v, rfl, ?_⟩⟩
  rcases hi with ⟨i, rfl, hi⟩ | ⟨b0, i, j, rfl, hb0, hi, hj⟩
  · have hi2 := hi
    unfold iniI at hi2
    simp only [Bool.and_eq_true, decide_eq_true_eq] at hi2
    refine .inl ⟨i, rfl, hi2.1, ?_⟩
    refine ⟨ps, _, rfl, rfl, hout _ ?_, ?_⟩
    · have h2 := hi2.2.2
      rw [Array.length_toList] at h2
      have h3 : ((toString i : String) : Str).length ≤ 1000000 := h2
      omega
    · exact ⟨a, C', [_], rfl, by simp, T, ea, ⟨_, rfl, .ref a, rfl, a, C', rfl, T, fo', .inl ⟨ea, fun dx n ne => q H dx (fun _ _ h => h) n ne⟩⟩⟩
  · have hi2 := hi
    have hj2 := hj
    unfold iniI at hi2 hj2
    simp only [Bool.and_eq_true, decide_eq_true_eq] at hi2 hj2
    refine .inr ⟨b0, i, j, rfl, hb0, hi2.1, hj2.1, pair_len hi hj, fun m hm => ⟨ps, m, rfl, rfl, hout m hm, ?_⟩⟩
    exact ⟨a, C', [_], rfl, by simp, T, ea, ⟨_, rfl, .ref a, rfl, a, C', rfl, T, fo', .inl ⟨ea, fun dx n ne => q H dx (fun _ _ h => h) n ne⟩⟩⟩
theorem xcl_mk {c : String} {C : Addr} {mk : String} {yes no : List String} (i : XIs K c C) (self : PySem.W.subIn K (.ref C) (.ref C) = some true) (y : Und K C true yes) (n : Und K C false no)
    (mi : mk ≠ "" → mk ≠ "=" → IniK K C mk) (m : mk = "=" → PySem.W.excIn K C [.type "ValueError", .type "Exception", .type "BaseException", .type "object"] "ValueError.__new__" = true ∧ PySem.W.findIn K (.ref C) "__str__" = some (some (.builtin "BaseException.__str__"))) : XCl K c C mk yes no :=
  { toXIs := i, y := fun s hs => let ⟨E, g, h⟩ := y s hs; ⟨E, clsOf_is g, kit_sub i self h, exm_sub i h⟩, n := fun s hs => let ⟨E, g, h⟩ := n s hs; ⟨E, clsOf_is g, kit_sub i self h, exm_sub i h⟩, mki := mi, mkd := m }
theorem q_cls {y : Str} {c : String} {C : Addr} {mk : String} {yes no : List String} (m : mg y = some (.ref C)) (x : XCl K c C mk yes no) : QG K mg y (.cls c mk yes no) := ⟨.ref C, .ref C, m, rfl, fun _ => .cls x⟩
end
end VL

/-! VL25: runs reckoned by what is wished behind them. -/
namespace VL
open PySem PySem.Spec PyProof.Rows L2

def RX.wp0 {α : Type} (r : RX α) (Q : α → Rho → Prop) (E : Xn → Rho → Prop) : Prop := match r with
  | .ok a ρ => Q a ρ
  | .exc x ρ => E x ρ
  | .bad => False
structure RX.wp {α : Type} (r : RX α) (Q : α → Rho → Prop) (E : Xn → Rho → Prop) : Prop where
  w : r.wp0 Q E
theorem wp_ok {α : Type} {a : α} {ρ : Rho} {Q : α → Rho → Prop} {E : Xn → Rho → Prop} (h : Q a ρ) : (RX.ok a ρ).wp Q E := ⟨h⟩
abbrev NoE : Xn → Rho → Prop := fun _ _ => False
theorem wp_mono {α : Type} {r : RX α} {Q Q' : α → Rho → Prop} {E E' : Xn → Rho → Prop} (h : r.wp Q E) (q : ∀ a ρ, Q a ρ → Q' a ρ) (e : ∀ x ρ, E x ρ → E' x ρ) : r.wp Q' E' := by
  have h := h.w
  cases r with
  | ok a ρ => exact ⟨q a ρ h⟩
  | exc x ρ => exact ⟨e x ρ h⟩
  | bad => exact h.elim
theorem wp_th {α β : Type} {r : RX α} {f : α → Rho → RX β} {Q : β → Rho → Prop} {E : Xn → Rho → Prop} (h : r.wp (fun a ρ => (f a ρ).wp Q E) E) : (r.th f).wp Q E := by
  have h := h.w
  cases r with
  | ok a ρ => exact h
  | exc x ρ => exact ⟨h⟩
  | bad => exact h.elim
theorem wp_is {α : Type} {r : RX α} {a : α} {ρ : Rho} {Q : α → Rho → Prop} {E : Xn → Rho → Prop} (h : r = .ok a ρ) (q : Q a ρ) : r.wp Q E := by rw [h]; exact ⟨q⟩
theorem wp_ex {α : Type} {r : RX α} {Q : α → Rho → Prop} (h : r.wp Q NoE) : ∃ a ρ, r = .ok a ρ ∧ Q a ρ := by
  have h := h.w
  cases r with
  | ok a ρ => exact ⟨a, ρ, rfl, h⟩
  | exc x ρ => exact h.elim
  | bad => exact h.elim
/-- what is wished behind statements -/
structure Po where
  nx : Rho → Prop
  rt : D → Rho → Prop
  bk : Rho → Prop := fun _ => False
  ex : Xn → Rho → Prop := fun _ _ => False
def Po.at (Q : Po) : RS → Prop
  | .nx ρ => Q.nx ρ
  | .bk ρ => Q.bk ρ
  | .rt d ρ => Q.rt d ρ
  | .ex x ρ => Q.ex x ρ
  | .bad => False
theorem at_to {α : Type} {r : RX α} {f : α → Rho → RS} {Q : Po} (h : r.wp (fun a ρ => Q.at (f a ρ)) Q.ex) : Q.at (r.to f) := by
  have h := h.w
  cases r with
  | ok a ρ => exact h
  | exc x ρ => exact h
  | bad => exact h.elim
structure XW (P : Prg) (e : Ex) (ρ : Rho) (Q : D → Rho → Prop) (E : Xn → Rho → Prop) : Prop where
  run : (evX P e ρ).wp Q E
structure OW (P : Prg) (es : List Ex) (ρ : Rho) (Q : List Opd → Rho → Prop) (E : Xn → Rho → Prop) : Prop where
  run : (evOps P es ρ).wp Q E
structure SW (P : Prg) (c : Sx) (ρ : Rho) (Q : Po) : Prop where
  run : Q.at (evS P c ρ)
structure SWs (P : Prg) (cs : List Sx) (ρ : Rho) (Q : Po) : Prop where
  run : Q.at (evSs P cs ρ)
section
variable {P : Prg} {ρ : Rho} {Q : D → Rho → Prop} {E : Xn → Rho → Prop} {O : List Opd → Rho → Prop} {d : D} {e a b t : Ex} {cs : List Ex} {o : Op} {i : Nat}
theorem xw_mono {Q' : D → Rho → Prop} {E' : Xn → Rho → Prop} (h : XW P e ρ Q E) (q : ∀ d ρ', Q d ρ' → Q' d ρ') (e' : ∀ x ρ', E x ρ' → E' x ρ') : XW P e ρ Q' E' := ⟨wp_mono h.run q e'⟩
theorem lt_b {n m : Nat} (h : Nat.blt n m = true) : n < m := by simpa [Nat.blt_eq] using h
/-- without effect -/
theorem xw_v (v : evP P.G e ρ = some d) (q : Q d ρ) (hp : pureC e = true := by rfl) (hi : (d.imm || det e) = true := by rfl) : XW P e ρ Q E := ⟨wp_is (x_of hp v hi) q⟩
theorem xw_is {ρ' : Rho} (h : evX P e ρ = .ok d ρ') (q : Q d ρ') : XW P e ρ Q E := ⟨wp_is h q⟩
theorem ow_nil (q : O [] ρ) : OW P [] ρ O E := ⟨by simp only [evOps]; exact ⟨q⟩⟩
theorem ow_var (h : slotOf ρ i = some d) (q : OW P cs ρ (fun os ρ' => O (.b i :: os) ρ') E) : OW P (.var i :: cs) ρ O E := by
  refine ⟨?_⟩
  simp only [evOps, h, optX_some]
  exact wp_th (wp_mono q.run (fun os ρ' z => ⟨z⟩) fun _ _ z => z)
theorem ow_cons (hc : ∀ i, e ≠ .var i) (q : XW P e ρ (fun d ρ1 => OW P cs ρ1 (fun os ρ' => O (.o d :: os) ρ') E) E) : OW P (e :: cs) ρ O E := by
  refine ⟨?_⟩
  rw [evOps_cons hc]
  exact wp_th (wp_mono q.run (fun d ρ1 z => wp_th (wp_mono z.run (fun os ρ' y => ⟨y⟩) fun _ _ y => y)) fun _ _ z => z)
/-- a value that is no name -/
theorem ow_v (v : evP P.G e ρ = some d) (q : OW P cs ρ (fun os ρ' => O (.o d :: os) ρ') E) (hc : ∀ i, e ≠ .var i := by intro i z; cases z) (hp : pureC e = true := by rfl) (hi : (d.imm || det e) = true := by rfl) : OW P (e :: cs) ρ O E :=
  ow_cons hc (xw_v v q hp hi)
theorem ow_x (q : XW P e ρ (fun d ρ1 => OW P cs ρ1 (fun os ρ' => O (.o d :: os) ρ') E) E) (hc : ∀ i, e ≠ .var i := by intro i z; cases z) : OW P (e :: cs) ρ O E := ow_cons hc q
theorem opsC_is (hr : ∀ d, okRecv o d = true) : ∀ cs ρ, evOpsC P o cs ρ = evOps P cs ρ
  | [], ρ => by simp only [evOpsC, evOps]
  | c :: cs, ρ => by
    by_cases hc : ∃ i, c = .var i
    · obtain ⟨i, rfl⟩ := hc
      simp only [evOpsC, evOps, hr, if_true]
    · have hc' : ∀ i, c ≠ .var i := fun i z => hc ⟨i, z⟩
      rw [evOpsC_cons hc', evOps_cons hc']
      simp only [hr, if_true]
/-- an operation some of whose operands have an effect -/
theorem xw_op (h : OW P cs ρ (fun os ρ' => ∃ ds d, getAll ρ' os = some ds ∧ applyOp o ds = some d ∧ (d.imm || o.new) = true ∧ Q d ρ') E) (hp : pureN o cs = false := by rfl) (hd : isDisp o = false := by rfl) (hr : ∀ d, okRecv o d = true := by intro d; rfl) : XW P (.node o cs) ρ Q E := by
  refine ⟨?_⟩
  simp only [evX]
  rw [if_neg (by unfold pureN at hp; rw [hp]; exact Bool.false_ne_true), opsC_is hr]
  refine wp_th (wp_mono h.run (fun os ρ' z => ?_) fun _ _ z => z)
  obtain ⟨ds, d, g, ap, hi, q⟩ := z
  rw [hd, if_neg Bool.false_ne_true]
  unfold appX
  rw [g, Option.bind_some, ap, optX_some, if_pos hi]
  exact ⟨q⟩
/-- .. where the first operand is a method's receiver -/
theorem xw_m1 {c : Ex} {r : List Ex} (hc : ∀ i, c ≠ .var i) (h : XW P c ρ (fun x ρ1 => okRecv o x = true ∧ OW P r ρ1 (fun os ρ' => ∃ ds d, getAll ρ' os = some ds ∧ applyOp o (x :: ds) = some d ∧ (d.imm || o.new) = true ∧ Q d ρ') E) E)
    (hp : pureN o (c :: r) = false := by rfl) (hd : isDisp o = false := by rfl) : XW P (.node o (c :: r)) ρ Q E := by
  refine ⟨?_⟩
  simp only [evX]
  rw [if_neg (by unfold pureN at hp; rw [hp]; exact Bool.false_ne_true), evOpsC_cons hc]
  refine wp_th (wp_th (wp_mono h.run (fun x ρ1 z => ?_) fun _ _ z => z))
  obtain ⟨hr, z⟩ := z
  rw [if_pos hr]
  refine wp_th (wp_mono z.run (fun os ρ' z => wp_ok ?_) fun _ _ z => z)
  obtain ⟨ds, d, g, ap, hi, q⟩ := z
  show RX.wp (if isDisp o = true then dispX o (.o x :: os) ρ' else appX o (.o x :: os) ρ') Q E
  rw [hd, if_neg Bool.false_ne_true]
  unfold appX
  simp only [getAll, Opd.get, g, Option.map_some, Option.bind_some, ap, optX_some]
  rw [if_pos hi]
  exact ⟨q⟩
theorem xw_lst (h : OW P cs ρ (fun os ρ' => ∃ ds, getAll ρ' os = some ds ∧ lent ρ' os = [] ∧ ds.length ≤ LIM ∧ Q (.lst true ds) ρ') E) (hp : pureN .lst cs = false := by rfl) : XW P (.node .lst cs) ρ Q E := by
  refine ⟨?_⟩
  simp only [evX]
  rw [if_neg (by unfold pureN at hp; rw [hp]; exact Bool.false_ne_true), opsC_is (fun _ => rfl)]
  refine wp_th (wp_mono h.run (fun os ρ' z => ?_) fun _ _ z => z)
  obtain ⟨ds, g, l, n, q⟩ := z
  show RX.wp (dispX .lst os ρ') Q E
  unfold dispX
  rw [g, optX_some, if_pos ⟨l, n⟩]
  exact ⟨q⟩
theorem xw_tup (h : OW P cs ρ (fun os ρ' => ∃ ds, getAll ρ' os = some ds ∧ lent ρ' os = [] ∧ ds.length ≤ LIM ∧ Q (.tup ds) ρ') E) (hp : pureN .tup cs = false := by rfl) : XW P (.node .tup cs) ρ Q E := by
  refine ⟨?_⟩
  simp only [evX]
  rw [if_neg (by unfold pureN at hp; rw [hp]; exact Bool.false_ne_true), opsC_is (fun _ => rfl)]
  refine wp_th (wp_mono h.run (fun os ρ' z => ?_) fun _ _ z => z)
  obtain ⟨ds, g, l, n, q⟩ := z
  show RX.wp (dispX .tup os ρ') Q E
  unfold dispX
  rw [g, optX_some, if_pos ⟨l, n⟩]
  exact ⟨q⟩
theorem xw_fz (h : XW P a ρ (fun d ρ' => Q d.fz ρ') E) : XW P (.fz a) ρ Q E := by
  refine ⟨?_⟩
  simp only [evX]
  exact wp_th (wp_mono h.run (fun _ _ z => ⟨z⟩) fun _ _ z => z)
theorem xw_tk (h : slotOf ρ i = some d) (q : Q d (if d.imm = true then ρ else ρ.set i none)) : XW P (.tk i) ρ Q E := by
  refine ⟨?_⟩
  simp only [evX, h, optX_some]
  unfold takeX
  split <;> rename_i c
  · rw [if_pos c] at q; exact ⟨q⟩
  · rw [if_neg c] at q; exact ⟨q⟩
theorem xw_tki (h : slotOf ρ i = some d) (hi : d.imm = true) (q : Q d ρ) : XW P (.tk i) ρ Q E := xw_tk h (by rw [if_pos hi]; exact q)
theorem xw_sh (h : slotOf ρ i = some d) (q : d.imm = false → Q d.fz (ρ.set i (some d.fz))) (q2 : d.imm = true → Q d ρ) : XW P (.sh i) ρ Q E := by
  refine ⟨?_⟩
  simp only [evX, h, optX_some]
  unfold shareX
  split <;> rename_i c
  · exact ⟨q2 c⟩
  · exact ⟨q (by simpa using c)⟩
theorem xw_shi (h : slotOf ρ i = some d) (hi : d.imm = true) (q : Q d ρ) : XW P (.sh i) ρ Q E := xw_sh h (fun z => by rw [hi] at z; cases z) fun _ => q
theorem xw_and (h : XW P a ρ (fun d ρ' => (d = .bl true ∧ XW P b ρ' Q E) ∨ (d = .bl false ∧ Q (.bl false) ρ')) E) (hp : (pureC a && pureC b) = false := by rfl) : XW P (.and a b) ρ Q E := by
  refine ⟨?_⟩
  simp only [evX]
  rw [if_neg (by rw [hp]; exact Bool.false_ne_true)]
  refine wp_th (wp_mono h.run (fun d ρ' z => ?_) fun _ _ z => z)
  rcases z with ⟨rfl, z⟩ | ⟨rfl, z⟩
  · exact z.run
  · exact ⟨z⟩
theorem xw_or (h : XW P a ρ (fun d ρ' => (d = .bl true ∧ Q (.bl true) ρ') ∨ (d = .bl false ∧ XW P b ρ' Q E)) E) (hp : (pureC a && pureC b) = false := by rfl) : XW P (.or a b) ρ Q E := by
  refine ⟨?_⟩
  simp only [evX]
  rw [if_neg (by rw [hp]; exact Bool.false_ne_true)]
  refine wp_th (wp_mono h.run (fun d ρ' z => ?_) fun _ _ z => z)
  rcases z with ⟨rfl, z⟩ | ⟨rfl, z⟩
  · exact ⟨z⟩
  · exact z.run
theorem xw_not (h : XW P a ρ (fun d ρ' => ∃ c, d = .bl c ∧ Q (.bl (!c)) ρ') E) (hp : pureC a = false := by rfl) : XW P (.not a) ρ Q E := by
  refine ⟨?_⟩
  simp only [evX]
  rw [if_neg (by rw [hp]; exact Bool.false_ne_true)]
  refine wp_th (wp_mono h.run (fun d ρ' z => ?_) fun _ _ z => z)
  obtain ⟨c, rfl, z⟩ := z
  exact ⟨z⟩
/-- a call -/
theorem xw_call {f : Str} {es : List Ex} {run : FnR} (hf : P.fns f = some run) (h : OW P es ρ (fun os ρ' => ∃ ds, getAll ρ' os = some ds ∧ noDup (lent ρ' os) = true ∧ (run ds).wp (fun d xs => Q d (back ρ' os xs)) (fun x xs => E x (back ρ' os xs))) E) : XW P (.call f es) ρ Q E := by
  refine ⟨?_⟩
  simp only [evX, hf, optX_some]
  refine wp_th (wp_mono h.run (fun os ρ' z => ?_) fun _ _ z => z)
  obtain ⟨ds, g, nd, z⟩ := z
  unfold callX
  rw [g, optX_some, if_pos nd]
  have z := z.w
  revert z
  cases run ds with
  | ok d xs => exact fun z => ⟨z⟩
  | exc x xs => exact fun z => ⟨z⟩
  | bad => exact fun z => z.elim
/-- .. that is lent nothing -/
theorem xw_call0 {f : Str} {es : List Ex} {run : FnR} (hf : P.fns f = some run) (h : OW P es ρ (fun os ρ' => ∃ ds, getAll ρ' os = some ds ∧ lent ρ' os = [] ∧ (run ds).wp (fun d _ => Q d ρ') (fun x _ => E x ρ')) E) : XW P (.call f es) ρ Q E :=
  xw_call hf ⟨wp_mono h.run (fun os ρ' ⟨ds, g, l, z⟩ => ⟨ds, g, by rw [l]; rfl, wp_mono z (fun d xs y => by rw [back_none l]; exact y) fun x xs y => by rw [back_none l]; exact y⟩) fun _ _ z => z⟩
/-- .. that is lent one name -/
theorem xw_call1 {f : Str} {es : List Ex} {run : FnR} (j : Nat) (hf : P.fns f = some run) (h : OW P es ρ (fun os ρ' => ∃ ds k, getAll ρ' os = some ds ∧ lent ρ' os = [k] ∧ posOf ρ' k os = some j ∧ (run ds).wp (fun d xs => Q d (ρ'.set k (xs[j]?).join)) (fun x xs => E x (ρ'.set k (xs[j]?).join))) E) : XW P (.call f es) ρ Q E :=
  xw_call hf ⟨wp_mono h.run (fun os ρ' ⟨ds, k, g, l, p, z⟩ => ⟨ds, g, by rw [l]; rfl, wp_mono z (fun d xs y => by rw [back_one l p]; exact y) fun x xs y => by rw [back_one l p]; exact y⟩) fun _ _ z => z⟩
theorem compX_wp {st : D → Rho → RX (Option D)} (I : Nat → List D → Rho → Prop) : ∀ {items : List D} (k : Nat) (h : ∀ i x acc ρ, items[i]? = some x → I (k + i) acc ρ → (st x ρ).wp (fun y ρ' => I (k + i + 1) (acc ++ y.toList) ρ') NoE) {acc : List D} {ρ : Rho}, I k acc ρ →
    (compX st acc items ρ).wp (fun ys ρ' => I (k + items.length) ys ρ') NoE
  | [], k, h, acc, ρ, hi => ⟨hi⟩
  | x :: xs, k, h, acc, ρ, hi => by
    have h0 := (h 0 x acc ρ rfl hi).w
    unfold compX
    cases e : st x ρ with
    | ok y ρ1 =>
      rw [e] at h0
      have next := fun acc' (q : I (k + 1) acc' ρ1) => compX_wp I (items := xs) (k + 1) (fun i z acc ρ hz q => by
        have := h (i + 1) z acc ρ (by simpa using hz) (by rw [show k + (i + 1) = k + 1 + i by omega]; exact q)
        rw [show k + (i + 1) + 1 = k + 1 + i + 1 by omega] at this
        exact this) q
      rw [List.length_cons, show k + (xs.length + 1) = k + 1 + xs.length by omega]
      cases y with
      | none => exact next _ (by simpa [RX.wp0] using h0)
      | some y => exact next _ (by simpa [RX.wp0] using h0)
    | exc x ρ1 => rw [e] at h0; exact h0.elim
    | bad => rw [e] at h0; exact h0.elim
/-- a comprehension with effects: the invariant's second is what is made -/
theorem xw_comp {own : List (Str × Nat)} {elt : Ex} {p : Pat} {k : SrcK} {ss ifs : List Ex} (I : Nat → List D → Rho → Prop)
    (h : OW P ss ρ (fun os ρ0 => ∃ ds items, getAll ρ0 os = some ds ∧ lent ρ0 os = [] ∧ srcItems k ds = some items ∧ items.length ≤ LIM ∧ immL items = true ∧ I 0 [] (wipeR ρ0 (own.map (·.2))) ∧
      (∀ i x acc ρ1, items[i]? = some x → I i acc ρ1 → ∃ ρ2, bindP p x ρ1 = some ρ2 ∧ (evXt P ifs ρ2).wp (fun c ρ3 => if c = true then XW P elt ρ3 (fun y ρ4 => I (i + 1) (acc ++ [y]) (wipeR ρ4 (own.map (·.2)))) NoE else I (i + 1) acc (wipeR ρ3 (own.map (·.2)))) NoE) ∧
      (∀ ys ρ', I items.length ys ρ' → Q (.lst true ys) (mergeR (own.map (·.2)) ρ0 ρ'))) E) (hp : (pureC elt && flatE elt && pureCs ss && pureCs ifs) = false := by rfl) : XW P (.comp own elt p k ss ifs) ρ Q E := by
  refine ⟨?_⟩
  simp only [evX]
  rw [if_neg (by rw [hp]; exact Bool.false_ne_true)]
  refine wp_th (wp_mono h.run (fun os ρ0 z => ?_) fun _ _ z => z)
  obtain ⟨ds, items, g, l, hs, hn, hi, i0, step, fin⟩ := z
  rw [g, optX_some, if_pos l, hs, optX_some, if_pos ⟨hn, hi⟩]
  refine wp_th (wp_mono (compX_wp I 0 (fun i x acc ρ1 hx hI => ?_) i0) (fun ys ρ' z => wp_ok ?_) fun _ _ z => z.elim)
  · rw [Nat.zero_add] at hI ⊢
    obtain ⟨ρ2, hb, t⟩ := step i x acc ρ1 hx hI
    rw [hb, optX_some]
    refine wp_th (wp_mono t (fun c ρ3 z => ?_) fun _ _ z => z)
    cases c with
    | true =>
      rw [if_pos rfl] at z ⊢
      exact wp_th (wp_mono z.run (fun y ρ4 q => ⟨q⟩) fun _ _ q => q)
    | false =>
      rw [if_neg Bool.false_ne_true] at z ⊢
      exact ⟨by simpa [RX.wp0] using z⟩
  · rw [Nat.zero_add] at z
    exact fin ys ρ' z
theorem xt_nil {Qb : Bool → Rho → Prop} (q : Qb true ρ) : (evXt P [] ρ).wp Qb E := by simp only [evXt]; exact ⟨q⟩
theorem xt_one {Qb : Bool → Rho → Prop} (h : XW P a ρ (fun d ρ' => ∃ c, d = .bl c ∧ Qb c ρ') E) : (evXt P [a] ρ).wp Qb E := by
  simp only [evXt]
  refine wp_th (wp_mono h.run (fun d ρ' z => ?_) fun _ _ z => z)
  obtain ⟨c, rfl, z⟩ := z
  cases c <;> exact ⟨z⟩
end
/-! ### statements -/
section
variable {P : Prg} {ρ : Rho} {Q : Po} {c : Sx} {cs : List Sx} {e t : Ex} {i : Nat}
theorem sw_nil (h : Q.nx ρ) : SWs P [] ρ Q := ⟨by simp only [evSs]; exact h⟩
theorem sw_cons (h : SW P c ρ { Q with nx := fun ρ' => SWs P cs ρ' Q }) : SWs P (c :: cs) ρ Q := by
  have h := h.run
  refine ⟨?_⟩
  simp only [evSs]
  revert h
  cases evS P c ρ with
  | nx ρ' => exact fun z => z.run
  | bk ρ' => exact id
  | rt d ρ' => exact id
  | ex x ρ' => exact id
  | bad => exact id
theorem sw_asgP {p : Pat} (h : XW P e ρ (fun d ρ1 => ∃ ρ2, bindP p d ρ1 = some ρ2 ∧ Q.nx ρ2) Q.ex) : SW P (.asg p e) ρ Q := by
  refine ⟨?_⟩
  simp only [evS]
  refine at_to (wp_mono h.run (fun d ρ1 z => ?_) fun _ _ z => z)
  obtain ⟨ρ2, hb, q⟩ := z
  rw [hb]
  exact q
theorem sw_asg (h : XW P e ρ (fun d ρ1 => i < ρ1.length ∧ Q.nx (ρ1.set i (some d))) Q.ex) : SW P (.asg (.nm i) e) ρ Q :=
  sw_asgP ⟨wp_mono h.run (fun d ρ1 ⟨l, q⟩ => ⟨_, by unfold bindP; exact if_pos l, q⟩) fun _ _ z => z⟩
theorem sw_if {a b : List Sx} (h : XW P t ρ (fun d ρ1 => (d = .bl true ∧ SWs P a ρ1 Q) ∨ (d = .bl false ∧ SWs P b ρ1 Q)) Q.ex) : SW P (.ifS t a b) ρ Q := by
  refine ⟨?_⟩
  simp only [evS]
  refine at_to (wp_mono h.run (fun d ρ1 z => ?_) fun _ _ z => z)
  rcases z with ⟨rfl, z⟩ | ⟨rfl, z⟩
  · exact z.run
  · exact z.run
/-- .. whose test is a known truth -/
theorem sw_ifb {a b : List Sx} {k : Bool} (v : evP P.G t ρ = some (.bl k)) (h1 : k = true → SWs P a ρ Q) (h2 : k = false → SWs P b ρ Q) (hp : pureC t = true := by rfl) : SW P (.ifS t a b) ρ Q := by
  refine sw_if (xw_is (x_of hp v rfl) ?_)
  cases k with
  | true => exact .inl ⟨rfl, h1 rfl⟩
  | false => exact .inr ⟨rfl, h2 rfl⟩
theorem sw_ret (h : XW P e ρ Q.rt Q.ex) : SW P (.ret e) ρ Q := by
  refine ⟨?_⟩
  simp only [evS]
  exact at_to h.run
theorem sw_retN (h : Q.rt .non ρ) : SW P .retN ρ Q := by
  refine ⟨?_⟩
  simp only [evS]
  exact h
theorem sw_brk (h : Q.bk ρ) : SW P .brk ρ Q := by
  refine ⟨?_⟩
  simp only [evS]
  exact h
theorem sw_pass (h : Q.nx ρ) : SW P .pass ρ Q := by
  refine ⟨?_⟩
  simp only [evS]
  exact h
theorem sw_expr (h : XW P e ρ (fun _ ρ1 => Q.nx ρ1) Q.ex) : SW P (.expr e) ρ Q := by
  refine ⟨?_⟩
  simp only [evS]
  exact at_to h.run
/-- x.append(e) -/
theorem sw_app {xs0 : List D} (h0 : slotOf ρ i = some (.lst true xs0)) (h : XW P e ρ (fun d ρ1 => ∃ xs, slotOf ρ1 i = some (.lst true xs) ∧ xs.length < LIM ∧ Q.nx (ρ1.set i (some (.lst true (xs ++ [d]))))) Q.ex) : SW P (.mut .app i [] [e]) ρ Q := by
  refine ⟨?_⟩
  simp only [evS, evPs, Option.bind_some, intsD, optS_some, h0, leafD, List.isEmpty_nil, if_true]
  refine at_to (wp_mono h.run (fun d ρ1 z => ?_) fun _ _ z => z)
  obtain ⟨xs, h1, hl, q⟩ := z
  simp only [mutX, h1, optS_some, leafD, MOp.run, if_pos hl, putD]
  exact q
/-- x.extend(e) -/
theorem sw_ext {xs0 : List D} (h0 : slotOf ρ i = some (.lst true xs0)) (h : XW P e ρ (fun d ρ1 => ∃ xs ys, d = .lst true ys ∧ immL ys = true ∧ slotOf ρ1 i = some (.lst true xs) ∧ xs.length + ys.length ≤ LIM ∧ Q.nx (ρ1.set i (some (.lst true (xs ++ ys))))) Q.ex) : SW P (.mut .ext i [] [e]) ρ Q := by
  refine ⟨?_⟩
  simp only [evS, Option.bind_some, optS_some, h0, leafD, List.isEmpty_nil, if_true]
  refine at_to (wp_mono h.run (fun d ρ1 z => ?_) fun _ _ z => z)
  obtain ⟨xs, ys, rfl, hi, h1, hl, q⟩ := z
  simp only [mutX, h1, optS_some, leafD, MOp.run, if_pos (And.intro hi hl), putD]
  exact q
/-- so many turns of a for -/
structure FW (P : Prg) (p : Pat) (b : List Sx) (items : List D) (ρ : Rho) (Q : Po) : Prop where
  run : Q.at (forX (fun d ρ1 => optS (bindP p d ρ1) (evSs P b)) items ρ)
theorem sw_for {p : Pat} {k : SrcK} {ss : List Ex} {b : List Sx} (h : OW P ss ρ (fun os ρ0 => ∃ ds items, getAll ρ0 os = some ds ∧ lent ρ0 os = [] ∧ srcItems k ds = some items ∧ immL items = true ∧ FW P p b items ρ0 Q) Q.ex) : SW P (.forS p k ss b) ρ Q := by
  refine ⟨?_⟩
  simp only [evS]
  refine at_to (wp_mono h.run (fun os ρ0 z => ?_) fun _ _ z => z)
  obtain ⟨ds, items, g, l, hs, hi, q⟩ := z
  rw [g, optS_some, if_pos l, hs, optS_some, if_pos hi]
  exact q.run
theorem fw_nil {p : Pat} {b : List Sx} (h : Q.nx ρ) : FW P p b [] ρ Q := ⟨h⟩
theorem fw_cons {p : Pat} {b : List Sx} {x : D} {xs : List D} (h : ∃ ρ1, bindP p x ρ = some ρ1 ∧ SWs P b ρ1 { nx := fun ρ2 => FW P p b xs ρ2 Q, rt := Q.rt, bk := Q.nx, ex := Q.ex }) : FW P p b (x :: xs) ρ Q := by
  obtain ⟨ρ1, hb, h⟩ := h
  have h := h.run
  refine ⟨?_⟩
  unfold forX
  rw [hb, optS_some]
  revert h
  cases evSs P b ρ1 with
  | nx ρ' => exact fun z => z.run
  | bk ρ' => exact id
  | rt d ρ' => exact id
  | ex x ρ' => exact id
  | bad => exact id
/-- by what stands ahead of each turn -/
theorem fw_inv {p : Pat} {b : List Sx} (I : Nat → Rho → Prop) : ∀ {items : List D} (k : Nat) {ρ : Rho}, I k ρ →
    (∀ i x ρ, items[i]? = some x → I (k + i) ρ → ∃ ρ1, bindP p x ρ = some ρ1 ∧ SWs P b ρ1 { nx := fun ρ2 => I (k + i + 1) ρ2, rt := Q.rt, bk := Q.nx, ex := Q.ex }) → (∀ ρ, I (k + items.length) ρ → Q.nx ρ) → FW P p b items ρ Q
  | [], k, ρ, h0, _, hf => fw_nil (hf ρ h0)
  | x :: xs, k, ρ, h0, hs, hf => by
    refine fw_cons ?_
    obtain ⟨ρ1, hb, w⟩ := hs 0 x ρ rfl h0
    refine ⟨ρ1, hb, ?_⟩
    have rest : ∀ ρ2, I (k + 0 + 1) ρ2 → FW P p b xs ρ2 Q := fun ρ2 q => fw_inv I (items := xs) (k + 1) q (fun i y ρ hy q => by
      have := hs (i + 1) y ρ (by simpa using hy) (by rw [show k + (i + 1) = k + 1 + i by omega]; exact q)
      rw [show k + (i + 1) + 1 = k + 1 + i + 1 by omega] at this
      exact this) fun ρ q => hf ρ (by rw [List.length_cons, show k + (xs.length + 1) = k + 1 + xs.length by omega]; exact q)
    have w := w.run
    refine ⟨?_⟩
    revert w
    cases evSs P b ρ1 with
    | nx ρ' => exact fun z => rest ρ' z
    | bk ρ' => exact id
    | rt d ρ' => exact id
    | ex x ρ' => exact id
    | bad => exact id
theorem sws_mono {Q Q' : Po} (h : SWs P cs ρ Q) (n : ∀ ρ, Q.nx ρ → Q'.nx ρ) (r : ∀ d ρ, Q.rt d ρ → Q'.rt d ρ) (b : ∀ ρ, Q.bk ρ → Q'.bk ρ) (x : ∀ y ρ, Q.ex y ρ → Q'.ex y ρ) : SWs P cs ρ Q' := by
  have h := h.run
  refine ⟨?_⟩
  revert h
  cases evSs P cs ρ with
  | nx ρ' => exact n ρ'
  | bk ρ' => exact b ρ'
  | rt d ρ' => exact r d ρ'
  | ex y ρ' => exact x y ρ'
  | bad => exact id
/-- a while: what stands ahead of each turn, with a number that falls -/
theorem sw_whl {b : List Sx} (I : Nat → Rho → Prop) : ∀ (n : Nat) {ρ : Rho}, I n ρ →
    (∀ n ρ, I n ρ → XW P t ρ (fun d ρ1 => (d = .bl true ∧ SWs P b ρ1 { nx := fun ρ2 => ∃ m, m < n ∧ I m ρ2, rt := Q.rt, bk := Q.nx, ex := Q.ex }) ∨ (d = .bl false ∧ Q.nx ρ1)) Q.ex) → SW P (.whl t b) ρ Q := by
  intro n
  induction n using Nat.strongRecOn with
  | ind n ih =>
    intro ρ h0 hs
    refine ⟨?_⟩
    simp only [evS]
    rw [loopW_eq]
    refine at_to (wp_mono (hs n ρ h0).run (fun d ρ1 z => ?_) fun _ _ z => z)
    rcases z with ⟨rfl, z⟩ | ⟨rfl, z⟩
    · rw [onBS_t]
      have z := z.run
      revert z
      cases evSs P b ρ1 with
      | nx ρ' =>
        rintro ⟨m, hm, q⟩
        have := (ih m hm q hs).run
        simp only [evS] at this
        exact this
      | bk ρ' => exact id
      | rt d ρ' => exact id
      | ex x ρ' => exact id
      | bad => exact id
    · exact z
/-- raise C('m') -/
theorem sw_rai {x m : Str} {n : String} {yes no : List String} (g : P.G x = some (.cls n "=" yes no)) (h : Q.ex ⟨n, none⟩ ρ) : SW P (.rai x m) ρ Q := by
  refine ⟨?_⟩
  simp only [evS, g]
  exact h
/-- try: b except x as n: j = n -/
theorem sw_try {b : List Sx} {x : Str} {ie j : Nat} {n : String} {mk : String} {yes no : List String} (g : P.G x = some (.cls n mk yes no))
    (h : SWs P b ρ { nx := Q.nx, rt := Q.rt, bk := Q.bk, ex := fun xn ρ1 => yes.contains xn.cls = true ∧ ie < ρ1.length ∧ j < ρ1.length ∧ Q.nx ((ρ1.set j (some xn.toD)).set ie none) }) : SW P (.tryAs b x ie j) ρ Q := by
  refine ⟨?_⟩
  simp only [evS, g]
  have h := h.run
  revert h
  cases evSs P b ρ with
  | ex y ρ1 =>
    rintro ⟨a, b, c, q⟩
    show Q.at (if yes.contains y.cls = true ∧ ie < ρ1.length ∧ j < ρ1.length then .nx ((ρ1.set j (some y.toD)).set ie none) else .bad)
    rw [if_pos ⟨a, b, c⟩]
    exact q
  | nx ρ' => exact id
  | bk ρ' => exact id
  | rt d ρ' => exact id
  | bad => exact id
end
/-! ### defs -/
theorem run_wp {f : FnD} {P : Prg} {ds : List D} {Q : D → Rho → Prop} {E : Xn → Rho → Prop} (hl : ds.length = f.ps.length)
    (h : SWs P f.body (ds.map some ++ List.replicate (f.N.length - f.ps.length) none) { nx := fun ρ => Q .non (f.ends ρ), rt := fun d ρ => Q d (f.ends ρ), ex := fun x ρ => E x (f.ends ρ) }) : (f.run P ds).wp Q E := by
  rw [run_eq hl]
  have h := h.run
  revert h
  cases evSs P f.body (ds.map some ++ List.replicate (f.N.length - f.ps.length) none) with
  | nx ρ' => exact fun z => ⟨z⟩
  | rt d ρ' => exact fun z => ⟨z⟩
  | ex x ρ' => exact fun z => ⟨z⟩
  | bk ρ' => exact fun z => z.elim
  | bad => exact fun z => z.elim
/-! ### comprehensions without effect -/
theorem compP_fm {step : D → Option (Option D)} (g : D → Option D) : ∀ {items acc : List D}, (∀ x ∈ items, step x = some (g x)) → compP step acc items = some (acc ++ items.filterMap g)
  | [], acc, _ => by simp [compP]
  | x :: xs, acc, h => by
    unfold compP
    rw [h x List.mem_cons_self]
    cases e : g x with
    | none =>
      simp only
      rw [compP_fm g fun y hy => h y (List.mem_cons_of_mem _ hy)]
      simp [e]
    | some z =>
      simp only
      rw [compP_fm g fun y hy => h y (List.mem_cons_of_mem _ hy)]
      simp [e]
/-- .. by what each item gives -/
theorem v_comp2 {G : Str → Option D} {own : List (Str × Nat)} {elt : Ex} {p : Pat} {k : SrcK} {ss ifs : List Ex} {ρ : Rho} {ds items : List D} (g : D → Option D) (he : evPs G ss ρ = some ds) (hs : srcItems k ds = some items) (hl : items.length ≤ LIM)
    (hc : ∀ x ∈ items, stepP G (own.map (·.2)) elt p ifs ρ x = some (g x)) (hi : ∀ x ∈ items, ∀ y, g x = some y → y.imm = true) : evP G (.comp own elt p k ss ifs) ρ = some (.lst true (items.filterMap g)) :=
  v_comp he hs hl (by rw [compP_fm g hc]; rfl) (immL_iff.mpr fun y hy => by
    obtain ⟨x, hx, e⟩ := List.mem_filterMap.mp hy
    exact hi x hx y e)
end VL

namespace VL
open PySem PySem.Spec PyProof.Rows L2
/-! the core of the defs, printed by core.py -/
def top1 (i : Nat) : Stmt := PySem.Challenge.pw_fewturns_k09_least_turns.main.body.getD i (.Pass ⟨0, 0, 0, 0⟩)
def b_law_seed : List Sx := [
  .asg (.nm 1) (.node .max2 [.var 0, .node (.bin .Sub) [.lit (.int 0), .var 0]]),
  .ret (.node .lst [.var 1, .node .int [.node (.cmp .GtE) [.var 1, .node (.bin .Pow) [.lit (.int 10), .lit (.int 18)]]], .lit (.int 0), .node (.bin .Mod) [.var 0, .lit (.int 1999999913)]])]
def f_law_seed : FnD := ⟨["cell", "number"], ["cell"], [0], b_law_seed⟩
def l1_law_folded : List Sx := [
  .asg (.nm 1) (.node (.bin .Mod) [.node (.bin .Add) [.node (.bin .Mult) [.var 1, .lit (.int 48271)], .node (.bin .Mod) [.var 2, .lit (.int 2147483629)]], .lit (.int 2147483647)])]
def b_law_folded : List Sx := [
  .asg (.nm 1) (.node .len [.var 0]),
  .forS (.nm 2) .it [.sh 0] l1_law_folded,
  .ret (.tk 1)]
def f_law_folded : FnD := ⟨["script", "found", "cell"], ["script"], [0], b_law_folded⟩
def l1_law_free : List Sx := [
  .mut .ext 1 [] [.comp [("column", 4), ("sign", 5)] (.node .tup [.var 2, .var 4]) (.tp [.nm 4, .nm 5]) .enum [.var 3] [.node (.cmp .Eq) [.var 5, .lit (.str [46])]]]]
def b_law_free : List Sx := [
  .asg (.nm 1) (.node .lst []),
  .forS (.tp [.nm 2, .nm 3]) .enum [.sh 0] l1_law_free,
  .ret (.tk 1)]
def f_law_free : FnD := ⟨["grid", "found", "row", "line", "column", "sign"], ["grid"], [0], b_law_free⟩
def l1_law_beside : List Sx := [
  .par 8 9 (.node (.bin .Add) [.var 2, .var 6]) (.node (.bin .Add) [.var 3, .var 7]),
  .ifS (.and (.chain .LtE .Lt (.lit (.int 0)) (.var 8) (.node .len [.var 0])) (.and (.chain .LtE .Lt (.lit (.int 0)) (.var 9) (.node .len [.node .ix [.var 0, .lit (.int 0)]])) (.node (.cmp .Eq) [.node .ix [.node .ix [.var 0, .var 8], .var 9], .lit (.str [46])]))) [.mut .app 4 [] [.node .tup [.var 5, .node .tup [.var 8, .var 9]]]] []]
def b_law_beside : List Sx := [
  .asg (.tp [.nm 2, .nm 3]) (.tk 1),
  .asg (.nm 4) (.node .lst []),
  .forS (.tp [.nm 5, .nm 6, .nm 7]) .it [.node .lst [.node .tup [.lit (.str [101]), .lit (.int 0), .lit (.int 1)], .node .tup [.lit (.str [110]), .node .neg [.lit (.int 1)], .lit (.int 0)], .node .tup [.lit (.str [115]), .lit (.int 1), .lit (.int 0)], .node .tup [.lit (.str [119]), .lit (.int 0), .node .neg [.lit (.int 1)]]]] l1_law_beside,
  .ret (.tk 4)]
def f_law_beside : FnD := ⟨["grid", "place", "row", "column", "found", "heading", "down", "right", "a", "b"], ["grid", "place"], [0, 1], b_law_beside⟩
def l2_law_from : List Sx := [
  .dst 2 (.node .tup [.node .ix [.var 3, .var 6], .var 4]) (.var 6)]
def l4_law_from : List Sx := [
  .asg (.nm 11) (.node (.bin .Add) [.node .ix [.var 3, .node .tup [.var 7, .var 8]], .node .int [.and (.node (.cmp .NotEq) [.var 8, .lit (.str [])]) (.node (.cmp .NotEq) [.var 8, .var 9])]]),
  .asg (.nm 6) (.node .tup [.var 10, .var 9]),
  .ifS (.and (.node (.cmp .Lt) [.var 11, .node .ix [.node .get [.var 2, .var 6, .node .tup [.lit (.int 10000), .lit (.int 0)]], .lit (.int 0)]]) (.node (.cmp .Lt) [.var 11, .node .get [.var 5, .var 6, .lit (.int 10000)]])) [.dst 5 (.var 11) (.var 6)] []]
def l3_law_from : List Sx := [
  .forS (.tp [.nm 9, .nm 10]) .it [.call "_law_beside" [.var 0, .var 7]] l4_law_from]
def l1_law_from : List Sx := [
  .asg (.nm 5) (.dct [] []),
  .forS (.nm 6) .it [.sh 3] l2_law_from,
  .forS (.tp [.nm 7, .nm 8]) .it [.sh 3] l3_law_from,
  .asg (.nm 3) (.tk 5),
  .asg (.nm 4) (.node (.bin .Add) [.var 4, .lit (.int 1)])]
def b_law_from : List Sx := [
  .asg (.nm 2) (.dct [] []),
  .asg (.nm 3) (.dct [.node .tup [.var 1, .lit (.str [])]] [.lit (.int 0)]),
  .asg (.nm 4) (.lit (.int 0)),
  .whl (.node (.cmp .NotEq) [.var 3, .dct [] []]) l1_law_from,
  .ret (.tk 2)]
def f_law_from : FnD := ⟨["grid", "one", "best", "here", "length", "longer", "state", "place", "came", "heading", "then", "turns"], ["grid", "one"], [0, 1], b_law_from⟩
def b_law_draw : List Sx := [
  .mut .set 0 [] [.node (.bin .Add) [.node .ix [.var 0, .lit (.int 2)], .lit (.int 1)], .lit (.int 2)],
  .ifS (.and (.node (.cmp .Eq) [.node .ix [.var 0, .lit (.int 1)], .lit (.int 1)]) (.node (.cmp .Gt) [.node .ix [.var 0, .lit (.int 0)], .lit (.int 0)])) [.asg (.nm 2) (.node (.bin .Mod) [.node .ix [.var 0, .lit (.int 0)], .var 1]), .mut .set 0 [] [.node (.bin .FloorDiv) [.node .ix [.var 0, .lit (.int 0)], .var 1], .lit (.int 0)], .ret (.tk 2)] [],
  .asg (.nm 3) (.node (.bin .Mod) [.node (.bin .Mult) [.node (.bin .Add) [.node (.bin .Add) [.node .ix [.var 0, .lit (.int 3)], .node (.bin .Mult) [.lit (.int 6997), .node .ix [.var 0, .lit (.int 2)]]], .lit (.int 11)], .lit (.int 48271)], .lit (.int 2147483647)]),
  .asg (.nm 3) (.node (.bin .Mod) [.node (.bin .Mult) [.node (.bin .Mod) [.node (.bin .Mult) [.var 3, .var 3], .lit (.int 2147483629)], .lit (.int 40692)], .lit (.int 2147483399)]),
  .ret (.node (.bin .Mod) [.node (.bin .FloorDiv) [.var 3, .lit (.int 7)], .var 1])]
def f_law_draw : FnD := ⟨["seed", "most", "found", "number"], ["seed", "most"], [0, 1], b_law_draw⟩
def b_law_pair : List Sx := [
  .asg (.nm 2) (.comp [("heading", 3)] (.node .ix [.var 0, .node .tup [.var 1, .var 3]]) (.nm 3) .it [.node .lst [.lit (.str []), .lit (.str [101]), .lit (.str [110]), .lit (.str [115]), .lit (.str [119])]] [.node (.cmp .In) [.node .tup [.var 1, .var 3], .var 0]]),
  .ifS (.node (.cmp .Eq) [.var 2, .node .lst []]) [.ret (.lit .non)] [],
  .ret (.node .min2 [.var 2])]
def f_law_pair : FnD := ⟨["best", "other", "some", "heading"], ["best", "other"], [0, 1], b_law_pair⟩
def b_is_free : List Sx := [
  .asg (.tp [.nm 2, .nm 3]) (.tk 1),
  .ret (.and (.chain .LtE .Lt (.lit (.int 0)) (.var 2) (.node .len [.var 0])) (.and (.chain .LtE .Lt (.lit (.int 0)) (.var 3) (.node .len [.node .ix [.var 0, .lit (.int 0)]])) (.node (.cmp .Eq) [.node .ix [.node .ix [.var 0, .var 2], .var 3], .lit (.str [46])])))]
def f_is_free : FnD := ⟨["grid", "place", "row", "column"], ["grid", "place"], [0, 1], b_is_free⟩
def l1_need_free : List Sx := [
  .ifS (.not (.call "is_free" [.var 0, .var 2])) [.raiE "NoPlace" (.var 2)] []]
def b_need_free : List Sx := [
  .forS (.nm 2) .it [.sh 1] l1_need_free]
def f_need_free : FnD := ⟨["grid", "places", "place"], ["grid", "places"], [0, 1], b_need_free⟩
def b_told_from : List Sx := [
  .ifS (.node (.cmp .Eq) [.var 1, .var 2]) [.ret (.node .tup [.lit (.int 0), .lit (.int 0)])] [],
  .asg (.nm 3) (.comp [("heading", 4)] (.node .ix [.var 0, .node .tup [.var 2, .var 4]]) (.nm 4) .it [.glob "HEADINGS"] [.node (.cmp .In) [.node .tup [.var 2, .var 4], .var 0]]),
  .ret (.ite (.node (.cmp .NotEq) [.var 3, .node .lst []]) (.node .min2 [.var 3]) (.lit .non))]
def f_told_from : FnD := ⟨["known", "one", "place", "some", "heading"], ["known", "one", "place"], [0, 1, 2], b_told_from⟩
def b_beside : List Sx := [
  .asg (.tp [.nm 2, .nm 3]) (.node .ix [.glob "STEPS", .var 1]),
  .ret (.node .tup [.node (.bin .Add) [.node .ix [.var 0, .lit (.int 0)], .var 2], .node (.bin .Add) [.node .ix [.var 0, .lit (.int 1)], .var 3]])]
def f_beside : FnD := ⟨["place", "heading", "down", "right"], ["place", "heading"], [0, 1], b_beside⟩
def l2_straight_on : List Sx := [
  .ifS (.node (.cmp .LtE) [.node .get [.var 3, .node .tup [.var 5, .var 6], .node (.bin .Add) [.var 4, .lit (.int 1)]], .var 4]) [.brk] [],
  .dst 3 (.var 4) (.node .tup [.var 5, .var 6]),
  .asg (.nm 5) (.call "beside" [.var 5, .var 6]),
  .aug 4 .Add (.lit (.int 1))]
def l1_straight_on : List Sx := [
  .whl (.and (.call "is_free" [.var 0, .var 5]) (.node (.cmp .NotIn) [.node .tup [.var 5, .var 6], .var 2])) l2_straight_on]
def b_straight_on : List Sx := [
  .asg (.nm 3) (.dct [] []),
  .forS (.tp [.nm 4, .nm 5, .nm 6]) .it [.node .sorted [.comp [("state", 7)] (.node .tup [.node .ix [.var 1, .var 7], .node .ix [.var 7, .lit (.int 0)], .node .ix [.var 7, .lit (.int 1)]]) (.nm 7) .it [.sh 1] []]] l1_straight_on,
  .ret (.tk 3)]
def f_straight_on : FnD := ⟨["grid", "states", "settled", "found", "length", "place", "heading", "state"], ["grid", "states", "settled"], [0, 1, 2], b_straight_on⟩
def l2_search : List Sx := [
  .dst 4 (.node .tup [.var 5, .node .ix [.var 6, .var 7]]) (.var 7)]
def l4_search : List Sx := [
  .asg (.nm 10) (.node .tup [.call "beside" [.var 8, .var 9], .var 9]),
  .ifS (.and (.node (.cmp .NotEq) [.var 9, .var 3]) (.node (.cmp .NotIn) [.var 10, .var 4])) [.dst 2 (.node .min2 [.node .get [.var 2, .var 10, .lit (.int 10000)], .node (.bin .Add) [.node .ix [.var 6, .node .tup [.var 8, .var 3]], .lit (.int 1)]]) (.var 10)] []]
def l3_search : List Sx := [
  .forS (.nm 9) .it [.glob "HEADINGS"] l4_search]
def l1_search : List Sx := [
  .asg (.nm 6) (.call "straight_on" [.var 0, .var 2, .var 4]),
  .asg (.nm 2) (.dct [] []),
  .forS (.nm 7) .it [.sh 6] l2_search,
  .forS (.tp [.nm 8, .nm 3]) .it [.sh 6] l3_search,
  .aug 5 .Add (.lit (.int 1))]
def b_search : List Sx := [
  .asg (.nm 2) (.node .dictL [.comp [("heading", 3)] (.node .tup [.node .tup [.call "beside" [.var 1, .var 3], .var 3], .lit (.int 1)]) (.nm 3) .it [.glob "HEADINGS"] []]),
  .asg (.nm 4) (.dct [] []),
  .asg (.nm 5) (.lit (.int 0)),
  .whl (.node (.cmp .NotEq) [.var 2, .dct [] []]) l1_search,
  .ret (.tk 4)]
def f_search : FnD := ⟨["grid", "start", "states", "heading", "settled", "turns", "here", "state", "place", "other", "then"], ["grid", "start"], [0, 1], b_search⟩
def b_least_turns : List Sx := [
  .expr (.call "need_free" [.var 0, .node .tup [.var 1, .var 2]]),
  .ret (.call "told_from" [.call "search" [.var 0, .var 1], .var 1, .var 2])]
def f_least_turns : FnD := ⟨["grid", "one", "other"], ["grid", "one", "other"], [0, 1, 2], b_least_turns⟩
def b_law_is_pair : List Sx := [
  .ifS (.node (.cmp .Is) [.var 1, .lit .non]) [.ret (.node (.cmp .Is) [.var 0, .lit .non])] [],
  .ifS (.or (.not (.node (.isi "tuple") [.var 0])) (.node (.cmp .NotEq) [.var 0, .var 1])) [.ret (.lit (.bl false))] [],
  .ret (.node (.cmp .Eq) [.comp [("one", 2)] (.lit (.int 1)) (.nm 2) .it [.var 0] [.or (.node (.isi "bool") [.var 2]) (.not (.node (.isi "int") [.var 2]))], .node .lst []])]
def f_law_is_pair : FnD := ⟨["found", "due", "one"], ["found", "due"], [0, 1], b_law_is_pair⟩
def l2_law_right : List Sx := [
  .asg (.nm 8) (.call "_law_pair" [.var 4, .var 7]),
  .ifS (.not (.call "_law_is_pair" [.call "least_turns" [.var 1, .var 3, .var 7], .var 8])) [.ret (.lit (.bl false))] []]
def l1_law_right : List Sx := [
  .asg (.nm 4) (.call "_law_from" [.var 1, .var 3]),
  .asg (.nm 5) (.node (.bin .Add) [.comp [("turn", 6)] (.node .ix [.var 2, .call "_law_draw" [.var 0, .node .len [.var 2]]]) (.nm 6) .rng [.lit (.int 5)] [], .node .lst [.node .ix [.var 2, .lit (.int 0)], .node .ix [.var 2, .node .neg [.lit (.int 1)]], .var 3]]),
  .forS (.nm 7) .it [.sh 5] l2_law_right,
  .ifS (.node (.cmp .NotEq) [.call "least_turns" [.var 1, .var 3, .node .ix [.var 5, .lit (.int 0)]], .call "_law_pair" [.var 4, .node .ix [.var 5, .lit (.int 0)]]]) [.ret (.lit (.bl false))] []]
def b_law_right : List Sx := [
  .asg (.nm 2) (.call "_law_free" [.var 1]),
  .ifS (.node (.cmp .Eq) [.var 2, .node .lst []]) [.ret (.lit (.bl true))] [],
  .forS (.nm 3) .it [.node .tup [.node .ix [.var 2, .call "_law_draw" [.var 0, .node .len [.var 2]]], .node .ix [.var 2, .node .ix [.node .lst [.lit (.int 0), .node .neg [.lit (.int 1)]], .call "_law_draw" [.var 0, .lit (.int 2)]]]]] l1_law_right,
  .ret (.lit (.bl true))]
def f_law_right : FnD := ⟨["seed", "grid", "free", "one", "best", "others", "turn", "other", "due"], ["seed", "grid"], [0, 1], b_law_right⟩
def l1_law_spiral : List Sx := [
  .asg (.tp [.nm 6, .nm 7]) (.node .ix [.node .lst [.node .tup [.lit (.int 0), .lit (.int 1)], .node .tup [.lit (.int 1), .lit (.int 0)], .node .tup [.lit (.int 0), .node .neg [.lit (.int 1)]], .node .tup [.node .neg [.lit (.int 1)], .lit (.int 0)]], .var 4]),
  .asg (.nm 8) (.node .tup [.node (.bin .Add) [.node .ix [.var 3, .lit (.int 0)], .var 6], .node (.bin .Add) [.node .ix [.var 3, .lit (.int 1)], .var 7]]),
  .asg (.nm 9) (.node .tup [.node (.bin .Add) [.node .ix [.var 8, .lit (.int 0)], .var 6], .node (.bin .Add) [.node .ix [.var 8, .lit (.int 1)], .var 7]]),
  .ifS (.and (.chain .LtE .Lt (.lit (.int 0)) (.node .ix [.var 8, .lit (.int 0)]) (.var 0)) (.and (.chain .LtE .Lt (.lit (.int 0)) (.node .ix [.var 8, .lit (.int 1)]) (.var 1)) (.and (.node (.cmp .NotIn) [.var 8, .var 2]) (.node (.cmp .NotIn) [.var 9, .var 2])))) [.dst 2 (.lit (.bl true)) (.var 8), .asg (.nm 3) (.var 8), .asg (.nm 5) (.lit (.int 0))] [.asg (.nm 4) (.node (.bin .Mod) [.node (.bin .Add) [.var 4, .lit (.int 1)], .lit (.int 4)]), .asg (.nm 5) (.node (.bin .Add) [.var 5, .lit (.int 1)])]]
def b_law_spiral : List Sx := [
  .asg (.nm 2) (.dct [.node .tup [.lit (.int 0), .lit (.int 0)]] [.lit (.bl true)]),
  .asg (.nm 3) (.node .tup [.lit (.int 0), .lit (.int 0)]),
  .asg (.nm 4) (.lit (.int 0)),
  .asg (.nm 5) (.lit (.int 0)),
  .whl (.node (.cmp .Lt) [.var 5, .lit (.int 2)]) l1_law_spiral,
  .ret (.tk 2)]
def f_law_spiral : FnD := ⟨["rows", "columns", "free", "place", "heading", "turned", "down", "right", "then", "far"], ["rows", "columns"], [0, 1], b_law_spiral⟩
def b_law_sign : List Sx := [
  .ifS (.node (.cmp .Lt) [.var 1, .lit (.int 3)]) [.ret (.node (.cmp .Eq) [.call "_law_draw" [.var 0, .node .ix [.node .lst [.lit (.int 2), .lit (.int 3), .lit (.int 5)], .var 1]], .lit (.int 0)])] [],
  .ifS (.node (.cmp .Eq) [.var 1, .lit (.int 3)]) [.ret (.lit (.bl false))] [],
  .ifS (.node (.cmp .Eq) [.var 1, .lit (.int 4)]) [.ret (.and (.node (.cmp .Eq) [.node (.bin .Mod) [.var 2, .lit (.int 2)], .lit (.int 1)]) (.node (.cmp .NotEq) [.var 3, .node .ix [.node .lst [.node (.bin .Sub) [.var 4, .lit (.int 1)], .lit (.int 0)], .node (.bin .Mod) [.node (.bin .FloorDiv) [.var 2, .lit (.int 2)], .lit (.int 2)]]]))] [],
  .ifS (.node (.cmp .Eq) [.var 1, .lit (.int 5)]) [.ret (.and (.node (.cmp .Eq) [.node (.bin .Mod) [.var 3, .lit (.int 2)], .lit (.int 1)]) (.node (.cmp .NotEq) [.var 2, .node .ix [.node .lst [.lit (.int 0), .lit (.int 2)], .node (.bin .Mod) [.node (.bin .FloorDiv) [.var 3, .lit (.int 2)], .lit (.int 2)]]]))] [],
  .ret (.and (.node (.cmp .Eq) [.node (.bin .Mod) [.node (.bin .Add) [.var 2, .var 3], .lit (.int 3)], .lit (.int 0)]) (.node (.cmp .NotEq) [.var 2, .var 3]))]
def f_law_sign : FnD := ⟨["seed", "kind", "row", "column", "columns"], ["seed", "kind", "row", "column", "columns"], [0, 1, 2, 3, 4], b_law_sign⟩
def l1_law_grid : List Sx := [
  .mut .app 5 [] [.comp [("column", 7)] (.node .ix [.lit (.str [46, 35]), .node .int [.call "_law_sign" [.var 0, .var 4, .var 6, .var 7, .var 3]]]) (.nm 7) .rng [.var 3] []]]
def l2_law_grid : List Sx := [
  .mut .set 5 [] [.comp [("column", 7)] (.node .ix [.lit (.str [35, 46]), .node .int [.node (.cmp .In) [.node .tup [.var 6, .var 7], .var 8]]]) (.nm 7) .rng [.var 3] [], .var 6]]
def l3_law_grid : List Sx := [
  .asg (.nm 6) (.call "_law_draw" [.var 0, .var 2]),
  .asg (.nm 7) (.call "_law_draw" [.var 0, .var 3]),
  .mut .set 5 [.var 6] [.node .ix [.lit (.str [35, 46]), .node .int [.node (.cmp .Eq) [.node .ix [.node .ix [.var 5, .var 6], .var 7], .lit (.str [35])]]], .var 7]]
def b_law_grid : List Sx := [
  .asg (.nm 2) (.node .ix [.node .lst [.node (.bin .Add) [.lit (.int 1), .call "_law_draw" [.var 0, .var 1]], .var 1], .call "_law_draw" [.var 0, .lit (.int 2)]]),
  .asg (.nm 3) (.node .ix [.node .lst [.node (.bin .Add) [.lit (.int 1), .call "_law_draw" [.var 0, .var 1]], .var 1], .call "_law_draw" [.var 0, .lit (.int 2)]]),
  .asg (.nm 4) (.call "_law_draw" [.var 0, .lit (.int 9)]),
  .asg (.nm 5) (.node .lst []),
  .forS (.nm 6) .rng [.var 2] l1_law_grid,
  .ifS (.node (.cmp .Gt) [.var 4, .lit (.int 6)]) [.asg (.nm 8) (.call "_law_spiral" [.var 2, .var 3]), .forS (.nm 6) .rng [.var 2] l2_law_grid] [],
  .ifS (.node (.cmp .Eq) [.var 4, .lit (.int 8)]) [.rvS 5] [],
  .forS (.nm 9) .rng [.call "_law_draw" [.var 0, .lit (.int 3)]] l3_law_grid,
  .ret (.node .tuple [.comp [("line", 10)] (.node .join [.lit (.str []), .var 10]) (.nm 10) .it [.var 5] []])]
def f_law_grid : FnD := ⟨["seed", "most", "rows", "columns", "kind", "signs", "row", "column", "free", "turn", "line"], ["seed", "most"], [0, 1], b_law_grid⟩
def l1_law : List Sx := [
  .asg (.nm 2) (.call "_law_seed" [.var 1]),
  .ifS (.not (.call "_law_right" [.var 2, .call "_law_grid" [.var 2, .node .ix [.node .lst [.lit (.int 6), .lit (.int 12)], .call "_law_draw" [.var 2, .lit (.int 2)]]]])) [.ret (.lit (.bl false))] []]
def b_law : List Sx := [
  .forS (.nm 1) .it [.node (.bin .Add) [.node (.slc false true) [.var 0, .lit (.int 2)], .node .lst [.call "_law_folded" [.var 0]]]] l1_law,
  .ret (.lit (.bl true))]
def f_law : FnD := ⟨["script", "cell", "seed"], ["script"], [0], b_law⟩
abbrev tb0 : Tbl := []
abbrev tb1 : Tbl := ("_law_seed", f_law_seed) :: tb0
abbrev tb2 : Tbl := ("_law_folded", f_law_folded) :: tb1
abbrev tb3 : Tbl := ("_law_free", f_law_free) :: tb2
abbrev tb4 : Tbl := ("_law_beside", f_law_beside) :: tb3
abbrev tb5 : Tbl := ("_law_from", f_law_from) :: tb4
abbrev tb6 : Tbl := ("_law_draw", f_law_draw) :: tb5
abbrev tb7 : Tbl := ("_law_pair", f_law_pair) :: tb6
abbrev tb8 : Tbl := ("is_free", f_is_free) :: tb7
abbrev tb9 : Tbl := ("need_free", f_need_free) :: tb8
abbrev tb10 : Tbl := ("told_from", f_told_from) :: tb9
abbrev tb11 : Tbl := ("beside", f_beside) :: tb10
abbrev tb12 : Tbl := ("straight_on", f_straight_on) :: tb11
abbrev tb13 : Tbl := ("search", f_search) :: tb12
abbrev tb14 : Tbl := ("least_turns", f_least_turns) :: tb13
abbrev tb15 : Tbl := ("_law_is_pair", f_law_is_pair) :: tb14
abbrev tb16 : Tbl := ("_law_right", f_law_right) :: tb15
abbrev tb17 : Tbl := ("_law_spiral", f_law_spiral) :: tb16
abbrev tb18 : Tbl := ("_law_sign", f_law_sign) :: tb17
abbrev tb19 : Tbl := ("_law_grid", f_law_grid) :: tb18
abbrev tb20 : Tbl := ("law", f_law) :: tb19
def gd_NoPlace : D := .cls "NoPlace" "place" ["NoPlace"] []
def gd_HEADINGS : D := .str [101, 110, 115, 119]
def gd_STEPS : D := .dks [[101], [110], [115], [119]] [.tup [.int (0), .int (1)], .tup [.int (-1), .int (0)], .tup [.int (1), .int (0)], .tup [.int (0), .int (-1)]]
def gd_TurnError : D := .cls "TurnError" "=" ["NoPlace"] []
def G0 : Str → Option D := fun x => if x = ("NoPlace" : Str) then some gd_NoPlace else if x = ("HEADINGS" : Str) then some gd_HEADINGS else if x = ("STEPS" : Str) then some gd_STEPS else if x = ("TurnError" : Str) then some gd_TurnError else none
def ini_NoPlace : Stmt := match top1 2 with | .ClassDef _ _ _ b _ _ _ _ _ _ _ => b.getD 0 (.Pass ⟨0, 0, 0, 0⟩) | s => s
theorem isc_NoPlace : FnScope ["self", "place"] ["self", "place"] (defScope ini_NoPlace) := ⟨rfl, rfl, rfl, by decide +kernel, rfl, by decide +kernel, by decide +kernel⟩
theorem iib_NoPlace : iniBody "self" "place" (Str.ofString "place") [110, 111, 32, 115, 117, 99, 104, 32, 112, 108, 97, 99, 101, 58, 32] (defScope ini_NoPlace) (defBody ini_NoPlace) = true := by decide +kernel
theorem g0_NoPlace : G0 "NoPlace" = some gd_NoPlace := by decide +kernel
theorem g0_HEADINGS : G0 "HEADINGS" = some gd_HEADINGS := by decide +kernel
theorem g0_STEPS : G0 "STEPS" = some gd_STEPS := by decide +kernel
theorem g0_TurnError : G0 "TurnError" = some gd_TurnError := by decide +kernel
noncomputable abbrev pg_law_seed : Prg := prg G0 tb0
noncomputable abbrev pg_law_folded : Prg := prg G0 tb1
noncomputable abbrev pg_law_free : Prg := prg G0 tb2
noncomputable abbrev pg_law_beside : Prg := prg G0 tb3
noncomputable abbrev pg_law_from : Prg := prg G0 tb4
noncomputable abbrev pg_law_draw : Prg := prg G0 tb5
noncomputable abbrev pg_law_pair : Prg := prg G0 tb6
noncomputable abbrev pg_is_free : Prg := prg G0 tb7
noncomputable abbrev pg_need_free : Prg := prg G0 tb8
noncomputable abbrev pg_told_from : Prg := prg G0 tb9
noncomputable abbrev pg_beside : Prg := prg G0 tb10
noncomputable abbrev pg_straight_on : Prg := prg G0 tb11
noncomputable abbrev pg_search : Prg := prg G0 tb12
noncomputable abbrev pg_least_turns : Prg := prg G0 tb13
noncomputable abbrev pg_law_is_pair : Prg := prg G0 tb14
noncomputable abbrev pg_law_right : Prg := prg G0 tb15
noncomputable abbrev pg_law_spiral : Prg := prg G0 tb16
noncomputable abbrev pg_law_sign : Prg := prg G0 tb17
noncomputable abbrev pg_law_grid : Prg := prg G0 tb18
noncomputable abbrev pg_law : Prg := prg G0 tb19
theorem fn_law_from_law_beside : (prg G0 tb4).fns "_law_beside" = some (f_law_beside.run (prg G0 tb3)) := prg_hit
theorem fn_need_free_is_free : (prg G0 tb8).fns "is_free" = some (f_is_free.run (prg G0 tb7)) := prg_hit
theorem fn_straight_on_is_free : (prg G0 tb11).fns "is_free" = some (f_is_free.run (prg G0 tb7)) := (prg_miss (by decide +kernel)).trans ((prg_miss (by decide +kernel)).trans ((prg_miss (by decide +kernel)).trans (prg_hit)))
theorem fn_straight_on_beside : (prg G0 tb11).fns "beside" = some (f_beside.run (prg G0 tb10)) := prg_hit
theorem fn_search_straight_on : (prg G0 tb12).fns "straight_on" = some (f_straight_on.run (prg G0 tb11)) := prg_hit
theorem fn_search_beside : (prg G0 tb12).fns "beside" = some (f_beside.run (prg G0 tb10)) := (prg_miss (by decide +kernel)).trans (prg_hit)
theorem fn_least_turns_need_free : (prg G0 tb13).fns "need_free" = some (f_need_free.run (prg G0 tb8)) := (prg_miss (by decide +kernel)).trans ((prg_miss (by decide +kernel)).trans ((prg_miss (by decide +kernel)).trans ((prg_miss (by decide +kernel)).trans (prg_hit))))
theorem fn_least_turns_told_from : (prg G0 tb13).fns "told_from" = some (f_told_from.run (prg G0 tb9)) := (prg_miss (by decide +kernel)).trans ((prg_miss (by decide +kernel)).trans ((prg_miss (by decide +kernel)).trans (prg_hit)))
theorem fn_least_turns_search : (prg G0 tb13).fns "search" = some (f_search.run (prg G0 tb12)) := prg_hit
theorem fn_law_right_law_free : (prg G0 tb15).fns "_law_free" = some (f_law_free.run (prg G0 tb2)) := (prg_miss (by decide +kernel)).trans ((prg_miss (by decide +kernel)).trans ((prg_miss (by decide +kernel)).trans ((prg_miss (by decide +kernel)).trans ((prg_miss (by decide +kernel)).trans ((prg_miss (by decide +kernel)).trans ((prg_miss (by decide +kernel)).trans ((prg_miss (by decide +kernel)).trans ((prg_miss (by decide +kernel)).trans ((prg_miss (by decide +kernel)).trans ((prg_miss (by decide +kernel)).trans ((prg_miss (by decide +kernel)).trans (prg_hit))))))))))))
theorem fn_law_right_law_from : (prg G0 tb15).fns "_law_from" = some (f_law_from.run (prg G0 tb4)) := (prg_miss (by decide +kernel)).trans ((prg_miss (by decide +kernel)).trans ((prg_miss (by decide +kernel)).trans ((prg_miss (by decide +kernel)).trans ((prg_miss (by decide +kernel)).trans ((prg_miss (by decide +kernel)).trans ((prg_miss (by decide +kernel)).trans ((prg_miss (by decide +kernel)).trans ((prg_miss (by decide +kernel)).trans ((prg_miss (by decide +kernel)).trans (prg_hit))))))))))
theorem fn_law_right_law_draw : (prg G0 tb15).fns "_law_draw" = some (f_law_draw.run (prg G0 tb5)) := (prg_miss (by decide +kernel)).trans ((prg_miss (by decide +kernel)).trans ((prg_miss (by decide +kernel)).trans ((prg_miss (by decide +kernel)).trans ((prg_miss (by decide +kernel)).trans ((prg_miss (by decide +kernel)).trans ((prg_miss (by decide +kernel)).trans ((prg_miss (by decide +kernel)).trans ((prg_miss (by decide +kernel)).trans (prg_hit)))))))))
theorem fn_law_right_law_pair : (prg G0 tb15).fns "_law_pair" = some (f_law_pair.run (prg G0 tb6)) := (prg_miss (by decide +kernel)).trans ((prg_miss (by decide +kernel)).trans ((prg_miss (by decide +kernel)).trans ((prg_miss (by decide +kernel)).trans ((prg_miss (by decide +kernel)).trans ((prg_miss (by decide +kernel)).trans ((prg_miss (by decide +kernel)).trans ((prg_miss (by decide +kernel)).trans (prg_hit))))))))
theorem fn_law_right_least_turns : (prg G0 tb15).fns "least_turns" = some (f_least_turns.run (prg G0 tb13)) := (prg_miss (by decide +kernel)).trans (prg_hit)
theorem fn_law_right_law_is_pair : (prg G0 tb15).fns "_law_is_pair" = some (f_law_is_pair.run (prg G0 tb14)) := prg_hit
theorem fn_law_sign_law_draw : (prg G0 tb17).fns "_law_draw" = some (f_law_draw.run (prg G0 tb5)) := (prg_miss (by decide +kernel)).trans ((prg_miss (by decide +kernel)).trans ((prg_miss (by decide +kernel)).trans ((prg_miss (by decide +kernel)).trans ((prg_miss (by decide +kernel)).trans ((prg_miss (by decide +kernel)).trans ((prg_miss (by decide +kernel)).trans ((prg_miss (by decide +kernel)).trans ((prg_miss (by decide +kernel)).trans ((prg_miss (by decide +kernel)).trans ((prg_miss (by decide +kernel)).trans (prg_hit)))))))))))
theorem fn_law_grid_law_draw : (prg G0 tb18).fns "_law_draw" = some (f_law_draw.run (prg G0 tb5)) := (prg_miss (by decide +kernel)).trans ((prg_miss (by decide +kernel)).trans ((prg_miss (by decide +kernel)).trans ((prg_miss (by decide +kernel)).trans ((prg_miss (by decide +kernel)).trans ((prg_miss (by decide +kernel)).trans ((prg_miss (by decide +kernel)).trans ((prg_miss (by decide +kernel)).trans ((prg_miss (by decide +kernel)).trans ((prg_miss (by decide +kernel)).trans ((prg_miss (by decide +kernel)).trans ((prg_miss (by decide +kernel)).trans (prg_hit))))))))))))
theorem fn_law_grid_law_spiral : (prg G0 tb18).fns "_law_spiral" = some (f_law_spiral.run (prg G0 tb16)) := (prg_miss (by decide +kernel)).trans (prg_hit)
theorem fn_law_grid_law_sign : (prg G0 tb18).fns "_law_sign" = some (f_law_sign.run (prg G0 tb17)) := prg_hit
theorem fn_law_law_seed : (prg G0 tb19).fns "_law_seed" = some (f_law_seed.run (prg G0 tb0)) := (prg_miss (by decide +kernel)).trans ((prg_miss (by decide +kernel)).trans ((prg_miss (by decide +kernel)).trans ((prg_miss (by decide +kernel)).trans ((prg_miss (by decide +kernel)).trans ((prg_miss (by decide +kernel)).trans ((prg_miss (by decide +kernel)).trans ((prg_miss (by decide +kernel)).trans ((prg_miss (by decide +kernel)).trans ((prg_miss (by decide +kernel)).trans ((prg_miss (by decide +kernel)).trans ((prg_miss (by decide +kernel)).trans ((prg_miss (by decide +kernel)).trans ((prg_miss (by decide +kernel)).trans ((prg_miss (by decide +kernel)).trans ((prg_miss (by decide +kernel)).trans ((prg_miss (by decide +kernel)).trans ((prg_miss (by decide +kernel)).trans (prg_hit))))))))))))))))))
theorem fn_law_law_folded : (prg G0 tb19).fns "_law_folded" = some (f_law_folded.run (prg G0 tb1)) := (prg_miss (by decide +kernel)).trans ((prg_miss (by decide +kernel)).trans ((prg_miss (by decide +kernel)).trans ((prg_miss (by decide +kernel)).trans ((prg_miss (by decide +kernel)).trans ((prg_miss (by decide +kernel)).trans ((prg_miss (by decide +kernel)).trans ((prg_miss (by decide +kernel)).trans ((prg_miss (by decide +kernel)).trans ((prg_miss (by decide +kernel)).trans ((prg_miss (by decide +kernel)).trans ((prg_miss (by decide +kernel)).trans ((prg_miss (by decide +kernel)).trans ((prg_miss (by decide +kernel)).trans ((prg_miss (by decide +kernel)).trans ((prg_miss (by decide +kernel)).trans ((prg_miss (by decide +kernel)).trans (prg_hit)))))))))))))))))
theorem fn_law_law_right : (prg G0 tb19).fns "_law_right" = some (f_law_right.run (prg G0 tb15)) := (prg_miss (by decide +kernel)).trans ((prg_miss (by decide +kernel)).trans ((prg_miss (by decide +kernel)).trans (prg_hit)))
theorem fn_law_law_grid : (prg G0 tb19).fns "_law_grid" = some (f_law_grid.run (prg G0 tb18)) := prg_hit
theorem fn_law_law_draw : (prg G0 tb19).fns "_law_draw" = some (f_law_draw.run (prg G0 tb5)) := (prg_miss (by decide +kernel)).trans ((prg_miss (by decide +kernel)).trans ((prg_miss (by decide +kernel)).trans ((prg_miss (by decide +kernel)).trans ((prg_miss (by decide +kernel)).trans ((prg_miss (by decide +kernel)).trans ((prg_miss (by decide +kernel)).trans ((prg_miss (by decide +kernel)).trans ((prg_miss (by decide +kernel)).trans ((prg_miss (by decide +kernel)).trans ((prg_miss (by decide +kernel)).trans ((prg_miss (by decide +kernel)).trans ((prg_miss (by decide +kernel)).trans (prg_hit)))))))))))))
theorem gv_NoPlace {t : Tbl} : (prg G0 t).G "NoPlace" = some gd_NoPlace := by rw [prg_G]; exact g0_NoPlace
theorem gv_HEADINGS {t : Tbl} : (prg G0 t).G "HEADINGS" = some gd_HEADINGS := by rw [prg_G]; exact g0_HEADINGS
theorem gv_STEPS {t : Tbl} : (prg G0 t).G "STEPS" = some gd_STEPS := by rw [prg_G]; exact g0_STEPS
theorem gv_TurnError {t : Tbl} : (prg G0 t).G "TurnError" = some gd_TurnError := by rw [prg_G]; exact g0_TurnError
theorem sc_f_law_seed : FnScope f_law_seed.N f_law_seed.ps (defScope (top1 16)) := ⟨rfl, rfl, rfl, by decide +kernel, rfl, by decide +kernel, by decide +kernel⟩
theorem ms_f_law_seed : mSs f_law_seed.N (defScope (top1 16)) (fun _ => true) f_law_seed.kp f_law_seed.body (defBody (top1 16)) = true := by decide +kernel
theorem sc_f_law_folded : FnScope f_law_folded.N f_law_folded.ps (defScope (top1 15)) := ⟨rfl, rfl, rfl, by decide +kernel, rfl, by decide +kernel, by decide +kernel⟩
theorem ms_f_law_folded : mSs f_law_folded.N (defScope (top1 15)) (fun _ => true) f_law_folded.kp f_law_folded.body (defBody (top1 15)) = true := by decide +kernel
theorem sc_f_law_free : FnScope f_law_free.N f_law_free.ps (defScope (top1 21)) := ⟨rfl, rfl, rfl, by decide +kernel, rfl, by decide +kernel, by decide +kernel⟩
theorem ms_f_law_free : mSs f_law_free.N (defScope (top1 21)) (fun _ => true) f_law_free.kp f_law_free.body (defBody (top1 21)) = true := by decide +kernel
theorem sc_f_law_beside : FnScope f_law_beside.N f_law_beside.ps (defScope (top1 22)) := ⟨rfl, rfl, rfl, by decide +kernel, rfl, by decide +kernel, by decide +kernel⟩
theorem ms_f_law_beside : mSs f_law_beside.N (defScope (top1 22)) (fun _ => true) f_law_beside.kp f_law_beside.body (defBody (top1 22)) = true := by decide +kernel
theorem sc_f_law_from : FnScope f_law_from.N f_law_from.ps (defScope (top1 23)) := ⟨rfl, rfl, rfl, by decide +kernel, rfl, by decide +kernel, by decide +kernel⟩
theorem ms_f_law_from : mSs f_law_from.N (defScope (top1 23)) (fun _ => true) f_law_from.kp f_law_from.body (defBody (top1 23)) = true := by decide +kernel
theorem sc_f_law_draw : FnScope f_law_draw.N f_law_draw.ps (defScope (top1 17)) := ⟨rfl, rfl, rfl, by decide +kernel, rfl, by decide +kernel, by decide +kernel⟩
theorem ms_f_law_draw : mSs f_law_draw.N (defScope (top1 17)) (fun _ => true) f_law_draw.kp f_law_draw.body (defBody (top1 17)) = true := by decide +kernel
theorem sc_f_law_pair : FnScope f_law_pair.N f_law_pair.ps (defScope (top1 24)) := ⟨rfl, rfl, rfl, by decide +kernel, rfl, by decide +kernel, by decide +kernel⟩
theorem ms_f_law_pair : mSs f_law_pair.N (defScope (top1 24)) (fun _ => true) f_law_pair.kp f_law_pair.body (defBody (top1 24)) = true := by decide +kernel
theorem sc_f_is_free : FnScope f_is_free.N f_is_free.ps (defScope (top1 6)) := ⟨rfl, rfl, rfl, by decide +kernel, rfl, by decide +kernel, by decide +kernel⟩
theorem ms_f_is_free : mSs f_is_free.N (defScope (top1 6)) (fun _ => true) f_is_free.kp f_is_free.body (defBody (top1 6)) = true := by decide +kernel
theorem sc_f_need_free : FnScope f_need_free.N f_need_free.ps (defScope (top1 7)) := ⟨rfl, rfl, rfl, by decide +kernel, rfl, by decide +kernel, by decide +kernel⟩
theorem ms_f_need_free : mSs f_need_free.N (defScope (top1 7)) (fun _ => true) f_need_free.kp f_need_free.body (defBody (top1 7)) = true := by decide +kernel
theorem sc_f_told_from : FnScope f_told_from.N f_told_from.ps (defScope (top1 12)) := ⟨rfl, rfl, rfl, by decide +kernel, rfl, by decide +kernel, by decide +kernel⟩
theorem ms_f_told_from : mSs f_told_from.N (defScope (top1 12)) (fun _ => true) f_told_from.kp f_told_from.body (defBody (top1 12)) = true := by decide +kernel
theorem sc_f_beside : FnScope f_beside.N f_beside.ps (defScope (top1 8)) := ⟨rfl, rfl, rfl, by decide +kernel, rfl, by decide +kernel, by decide +kernel⟩
theorem ms_f_beside : mSs f_beside.N (defScope (top1 8)) (fun _ => true) f_beside.kp f_beside.body (defBody (top1 8)) = true := by decide +kernel
theorem sc_f_straight_on : FnScope f_straight_on.N f_straight_on.ps (defScope (top1 9)) := ⟨rfl, rfl, rfl, by decide +kernel, rfl, by decide +kernel, by decide +kernel⟩
theorem ms_f_straight_on : mSs f_straight_on.N (defScope (top1 9)) (fun _ => true) f_straight_on.kp f_straight_on.body (defBody (top1 9)) = true := by decide +kernel
theorem sc_f_search : FnScope f_search.N f_search.ps (defScope (top1 10)) := ⟨rfl, rfl, rfl, by decide +kernel, rfl, by decide +kernel, by decide +kernel⟩
theorem ms_f_search : mSs f_search.N (defScope (top1 10)) (fun _ => true) f_search.kp f_search.body (defBody (top1 10)) = true := by decide +kernel
theorem sc_f_least_turns : FnScope f_least_turns.N f_least_turns.ps (defScope (top1 13)) := ⟨rfl, rfl, rfl, by decide +kernel, rfl, by decide +kernel, by decide +kernel⟩
theorem ms_f_least_turns : mSs f_least_turns.N (defScope (top1 13)) (fun _ => true) f_least_turns.kp f_least_turns.body (defBody (top1 13)) = true := by decide +kernel
theorem sc_f_law_is_pair : FnScope f_law_is_pair.N f_law_is_pair.ps (defScope (top1 25)) := ⟨rfl, rfl, rfl, by decide +kernel, rfl, by decide +kernel, by decide +kernel⟩
theorem ms_f_law_is_pair : mSs f_law_is_pair.N (defScope (top1 25)) (fun _ => true) f_law_is_pair.kp f_law_is_pair.body (defBody (top1 25)) = true := by decide +kernel
theorem sc_f_law_right : FnScope f_law_right.N f_law_right.ps (defScope (top1 26)) := ⟨rfl, rfl, rfl, by decide +kernel, rfl, by decide +kernel, by decide +kernel⟩
theorem ms_f_law_right : mSs f_law_right.N (defScope (top1 26)) (fun _ => true) f_law_right.kp f_law_right.body (defBody (top1 26)) = true := by decide +kernel
theorem sc_f_law_spiral : FnScope f_law_spiral.N f_law_spiral.ps (defScope (top1 18)) := ⟨rfl, rfl, rfl, by decide +kernel, rfl, by decide +kernel, by decide +kernel⟩
theorem ms_f_law_spiral : mSs f_law_spiral.N (defScope (top1 18)) (fun _ => true) f_law_spiral.kp f_law_spiral.body (defBody (top1 18)) = true := by decide +kernel
theorem sc_f_law_sign : FnScope f_law_sign.N f_law_sign.ps (defScope (top1 19)) := ⟨rfl, rfl, rfl, by decide +kernel, rfl, by decide +kernel, by decide +kernel⟩
theorem ms_f_law_sign : mSs f_law_sign.N (defScope (top1 19)) (fun _ => true) f_law_sign.kp f_law_sign.body (defBody (top1 19)) = true := by decide +kernel
theorem sc_f_law_grid : FnScope f_law_grid.N f_law_grid.ps (defScope (top1 20)) := ⟨rfl, rfl, rfl, by decide +kernel, rfl, by decide +kernel, by decide +kernel⟩
theorem ms_f_law_grid : mSs f_law_grid.N (defScope (top1 20)) (fun _ => true) f_law_grid.kp f_law_grid.body (defBody (top1 20)) = true := by decide +kernel
theorem sc_f_law : FnScope f_law.N f_law.ps (defScope (top1 27)) := ⟨rfl, rfl, rfl, by decide +kernel, rfl, by decide +kernel, by decide +kernel⟩
theorem ms_f_law : mSs f_law.N (defScope (top1 27)) (fun _ => true) f_law.kp f_law.body (defBody (top1 27)) = true := by decide +kernel
end VL

namespace VL
open PySem PySem.Spec PyProof.Rows L2
end VL

namespace VL
open PySem PySem.Spec PyProof.Rows L2
/-- signs of a grid -/
def Sgn (t : List Nat) : Prop := ∀ c ∈ t, c = 46 ∨ c = 35
theorem Sgn.nil : Sgn [] := fun c h => by cases h
theorem Sgn.snoc {t : List Nat} {c : Nat} (h : Sgn t) (hc : c = 46 ∨ c = 35) : Sgn (t ++ [c]) := fun x hx => by
  rcases List.mem_append.mp hx with z | z
  · exact h x z
  · rw [List.mem_singleton.mp z]; exact hc
/-- a grid of n rows, each of m signs -/
structure Grd (n m : Nat) (g : List (List Nat)) : Prop where
  len : g.length = n
  row : ∀ t ∈ g, t.length = m ∧ Sgn t
theorem Grd.nil {m : Nat} : Grd 0 m [] := ⟨rfl, fun t h => by cases h⟩
theorem Grd.snoc {n m : Nat} {g : List (List Nat)} {t : List Nat} (h : Grd n m g) (l : t.length = m) (s : Sgn t) : Grd (n + 1) m (g ++ [t]) := ⟨by simp [h.len], fun x hx => by
  rcases List.mem_append.mp hx with z | z
  · exact h.row x z
  · rw [List.mem_singleton.mp z]; exact ⟨l, s⟩⟩
theorem add_str {a b : List Nat} (h : a.length + b.length ≤ LIM) : dAdd [.str a, .str b] = some (.str (a ++ b)) := by
  simp only [dAdd]
  exact if_pos h
/-- one of two -/
theorem two_ix {a b : D} {k : Int} (h : k = 0 ∨ k = 1) : dIx [.lst true [a, b], .int k] = some (if k = 0 then a else b) := by
  rcases h with rfl | rfl <;> rfl
end VL

namespace VL
open PySem PySem.Spec PyProof.Rows L2
/-! the spiral -/
def rowD (r : List Nat) : D := .lst true (r.map fun c => .str [c])
def gridD (g : List (List Nat)) : D := .lst true (g.map rowD)
/-- how many signs are walls -/
def walls (g : List (List Nat)) : Nat := (g.map fun r => r.count 35).sum
theorem atI_nat {α : Type} {xs : List α} {i : Nat} {x : α} (h : xs[i]? = some x) : L2.atI xs (i : Int) = some x := by
  unfold L2.atI ixN
  have hl : i < xs.length := by
    rcases Nat.lt_or_ge i xs.length with z | z
    · exact z
    · rw [List.getElem?_eq_none z] at h; cases h
  rw [if_pos (Int.natCast_nonneg i), if_pos (by omega), Option.bind_some, Int.toNat_natCast, h]
theorem ixN_nat {n i : Nat} (h : i < n) : ixN n (i : Int) = some i := by
  unfold ixN
  rw [if_pos (Int.natCast_nonneg i), if_pos (by omega), Int.toNat_natCast]
/-- the sign at a place -/
def sgn (g : List (List Nat)) (r c : Nat) : Option Nat := (g[r]?).bind fun t => t[c]?
theorem grid_at {G : Str → Option D} {ρ : Rho} {g : List (List Nat)} {a b e : Ex} {r c x : Nat} (h0 : evP G e ρ = some (gridD g)) (h1 : evP G a ρ = some (.int r)) (h2 : evP G b ρ = some (.int c)) (hs : sgn g r c = some x) :
    evP G (.node .ix [.node .ix [e, a], b]) ρ = some (.str [x]) := by
  simp only [sgn, Option.bind_eq_some_iff] at hs
  obtain ⟨t, ht, hx⟩ := hs
  refine v_2 (v_2 h0 h1 (d := rowD t) ?_) h2 ?_
  · show L2.atI (g.map rowD) r = _
    rw [atI_map, atI_nat ht]
    rfl
  · show L2.atI (t.map _) c = _
    rw [atI_map, atI_nat hx]
    rfl
theorem sgn_in {R C : Nat} {g : List (List Nat)} (hg : Grd R C g) {r c : Nat} (hr : r < R) (hc : c < C) : ∃ x, sgn g r c = some x ∧ (x = 46 ∨ x = 35) := by
  have h1 : r < g.length := by rw [hg.len]; exact hr
  have h2 := hg.row g[r] (List.getElem_mem h1)
  have h3 : c < g[r].length := by rw [h2.1]; exact hc
  refine ⟨g[r][c], ?_, h2.2 _ (List.getElem_mem h3)⟩
  simp only [sgn, List.getElem?_eq_getElem h1, Option.bind_some, List.getElem?_eq_getElem h3]
/-- a place is opened -/
def opened (g : List (List Nat)) (r c : Nat) : List (List Nat) := g.modify r fun t => t.set c 46
theorem sgn_set {t : List Nat} {c : Nat} (h : Sgn t) : Sgn (t.set c 46) := fun x hx => by
  rcases List.mem_or_eq_of_mem_set hx with z | z
  · exact h x z
  · exact .inl z
theorem opened_grd {R C : Nat} {g : List (List Nat)} (hg : Grd R C g) {r c : Nat} : Grd R C (opened g r c) := by
  refine ⟨by unfold opened; rw [List.length_modify]; exact hg.len, fun t ht => ?_⟩
  unfold opened at ht
  obtain ⟨i, hi, e⟩ := List.getElem_of_mem ht
  rw [List.getElem_modify] at e
  have hm : ∀ {j : Nat} (hj : j < g.length), (g[j]).length = C ∧ Sgn g[j] := fun hj => hg.row _ (List.getElem_mem hj)
  rw [List.length_modify] at hi
  split at e
  · rw [← e, List.length_set]
    exact ⟨(hm hi).1, sgn_set (hm hi).2⟩
  · rw [← e]; exact hm hi
theorem opened_set {g : List (List Nat)} {r c : Nat} (hr : r < g.length) : opened g r c = g.set r ((g[r]).set c 46) := by
  unfold opened
  apply List.ext_getElem?
  intro i
  rw [List.getElem?_modify]
  by_cases e : r = i
  · subst e
    rw [List.getElem?_set_self hr, List.getElem?_eq_getElem hr]
    simp
  · rw [List.getElem?_set_ne e]
    simp [e]
theorem count_set {t : List Nat} {c : Nat} (hc : t[c]? = some 35) : (t.set c 46).count 35 + 1 = t.count 35 := by
  induction t generalizing c with
  | nil => simp at hc
  | cons a t ih =>
    cases c with
    | zero =>
      simp at hc
      subst hc
      simp
    | succ c =>
      simp only [List.getElem?_cons_succ] at hc
      have := ih hc
      simp only [List.set_cons_succ, List.count_cons]
      omega
theorem walls_opened {g : List (List Nat)} {r c : Nat} (h : sgn g r c = some 35) : walls (opened g r c) + 1 = walls g := by
  simp only [sgn, Option.bind_eq_some_iff] at h
  obtain ⟨t, ht, hc⟩ := h
  induction g generalizing r with
  | nil => simp at ht
  | cons a g ih =>
    cases r with
    | zero =>
      simp at ht
      subst ht
      have := count_set hc
      simp only [opened, List.modify_zero_cons, walls, List.map_cons, List.sum_cons]
      omega
    | succ r =>
      simp only [List.getElem?_cons_succ] at ht
      have := ih ht
      simp only [opened, List.modify_succ_cons, walls, List.map_cons, List.sum_cons] at this ⊢
      omega
/-- grid[r][c] = "." -/
theorem set_grid {g : List (List Nat)} {r c : Nat} {R C : Nat} (hg : Grd R C g) (hr : r < R) (hc : c < C) {ρ : Rho} {i : Nat} (h : slotOf ρ i = some (gridD g)) : mutX .set i [(r : Int)] [.str [46], .int c] ρ = .nx (ρ.set i (some (gridD (opened g r c)))) := by
  have h1 : r < g.length := by rw [hg.len]; exact hr
  have h2 := hg.row g[r] (List.getElem_mem h1)
  have h3 : c < g[r].length := by rw [h2.1]; exact hc
  have e1 : ixN (g.map rowD).length (r : Int) = some r := ixN_nat (by simpa using h1)
  have e2 : (g.map rowD)[r]? = some (rowD g[r]) := by simp [h1]
  have lf : leafD [(r : Int)] (gridD g) = some ((g[r]).map fun c => .str [c]) := by
    simp only [leafD, gridD, e1, Option.bind_some, e2, rowD]
  have rn : MOp.run .set ((g[r]).map fun c => D.str [c]) [.str [46], .int c] = some (((g[r]).map fun c => D.str [c]).set c (.str [46])) := by
    simp only [MOp.run, ixN_nat (show c < ((g[r]).map fun c => D.str [c]).length by simpa using h3), Option.map_some]
  simp only [mutX, h, optS_some, lf, rn]
  simp only [putD, gridD, e1, e2]
  congr 4
  rw [opened_set h1, List.map_set]
  simp [rowD, List.map_set]
end VL

namespace VL
open PySem PySem.Spec PyProof.Rows L2
theorem mul_lst {x : D} {n : Nat} (hx : x.imm = true) (hn : n ≤ 1000) : dMul [.lst true [x], .int n] = some (.lst true (List.replicate n x)) := by
  have e : (List.replicate n [x]).flatten = List.replicate n x := by
    induction n with
    | zero => rfl
    | succ n ih => rw [List.replicate_succ, List.replicate_succ, List.flatten_cons, ih (by omega)]; rfl
  have c : [x].length * (n : Int).toNat ≤ LIM ∧ immL [x] = true ∧ -(2 ^ 63) ≤ (n : Int) ∧ (n : Int) < 2 ^ 63 := by
    refine ⟨lim_le (by rw [Int.toNat_natCast]; simp; omega), by simp [immL, hx], by omega, by omega⟩
  have q : dMul [.lst true [x], .int n] = if [x].length * (n : Int).toNat ≤ LIM ∧ immL [x] = true ∧ -(2 ^ 63) ≤ (n : Int) ∧ (n : Int) < 2 ^ 63 then some (.lst true (List.replicate (n : Int).toNat [x]).flatten) else none := by rw [dMul]
  rw [q, if_pos c, Int.toNat_natCast, e]
theorem spiral_start {P : Prg} {R C : Nat} (hR : R ≤ 12) (hC : C ≤ 12) : evX P (.comp [("row", 3)] (.node (.bin .Mult) [.node .lst [.lit (.str [35])], .var 1]) (.nm 3) .rng [.var 0] []) [some (.int R), some (.int C), none, none, none, none, none, none, none, none, none, none, none, none] =
    .ok (gridD (List.replicate R (List.replicate C 35))) [some (.int R), some (.int C), none, none, none, none, none, none, none, none, none, none, none, none] := by
  have hx1 : ∀ i : Nat, evX P (.node (.bin .Mult) [.node .lst [.lit (.str [35])], .var 1]) [some (.int R), some (.int C), none, some (.int i), none, none, none, none, none, none, none, none, none, none] = .ok (rowD (List.replicate C 35)) [some (.int R), some (.int C), none, some (.int i), none, none, none, none, none, none, none, none, none, none] := fun i => by
    have q : dMul [.lst true [.str [35]], .int C] = some (rowD (List.replicate C 35)) := by
      rw [mul_lst rfl (by omega)]
      simp [rowD]
    exact x_of (by decide) (v_2 (v_1 v_lit rfl) rfl q) rfl
  obtain ⟨ys, ρ', e, rfl, rfl⟩ := compX_inv (items := rngItems 0 R) (step := stepX P [3] (.node (.bin .Mult) [.node .lst [.lit (.str [35])], .var 1]) (.nm 3) [])
    (fun i acc ρ => acc = List.replicate i (rowD (List.replicate C 35)) ∧ ρ = [some (.int R), some (.int C), none, none, none, none, none, none, none, none, none, none, none, none]) 0 (fun i x acc ρ hx ⟨ea, er⟩ => by
      obtain ⟨hi, rfl⟩ := rng_at hx
      subst ea er
      refine ⟨rowD (List.replicate C 35), [some (.int R), some (.int C), none, none, none, none, none, none, none, none, none, none, none, none], stepX_is rfl (hx1 i), ?_, rfl⟩
      rw [Nat.zero_add, List.replicate_succ']) (acc := []) (ρ := [some (.int R), some (.int C), none, none, none, none, none, none, none, none, none, none, none, none]) ⟨rfl, rfl⟩
  rw [rng_len, Nat.zero_add] at e
  refine (x_comp (os := [.b 0]) (ds := [.int R]) (ρ0 := [some (.int R), some (.int C), none, none, none, none, none, none, none, none, none, none, none, none]) (by decide) (by simp [evOps]) rfl rfl (src_rng (by omega)) (by rw [rng_len]; exact lim_le (by omega)) rng_imm e).trans ?_
  have e2 : List.replicate R (rowD (List.replicate C 35)) = (List.replicate R (List.replicate C 35)).map rowD := by simp
  rw [e2]
  rfl
theorem rows_join {P : Prg} {g : List (List Nat)} {R C : Nat} {ρ : Rho} (hg : Grd R C g) (hR : R ≤ 12) (hC : C ≤ 12) (h2 : slotOf ρ 2 = some (gridD g)) (hl : 3 < ρ.length) : evX P (.comp [("row", 3)] (.node .join [.lit (.str []), .var 3]) (.nm 3) .it [.var 2] []) ρ = .ok (.lst true (g.map .str)) ρ := by
  refine x_of (by decide) (v_comp (ds := [gridD g]) (items := g.map rowD) (ys := g.map .str) (by simp [evPs, evP, h2]) rfl (by rw [List.length_map, hg.len]; exact lim_le (by omega)) ?_ (immL_txts g)) (by simp [det])
  have key : ∀ t ∈ g, dJoin [.str [], rowD t] = some (.str t) := fun t ht => by
    have hs : strsOf (t.map fun c => D.str [c]) = some (t.map fun c => [c]) := by
      have := strsOf_map (t.map fun c => [c])
      rw [List.map_map] at this
      exact this
    have q : dJoin [.str [], rowD t] = (strsOf (t.map fun c => D.str [c])).bind fun ys => if (ys.map List.length).sum + ys.length * ([] : List Nat).length ≤ LIM then some (.str (TL.joinL [] ys)) else none := by
      unfold rowD
      rw [dJoin]
    have hsum : ∀ t : List Nat, ((t.map fun c => [c]).map List.length).sum = t.length := fun t => by
      induction t with
      | nil => rfl
      | cons a t ih => simp at ih ⊢; omega
    have hfl : ∀ t : List Nat, (t.map fun c => [c]).flatten = t := fun t => by
      induction t with
      | nil => rfl
      | cons a t ih =>
        simp
        exact ih
    rw [q, hs, Option.bind_some, if_pos (by rw [hsum, List.length_nil, Nat.mul_zero, (hg.row t ht).1]; exact lim_le (by omega)), joinL_nil, hfl]
  have hw : ∀ d, bindP (.nm 3) d (wipeR ρ [3]) = some ((wipeR ρ [3]).set 3 (some d)) := fun d => by
    simp only [bindP]
    exact if_pos (by rw [wipeR_length]; exact hl)
  have hs3 : ∀ d, slotOf ((wipeR ρ [3]).set 3 (some d)) 3 = some d := fun d => by
    unfold slotOf
    rw [List.getElem?_set_self (by rw [wipeR_length]; exact hl)]
  have main : ∀ (l acc : List (List Nat)), (∀ t ∈ l, t ∈ g) → compP (stepP P.G [3] (.node .join [.lit (.str []), .var 3]) (.nm 3) [] ρ) (acc.map .str) (l.map rowD) = some ((acc ++ l).map .str) := by
    intro l
    induction l with
    | nil => intro acc _; simp [compP]
    | cons t l ih =>
      intro acc h
      have e : stepP P.G [3] (.node .join [.lit (.str []), .var 3]) (.nm 3) [] ρ (rowD t) = some (some (.str t)) := by
        unfold stepP
        rw [hw]
        simp only [evTs]
        have ev : evP P.G (.node .join [.lit (.str []), .var 3]) ((wipeR ρ [3]).set 3 (some (rowD t))) = some (.str t) := v_2 v_lit (hs3 (rowD t)) (key t (h t List.mem_cons_self))
        rw [ev]
        rfl
      rw [List.map_cons, compP, e]
      simp only
      have := ih (acc ++ [t]) fun x hx => h x (List.mem_cons_of_mem _ hx)
      rw [List.map_append] at this
      simp only [List.map_cons, List.map_nil] at this
      rw [this]
      simp
  exact main g [] fun t h => h
theorem join_row {t : List Nat} (h : t.length ≤ 12) : dJoin [.str [], rowD t] = some (.str t) := by
  have hs : strsOf (t.map fun c => D.str [c]) = some (t.map fun c => [c]) := by
    have := strsOf_map (t.map fun c => [c])
    rw [List.map_map] at this
    exact this
  have q : dJoin [.str [], rowD t] = (strsOf (t.map fun c => D.str [c])).bind fun ys => if (ys.map List.length).sum + ys.length * ([] : List Nat).length ≤ LIM then some (.str (TL.joinL [] ys)) else none := by
    unfold rowD
    rw [dJoin]
  have hsum : ∀ t : List Nat, ((t.map fun c => [c]).map List.length).sum = t.length := fun t => by
    induction t with
    | nil => rfl
    | cons a t ih => simp at ih ⊢; omega
  have hfl : ∀ t : List Nat, (t.map fun c => [c]).flatten = t := fun t => by
    induction t with
    | nil => rfl
    | cons a t ih =>
      simp
      exact ih
  rw [q, hs, Option.bind_some, if_pos (by rw [hsum, List.length_nil, Nat.mul_zero]; exact lim_le (by omega)), joinL_nil, hfl]
end VL

namespace VL
open PySem PySem.Spec PyProof.Rows L2
end VL

namespace VL
open PySem PySem.Spec PyProof.Rows L2
end VL

namespace VL
open PySem PySem.Spec PyProof.Rows L2
theorem Grd.turned {R C : Nat} {g : List (List Nat)} (h : Grd R C g) : Grd R C (g.reverse.map List.reverse) := ⟨by simp [h.len], fun t ht => by
  obtain ⟨u, hu, rfl⟩ := List.mem_map.mp ht
  have := h.row u (List.mem_reverse.mp hu)
  exact ⟨by simp [this.1], fun c hc => this.2 c (List.mem_reverse.mp hc)⟩⟩
end VL

namespace VL
open PySem PySem.Spec PyProof.Rows L2
/-! places, ways: what the program's parts answer -/
abbrev Pl : Type := Int × Int
abbrev pD (p : Pl) : D := .tup [.int p.1, .int p.2]
abbrev wayD (ps : List Pl) : D := .tup (ps.map pD)
/-- the sign at a place, 0 outside -/
def gsn (g : List (List Nat)) (p : Pl) : Nat := (sgn g p.1.toNat p.2.toNat).getD 0
def isFree (g : List (List Nat)) (R C : Nat) (p : Pl) : Bool := (decide (0 ≤ p.1) && decide (p.1 < R)) && ((decide (0 ≤ p.2) && decide (p.2 < C)) && (gsn g p == 46))
/-- a step's heading -/
def hdOf (s : Pl) : Option Nat := if s = (0, 1) then some 101 else if s = (-1, 0) then some 110 else if s = (1, 0) then some 115 else if s = (0, -1) then some 119 else none
def stp (p q : Pl) : Pl := (q.1 - p.1, q.2 - p.2)
def pairs (ps : List Pl) : List (Pl × Pl) := ps.zip ps.tail
def isWay (g : List (List Nat)) (R C : Nat) (ps : List Pl) : Bool := !ps.isEmpty && (ps.all (isFree g R C) && (pairs ps).all fun x => (hdOf (stp x.1 x.2)).isSome)
theorem immL_pl (ps : List Pl) : immL (ps.map pD) = true := immL_iff.mpr fun d hd => by
  obtain ⟨p, _, rfl⟩ := List.mem_map.mp hd
  rfl
section
variable {R C : Nat} {g : List (List Nat)} {G : Str → Option D} {ρ : Rho}
theorem v_var {i : Nat} {d : D} (h : slotOf ρ i = some d) : evP G (.var i) ρ = some d := by simp only [evP]; exact h
theorem v_glob {x : Str} {d : D} (h : G x = some d) : evP G (.glob x) ρ = some d := by simp only [evP]; exact h
theorem atI_map' {α β : Type} {f : α → β} {xs : List α} {i : Nat} {x : α} (h : xs[i]? = some x) : L2.atI (xs.map f) (i : Int) = some (f x) := atI_nat (by rw [List.getElem?_map, h]; rfl)
/-- len(grid), len(grid[0]) -/
theorem v_rows {e : Ex} (hg : Grd R C g) (he : evP G e ρ = some (.tup (g.map .str))) : evP G (.node .len [e]) ρ = some (.int R) := v_1 he (by simp [applyOp, dLen, hg.len])
theorem v_cols {e : Ex} (hg : Grd R C g) (hR : 1 ≤ R) (he : evP G e ρ = some (.tup (g.map .str))) : evP G (.node .len [.node .ix [e, .lit (.int 0)]]) ρ = some (.int C) := by
  have hl := hg.len
  cases g with
  | nil => simp at hl; omega
  | cons t g =>
    refine v_1 (x := .str t) (v_2 he v_lit (by show L2.atI _ _ = _; exact atI_map' (i := 0) rfl)) ?_
    have := (hg.row t List.mem_cons_self).1
    simp [applyOp, dLen, this]
/-- grid[row][column] -/
theorem v_sign {e a b : Ex} {r c x : Nat} (he : evP G e ρ = some (.tup (g.map .str))) (ha : evP G a ρ = some (.int r)) (hb : evP G b ρ = some (.int c)) (hs : sgn g r c = some x) : evP G (.node .ix [.node .ix [e, a], b]) ρ = some (.str [x]) := by
  unfold sgn at hs
  simp only [Option.bind_eq_some_iff] at hs
  obtain ⟨t, h1, h2⟩ := hs
  refine v_2 (x := .str t) (v_2 he ha (by show L2.atI _ _ = _; exact atI_map' h1)) hb ?_
  show ((L2.atI t (c : Int)).map fun c => D.str [c]) = _
  rw [atI_nat h2]
  rfl
end
/-- is_free -/
theorem run_free {R C : Nat} {g : List (List Nat)} (hg : Grd R C g) (hR : 1 ≤ R) (p : Pl) {Q : D → Rho → Prop} {E : Xn → Rho → Prop} (q : ∀ xs, Q (.bl (isFree g R C p)) xs) : (f_is_free.run pg_is_free [.tup (g.map .str), pD p]).wp Q E := by
  refine run_wp rfl (sw_cons (sw_asgP (xw_tk (d := pD p) rfl ⟨_, rfl, sw_cons (sw_ret (xw_v (d := .bl (isFree g R C p)) ?_ (q _)))⟩)))
  have v0 : evP pg_is_free.G (.var 0) [some (.tup (g.map .str)), some (pD p), some (.int p.1), some (.int p.2)] = some (.tup (g.map .str)) := v_var rfl
  refine v_and (v_in v_lit (v_var rfl) (v_rows hg v0)) fun h1 => v_and (v_in v_lit (v_var rfl) (v_cols hg hR v0)) fun h2 => ?_
  simp only [Bool.and_eq_true, decide_eq_true_eq] at h1 h2
  obtain ⟨x, hx, _⟩ := sgn_in hg (r := p.1.toNat) (c := p.2.toNat) (by omega) (by omega)
  refine v_2 (x := .str [x]) (v_sign v0 (r := p.1.toNat) (c := p.2.toNat) ?_ ?_ hx) v_lit ?_
  · rw [Int.toNat_of_nonneg h1.1]; exact v_var rfl
  · rw [Int.toNat_of_nonneg h2.1]; exact v_var rfl
  · show dEq false [.str [x], .str [46]] = _
    rw [eqs]
    simp [gsn, hx]
/-- beside -/
def hdStep (h : Nat) : Pl := if h = 101 then (0, 1) else if h = 110 then (-1, 0) else if h = 115 then (1, 0) else (0, -1)
def hds : List Nat := [101, 110, 115, 119]
/-- heading_of -/
theorem hdOf_iff {s : Pl} {h : Nat} (hh : h ∈ hds) : hdOf s = some h ↔ s = hdStep h := by
  have e : h = 101 ∨ h = 110 ∨ h = 115 ∨ h = 119 := by simpa [hds] using hh
  constructor
  · intro z
    unfold hdOf at z
    split at z
    · cases z; assumption
    · split at z
      · cases z; assumption
      · split at z
        · cases z; assumption
        · split at z
          · cases z; assumption
          · cases z
  · rintro rfl
    rcases e with rfl | rfl | rfl | rfl <;> decide
theorem hd_iff {p q : Pl} {h : Nat} (hh : h ∈ hds) : (p.1 + (hdStep h).1, p.2 + (hdStep h).2) = q ↔ hdOf (stp p q) = some h := by
  rw [hdOf_iff hh]
  obtain ⟨a, b⟩ := p
  obtain ⟨c, d⟩ := q
  unfold stp
  generalize hdStep h = s
  obtain ⟨x, y⟩ := s
  simp only [Prod.mk.injEq]
  omega
theorem eq_pl {p q : Pl} : dEq false [pD p, pD q] = some (.bl (decide (p = q))) := by
  obtain ⟨a, b⟩ := p
  obtain ⟨c, d⟩ := q
  simp [dEq, D.depth, depthL, eqD, eqDs]
  by_cases h1 : a = c <;> by_cases h2 : b = d <;> simp [h1, h2]
theorem hdD_none {s : Pl} (h : ∀ x ∈ hds, hdOf s ≠ some x) : hdOf s = none := by
  unfold hdOf at *
  have h1 := h 101 (by decide)
  have h2 := h 110 (by decide)
  have h3 := h 115 (by decide)
  have h4 := h 119 (by decide)
  repeat' split <;> simp_all
/-- a heading as data -/
def hdD : Option Nat → D
  | some h => .str [h]
  | none => .non
end VL

namespace VL
open PySem PySem.Spec PyProof.Rows L2
/-! slices by natural numbers -/
theorem cut_from {α : Type} (xs : List α) (k : Nat) : cutL xs (some (k : Int)) none = xs.drop k := by
  unfold cutL
  rw [HT.sIx_nat]
  show (xs.drop (min k xs.length)).take (xs.length - min k xs.length) = xs.drop k
  rcases Nat.le_total k xs.length with h | h
  · rw [Nat.min_eq_left h, List.take_of_length_le (by simp)]
  · rw [Nat.min_eq_right h, List.drop_of_length_le h, List.drop_of_length_le (Nat.le_refl _)]
    simp
theorem cut_to {α : Type} (xs : List α) (k : Nat) : cutL xs none (some (k : Int)) = xs.take k := by
  unfold cutL
  rw [HT.sIx_nat]
  show (xs.drop 0).take (min k xs.length - 0) = xs.take k
  rw [List.drop_zero, Nat.sub_zero]
  rcases Nat.le_total k xs.length with h | h
  · rw [Nat.min_eq_left h]
  · rw [Nat.min_eq_right h, List.take_of_length_le h, List.take_of_length_le (Nat.le_refl _)]
theorem cut_mid {α : Type} (xs : List α) (k l : Nat) : cutL xs (some (k : Int)) (some (l : Int)) = (xs.take l).drop k := by
  unfold cutL
  rw [HT.sIx_nat, HT.sIx_nat, List.drop_take]
  rcases Nat.le_total k xs.length with h | h
  · rw [Nat.min_eq_left h]
    rcases Nat.le_total l xs.length with h2 | h2
    · rw [Nat.min_eq_left h2]
    · rw [Nat.min_eq_right h2, List.take_of_length_le (by simp), List.take_of_length_le (by simp; omega)]
  · rw [Nat.min_eq_right h, List.drop_of_length_le h, List.drop_of_length_le (Nat.le_refl _)]
    simp
/-- a slice of places -/
theorem slc_pl {ps : List Pl} {lo hi : Option Int} : dSlc1 lo hi (wayD ps) = some (wayD (cutL ps lo hi)) := by
  simp only [dSlc1, immL_pl, if_true, cut_map]
theorem slc_plL {ps : List Pl} {o : Bool} {lo hi : Option Int} : dSlc1 lo hi (.lst o (ps.map pD)) = some (.lst true ((cutL ps lo hi).map pD)) := by
  simp only [dSlc1, immL_pl, if_true, cut_map]
theorem zip_pl : ∀ (ps qs : List Pl), zipD (ps.map pD) (qs.map pD) = (ps.zip qs).map fun x => .tup [pD x.1, pD x.2]
  | [], qs => by cases qs <;> simp [zipD]
  | p :: ps, [] => by simp [zipD]
  | p :: ps, q :: qs => by simp [zipD, zip_pl ps qs]
theorem depth_one {ys : List D} (h : ∀ y ∈ ys, y.depth ≤ 1) : depthL ys ≤ 1 := by
  induction ys with
  | nil => simp [depthL]
  | cons y ys ih =>
    have h1 := h y List.mem_cons_self
    have h2 := ih fun z hz => h z (List.mem_cons_of_mem _ hz)
    simp only [depthL]
    omega
theorem eq_nil {ys : List D} {o o' : Bool} (h : depthL ys ≤ 60) : dEq false [.lst o ys, .lst o' []] = some (.bl ys.isEmpty) := by
  have e : (D.lst o ys).depth = depthL ys + 1 := by simp only [D.depth]
  have e' : (D.lst o' []).depth = 1 := by simp [D.depth, depthL]
  have e2 : eqD (.lst o ys) (.lst o' []) = ys.isEmpty := by
    simp only [eqD]
    cases ys <;> simp [eqDs]
  simp only [dEq, e, e', e2]
  rw [if_pos ⟨by omega, by omega⟩]
  rfl
theorem ne_nil {ys : List D} {o o' : Bool} (h : depthL ys ≤ 60) : dEq true [.lst o ys, .lst o' []] = some (.bl (!ys.isEmpty)) := by
  have e : (D.lst o ys).depth = depthL ys + 1 := by simp only [D.depth]
  have e' : (D.lst o' []).depth = 1 := by simp [D.depth, depthL]
  have e2 : eqD (.lst o ys) (.lst o' []) = ys.isEmpty := by
    simp only [eqD]
    cases ys <;> simp [eqDs]
  simp only [dEq, e, e', e2]
  rw [if_pos ⟨by omega, by omega⟩]
  rfl
theorem lent_b {ρ : Rho} {i : Nat} {d : D} {os : List Opd} (h : slotOf ρ i = some d) (hi : d.imm = true) (r : lent ρ os = []) : lent ρ (.b i :: os) = [] := by
  have : hasOwn ρ i = false := by unfold hasOwn; rw [h]; simp [hi]
  rw [lent, this, if_neg Bool.false_ne_true, r]
theorem imm_grd {g : List (List Nat)} : (D.tup (g.map .str)).imm = true := by simp only [D.imm]; exact immL_txts g
theorem imm_way {ps : List Pl} : (wayD ps).imm = true := by simp only [D.imm]; exact immL_pl ps
theorem all_take {α : Type} {f : α → Bool} {xs : List α} {i : Nat} {x : α} (h : xs[i]? = some x) : (xs.take (i + 1)).all f = ((xs.take i).all f && f x) := by
  obtain ⟨hi, rfl⟩ := List.getElem?_eq_some_iff.mp h
  rw [List.take_succ_eq_append_getElem hi, List.all_append]
  simp
section
variable {R C : Nat} {g : List (List Nat)}
end
end VL

namespace VL
open PySem PySem.Spec PyProof.Rows L2
/-! _law_headings -/
def hstr (ps : List Pl) : List Nat := (pairs ps).map fun x => (hdOf (stp x.1 x.2)).getD 0
abbrev dirs : List D := [pD (0, 1), pD (-1, 0), pD (1, 0), pD (0, -1)]
abbrev exDirs : List Ex := [.node .tup [.lit (.int 0), .lit (.int 1)], .node .tup [.node .neg [.lit (.int 1)], .lit (.int 0)], .node .tup [.lit (.int 1), .lit (.int 0)], .node .tup [.lit (.int 0), .node .neg [.lit (.int 1)]]]
theorem v_dirs {G : Str → Option D} {ρ : Rho} : evPs G exDirs ρ = some dirs := by simp [evPs, evP, applyOp, dTup, dNeg, immL, D.imm, LIM]
theorem v_dirT {G : Str → Option D} {ρ : Rho} : evP G (.node .tup exDirs) ρ = some (.tup dirs) := by
  rw [evP, v_dirs]
  simp [applyOp, dTup, immL, D.imm, LIM]
theorem in_dirs {s : Pl} : dIn true [pD s, .tup dirs] = some (.bl (hdOf s).isNone) := by
  obtain ⟨a, b⟩ := s
  have e : dIn true [pD (a, b), .tup dirs] = some (.bl (!(dirs.any fun y => eqD y (pD (a, b))))) := by
    have h1 : (pD (a, b)).depth ≤ 64 := by simp [D.depth, depthL]
    have h2 : depthL dirs ≤ 64 := by simp [D.depth, depthL]
    simp only [dIn]
    rw [if_pos ⟨h1, h2⟩]
    rfl
  rw [e]
  congr 2
  simp only [List.any_cons, List.any_nil, eqD, eqDs, hdOf, Prod.mk.injEq]
  by_cases h1 : a = 0 ∧ b = 1
  · simp [h1]
  · by_cases h2 : a = -1 ∧ b = 0
    · simp [h2]
    · by_cases h3 : a = 1 ∧ b = 0
      · simp [h3]
      · by_cases h4 : a = 0 ∧ b = -1
        · simp [h4]
        · rw [if_neg h1, if_neg h2, if_neg h3, if_neg h4]
          simp
          omega
theorem hdOf_in {s : Pl} {h : Nat} (e : hdOf s = some h) : h ∈ hds := by
  unfold hdOf at e
  unfold hds
  repeat' split at e
  all_goals first
    | (cases e; simp)
    | cases e
theorem idx_hd {s : Pl} {h : Nat} (e : hdOf s = some h) : ∃ k : Nat, dIdx (dirs ++ [pD s]) = some (.int k) ∧ dIx [.str [101, 110, 115, 119], .int k] = some (.str [h]) := by
  have hh := hdOf_in e
  have es := (hdOf_iff hh).mp e
  subst es
  have c : h = 101 ∨ h = 110 ∨ h = 115 ∨ h = 119 := by simpa [hds] using hh
  rcases c with rfl | rfl | rfl | rfl
  · exact ⟨0, by decide +kernel, by decide +kernel⟩
  · exact ⟨1, by decide +kernel, by decide +kernel⟩
  · exact ⟨2, by decide +kernel, by decide +kernel⟩
  · exact ⟨3, by decide +kernel, by decide +kernel⟩
theorem enum_at {xs : List D} {i : Nat} {x : D} (h : (enumD 0 xs)[i]? = some x) : ∃ d, xs[i]? = some d ∧ x = .tup [.int i, d] := by
  rw [enumD_get] at h
  simp only [Option.map_eq_some_iff, Nat.zero_add] at h
  obtain ⟨d, h1, rfl⟩ := h
  exact ⟨d, h1, rfl⟩
theorem pairs_get {ps : List Pl} {i : Nat} {p q : Pl} (h : ps[i]? = some p) (h2 : ps[i + 1]? = some q) : (pairs ps)[i]? = some (p, q) := by
  unfold pairs
  rw [List.getElem?_zip_eq_some]
  exact ⟨h, by rw [List.getElem?_tail]; exact h2⟩
theorem take_snoc {α : Type} {xs : List α} {i : Nat} {x : α} (h : xs[i]? = some x) : xs.take (i + 1) = xs.take i ++ [x] := by
  obtain ⟨hi, rfl⟩ := List.getElem?_eq_some_iff.mp h
  exact List.take_succ_eq_append_getElem hi
theorem depth_pl (ps : List Pl) : depthL (ps.map pD) ≤ 1 := depth_one fun y hy => by
  obtain ⟨z, _, rfl⟩ := List.mem_map.mp hy
  simp [D.depth, depthL]
theorem way_dep (ps : List Pl) : (wayD ps).depth ≤ 2 := by
  have := depth_pl ps
  simp only [D.depth]
  omega
theorem way_eq {ps : List Pl} : dEq false [wayD ps, .tup []] = some (.bl ps.isEmpty) := by
  have h1 := way_dep ps
  have e2 : eqD (wayD ps) (.tup []) = ps.isEmpty := by
    simp only [eqD]
    cases ps <;> simp [eqDs]
  simp only [dEq, e2]
  rw [if_pos ⟨by omega, by simp [D.depth, depthL]⟩]
  rfl
theorem way_ne {ps : List Pl} : dEq true [wayD ps, .tup []] = some (.bl (!ps.isEmpty)) := by
  have h1 := way_dep ps
  have e2 : eqD (wayD ps) (.tup []) = ps.isEmpty := by
    simp only [eqD]
    cases ps <;> simp [eqDs]
  simp only [dEq, e2]
  rw [if_pos ⟨by omega, by simp [D.depth, depthL]⟩]
  rfl
theorem pairs_len {ps : List Pl} : (pairs ps).length = ps.length - 1 := by
  unfold pairs
  rw [List.length_zip, List.length_tail]
  omega
section
variable {R C : Nat} {g : List (List Nat)}
end
end VL

namespace VL
open PySem PySem.Spec PyProof.Rows L2
/-! a deck with so many draws left -/
section
variable {P : Prg} {ρ : Rho} {Q : D → Rho → Prop} {E : Xn → Rho → Prop}
theorem ow_num {e : Ex} {n : Int} (v : evP P.G e ρ = some (.int n)) (hp : pureC e = true) : OW P [e] ρ (fun os ρ' => ρ' = ρ ∧ ∃ o, os = [o] ∧ o.get ρ = some (.int n)) E := by
  by_cases h : ∃ i, e = .var i
  · obtain ⟨i, rfl⟩ := h
    simp only [evP] at v
    exact ow_var v (ow_nil ⟨rfl, _, rfl, v⟩)
  · exact ow_v v (ow_nil ⟨rfl, _, rfl, rfl⟩) (fun i z => h ⟨i, z⟩) hp rfl
/-- a number drawn, and some added -/
theorem xw_add {a b : Ex} {n : Int} (v : evP P.G a ρ = some (.int n)) (h : XW P b ρ (fun d ρ' => ∃ k, d = .int k ∧ Q (.int (n + k)) ρ') E) (hb : pureC b = false := by rfl) (ha : pureC a = true := by rfl) (hc : ∀ i, a ≠ .var i := by intro i z; cases z) : XW P (.node (.bin .Add) [a, b]) ρ Q E := by
  refine xw_op (ow_v v (ow_x ⟨wp_mono h.run (fun d ρ' z => ?_) fun _ _ z => z⟩ (fun i z => by subst z; cases hb)) hc ha rfl) (by simp only [pureN, pureCs, hb, ha, Bool.true_and, Bool.false_and])
  obtain ⟨k, rfl, q⟩ := z
  exact ow_nil ⟨_, .int (n + k), rfl, rfl, rfl, q⟩
theorem xw_addV {b : Ex} {i : Nat} {n : Int} (v : slotOf ρ i = some (.int n)) (h : XW P b ρ (fun d ρ' => ∃ k, d = .int k ∧ slotOf ρ' i = some (.int n) ∧ Q (.int (n + k)) ρ') E) (hb : pureC b = false := by rfl) : XW P (.node (.bin .Add) [.var i, b]) ρ Q E := by
  refine xw_op (ow_var v (ow_x ⟨wp_mono h.run (fun d ρ' z => ?_) fun _ _ z => z⟩ (fun i z => by subst z; cases hb))) (by simp only [pureN, pureCs, pureC, hb, Bool.true_and, Bool.false_and])
  obtain ⟨k, rfl, hs, q⟩ := z
  exact ow_nil ⟨[.int n, .int k], .int (n + k), by simp only [getAll, Opd.get, hs, Option.map_some], rfl, rfl, q⟩
theorem xw_sub {a b : Ex} {n : Int} (h : XW P a ρ (fun d ρ' => ∃ k, d = .int k ∧ evP P.G b ρ' = some (.int n) ∧ Q (.int (k - n)) ρ') E) (ha : pureC a = false := by rfl) (hb : pureC b = true := by rfl) (hc : ∀ i, b ≠ .var i := by intro i z; cases z) : XW P (.node (.bin .Sub) [a, b]) ρ Q E := by
  refine xw_op (ow_x ⟨wp_mono h.run (fun d ρ' z => ?_) fun _ _ z => z⟩ (fun i z => by subst z; cases ha)) (by simp only [pureN, pureCs, ha, Bool.false_and])
  obtain ⟨k, rfl, v, q⟩ := z
  exact ow_v v (ow_nil ⟨_, .int (k - n), rfl, rfl, rfl, q⟩) hc hb rfl
end
/-! free places -/
theorem pl_of {f : Pl → Prop} : ∀ {ys : List D}, (∀ y ∈ ys, ∃ p, y = pD p ∧ f p) → ∃ l : List Pl, ys = l.map pD ∧ ∀ p ∈ l, f p
  | [], _ => ⟨[], rfl, fun p h => by cases h⟩
  | y :: ys, h => by
    obtain ⟨p, rfl, hp⟩ := h y List.mem_cons_self
    obtain ⟨l, rfl, hl⟩ := pl_of fun z hz => h z (List.mem_cons_of_mem _ hz)
    exact ⟨p :: l, rfl, fun q hq => (List.mem_cons.mp hq).elim (fun e => e ▸ hp) (hl q)⟩
section
variable {R C : Nat} {g : List (List Nat)}
def rowF (g : List (List Nat)) (R C : Nat) (i : Int) : D → Option D
  | .int c => if isFree g R C (i, c) = true then some (pD (i, c)) else none
  | _ => none
theorem rowF_is {i : Int} {x y : D} (h : rowF g R C i x = some y) : ∃ p, y = pD p ∧ isFree g R C p = true := by
  cases x with
  | int c =>
    simp only [rowF] at h
    split at h
    · rename_i hf
      cases h
      exact ⟨_, rfl, hf⟩
    · cases h
  | _ => cases h
end
end VL

namespace VL
open PySem PySem.Spec PyProof.Rows L2
/-! _law_walk -/
def addP (p s : Pl) : Pl := (p.1 + s.1, p.2 + s.2)
theorem atI_last {xs : List D} {x : D} (h : xs.getLast? = some x) : L2.atI xs (-1) = some x := by
  unfold L2.atI
  have hn : xs ≠ [] := fun z => by rw [z] at h; cases h
  have hl : 0 < xs.length := List.length_pos_iff.mpr hn
  have e : ixN xs.length (-1) = some (xs.length - 1) := by
    unfold ixN
    rw [if_neg (by omega)]
    split
    · congr 1
      omega
    · omega
  rw [e, Option.bind_some]
  rw [List.getLast?_eq_getElem?] at h
  exact h
theorem isWay_snoc {g : List (List Nat)} {R C : Nat} {ps : List Pl} {p q : Pl} (h : isWay g R C ps = true) (hl : ps.getLast? = some p) (hf : isFree g R C q = true) (hd : (hdOf (stp p q)).isSome = true) : isWay g R C (ps ++ [q]) = true := by
  have hn : ps ≠ [] := fun z => by rw [z] at hl; cases hl
  unfold isWay at *
  simp only [Bool.and_eq_true] at h
  have ep : pairs (ps ++ [q]) = pairs ps ++ [(p, q)] := by
    have aux : ∀ (ps : List Pl) (p : Pl), ps.getLast? = some p → pairs (ps ++ [q]) = pairs ps ++ [(p, q)] := by
      intro ps
      induction ps with
      | nil => intro p h; cases h
      | cons a ps ih =>
        intro p h
        cases ps with
        | nil =>
          simp at h
          subst h
          rfl
        | cons b ps =>
          have h2 : (b :: ps).getLast? = some p := by simpa using h
          have := ih p h2
          unfold pairs at *
          simp at this ⊢
          exact this
    exact aux ps p hl
  rw [ep, List.all_append, List.all_append, h.2.1, h.2.2]
  simp [hf, hd]
theorem stp_add {p s : Pl} : stp p (addP p s) = s := by
  obtain ⟨a, b⟩ := p
  obtain ⟨c, d⟩ := s
  simp only [stp, addP, Prod.mk.injEq]
  omega
theorem atI_pl {l : List Pl} {v : Int} (h0 : 0 ≤ v) (h1 : v < l.length) : ∃ s ∈ l, L2.atI (l.map pD) v = some (pD s) := by
  obtain ⟨n, rfl⟩ : ∃ n : Nat, v = n := ⟨v.toNat, by omega⟩
  have hl : n < l.length := by omega
  exact ⟨l[n], List.getElem_mem hl, atI_map' (List.getElem?_eq_getElem hl)⟩
theorem any_pl {l : List Pl} {s : Pl} (h : ((l.map pD).any fun y => eqD y (pD s)) = true) : s ∈ l := by
  rw [List.any_map, List.any_eq_true] at h
  obtain ⟨z, hz, e⟩ := h
  obtain ⟨a, b⟩ := s
  obtain ⟨c, e'⟩ := z
  simp [eqD, eqDs] at e
  rw [← e.1, ← e.2]
  exact hz
theorem in_pl {l : List Pl} {s : Pl} {neg o : Bool} : dIn neg [pD s, .lst o (l.map pD)] = some (.bl (xor neg ((l.map pD).any fun y => eqD y (pD s)))) := by
  have h1 : (pD s).depth ≤ 64 := by simp [D.depth, depthL]
  have h2 : depthL (l.map pD) ≤ 64 := Nat.le_trans (depth_pl l) (by decide)
  simp only [dIn]
  rw [if_pos ⟨h1, h2⟩]
end VL

namespace VL
open PySem PySem.Spec PyProof.Rows L2
/-! _law_spoilt -/
section
variable {G : Str → Option D} {ρ : Rho} {P : Prg} {Q : D → Rho → Prop} {E : Xn → Rho → Prop} {O : List Opd → Rho → Prop}
theorem vs_nil : evPs G [] ρ = some [] := by simp only [evPs]
theorem vs_cons {e : Ex} {es : List Ex} {d : D} {ds : List D} (h : evP G e ρ = some d) (hs : evPs G es ρ = some ds) : evPs G (e :: es) ρ = some (d :: ds) := by simp only [evPs, h, hs, Option.map_some]
theorem v_n {o : Op} {es : List Ex} {ds : List D} {d : D} (hs : evPs G es ρ = some ds) (h : applyOp o ds = some d) : evP G (.node o es) ρ = some d := by rw [evP, hs]; exact h
/-- a list of places as an item -/
abbrev wL (ps : List Pl) : D := .lst false (ps.map pD)
theorem fzL_pl : ∀ ps : List Pl, fzL (ps.map pD) = ps.map pD
  | [] => rfl
  | p :: ps => by rw [List.map_cons, fzL, fzL_pl ps]; rfl
theorem fz_pl {o : Bool} {ps : List Pl} : (D.lst o (ps.map pD)).fz = wL ps := by simp only [D.fz, fzL_pl]
theorem imm_wl {ps : List Pl} : (wL ps).imm = true := by simp [D.imm, immL_pl]
theorem immL_wl (l : List (List Pl)) : immL (l.map wL) = true := immL_iff.mpr fun d hd => by
  obtain ⟨p, _, rfl⟩ := List.mem_map.mp hd
  exact imm_wl
theorem xw_fzp {e : Ex} {qs : List Pl} (v : evP P.G e ρ = some (.lst true (qs.map pD))) (q : Q (wL qs) ρ) (hp : pureC e = true := by rfl) (hi : det e = true := by rfl) : XW P (.fz e) ρ Q E :=
  xw_fz (xw_v v (by rw [fz_pl]; exact q) hp (by rw [hi, Bool.or_true]))
theorem ow_fzp {e : Ex} {cs : List Ex} {qs : List Pl} (v : evP P.G e ρ = some (.lst true (qs.map pD))) (q : OW P cs ρ (fun os ρ' => O (.o (wL qs) :: os) ρ') E) (hp : pureC e = true := by rfl) (hi : det e = true := by rfl) : OW P (.fz e :: cs) ρ O E :=
  ow_x (xw_fzp v q hp hi) (fun i z => by cases z)
theorem tup2 {a b : Int} : applyOp .tup [.int a, .int b] = some (pD (a, b)) := by simp [applyOp, dTup, immL, D.imm, LIM]
theorem lst_pl {l : List Pl} (h : l.length ≤ 1000) : applyOp .lst (l.map pD) = some (.lst true (l.map pD)) := by
  have : (l.map pD).length ≤ LIM := by rw [List.length_map]; exact lim_le (by omega)
  simp [applyOp, dLst, immL_pl]
  simpa using this
theorem add_pl {o o' : Bool} {a b : List Pl} (h : a.length + b.length ≤ 1000) : dAdd [.lst o (a.map pD), .lst o' (b.map pD)] = some (.lst true ((a ++ b).map pD)) := by
  simp only [dAdd]
  rw [if_pos ⟨by rw [List.length_map, List.length_map]; exact lim_le (by omega), immL_pl a, immL_pl b⟩, List.map_append]
theorem add_wl {o o' : Bool} {a b : List (List Pl)} (h : a.length + b.length ≤ 1000) : dAdd [.lst o (a.map wL), .lst o' (b.map wL)] = some (.lst true ((a ++ b).map wL)) := by
  simp only [dAdd]
  rw [if_pos ⟨by rw [List.length_map, List.length_map]; exact lim_le (by omega), immL_wl a, immL_wl b⟩, List.map_append]
theorem pow106 : dPow [.int 10, .int 6] = some (.int 1000000) := by simp [dPow]
theorem v_pow {ρ : Rho} : evP G (.node (.bin .Pow) [.lit (.int 10), .lit (.int 6)]) ρ = some (.int 1000000) := v_2 v_lit v_lit pow106
/-- two items exchanged -/
theorem sw_swp {i : Nat} {k l a b : Ex} {xs : List D} {x y : D} {p q : Nat} {Q : Po} (hs : slotOf ρ i = some (.lst true xs)) (va : evP P.G (.node .tup [a, b]) ρ = some (.tup [x, y])) (hx : x.imm = true) (hy : y.imm = true) (hp : p < xs.length) (hq : q < xs.length)
    (vk : evP P.G k ρ = some (.int p)) (h1 : slotOf (ρ.set i (some (.lst true (xs.set p x)))) i = some (.lst true (xs.set p x))) (vl : evP P.G l (ρ.set i (some (.lst true (xs.set p x)))) = some (.int q))
    (z : Q.nx ((ρ.set i (some (.lst true (xs.set p x)))).set i (some (.lst true ((xs.set p x).set q y))))) (hc : pureC (.node .tup [a, b]) = true := by rfl) : SW P (.swp i k l a b) ρ Q := by
  refine ⟨?_⟩
  have e := x_of (P := P) hc va (by simp [D.imm, immL, hx, hy])
  simp only [evS, e, to_ok]
  rw [if_pos ⟨hx, hy⟩, vk, optS_some]
  simp only [mutX, hs, optS_some, leafD, MOp.run, ixN_nat hp, Option.map_some, putD]
  rw [show RS.th (.nx (ρ.set i (some (.lst true (xs.set p x))))) = fun f => f (ρ.set i (some (.lst true (xs.set p x)))) from rfl]
  simp only [vl, optS_some, h1, leafD, MOp.run, ixN_nat (show q < (xs.set p x).length by rw [List.length_set]; exact hq), Option.map_some, putD]
  exact z
end
end VL

namespace VL
open PySem PySem.Spec PyProof.Rows L2
/-! what the laws draw -/
section
variable {P : Prg} {ρ : Rho} {Q : D → Rho → Prop} {E : Xn → Rho → Prop} {O : List Opd → Rho → Prop}
theorem lent_o {os : List Opd} {i : Nat} {d : D} (h : slotOf ρ i = some d) (hi : d.imm = false) (r : lent ρ os = []) : lent ρ (.b i :: os) = [i] := by
  have : hasOwn ρ i = true := by unfold hasOwn; rw [h]; simp [hi]
  rw [lent, this, if_pos rfl, r]
theorem posOf_o {os : List Opd} {i : Nat} {d : D} (h : slotOf ρ i = some d) (hi : d.imm = false) : posOf ρ i (.b i :: os) = some 0 := by
  have : hasOwn ρ i = true := by unfold hasOwn; rw [h]; simp [hi]
  rw [posOf, if_pos ⟨rfl, this⟩]
end
end VL

namespace VL
open PySem PySem.Spec PyProof.Rows L2
/-! helpers: texts, lists of texts -/
section
variable {P : Prg} {ρ : Rho} {Q : Po}
theorem sw_raiE {x : Str} {e : Ex} {c mk : String} (hI : iniC P x = some (c, mk)) (h : XW P e ρ (fun d ρ1 => iniD d = true ∧ Q.ex ⟨c, some (mk, d)⟩ ρ1) Q.ex) : SW P (.raiE x e) ρ Q := by
  refine ⟨?_⟩
  simp only [evS, hI]
  refine at_to (wp_mono h.run (fun d ρ1 z => ?_) fun _ _ z => z)
  obtain ⟨hi, q⟩ := z
  simp only [hi, if_true]
  exact q
end
theorem slc1_str {a : List Nat} : dSlc1 (some (1 : Int)) none (.str a) = some (.str a.tail) := by
  simp only [dSlc1]
  rw [show (some (1 : Int)) = some ((1 : Nat) : Int) from rfl, cut_from, List.drop_one]
theorem stepP_nil {G : Str → Option D} {vs : List Nat} {elt : Ex} {p : Pat} {ρ ρ2 : Rho} {d : D} (hb : bindP p d (wipeR ρ vs) = some ρ2) : stepP G vs elt p [] ρ d = (evP G elt ρ2).map some := by
  unfold stepP
  rw [hb]
  simp only [evTs]
theorem stepP_one1 {G : Str → Option D} {vs : List Nat} {elt t : Ex} {p : Pat} {ρ ρ2 : Rho} {d : D} {b : Bool} (hb : bindP p d (wipeR ρ vs) = some ρ2) (ht : evP G t ρ2 = some (.bl b)) : stepP G vs elt p [t] ρ d = if b = true then (evP G elt ρ2).map some else some none := by
  unfold stepP
  rw [hb]
  simp only [evTs, ht]
  cases b <;> rfl
theorem iniI_small : ∀ n < 3001, iniI (n : Nat) = true := by decide +kernel
theorem notin_ch {c : Nat} {s : List Nat} : dIn true [.str [c], .str s] = some (.bl (!decide (c ∈ s))) := rfl
theorem ix0 {h : Nat} {l : List Nat} : dIx [.str (h :: l), .int 0] = some (.str [h]) := by
  show (L2.atI (h :: l) ((0 : Nat) : Int)).map _ = _
  rw [atI_nat (x := h) rfl]; rfl
theorem ix1 {h c : Nat} {l : List Nat} : dIx [.str (h :: c :: l), .int 1] = some (.str [c]) := by
  show (L2.atI (h :: c :: l) ((1 : Nat) : Int)).map _ = _
  rw [atI_nat (x := c) rfl]; rfl
section
variable {P : Prg} {ρ : Rho}
theorem sw_set1 {i : Nat} {ke e k : Ex} {d : D} {xs ys : List D} {kk jj : Int} {p q : Nat} {Q : Po} (hs : slotOf ρ i = some (.lst true xs)) (v : evP P.G e ρ = some d) (vk : evP P.G ke ρ = some (.int kk)) (vj : evP P.G k ρ = some (.int jj))
    (hp : ixN xs.length kk = some p) (hx : xs[p]? = some (.lst true ys)) (hq : ixN ys.length jj = some q) (z : Q.nx (ρ.set i (some (.lst true (xs.set p (.lst true (ys.set q d))))))) (hc : pureC e = true := by rfl) (hi : (d.imm || det e) = true := by rfl) : SW P (.mut .set i [ke] [e, k]) ρ Q := by
  refine ⟨?_⟩
  have e1 := x_of (P := P) hc v hi
  simp only [evS, e1, to_ok]
  simp only [evPs, vk, Option.map_some, Option.bind_some, intsD, optS_some, vj, mutX, hs, leafD, hp, hx, MOp.run, hq, putD]
  exact z
end
theorem join_len (s : Nat) : ∀ g : List (List Nat), (TL.joinL [s] g).length ≤ (g.map List.length).sum + g.length
  | [] => by simp [TL.joinL]
  | [p] => by simp [TL.joinL]
  | p :: q :: r => by
    have := join_len s (q :: r)
    simp [TL.joinL] at this ⊢
    omega
theorem ixN_last {n : Nat} (h : 0 < n) : ixN n (-1) = some (n - 1) := by
  unfold ixN
  rw [if_neg (by omega)]
  split
  · congr 1
    omega
  · omega
theorem atI_strs {l : List (List Nat)} {v : Int} (h0 : 0 ≤ v) (h1 : v < l.length) : ∃ s ∈ l, L2.atI (l.map D.str) v = some (.str s) := by
  obtain ⟨n, rfl⟩ : ∃ n : Nat, v = n := ⟨v.toNat, by omega⟩
  have hl : n < l.length := by omega
  exact ⟨l[n], List.getElem_mem hl, atI_map' (List.getElem?_eq_getElem hl)⟩
theorem ix_ch {l : List Nat} {v : Int} (h0 : 0 ≤ v) (h1 : v < l.length) : ∃ c, dIx [.str l, .int v] = some (.str [c]) := by
  obtain ⟨c, e⟩ := atI_in h0 h1
  exact ⟨c, by show (L2.atI l v).map _ = _; rw [e]; rfl⟩
theorem add_strs {o o' : Bool} {a b : List (List Nat)} (h : a.length + b.length ≤ 9000) : dAdd [.lst o (a.map .str), .lst o' (b.map .str)] = some (.lst true ((a ++ b).map .str)) := by
  simp only [dAdd]
  rw [if_pos ⟨by rw [List.length_map, List.length_map]; exact lim_le (by omega), immL_txts a, immL_txts b⟩, List.map_append]
theorem lst_strs {a : List (List Nat)} (h : a.length ≤ 9000) : applyOp .lst (a.map .str) = some (.lst true (a.map .str)) := by
  show dLst _ = _
  unfold dLst
  rw [if_pos ⟨immL_txts a, by rw [List.length_map]; exact lim_le (by omega)⟩]
theorem slc_strs {o : Bool} {a : List (List Nat)} {lo hi : Option Int} : dSlc1 lo hi (.lst o (a.map .str)) = some (.lst true ((cutL a lo hi).map .str)) := by
  simp only [dSlc1, immL_txts, if_true, cut_map]
theorem slc_from {w : List Nat} {k : Nat} : dSlc1 (some (k : Int)) none (.str w) = some (.str (w.drop k)) := by simp only [dSlc1, cut_from]
theorem slc_to {w : List Nat} {k : Nat} : dSlc1 none (some (k : Int)) (.str w) = some (.str (w.take k)) := by simp only [dSlc1, cut_to]
theorem fzL_str : ∀ l : List (List Nat), fzL (l.map D.str) = l.map D.str
  | [] => rfl
  | a :: l => by rw [List.map_cons, fzL, fzL_str l]; rfl
theorem fz_strs {o : Bool} {a : List (List Nat)} : (D.lst o (a.map .str)).fz = .lst false (a.map .str) := by simp only [D.fz, fzL_str]
section
variable {P : Prg} {ρ : Rho}
theorem sw_set0 {i : Nat} {e k : Ex} {Q : Po} (h : XW P e ρ (fun d ρ1 => ∃ xs jj q, slotOf ρ1 i = some (.lst true xs) ∧ evP P.G k ρ1 = some (.int jj) ∧ ixN xs.length jj = some q ∧ Q.nx (ρ1.set i (some (.lst true (xs.set q d))))) Q.ex) : SW P (.mut .set i [] [e, k]) ρ Q := by
  refine ⟨?_⟩
  simp only [evS]
  refine at_to (wp_mono h.run (fun d ρ1 z => ?_) fun _ _ z => z)
  obtain ⟨xs, jj, q, hs, vj, hq, z⟩ := z
  simp only [evPs, Option.bind_some, intsD, optS_some, vj, mutX, hs, leafD, MOp.run, hq, putD, Option.map_some]
  exact z
theorem sw_ins {i : Nat} {k e : Ex} {d : D} {xs : List D} {jj : Nat} {Q : Po} (hs : slotOf ρ i = some (.lst true xs)) (vk : evP P.G k ρ = some (.int jj)) (v : evP P.G e ρ = some d) (hd : d.imm = true) (hl : xs.length < 90000) (hj : jj < 2 ^ 40) (z : Q.nx (ρ.set i (some (.lst true (xs.take jj ++ [d] ++ xs.drop jj))))) : SW P (.mut .ins i [] [k, e]) ρ Q := by
  refine ⟨?_⟩
  simp only [evS, hs, Option.bind_some, leafD, optS_some, vk, v, hd, List.isEmpty_nil, and_self, if_true, mutX, MOp.run]
  rw [if_pos ⟨Nat.lt_of_lt_of_le hl (by decide), by omega, by omega⟩]
  simp only [optS_some, putD, Int.toNat_natCast]
  exact z
theorem sw_pop {i : Nat} {k : Ex} {xs : List D} {jj : Nat} {Q : Po} (hs : slotOf ρ i = some (.lst true xs)) (vk : evP P.G k ρ = some (.int jj)) (hl : xs.length < 90000) (hq : jj < xs.length) (z : Q.nx (ρ.set i (some (.lst true (xs.eraseIdx jj))))) : SW P (.mut .pop i [] [k]) ρ Q := by
  refine ⟨?_⟩
  simp only [evS, hs, Option.bind_some, leafD, optS_some, vk, List.isEmpty_nil, if_true, mutX, MOp.run]
  rw [if_pos (Nat.le_trans (Nat.le_of_lt hl) (by decide)), ixN_nat hq]
  simp only [optS_some, putD, Option.map_some]
  exact z
theorem xw_mkE {x : Str} {a : Ex} {c mk : String} {Q : D → Rho → Prop} {E : Xn → Rho → Prop} (hI : iniC P x = some (c, mk)) (h : XW P a ρ (fun d ρ1 => iniD d = true ∧ Q (.exc c mk d) ρ1) E) : XW P (.mkE x a) ρ Q E := by
  refine ⟨?_⟩
  simp only [evX, hI]
  refine wp_th (wp_mono h.run (fun d ρ1 z => ?_) fun _ _ z => z)
  obtain ⟨hi, q⟩ := z
  rw [if_pos hi]
  exact ⟨q⟩
theorem xw_strE {x : Str} {a : Ex} {n : String} {yes no : List String} {Q : D → Rho → Prop} {E : Xn → Rho → Prop} (g : P.G x = some (.cls n "=" yes no)) (h : XW P a ρ (fun d ρ1 => ∃ s, d = .str s ∧ Q (.str s) ρ1) E) : XW P (.strE x a) ρ Q E := by
  refine ⟨?_⟩
  simp only [evX, g]
  refine wp_th (wp_mono h.run (fun d ρ1 z => ?_) fun _ _ z => z)
  obtain ⟨s, rfl, q⟩ := z
  exact ⟨q⟩
end
/-! words of a text, parted by one sign -/
theorem spl1_sum (s : Nat) : ∀ (t acc : List Nat), ((TL.spl [s] 0 acc t).map List.length).sum + (TL.spl [s] 0 acc t).length = acc.length + t.length + 1
  | [], acc => by rw [TL.spl_nil]; simp
  | c :: r, acc => by
    cases h : TL.pre [s] (c :: r) with
    | true =>
      rw [TL.spl_hit h]
      show ((acc :: TL.spl [s] 0 [] r).map List.length).sum + (acc :: TL.spl [s] 0 [] r).length = _
      have := spl1_sum s r []
      simp only [List.map_cons, List.sum_cons, List.length_cons, List.length_nil] at this ⊢
      omega
    | false =>
      rw [TL.spl_miss h]
      have := spl1_sum s r (acc ++ [c])
      rw [List.length_append] at this
      simp only [List.length_cons, List.length_nil] at this ⊢
      omega
theorem sum_mem {l : List (List Nat)} {w : List Nat} (h : w ∈ l) : w.length ≤ (l.map List.length).sum := by
  induction l with
  | nil => cases h
  | cons a l ih =>
    rw [List.map_cons, List.sum_cons]
    rcases List.mem_cons.mp h with rfl | z
    · omega
    · have := ih z; omega
theorem spl1_ne (s : Nat) : ∀ (t acc : List Nat), TL.spl [s] 0 acc t ≠ []
  | [], acc => by rw [TL.spl_nil]; simp
  | c :: r, acc => by
    cases h : TL.pre [s] (c :: r) with
    | true => rw [TL.spl_hit h]; simp
    | false => rw [TL.spl_miss h]; exact spl1_ne s r _
theorem join_strs {s : Nat} {o : Bool} {a : List (List Nat)} (h : (a.map List.length).sum + a.length ≤ 90000) : dJoin [.str [s], .lst o (a.map .str)] = some (.str (TL.joinL [s] a)) := by
  simp only [dJoin, strsOf_map, Option.bind_some]
  rw [if_pos (lim_le (by simp only [List.length_singleton, Nat.mul_one]; omega))]
theorem split_is {G : Str → Option D} {ρ : Rho} {e : Ex} {t : List Nat} {s : Nat} (he : evP G e ρ = some (.str t)) (hl : t.length ≤ 90000) (hs : s < 256) : evP G (.node .split [e, .lit (.str [s])]) ρ = some (.lst true ((TL.spl [s] 0 [] t).map .str)) := by
  refine v_2 he v_lit ?_
  show dSplit [.str t, .str [s]] = _
  simp only [dSplit]
  rw [if_pos ⟨by simp, by simp [hs], lim_le (by omega)⟩]
end VL

namespace VL
open PySem PySem.Spec PyProof.Rows L2
/-! family A: what the laws draw -/
abbrev sd (a b c e : Int) : D := .lst true [.int a, .int b, .int c, .int e]
def Sd (d : D) : Prop := ∃ a b c e : Int, d = sd a b c e ∧ 0 ≤ a
theorem Sd.no {d : D} (h : Sd d) : d.imm = false := by
  obtain ⟨a, b, c, e, rfl, _⟩ := h
  rfl
theorem mod_is {a b : Int} (h : 0 < b) : applyOp (.bin .Mod) [.int a, .int b] = some (.int (a % b)) := if_pos h
theorem fdiv_is {a b : Int} (h : 0 < b) (h2 : b < 1073741824) : applyOp (.bin .FloorDiv) [.int a, .int b] = some (.int (a / b)) := if_pos ⟨h, h2⟩
theorem gt_is {a b : Int} : applyOp (.cmp .Gt) [.int a, .int b] = some (.bl (decide (b < a))) := rfl
theorem lt_is {a b : Int} : applyOp (.cmp .Lt) [.int a, .int b] = some (.bl (decide (a < b))) := rfl
theorem le_is {a b : Int} : applyOp (.cmp .LtE) [.int a, .int b] = some (.bl (decide (a ≤ b))) := rfl
theorem run_draw {d : D} (hd : Sd d) {many : Int} (h1 : 1 ≤ many) (h2 : many < 2 ^ 30) {Q : D → Rho → Prop} {E : Xn → Rho → Prop} (q : ∀ v d', 0 ≤ v → v < many → Sd d' → Q (.int v) [some d', some (.int many)]) : (f_law_draw.run pg_law_draw [d, .int many]).wp Q E := by
  obtain ⟨a, b, c, e, rfl, ha⟩ := hd
  refine run_wp rfl ?_
  refine sw_cons (sw_set0 (xw_v (d := .int (c + 1)) (v_2 (x := .int c) (v_2 (v_var rfl) v_lit rfl) v_lit add_int) ⟨[.int a, .int b, .int c, .int e], 2, 2, rfl, v_lit, rfl, ?_⟩))
  show SWs _ _ [some (sd a b (c + 1) e), some (.int many), none, none] _
  generalize c + 1 = c
  have v1 : ∀ {x2 x3 : Option D}, evP pg_law_draw.G (.node (.cmp .Eq) [.node .ix [.var 0, .lit (.int 1)], .lit (.int 1)]) [some (sd a b c e), some (.int many), x2, x3] = some (.bl (b == 1)) := v_2 (x := .int b) (v_2 (v_var rfl) v_lit rfl) v_lit eqz
  have v2 : ∀ {x2 x3 : Option D}, evP pg_law_draw.G (.node (.cmp .Gt) [.node .ix [.var 0, .lit (.int 0)], .lit (.int 0)]) [some (sd a b c e), some (.int many), x2, x3] = some (.bl (decide (0 < a))) := v_2 (x := .int a) (v_2 (v_var rfl) v_lit rfl) v_lit gt_is
  refine sw_cons (sw_ifb (v_and v1 fun _ => v2) (fun _ => ?_) fun _ => sw_nil ?_)
  · refine sw_cons (sw_asg (xw_v (d := .int (a % many)) (v_2 (x := .int a) (v_2 (v_var rfl) v_lit rfl) (v_var rfl) (mod_is (by omega))) ⟨lt_b rfl, ?_⟩))
    refine sw_cons (sw_set0 (xw_v (d := .int (a / many)) (v_2 (x := .int a) (v_2 (v_var rfl) v_lit rfl) (v_var rfl) (fdiv_is (by omega) (by omega))) ⟨[.int a, .int b, .int c, .int e], 0, 0, rfl, v_lit, rfl, ?_⟩))
    refine sw_cons (sw_ret (xw_tki (d := .int (a % many)) rfl rfl ?_))
    exact q _ (sd (a / many) b c e) (Int.emod_nonneg _ (by omega)) (Int.emod_lt_of_pos _ (by omega)) ⟨_, _, _, _, rfl, Int.ediv_nonneg ha (by omega)⟩
  · have m1 : dMul [.int 6997, .int c] = some (.int (6997 * c)) := mul_is (.inl ⟨by decide, by decide⟩)
    have m2 : ∀ z : Int, dMul [.int z, .int 48271] = some (.int (z * 48271)) := fun z => mul_is (.inr ⟨by decide, by decide⟩)
    have m3 : ∀ z : Int, dMul [.int z, .int 40692] = some (.int (z * 40692)) := fun z => mul_is (.inr ⟨by decide, by decide⟩)
    refine sw_cons (sw_asg (xw_v (d := .int ((e + 6997 * c + 11) * 48271 % 2147483647)) (v_2 (o := .bin .Mod) (x := .int ((e + 6997 * c + 11) * 48271)) (v_2 (o := .bin .Mult) (x := .int (e + 6997 * c + 11)) (v_2 (v_2 (v_2 (v_var rfl) v_lit rfl) (v_2 v_lit (v_2 (v_var rfl) v_lit rfl) m1) add_int) v_lit add_int) v_lit (m2 _)) v_lit (mod_is (by decide))) ⟨lt_b rfl, ?_⟩))
    have b0 : 0 ≤ (e + 6997 * c + 11) * 48271 % 2147483647 := Int.emod_nonneg _ (by decide)
    have b1 : (e + 6997 * c + 11) * 48271 % 2147483647 < 2147483647 := Int.emod_lt_of_pos _ (by decide)
    generalize (e + 6997 * c + 11) * 48271 % 2147483647 = n at b0 b1
    show SWs _ _ [some (sd a b c e), some (.int many), none, some (.int n)] _
    have m4 : dMul [.int n, .int n] = some (.int (n * n)) := mul_is (.inl ⟨by omega, by omega⟩)
    refine sw_cons (sw_asg (xw_v (d := .int (n * n % 2147483629 * 40692 % 2147483399)) (v_2 (o := .bin .Mod) (x := .int (n * n % 2147483629 * 40692)) (v_2 (o := .bin .Mult) (x := .int (n * n % 2147483629)) (v_2 (o := .bin .Mod) (x := .int (n * n)) (v_2 (o := .bin .Mult) (v_var rfl) (v_var rfl) m4) v_lit (mod_is (by decide))) v_lit (m3 _)) v_lit (mod_is (by decide))) ⟨lt_b rfl, ?_⟩))
    generalize n * n % 2147483629 * 40692 % 2147483399 = n2
    show SWs _ _ [some (sd a b c e), some (.int many), none, some (.int n2)] _
    refine sw_cons (sw_ret (xw_v (d := .int (n2 / 7 % many)) (v_2 (o := .bin .Mod) (x := .int (n2 / 7)) (v_2 (o := .bin .FloorDiv) (v_var rfl) v_lit (fdiv_is (by decide) (by decide))) (v_var rfl) (mod_is (by omega))) ?_))
    exact q _ (sd a b c e) (Int.emod_nonneg _ (by omega)) (Int.emod_lt_of_pos _ (by omega)) ⟨_, _, _, _, rfl, ha⟩
section
variable {P : Prg} {ρ : Rho} {Q : D → Rho → Prop} {E : Xn → Rho → Prop}
theorem xw_draw {e2 : Ex} {i : Nat} {d : D} {many : Int} (hf : P.fns "_law_draw" = some (f_law_draw.run pg_law_draw)) (hi : slotOf ρ i = some d) (hd : Sd d) (v : evP P.G e2 ρ = some (.int many)) (h1 : 1 ≤ many) (h2 : many < 2 ^ 30)
    (q : ∀ v d', 0 ≤ v → v < many → Sd d' → Q (.int v) (ρ.set i (some d'))) (hp : pureC e2 = true := by rfl) : XW P (.call "_law_draw" [.var i, e2]) ρ Q E := by
  refine xw_call1 0 hf (ow_var hi ⟨wp_mono (ow_num (E := E) v hp).run (fun os ρ' z => ?_) fun _ _ z => z⟩)
  obtain ⟨rfl, o, rfl, hg⟩ := z
  have ho : hasOwn ρ' i = true := by simp [hasOwn, hi, hd.no]
  have hl2 : lent ρ' [o] = [] := by
    cases o with
    | o x => rfl
    | b k =>
      have : slotOf ρ' k = some (.int many) := hg
      exact lent_b this rfl rfl
  refine ⟨[d, .int many], i, ?_, ?_, ?_, ?_⟩
  · simp only [getAll, Opd.get, hi]
    cases o with
    | o x => simp only [Opd.get] at hg ⊢; cases hg; rfl
    | b k => simp only [Opd.get] at hg ⊢; rw [hg]; rfl
  · rw [lent, if_pos ho, hl2]
  · rw [posOf, if_pos ⟨rfl, ho⟩]
  · exact run_draw hd h1 h2 fun v d' v0 v1 hd' => q v d' v0 v1 hd'
end
theorem run_seed (cell : Int) {Q : D → Rho → Prop} {E : Xn → Rho → Prop} (q : ∀ d xs, Sd d → Q d xs) : (f_law_seed.run pg_law_seed [.int cell]).wp Q E := by
  refine run_wp rfl ?_
  have m : dMaxA [.int cell, .int (0 - cell)] = some (.int (if 0 - cell > cell then 0 - cell else cell)) := rfl
  refine sw_cons (sw_asg (xw_v (d := .int (if 0 - cell > cell then 0 - cell else cell)) (v_2 (o := .max2) (v_var rfl) (v_2 v_lit (v_var rfl) sub_int) m) ⟨lt_b rfl, ?_⟩))
  have h0 : 0 ≤ if 0 - cell > cell then 0 - cell else cell := by split <;> omega
  generalize (if 0 - cell > cell then 0 - cell else cell) = n at h0
  show SWs _ _ [some (.int cell), some (.int n)] _
  have vp : ∀ {ρ : Rho}, evP pg_law_seed.G (.node (.bin .Pow) [.lit (.int 10), .lit (.int 18)]) ρ = some (.int (10 ^ 18)) := v_2 v_lit v_lit (by simp [applyOp, dBin, dPow])
  refine sw_cons (sw_ret (xw_v (d := sd n (if (decide ((10 : Int) ^ 18 ≤ n)) = true then 1 else 0) 0 (cell % 1999999913)) (v_n (o := .lst) (vs_cons (v_var rfl) (vs_cons (v_1 (x := .bl (decide ((10 : Int) ^ 18 ≤ n))) (v_2 (o := .cmp .GtE) (v_var rfl) vp rfl) rfl) (vs_cons v_lit (vs_cons (v_2 (o := .bin .Mod) (v_var rfl) v_lit (mod_is (by decide))) vs_nil)))) ?_) (q _ _ ⟨_, _, _, _, rfl, h0⟩)))
  simp [applyOp, dLst, immL, D.imm, LIM]
theorem run_folded (ns : List Int) (o : Bool) (hl : ns.length ≤ 63) {Q : D → Rho → Prop} {E : Xn → Rho → Prop} (q : ∀ n : Int, Q (.int n) [some (.lst false (ns.map .int))]) : (f_law_folded.run pg_law_folded [.lst o (ns.map .int)]).wp Q E := by
  refine run_wp rfl ?_
  have him := immL_ints ns
  refine sw_cons (sw_asg (xw_v (d := .int ns.length) (v_1 (v_var rfl) (by simp [applyOp, dLen])) ⟨lt_b rfl, ?_⟩))
  have fz : (D.lst o (ns.map D.int)).fz = .lst false (ns.map D.int) := by simp only [D.fz, fzL_of_imm _ him]
  have main : FW pg_law_folded (.nm 2) l1_law_folded (ns.map D.int) [some (.lst false (ns.map .int)), some (.int ns.length), none] { nx := fun ρ => SWs pg_law_folded (b_law_folded.drop 2) ρ { nx := fun ρ => Q .non (f_law_folded.ends ρ), rt := fun d ρ => Q d (f_law_folded.ends ρ), ex := fun x ρ => E x (f_law_folded.ends ρ) }, rt := fun d ρ => Q d (f_law_folded.ends ρ), ex := fun x ρ => E x (f_law_folded.ends ρ) } := by
    refine fw_inv (fun i ρ => ∃ (n : Int) (x2 : Option D), ρ = [some (.lst false (ns.map .int)), some (.int n), x2]) 0 ⟨_, _, rfl⟩ ?_ ?_
    · rintro i x ρ hx ⟨n, x2, rfl⟩
      rw [List.getElem?_map, Option.map_eq_some_iff] at hx
      obtain ⟨c, hc, rfl⟩ := hx
      refine ⟨_, rfl, ?_⟩
      have m2 : dMul [.int n, .int 48271] = some (.int (n * 48271)) := mul_is (.inr ⟨by decide, by decide⟩)
      refine sw_cons (sw_asg (xw_v (d := .int ((n * 48271 + c % 2147483629) % 2147483647)) (v_2 (o := .bin .Mod) (x := .int (n * 48271 + c % 2147483629)) (v_2 (o := .bin .Add) (v_2 (o := .bin .Mult) (v_var rfl) v_lit m2) (v_2 (o := .bin .Mod) (v_var rfl) v_lit (mod_is (by decide))) add_int) v_lit (mod_is (by decide))) ⟨lt_b rfl, sw_nil ⟨_, _, rfl⟩⟩))
    · rintro ρ ⟨n, x2, rfl⟩
      exact sw_cons (sw_ret (xw_tki (d := .int n) rfl rfl (q n)))
  refine sw_cons (sw_for (ow_x (xw_sh (d := .lst o (ns.map .int)) rfl (fun _ => ?_) fun ho => ?_)))
  · rw [fz]
    exact ow_nil ⟨[.lst false (ns.map .int)], ns.map .int, rfl, rfl, rfl, him, main⟩
  · cases o with
    | true => cases ho
    | false => exact ow_nil ⟨[.lst false (ns.map .int)], ns.map .int, rfl, rfl, rfl, him, main⟩
end VL

namespace VL
open PySem PySem.Spec PyProof.Rows L2
/-! dicts as finite maps -/
section
variable {P : Prg} {ρ : Rho}
theorem sw_dst {i : Nat} {e k : Ex} {Q : Po} (h : XW P e ρ (fun d ρ1 => ∃ kd ks vs, evP P.G k ρ1 = some kd ∧ slotOf ρ1 i = some (.dic true ks vs) ∧ (keyT kd).isSome = true ∧ ks.length < LIM ∧ Q.nx (ρ1.set i (some (.dic true (stD ks vs kd d).1 (stD ks vs kd d).2)))) Q.ex) : SW P (.dst i e k) ρ Q := by
  refine ⟨?_⟩
  simp only [evS]
  refine at_to (wp_mono h.run (fun d ρ1 z => ?_) fun _ _ z => z)
  obtain ⟨kd, ks, vs, vk, hs, h1, h2, z⟩ := z
  rw [vk, optS_some, hs]
  show Po.at _ (if _ then _ else _)
  rw [if_pos ⟨h1, h2⟩]
  exact z
end
theorem stD_len : ∀ {ks vs : List D} {k d : D}, ks.length = vs.length → (stD ks vs k d).1.length = (stD ks vs k d).2.length
  | [], [], k, d, _ => rfl
  | [], _ :: _, _, _, h => by simp at h
  | _ :: _, [], _, _, h => by simp at h
  | a :: ks, v :: vs, k, d, h => by
    unfold stD
    split
    · simpa using h
    · simpa using stD_len (ks := ks) (vs := vs) (by simpa using h)
theorem stD_keys : ∀ {ks vs : List D} {k d : D}, ks.length = vs.length → (stD ks vs k d).1 = if k ∈ ks then ks else ks ++ [k]
  | [], [], k, d, _ => rfl
  | [], _ :: _, _, _, h => by simp at h
  | _ :: _, [], _, _, h => by simp at h
  | a :: ks, v :: vs, k, d, h => by
    unfold stD
    by_cases e : a = k
    · rw [if_pos e, if_pos (by rw [e]; exact List.mem_cons_self)]
    · rw [if_neg e]
      show a :: (stD ks vs k d).1 = _
      rw [stD_keys (by simpa using h)]
      by_cases h2 : k ∈ ks
      · rw [if_pos h2, if_pos (List.mem_cons_of_mem _ h2)]
      · rw [if_neg h2, if_neg (fun z => (List.mem_cons.mp z).elim (fun q => e q.symm) h2)]
        rfl
theorem lkD_stD : ∀ {ks vs : List D} {k d x : D}, ks.length = vs.length → lkD (stD ks vs k d).1 (stD ks vs k d).2 x = if x = k then some d else lkD ks vs x
  | [], [], k, d, x, _ => by
    show (if k = x then some d else lkD [] [] x) = _
    by_cases h : x = k
    · rw [if_pos h, if_pos h.symm]
    · rw [if_neg h, if_neg (Ne.symm h)]
  | [], _ :: _, _, _, _, h => by simp at h
  | _ :: _, [], _, _, _, h => by simp at h
  | a :: ks, v :: vs, k, d, x, h => by
    unfold stD
    by_cases e : a = k
    · rw [if_pos e]
      subst e
      show (if a = x then some d else lkD ks vs x) = if x = a then some d else (if a = x then some v else lkD ks vs x)
      by_cases h2 : a = x
      · rw [if_pos h2, if_pos h2.symm]
      · rw [if_neg h2, if_neg (Ne.symm h2), if_neg h2]
    · rw [if_neg e]
      show (if a = x then some v else lkD (stD ks vs k d).1 (stD ks vs k d).2 x) = if x = k then some d else (if a = x then some v else lkD ks vs x)
      rw [lkD_stD (by simpa using h)]
      by_cases h2 : a = x
      · rw [if_pos h2, if_neg (fun z => e (h2.trans z)), if_pos h2]
      · rw [if_neg h2, if_neg h2]
theorem lkD_mem : ∀ {ks vs : List D} {x : D}, ks.length = vs.length → ((lkD ks vs x).isSome = true ↔ x ∈ ks)
  | [], [], x, _ => by simp [lkD]
  | [], _ :: _, _, h => by simp at h
  | _ :: _, [], _, h => by simp at h
  | a :: ks, v :: vs, x, h => by
    unfold lkD
    by_cases e : a = x
    · simp [e]
    · rw [if_neg e, lkD_mem (by simpa using h)]
      simp [Ne.symm e]
/-- a dict holds f -/
structure Mp {S A : Type} (key : S → D) (val : A → D) (ks vs : List D) (f : S → Option A) : Prop where
  lk : ∀ s, lkD ks vs (key s) = (f s).map val
  mem : ∀ k ∈ ks, ∃ s, k = key s
  nd : ks.Nodup
  len : ks.length = vs.length
section
variable {S A : Type} [DecidableEq S] {key : S → D} {val : A → D} {ks vs : List D} {f : S → Option A}
theorem Mp.empty : Mp key val [] [] (fun _ : S => (none : Option A)) := ⟨fun s => rfl, (fun k h => by cases h), List.nodup_nil, rfl⟩
theorem Mp.st (m : Mp key val ks vs f) (inj : ∀ a b, key a = key b → a = b) (s : S) (a : A) : Mp key val (stD ks vs (key s) (val a)).1 (stD ks vs (key s) (val a)).2 (fun x => if x = s then some a else f x) := by
  refine ⟨fun x => ?_, fun k hk => ?_, ?_, stD_len m.len⟩
  · rw [lkD_stD m.len, m.lk]
    by_cases h : x = s
    · subst h; simp
    · rw [if_neg (fun z => h (inj _ _ z)), if_neg h]
  · rw [stD_keys m.len] at hk
    split at hk
    · exact m.mem k hk
    · rcases List.mem_append.mp hk with z | z
      · exact m.mem k z
      · exact ⟨s, List.mem_singleton.mp z⟩
  · rw [stD_keys m.len]
    split
    · exact m.nd
    · rename_i hk
      rw [List.nodup_append]
      refine ⟨m.nd, by simp, fun a ha b hb => ?_⟩
      rw [List.mem_singleton] at hb
      subst hb
      exact fun q => hk (q ▸ ha)
theorem Mp.key_mem (m : Mp key val ks vs f) (s : S) : key s ∈ ks ↔ (f s).isSome = true := by
  rw [← lkD_mem m.len, m.lk]
  cases f s <;> simp
theorem Mp.in_ (m : Mp key val ks vs f) {o neg : Bool} {s : S} (h : (keyT (key s)).isSome = true) : dIn neg [key s, .dic o ks vs] = some (.bl (xor neg (f s).isSome)) := by
  have e : ∀ x, (keyT x).isSome = true → dIn neg [x, .dic o ks vs] = some (.bl (xor neg (lkD ks vs x).isSome)) := fun x hx => by
    cases x with
    | tup xs => simp only [dIn]; rw [if_pos hx]
    | _ => simp [keyT] at hx
  rw [e _ h, m.lk]
  cases f s <;> rfl
theorem Mp.get (m : Mp key val ks vs f) {o : Bool} {s : S} {y : D} (h : (keyT (key s)).isSome = true) : dGet [.dic o ks vs, key s, y] = some (((f s).map val).getD y) := by
  simp only [dGet]
  rw [if_pos h, m.lk]
theorem Mp.ix (m : Mp key val ks vs f) {o : Bool} {s : S} {a : A} (h : (keyT (key s)).isSome = true) (hf : f s = some a) : dIx [.dic o ks vs, key s] = some (val a) := by
  have e : ∀ x, (keyT x).isSome = true → dIx [.dic o ks vs, x] = lkD ks vs x := fun x hx => by
    cases x with
    | tup xs => simp only [dIx]; rw [if_pos hx]
    | _ => simp [keyT] at hx
  rw [e _ h, m.lk, hf]
  rfl
/-- its keys, one by one -/
theorem Mp.at_ (m : Mp key val ks vs f) {i : Nat} {k : D} (h : ks[i]? = some k) : ∃ s a, k = key s ∧ f s = some a := by
  have hm := List.mem_of_getElem? h
  obtain ⟨s, rfl⟩ := m.mem k hm
  obtain ⟨a, ha⟩ := Option.isSome_iff_exists.mp ((m.key_mem s).mp hm)
  exact ⟨s, a, rfl, ha⟩
end
theorem nodup_le {α : Type} [DecidableEq α] : ∀ {l m : List α}, l.Nodup → (∀ x ∈ l, x ∈ m) → l.length ≤ m.length
  | [], m, _, _ => Nat.zero_le _
  | a :: l, m, h, hs => by
    rw [List.nodup_cons] at h
    have ha := hs a List.mem_cons_self
    have ih := nodup_le (l := l) (m := m.erase a) h.2 fun x hx => by
      have hne : x ≠ a := fun z => h.1 (z ▸ hx)
      exact (List.mem_erase_of_ne hne).mpr (hs x (List.mem_cons_of_mem _ hx))
    rw [List.length_erase_of_mem ha] at ih
    have : 0 < m.length := List.length_pos_of_mem ha
    rw [List.length_cons]
    omega
/-- places as keys -/
theorem keyPl (p : Pl) : (keyT (pD p)).isSome = true := by
  simp [keyT, keysOf, keyOf, NestedKey.depth, NestedKey.depthAll]
abbrev St := Pl × List Nat
abbrev keyS (s : St) : D := .tup [pD s.1, .str s.2]
theorem keySt (s : St) : (keyT (keyS s)).isSome = true := by
  simp [keyT, keysOf, keyOf, NestedKey.depth, NestedKey.depthAll]
theorem pD_inj {a b : Pl} (h : pD a = pD b) : a = b := by
  obtain ⟨x, y⟩ := a
  obtain ⟨z, w⟩ := b
  simp at h
  rw [h.1, h.2]
theorem keyS_inj (a b : St) (h : keyS a = keyS b) : a = b := by
  obtain ⟨⟨x, y⟩, s⟩ := a
  obtain ⟨⟨z, w⟩, t⟩ := b
  simp at h
  obtain ⟨⟨h1, h2⟩, h3⟩ := h
  rw [h1, h2, h3]
end VL

namespace VL
open PySem PySem.Spec PyProof.Rows L2
/-! family A: _law_spiral, _law_sign, _law_grid, _law_free -/
def places (R C : Nat) : List D := ((List.range R).map fun (r : Nat) => (List.range C).map fun (c : Nat) => pD ((r : Int), (c : Int))).flatten
theorem places_mem {R C : Nat} {p : Pl} (h1 : 0 ≤ p.1) (h2 : p.1 < R) (h3 : 0 ≤ p.2) (h4 : p.2 < C) : pD p ∈ places R C := by
  obtain ⟨a, b⟩ := p
  simp only at h1 h2 h3 h4
  unfold places
  rw [List.mem_flatten]
  have ha : a.toNat < R := by omega
  have hb : b.toNat < C := by omega
  refine ⟨_, List.mem_map.mpr ⟨a.toNat, List.mem_range.mpr ha, rfl⟩, List.mem_map.mpr ⟨b.toNat, List.mem_range.mpr hb, ?_⟩⟩
  rw [Int.toNat_of_nonneg h1, Int.toNat_of_nonneg h3]
theorem places_len (R C : Nat) : (places R C).length = R * C := by
  unfold places
  rw [List.length_flatten, List.map_map]
  have : ∀ l : List Nat, (l.map (List.length ∘ fun r : Nat => (List.range C).map fun c : Nat => pD ((r : Int), (c : Int)))).sum = l.length * C := by
    intro l
    induction l with
    | nil => simp
    | cons a l ih =>
      rw [List.map_cons, List.sum_cons, ih, List.length_cons, Nat.add_mul]
      simp
      omega
  rw [this, List.length_range]
theorem dIn_dic {neg o : Bool} {p : Pl} {ks vs : List D} (h : ks.length = vs.length) : dIn neg [pD p, .dic o ks vs] = some (.bl (xor neg (decide (pD p ∈ ks)))) := by
  simp only [dIn]
  rw [if_pos (keyPl p)]
  have := lkD_mem (x := pD p) h
  by_cases e : pD p ∈ ks
  · rw [this.mpr e, decide_eq_true e]
  · have : (lkD ks vs (pD p)).isSome = false := by
      cases z : (lkD ks vs (pD p)).isSome with
      | false => rfl
      | true => exact absurd (this.mp z) e
    rw [this, decide_eq_false e]
abbrev fourH : List Pl := [(0, 1), (1, 0), (0, -1), (-1, 0)]
abbrev spA (R C : Nat) (ks vs : List D) (p : Pl) (h b : Int) (x6 x7 x8 x9 : Option D) : Rho := [some (.int R), some (.int C), some (.dic true ks vs), some (pD p), some (.int h), some (.int b), x6, x7, x8, x9]
theorem run_spiralA {R C : Nat} (r1 : 1 ≤ R) (r2 : R ≤ 12) (c1 : 1 ≤ C) (c2 : C ≤ 12) {Q : D → Rho → Prop} {E : Xn → Rho → Prop} (q : ∀ ks vs xs, ks.length = vs.length → Q (.dic true ks vs) xs) : (f_law_spiral.run pg_law_spiral [.int R, .int C]).wp Q E := by
  refine run_wp rfl ?_
  refine sw_cons (sw_asg (xw_v (d := .dic true [pD (0, 0)] [.bl true]) rfl ⟨lt_b rfl, ?_⟩))
  refine sw_cons (sw_asg (xw_v (d := pD (0, 0)) rfl ⟨lt_b rfl, ?_⟩))
  refine sw_cons (sw_asg (xw_v (d := .int 0) v_lit ⟨lt_b rfl, ?_⟩))
  refine sw_cons (sw_asg (xw_v (d := .int 0) v_lit ⟨lt_b rfl, ?_⟩))
  show SWs _ _ (spA R C [pD (0, 0)] [.bl true] (0, 0) 0 0 none none none none) _
  have hrc : R * C ≤ 144 := Nat.mul_le_mul r2 c2
  refine sw_cons ?_
  refine sw_whl (fun n ρ => ∃ (ks vs : List D) (p : Pl) (h b : Int) (x6 x7 x8 x9 : Option D), ρ = spA R C ks vs p h b x6 x7 x8 x9 ∧ ks.length = vs.length ∧ ks.Nodup ∧ (∀ k ∈ ks, k ∈ places R C) ∧ 0 ≤ h ∧ h < 4 ∧ 0 ≤ b ∧ b ≤ 2 ∧ n = 3 * (R * C - ks.length) + (2 - b.toNat)) (3 * (R * C - 1) + 2) ⟨_, _, _, _, _, _, _, _, _, rfl, rfl, by simp, ?_, by omega, by omega, by omega, by omega, rfl⟩ ?_
  · intro k hk
    rw [List.mem_singleton.mp hk]
    exact places_mem (by simp) (by simp; omega) (by simp) (by simp; omega)
  rintro n ρ ⟨ks, vs, p, h, b, x6, x7, x8, x9, rfl, e1, e2, e3, h0, h4, b0, b2, rfl⟩
  refine xw_v (v_2 (o := .cmp .Lt) (v_var rfl) v_lit lt_is) ?_
  by_cases hb : b < 2
  · refine .inl ⟨by rw [decide_eq_true hb], ?_⟩
    obtain ⟨s, hs, es⟩ := atI_pl (l := fourH) h0 (by simpa using h4)
    have v4 : evP pg_law_spiral.G (.node .lst [.node .tup [.lit (.int 0), .lit (.int 1)], .node .tup [.lit (.int 1), .lit (.int 0)], .node .tup [.lit (.int 0), .node .neg [.lit (.int 1)]], .node .tup [.node .neg [.lit (.int 1)], .lit (.int 0)]]) (spA R C ks vs p h b x6 x7 x8 x9) = some (.lst true (fourH.map pD)) := rfl
    refine sw_cons (sw_asgP (xw_v (d := pD s) (v_2 (o := .ix) v4 (v_var rfl) es) ⟨spA R C ks vs p h b (some (.int s.1)) (some (.int s.2)) x8 x9, rfl, ?_⟩))
    refine sw_cons (sw_asg (xw_v (d := pD (p.1 + s.1, p.2 + s.2)) (v_2 (o := .tup) (v_2 (v_2 (v_var rfl) v_lit rfl) (v_var rfl) add_int) (v_2 (v_2 (v_var rfl) v_lit rfl) (v_var rfl) add_int) tup2) ⟨lt_b rfl, ?_⟩))
    generalize ht : ((p.1 + s.1, p.2 + s.2) : Pl) = tn
    show SWs _ _ (spA R C ks vs p h b (some (.int s.1)) (some (.int s.2)) (some (pD tn)) x9) _
    refine sw_cons (sw_asg (xw_v (d := pD (tn.1 + s.1, tn.2 + s.2)) (v_2 (o := .tup) (v_2 (v_2 (v_var rfl) v_lit rfl) (v_var rfl) add_int) (v_2 (v_2 (v_var rfl) v_lit rfl) (v_var rfl) add_int) tup2) ⟨lt_b rfl, ?_⟩))
    generalize ((tn.1 + s.1, tn.2 + s.2) : Pl) = fr
    show SWs _ _ (spA R C ks vs p h b (some (.int s.1)) (some (.int s.2)) (some (pD tn)) (some (pD fr))) _
    refine sw_cons (sw_ifb (v_and (v_in v_lit (v_2 (v_var rfl) v_lit rfl) (v_var rfl)) fun _ => v_and (v_in v_lit (v_2 (v_var rfl) v_lit rfl) (v_var rfl)) fun _ => v_and (v_2 (o := .cmp .NotIn) (v_var rfl) (v_var rfl) (dIn_dic (neg := true) (o := true) e1)) fun _ => v_2 (o := .cmp .NotIn) (v_var rfl) (v_var rfl) (dIn_dic (neg := true) (o := true) e1)) (fun k => ?_) fun k => ?_)
    · simp only [Bool.and_eq_true, decide_eq_true_eq, Bool.true_xor, Bool.not_eq_true', decide_eq_false_iff_not] at k
      obtain ⟨⟨k1, k2⟩, ⟨k3, k4⟩, k5', _⟩ := k
      have k5 : pD tn ∉ ks := by
        intro z
        rw [decide_eq_true z] at k5'
        cases k5'
      have hin : pD tn ∈ places R C := places_mem k1 k2 k3 k4
      have hk2 : (stD ks vs (pD tn) (.bl true)).1 = ks ++ [pD tn] := by rw [stD_keys e1, if_neg k5]
      have nd : (ks ++ [pD tn]).Nodup := by
        rw [List.nodup_append]
        refine ⟨e2, by simp, fun a ha b hb => ?_⟩
        rw [List.mem_singleton] at hb
        subst hb
        exact fun q => k5 (q ▸ ha)
      have sub : ∀ k ∈ ks ++ [pD tn], k ∈ places R C := fun k hk => by
        rcases List.mem_append.mp hk with z | z
        · exact e3 k z
        · rw [List.mem_singleton.mp z]; exact hin
      have hle := nodup_le nd sub
      rw [places_len, List.length_append, List.length_singleton] at hle
      refine sw_cons (sw_dst (xw_v (d := .bl true) v_lit ⟨pD tn, ks, vs, v_var rfl, rfl, keyPl tn, lim_lt (by omega), ?_⟩))
      have hlen := stD_len (k := pD tn) (d := .bl true) e1
      rw [hk2] at hlen ⊢
      generalize (stD ks vs (pD tn) (.bl true)).2 = vs' at hlen
      refine sw_cons (sw_asg (xw_v (d := pD tn) (v_var rfl) ⟨lt_b rfl, ?_⟩))
      refine sw_cons (sw_asg (xw_v (d := .int 0) v_lit ⟨lt_b rfl, sw_nil (sw_nil ⟨_, ?_, ks ++ [pD tn], vs', tn, h, 0, _, _, _, _, rfl, hlen, nd, sub, h0, h4, by omega, by omega, rfl⟩)⟩))
      rw [List.length_append, List.length_singleton]
      have : b.toNat ≤ 1 := by omega
      omega
    · refine sw_cons (sw_asg (xw_v (d := .int ((h + 1) % 4)) (v_2 (o := .bin .Mod) (v_2 (v_var rfl) v_lit add_int) v_lit (mod_is (by decide))) ⟨lt_b rfl, ?_⟩))
      refine sw_cons (sw_asg (xw_v (d := .int (b + 1)) (v_2 (v_var rfl) v_lit add_int) ⟨lt_b rfl, sw_nil (sw_nil ⟨_, ?_, ks, vs, p, (h + 1) % 4, b + 1, _, _, _, _, rfl, e1, e2, e3, Int.emod_nonneg _ (by decide), Int.emod_lt_of_pos _ (by decide), by omega, by omega, rfl⟩)⟩))
      omega
  · refine .inr ⟨by rw [decide_eq_false hb], ?_⟩
    exact sw_cons (sw_ret (xw_tk (d := .dic true ks vs) rfl (q ks vs _ e1)))

/-- a sign -/
theorem xt_b {G : Str → Option D} {ρ : Rho} {e : Ex} (h : ∃ b : Bool, evP G e ρ = some (.bl b)) : ∃ b : Bool, evP G e ρ = some (.bl b) := h
theorem run_signA {d : D} (hd : Sd d) {k r c m : Int} (k0 : 0 ≤ k) {Q : D → Rho → Prop} {E : Xn → Rho → Prop} (q : ∀ (b : Bool) d' xs, Sd d' → Q (.bl b) (some d' :: xs)) : (f_law_sign.run pg_law_sign [d, .int k, .int r, .int c, .int m]).wp Q E := by
  refine run_wp rfl ?_
  show SWs _ _ [some d, some (.int k), some (.int r), some (.int c), some (.int m)] _
  refine sw_cons (sw_ifb (v_2 (o := .cmp .Lt) (v_var rfl) v_lit lt_is) (fun h => ?_) fun h => sw_nil ?_)
  · have h3 : k < 3 := by simpa using h
    obtain ⟨z, hz, z1, z2⟩ : ∃ z : Int, L2.atI [D.int 2, .int 3, .int 5] k = some (.int z) ∧ 1 ≤ z ∧ z ≤ 5 := by
      rcases (show k = 0 ∨ k = 1 ∨ k = 2 by omega) with rfl | rfl | rfl
      · exact ⟨2, rfl, by decide, by decide⟩
      · exact ⟨3, rfl, by decide, by decide⟩
      · exact ⟨5, rfl, by decide, by decide⟩
    refine sw_cons (sw_ret (xw_op (ow_x ?_)))
    refine xw_draw (many := z) fn_law_sign_law_draw rfl hd (v_2 (o := .ix) (x := .lst true [.int 2, .int 3, .int 5]) rfl (v_var rfl) hz) (by omega) (by omega) fun v d' v0 v1 hd' => ?_
    refine ow_v (d := .int 0) v_lit (ow_nil ⟨[.int v, .int 0], .bl (v == 0), rfl, eqz, rfl, ?_⟩)
    exact q _ d' _ hd'
  refine sw_cons (sw_ifb (k := k == 3) (v_2 (v_var rfl) v_lit eqz) (fun _ => ?_) fun _ => sw_nil ?_)
  · exact sw_cons (sw_ret (xw_v (d := .bl false) v_lit (q _ d _ hd)))
  have two : ∀ (a b i : Int), 0 ≤ i → i < 2 → ∃ z : Int, L2.atI [D.int a, .int b] i = some (.int z) := fun a b i h0 h1 => by
    rcases (show i = 0 ∨ i = 1 by omega) with rfl | rfl
    · exact ⟨a, rfl⟩
    · exact ⟨b, rfl⟩
  refine sw_cons (sw_ifb (k := k == 4) (v_2 (v_var rfl) v_lit eqz) (fun _ => ?_) fun _ => sw_nil ?_)
  · obtain ⟨z, hz⟩ := two (m - 1) 0 (r / 2 % 2) (Int.emod_nonneg _ (by decide)) (Int.emod_lt_of_pos _ (by decide))
    refine sw_cons (sw_ret (xw_v (d := .bl ((r % 2 == 1) && !(c == z))) (v_and (v_2 (x := .int (r % 2)) (v_2 (o := .bin .Mod) (v_var rfl) v_lit (mod_is (by decide))) v_lit eqz) fun _ => v_2 (o := .cmp .NotEq) (x := .int c) (y := .int z) (v_var rfl) (v_2 (o := .ix) (x := .lst true [.int (m - 1), .int 0]) (y := .int (r / 2 % 2)) (v_n (o := .lst) (vs_cons (v_2 (v_var rfl) v_lit sub_int) (vs_cons v_lit vs_nil)) rfl) (v_2 (o := .bin .Mod) (v_2 (o := .bin .FloorDiv) (v_var rfl) v_lit (fdiv_is (by decide) (by decide))) v_lit (mod_is (by decide))) hz) nez) (q _ d _ hd)))
  refine sw_cons (sw_ifb (k := k == 5) (v_2 (v_var rfl) v_lit eqz) (fun _ => ?_) fun _ => sw_nil ?_)
  · obtain ⟨z, hz⟩ := two 0 2 (c / 2 % 2) (Int.emod_nonneg _ (by decide)) (Int.emod_lt_of_pos _ (by decide))
    refine sw_cons (sw_ret (xw_v (d := .bl ((c % 2 == 1) && !(r == z))) (v_and (v_2 (x := .int (c % 2)) (v_2 (o := .bin .Mod) (v_var rfl) v_lit (mod_is (by decide))) v_lit eqz) fun _ => v_2 (o := .cmp .NotEq) (x := .int r) (y := .int z) (v_var rfl) (v_2 (o := .ix) (x := .lst true [.int 0, .int 2]) (y := .int (c / 2 % 2)) rfl (v_2 (o := .bin .Mod) (v_2 (o := .bin .FloorDiv) (v_var rfl) v_lit (fdiv_is (by decide) (by decide))) v_lit (mod_is (by decide))) hz) nez) (q _ d _ hd)))
  · refine sw_cons (sw_ret (xw_v (d := .bl (((r + c) % 3 == 0) && !(r == c))) (v_and (v_2 (x := .int ((r + c) % 3)) (v_2 (o := .bin .Mod) (v_2 (v_var rfl) (v_var rfl) add_int) v_lit (mod_is (by decide))) v_lit eqz) fun _ => v_2 (o := .cmp .NotEq) (v_var rfl) (v_var rfl) nez) (q _ d _ hd)))
end VL

namespace VL
open PySem PySem.Spec PyProof.Rows L2
/-! family A: _law_grid -/
theorem dIn_dicF {o : Bool} {p : Pl} {ks vs : List D} (h : ks.length = vs.length) : dIn false [pD p, .dic o ks vs] = some (.bl (decide (pD p ∈ ks))) := by
  rw [dIn_dic h]
  generalize decide (pD p ∈ ks) = b
  cases b <;> rfl
theorem sw_rvS {P : Prg} {ρ : Rho} {i : Nat} {xs : List D} {Q : Po} (hs : slotOf ρ i = some (.lst true xs)) (z : Q.nx (ρ.set i (some (.lst true xs.reverse)))) : SW P (.rvS i) ρ Q := by
  refine ⟨?_⟩
  simp only [evS, hs]
  exact z
abbrev gA (d : D) (m : Int) (R C : Nat) (k : Int) (gr : D) (x6 x7 x8 x9 : Option D) : Rho := [some d, some (.int m), some (.int R), some (.int C), some (.int k), some gr, x6, x7, x8, x9, none]
theorem xw_dimA {ρ : Rho} {d : D} {m : Int} {Q : D → Rho → Prop} {E : Xn → Rho → Prop} (h0 : slotOf ρ 0 = some d) (hd : Sd d) (m1 : 1 ≤ m) (m2 : m ≤ 12) (hm : ∀ d : D, slotOf (ρ.set 0 (some d)) 1 = some (.int m)) (hm0 : slotOf ρ 1 = some (.int m)) (hs : ∀ d : D, slotOf (ρ.set 0 (some d)) 0 = some d) (hss : ∀ a b : D, (ρ.set 0 (some a)).set 0 (some b) = ρ.set 0 (some b))
    (q : ∀ (n : Nat) d', 1 ≤ n → n ≤ 12 → Sd d' → Q (.int n) (ρ.set 0 (some d'))) : XW pg_law_grid (.node .ix [.node .lst [.node (.bin .Add) [.lit (.int 1), .call "_law_draw" [.var 0, .var 1]], .var 1], .call "_law_draw" [.var 0, .lit (.int 2)]]) ρ Q E := by
  refine xw_op (ow_x (xw_lst (ow_x (xw_add (n := 1) v_lit ?_))))
  refine xw_draw (many := m) fn_law_grid_law_draw h0 hd (v_var hm0) m1 (by omega) fun v d1 v0 v1 hd1 => ⟨v, rfl, ?_⟩
  refine ow_var (hm d1) (ow_nil ⟨[.int (1 + v), .int m], by simp only [getAll, Opd.get, hm d1]; rfl, lent_b (hm d1) rfl rfl, by simp [LIM], ?_⟩)
  refine ow_x ?_
  refine xw_draw (many := 2) fn_law_grid_law_draw (hs d1) hd1 v_lit (by omega) (by omega) fun k d2 k0 k1 hd2 => ?_
  rw [hss]
  obtain ⟨n, n1, n2, en⟩ : ∃ n : Nat, 1 ≤ n ∧ n ≤ 12 ∧ L2.atI [D.int (1 + v), .int m] k = some (.int n) := by
    rcases (show k = 0 ∨ k = 1 by omega) with rfl | rfl
    · exact ⟨(1 + v).toNat, by omega, by omega, by rw [Int.toNat_of_nonneg (by omega)]; rfl⟩
    · exact ⟨m.toNat, by omega, by omega, by rw [Int.toNat_of_nonneg (by omega)]; rfl⟩
  exact ow_nil ⟨_, .int n, rfl, en, rfl, q n d2 n1 n2 hd2⟩
/-- one row drawn -/
theorem row_A {d : D} (hd : Sd d) {m : Int} {R C : Nat} (hC : C ≤ 12) {k : Int} (k0 : 0 ≤ k) {gr : D} {i : Nat} {x7 x8 x9 : Option D} {Q : D → Rho → Prop} {E : Xn → Rho → Prop}
    (q : ∀ (t : List Nat) d', t.length = C → Sgn t → Sd d' → Q (rowD t) (gA d' m R C k gr (some (.int i)) x7 x8 x9)) :
    XW pg_law_grid (.comp [("column", 7)] (.node .ix [.lit (.str [46, 35]), .node .int [.call "_law_sign" [.var 0, .var 4, .var 6, .var 7, .var 3]]]) (.nm 7) .rng [.var 3] []) (gA d m R C k gr (some (.int i)) x7 x8 x9) Q E := by
  refine xw_comp (fun j acc ρ => ∃ (d' : D) (t : List Nat), ρ = gA d' m R C k gr (some (.int i)) none x8 x9 ∧ acc = t.map (fun c => D.str [c]) ∧ t.length = j ∧ Sgn t ∧ Sd d') ?_
  refine ow_var (d := .int C) rfl (ow_nil ⟨[.int C], rngItems 0 C, rfl, lent_b (d := .int C) rfl rfl rfl, src_rng (by omega), by rw [rng_len]; exact lim_le (by omega), rng_imm, ⟨d, [], rfl, rfl, rfl, Sgn.nil, hd⟩, ?_, ?_⟩)
  · rintro j x acc ρ1 hx ⟨d', t, rfl, rfl, e1, e2, e3⟩
    obtain ⟨hj, rfl⟩ := rng_at hx
    refine ⟨gA d' m R C k gr (some (.int i)) (some (.int j)) x8 x9, rfl, xt_nil ?_⟩
    rw [if_pos rfl]
    refine xw_op (ow_v (d := .str [46, 35]) v_lit (ow_x (xw_op (ow_x ?_))))
    refine xw_call1 0 fn_law_grid_law_sign (ow_var (d := d') rfl (ow_var (d := .int k) rfl (ow_var (d := .int i) rfl (ow_var (d := .int j) rfl (ow_var (d := .int C) rfl (ow_nil ⟨[d', .int k, .int i, .int j, .int C], 0, rfl, lent_o (d := d') rfl e3.no (lent_b (d := .int k) rfl rfl (lent_b (d := .int i) rfl rfl (lent_b (d := .int j) rfl rfl (lent_b (d := .int C) rfl rfl rfl)))), posOf_o (d := d') rfl e3.no, ?_⟩))))))
    refine run_signA e3 k0 fun b d'' xs hd'' => ?_
    refine ow_nil ⟨[.bl b], .int (if b then 1 else 0), rfl, rfl, rfl, ?_⟩
    obtain ⟨c, hc, ec⟩ : ∃ c, (c = 46 ∨ c = 35) ∧ dIx [.str [46, 35], .int (if b then 1 else 0)] = some (.str [c]) := by
      cases b with
      | true => exact ⟨35, .inr rfl, rfl⟩
      | false => exact ⟨46, .inl rfl, rfl⟩
    refine ow_nil ⟨[.str [46, 35], .int (if b then 1 else 0)], .str [c], rfl, ec, rfl, d'', t ++ [c], rfl, ?_, ?_, e2.snoc hc, hd''⟩
    · rw [List.map_append]; rfl
    · rw [List.length_append, e1]; rfl
  · rintro ys ρ' ⟨d', t, rfl, rfl, e1, e2, e3⟩
    rw [rng_len] at e1
    exact q t d' e1 e2 e3
/-- one row of a spiral -/
def spF (ks : List D) (i : Int) : D → Option D
  | .int c => some (.str [if decide (pD (i, c) ∈ ks) = true then 46 else 35])
  | _ => none
theorem row_spA {d : D} {m : Int} {R C : Nat} (hC : C ≤ 12) {k : Int} {gr : D} {i : Nat} {ks vs : List D} (hl : ks.length = vs.length) {x7 x9 : Option D} : ∃ t : List Nat, t.length = C ∧ Sgn t ∧
    evP pg_law_grid.G (.comp [("column", 7)] (.node .ix [.lit (.str [35, 46]), .node .int [.node (.cmp .In) [.node .tup [.var 6, .var 7], .var 8]]]) (.nm 7) .rng [.var 3] []) (gA d m R C k gr (some (.int i)) x7 (some (.dic true ks vs)) x9) = some (rowD t) := by
  refine ⟨(List.range C).map fun (c : Nat) => if decide (pD ((i : Int), (c : Int)) ∈ ks) = true then 46 else 35, by simp, fun c hc => ?_, ?_⟩
  · obtain ⟨j, _, rfl⟩ := List.mem_map.mp hc
    split
    · exact .inl rfl
    · exact .inr rfl
  · have e : rowD ((List.range C).map fun (c : Nat) => if decide (pD ((i : Int), (c : Int)) ∈ ks) = true then 46 else 35) = .lst true ((rngItems 0 C).filterMap (spF ks i)) := by
      have : ∀ l : List Nat, (l.map fun (c : Nat) => D.int (0 + (c : Int))).filterMap (spF ks i) = (l.map fun (c : Nat) => if decide (pD ((i : Int), (c : Int)) ∈ ks) = true then 46 else 35).map fun c => D.str [c] := by
        intro l
        induction l with
        | nil => rfl
        | cons a l ih =>
          rw [List.map_cons, List.filterMap_cons, ih, List.map_cons, List.map_cons]
          simp only [spF, Int.zero_add]
      unfold rowD rngItems
      rw [this]
    rw [e]
    refine v_comp2 (spF ks i) (ds := [.int C]) (items := rngItems 0 C) (vs_cons (v_var rfl) vs_nil) (src_rng (by omega)) (by rw [rng_len]; exact lim_le (by omega)) ?_ ?_
    · intro y hy
      obtain ⟨j, hj⟩ := List.getElem?_of_mem hy
      obtain ⟨hc, rfl⟩ := rng_at hj
      refine (stepP_nil (ρ2 := gA d m R C k gr (some (.int i)) (some (.int j)) (some (.dic true ks vs)) x9) rfl).trans ?_
      have hv : evP pg_law_grid.G (.node .ix [.lit (.str [35, 46]), .node .int [.node (.cmp .In) [.node .tup [.var 6, .var 7], .var 8]]]) (gA d m R C k gr (some (.int i)) (some (.int j)) (some (.dic true ks vs)) x9) = some (.str [if decide (pD ((i : Int), (j : Int)) ∈ ks) = true then 46 else 35]) := by
        have h1 : evP pg_law_grid.G (.node (.cmp .In) [.node .tup [.var 6, .var 7], .var 8]) (gA d m R C k gr (some (.int i)) (some (.int j)) (some (.dic true ks vs)) x9) = some (.bl (decide (pD ((i : Int), (j : Int)) ∈ ks))) := v_2 (o := .cmp .In) (x := pD ((i : Int), (j : Int))) (v_2 (o := .tup) (v_var rfl) (v_var rfl) tup2) (v_var rfl) (dIn_dicF (o := true) hl)
        generalize decide (pD ((i : Int), (j : Int)) ∈ ks) = b at h1 ⊢
        refine v_2 (o := .ix) (y := .int (if b then 1 else 0)) v_lit (v_1 h1 rfl) ?_
        cases b <;> rfl
      rw [hv]
      rfl
    · intro y hy z hz
      obtain ⟨j, hj⟩ := List.getElem?_of_mem hy
      obtain ⟨hc, rfl⟩ := rng_at hj
      cases hz
      rfl
theorem Grd.set {R C : Nat} {g : List (List Nat)} (hg : Grd R C g) {i : Nat} {t : List Nat} (hl : t.length = C) (hs : Sgn t) : Grd R C (g.set i t) := ⟨by rw [List.length_set, hg.len], fun u hu => by
  rcases List.mem_or_eq_of_mem_set hu with h | h
  · exact hg.row u h
  · rw [h]; exact ⟨hl, hs⟩⟩
theorem Grd.rev {R C : Nat} {g : List (List Nat)} (hg : Grd R C g) : Grd R C g.reverse := ⟨by rw [List.length_reverse, hg.len], fun u hu => hg.row u (List.mem_reverse.mp hu)⟩
theorem Sgn.set {t : List Nat} (h : Sgn t) {i c : Nat} (hc : c = 46 ∨ c = 35) : Sgn (t.set i c) := fun x hx => by
  rcases List.mem_or_eq_of_mem_set hx with z | z
  · exact h x z
  · rw [z]; exact hc
def joinF : D → Option D
  | .lst _ xs => dJoin [.str [], .lst true xs]
  | _ => none
theorem rows_A {d : D} {m : Int} {R C : Nat} (hR : R ≤ 12) (hC : C ≤ 12) {k : Int} {g : List (List Nat)} (hg : Grd R C g) {x6 x7 x8 x9 : Option D} : evP pg_law_grid.G (.node .tuple [.comp [("line", 10)] (.node .join [.lit (.str []), .var 10]) (.nm 10) .it [.var 5] []]) (gA d m R C k (gridD g) x6 x7 x8 x9) = some (.tup (g.map .str)) := by
  have hj : ∀ t ∈ g, joinF (rowD t) = some (.str t) := fun t ht => join_row (by rw [(hg.row t ht).1]; exact hC)
  have fm : ∀ l : List (List Nat), (∀ t ∈ l, joinF (rowD t) = some (.str t)) → (l.map rowD).filterMap joinF = l.map .str := by
    intro l
    induction l with
    | nil => intro _; rfl
    | cons t l ih =>
      intro h
      rw [List.map_cons, List.filterMap_cons, h t List.mem_cons_self, ih fun z hz => h z (List.mem_cons_of_mem _ hz)]
      rfl
  refine v_1 (o := .tuple) (x := .lst true (g.map .str)) ?_ (by simp [applyOp, dTuple, immL_txts])
  rw [← fm g hj]
  refine v_comp2 joinF (ds := [gridD g]) (items := g.map rowD) (vs_cons (v_var rfl) vs_nil) rfl (by rw [List.length_map, hg.len]; exact lim_le (by omega)) ?_ ?_
  · intro y hy
    obtain ⟨t, ht, rfl⟩ := List.mem_map.mp hy
    refine (stepP_nil (ρ2 := [some d, some (.int m), some (.int R), some (.int C), some (.int k), some (gridD g), x6, x7, x8, x9, some (rowD t)]) rfl).trans ?_
    have := hj t ht
    have hv : evP pg_law_grid.G (.node .join [.lit (.str []), .var 10]) [some d, some (.int m), some (.int R), some (.int C), some (.int k), some (gridD g), x6, x7, x8, x9, some (rowD t)] = some (.str t) := v_2 (o := .join) (y := rowD t) v_lit (v_var rfl) (join_row (by rw [(hg.row t ht).1]; exact hC))
    rw [hv, this]
    rfl
  · intro y hy z hz
    obtain ⟨t, ht, rfl⟩ := List.mem_map.mp hy
    rw [hj t ht] at hz
    cases hz
    rfl
theorem run_gridA {d : D} (hd : Sd d) {m : Int} (m1 : 1 ≤ m) (m2 : m ≤ 12) {Q : D → Rho → Prop} {E : Xn → Rho → Prop} (q : ∀ g R C d' xs, 1 ≤ R → R ≤ 12 → 1 ≤ C → C ≤ 12 → Grd R C g → Sd d' → Q (.tup (g.map .str)) (some d' :: xs)) : (f_law_grid.run pg_law_grid [d, .int m]).wp Q E := by
  refine run_wp rfl ?_
  refine sw_cons (sw_asg ?_)
  refine xw_dimA rfl hd m1 m2 (fun _ => rfl) rfl (fun _ => rfl) (fun _ _ => rfl) fun R d1 r1 r2 hd1 => ⟨lt_b rfl, ?_⟩
  refine sw_cons (sw_asg ?_)
  refine xw_dimA rfl hd1 m1 m2 (fun _ => rfl) rfl (fun _ => rfl) (fun _ _ => rfl) fun C d2 c1 c2 hd2 => ⟨lt_b rfl, ?_⟩
  refine sw_cons (sw_asg ?_)
  refine xw_draw (many := 9) fn_law_grid_law_draw rfl hd2 v_lit (by omega) (by omega) fun k d3 k0 k1 hd3 => ⟨lt_b rfl, ?_⟩
  refine sw_cons (sw_asg (xw_v (d := .lst true []) rfl ⟨lt_b rfl, ?_⟩))
  show SWs _ _ (gA d3 m R C k (gridD []) none none none none) _
  -- rows drawn
  refine sw_cons (sw_for (ow_var (d := .int R) rfl (ow_nil ⟨[.int R], rngItems 0 R, rfl, lent_b (d := .int R) rfl rfl rfl, src_rng (by omega), rng_imm, ?_⟩)))
  refine fw_inv (fun i ρ => ∃ (d' : D) (g : List (List Nat)) (x6 x7 : Option D), ρ = gA d' m R C k (gridD g) x6 x7 none none ∧ Grd i C g ∧ Sd d') 0 ⟨d3, [], _, _, rfl, Grd.nil, hd3⟩ ?_ ?_
  · rintro i x ρ hx ⟨d', g, x6, x7, rfl, e1, e2⟩
    rw [Nat.zero_add] at e1 ⊢
    obtain ⟨hi, rfl⟩ := rng_at hx
    refine ⟨gA d' m R C k (gridD g) (some (.int i)) x7 none none, rfl, ?_⟩
    refine sw_cons (sw_app (xs0 := g.map rowD) rfl ?_)
    refine row_A e2 c2 k0 fun t d'' t1 t2 hd'' => ⟨g.map rowD, rfl, by rw [List.length_map, e1.len]; exact lim_lt (by omega), sw_nil ⟨d'', g ++ [t], some (.int i), x7, ?_, e1.snoc t1 t2, hd''⟩⟩
    unfold gridD
    rw [List.map_append]
    rfl
  rintro ρ ⟨d4, g, x6, x7, rfl, hg, hd4⟩
  rw [Nat.zero_add, rng_len] at hg
  -- behind the spiral
  have fin : ∀ {g : List (List Nat)} {x6 x7 x8 : Option D}, Grd R C g → SWs pg_law_grid (b_law_grid.drop 6) (gA d4 m R C k (gridD g) x6 x7 x8 none) { nx := fun ρ => Q .non (f_law_grid.ends ρ), rt := fun d ρ => Q d (f_law_grid.ends ρ), ex := fun x ρ => E x (f_law_grid.ends ρ) } := by
    intro g x6 x7 x8 hg
    have last : ∀ {g : List (List Nat)} {x6 x7 : Option D}, Grd R C g → SWs pg_law_grid (b_law_grid.drop 7) (gA d4 m R C k (gridD g) x6 x7 x8 none) { nx := fun ρ => Q .non (f_law_grid.ends ρ), rt := fun d ρ => Q d (f_law_grid.ends ρ), ex := fun x ρ => E x (f_law_grid.ends ρ) } := by
      intro g x6 x7 hg
      refine sw_cons (sw_for (ow_x ?_))
      refine xw_draw (many := 3) fn_law_grid_law_draw rfl hd4 v_lit (by omega) (by omega) fun v d5 v0 v1 hd5 => ?_
      obtain ⟨n, rfl⟩ : ∃ n : Nat, v = n := ⟨v.toNat, by omega⟩
      refine ow_nil ⟨[.int n], rngItems 0 n, rfl, rfl, src_rng (by omega), rng_imm, ?_⟩
      refine fw_inv (fun i ρ => ∃ (d' : D) (g : List (List Nat)) (x6 x7 x9 : Option D), ρ = gA d' m R C k (gridD g) x6 x7 x8 x9 ∧ Grd R C g ∧ Sd d') 0 ⟨d5, g, _, _, _, rfl, hg, hd5⟩ ?_ ?_
      · rintro i x ρ hx ⟨d', g, x6, x7, x9, rfl, e1, e2⟩
        obtain ⟨hi, rfl⟩ := rng_at hx
        refine ⟨gA d' m R C k (gridD g) x6 x7 x8 (some (.int i)), rfl, ?_⟩
        refine sw_cons (sw_asg ?_)
        refine xw_draw (many := R) fn_law_grid_law_draw rfl e2 (v_var rfl) (by omega) (by omega) fun a d6 a0 a1 hd6 => ⟨lt_b rfl, ?_⟩
        refine sw_cons (sw_asg ?_)
        refine xw_draw (many := C) fn_law_grid_law_draw rfl hd6 (v_var rfl) (by omega) (by omega) fun b d7 b0 b1 hd7 => ⟨lt_b rfl, ?_⟩
        obtain ⟨r, rfl⟩ : ∃ n : Nat, a = n := ⟨a.toNat, by omega⟩
        obtain ⟨c, rfl⟩ : ∃ n : Nat, b = n := ⟨b.toNat, by omega⟩
        have hr : r < R := by omega
        have hc : c < C := by omega
        show SWs _ _ (gA d7 m R C k (gridD g) (some (.int r)) (some (.int c)) x8 (some (.int i))) _
        obtain ⟨y, hy, _⟩ := sgn_in e1 hr hc
        have v0 : evP pg_law_grid.G (.node .ix [.node .ix [.var 5, .var 6], .var 7]) (gA d7 m R C k (gridD g) (some (.int r)) (some (.int c)) x8 (some (.int i))) = some (.str [y]) := grid_at (v_var rfl) (v_var rfl) (v_var rfl) hy
        obtain ⟨z, hz, ez⟩ : ∃ z, (z = 46 ∨ z = 35) ∧ dIx [.str [35, 46], .int (if (y == 35) then 1 else 0)] = some (.str [z]) := by
          cases (y == 35) with
          | true => exact ⟨46, .inl rfl, rfl⟩
          | false => exact ⟨35, .inr rfl, rfl⟩
        have hrl : r < g.length := by rw [e1.len]; exact hr
        have hrow := e1.row g[r] (List.getElem_mem hrl)
        refine sw_cons (sw_set1 (d := .str [z]) (xs := g.map rowD) (ys := (g[r]).map fun c => D.str [c]) (kk := r) (jj := c) (p := r) (q := c) rfl (v_2 (o := .ix) (y := .int (if (y == 35) then 1 else 0)) v_lit (v_1 (x := .bl (y == 35)) (v_2 v0 v_lit (eqs.trans (by simp))) rfl) ez) (v_var rfl) (v_var rfl) (ixN_nat (by simpa using hrl)) (by rw [List.getElem?_map, List.getElem?_eq_getElem hrl]; rfl) (ixN_nat (by rw [List.length_map, hrow.1]; exact hc)) ?_)
        refine sw_nil ⟨d7, g.set r ((g[r]).set c z), some (.int r), some (.int c), some (.int i), ?_, e1.set (by rw [List.length_set]; exact hrow.1) (hrow.2.set hz), hd7⟩
        unfold gridD
        rw [List.map_set]
        unfold rowD
        rw [List.map_set]
        rfl
      · rintro ρ ⟨d', g, x6, x7, x9, rfl, e1, e2⟩
        exact sw_cons (sw_ret (xw_v (d := .tup (g.map .str)) (rows_A r2 c2 e1) (q g R C d' _ r1 r2 c1 c2 e1 e2) rfl (by simp [D.imm, immL_txts])))
    refine sw_cons (sw_ifb (k := k == 8) (v_2 (v_var rfl) v_lit eqz) (fun _ => ?_) fun _ => sw_nil (last hg))
    refine sw_cons (sw_rvS (xs := g.map rowD) rfl (sw_nil ?_))
    rw [← List.map_reverse]
    exact last hg.rev
  refine sw_cons (sw_ifb (v_2 (o := .cmp .Gt) (v_var rfl) v_lit gt_is) (fun _ => ?_) fun _ => sw_nil (fin hg))
  refine sw_cons (sw_asg (xw_call0 fn_law_grid_law_spiral ?_))
  refine ow_var (d := .int R) rfl (ow_var (d := .int C) rfl (ow_nil ⟨[.int R, .int C], rfl, lent_b (d := .int R) rfl rfl (lent_b (d := .int C) rfl rfl rfl), run_spiralA r1 r2 c1 c2 fun ks vs xs hl => ⟨lt_b rfl, ?_⟩⟩))
  show SWs _ _ (gA d4 m R C k (gridD g) x6 x7 (some (.dic true ks vs)) none) _
  refine sw_cons (sw_for (ow_var (d := .int R) rfl (ow_nil ⟨[.int R], rngItems 0 R, rfl, lent_b (d := .int R) rfl rfl rfl, src_rng (by omega), rng_imm, ?_⟩)))
  refine fw_inv (fun i ρ => ∃ (g : List (List Nat)) (x6 x7 : Option D), ρ = gA d4 m R C k (gridD g) x6 x7 (some (.dic true ks vs)) none ∧ Grd R C g) 0 ⟨g, _, _, rfl, hg⟩ ?_ ?_
  · rintro i x ρ hx ⟨g, x6, x7, rfl, e1⟩
    obtain ⟨hi, rfl⟩ := rng_at hx
    refine ⟨gA d4 m R C k (gridD g) (some (.int i)) x7 (some (.dic true ks vs)) none, rfl, ?_⟩
    obtain ⟨t, t1, t2, vt⟩ := row_spA (d := d4) (m := m) (R := R) (k := k) (gr := gridD g) (i := i) (x7 := x7) (x9 := none) c2 hl
    refine sw_cons (sw_set0 (xw_v (d := rowD t) vt ⟨g.map rowD, i, i, rfl, v_var rfl, ixN_nat (by rw [List.length_map, e1.len]; exact hi), sw_nil ⟨g.set i t, some (.int i), x7, ?_, e1.set t1 t2⟩⟩))
    unfold gridD
    rw [List.map_set]
    rfl
  · rintro ρ ⟨g, x6, x7, rfl, e1⟩
    exact sw_nil (fin e1)
end VL

namespace VL
open PySem PySem.Spec PyProof.Rows L2
/-! plain: ways of headings -/
def adj {α : Type} (l : List α) : List (α × α) := l.zip l.tail
theorem adj_cc {α : Type} (a b : α) (l : List α) : adj (a :: b :: l) = (a, b) :: adj (b :: l) := rfl
theorem adj_map {α β : Type} (f : α → β) (l : List α) : adj (l.map f) = (adj l).map fun x => (f x.1, f x.2) := by
  unfold adj
  rw [← List.map_tail, List.zip_map]
  rfl
theorem pairs_adj (ps : List Pl) : pairs ps = adj ps := rfl
abbrev hop (x : Pl × Pl) : Option Nat := hdOf (stp x.1 x.2)
theorem hstr_eq (ps : List Pl) : hstr ps = (adj ps).map fun x => (hop x).getD 0 := rfl
theorem way_iff {R C : Nat} {g : List (List Nat)} {ps : List Pl} : isWay g R C ps = true ↔ ps ≠ [] ∧ (∀ p ∈ ps, isFree g R C p = true) ∧ ∀ x ∈ adj ps, (hop x).isSome = true := by
  unfold isWay
  rw [Bool.and_eq_true, Bool.and_eq_true, List.all_eq_true, List.all_eq_true, pairs_adj]
  cases ps <;> simp
def expand (rs : List (Nat × Nat)) : List Nat := (rs.map fun r => List.replicate r.2 r.1).flatten
theorem expand_app (a b : List (Nat × Nat)) : expand (a ++ b) = expand a ++ expand b := by simp [expand]
theorem expand_one (c n : Nat) : expand [(c, n)] = List.replicate n c := by simp [expand]
def mv (p : Pl) (h : Nat) : Pl := (p.1 + (hdStep h).1, p.2 + (hdStep h).2)
def path : Pl → List Nat → List Pl
  | p, [] => [p]
  | p, h :: hs => p :: path (mv p h) hs
theorem path_len : ∀ (hs : List Nat) (p : Pl), (path p hs).length = hs.length + 1
  | [], p => rfl
  | h :: hs, p => by rw [path, List.length_cons, path_len hs]; rfl
theorem path_last : ∀ (hs : List Nat) (p : Pl), (path p hs).getLast? = some (hs.foldl mv p)
  | [], p => rfl
  | h :: hs, p => by
    have := path_last hs (mv p h)
    rw [path, List.getLast?_cons, this]
    rfl
theorem path_snoc : ∀ (hs : List Nat) (p : Pl) (h : Nat), path p (hs ++ [h]) = path p hs ++ [mv (hs.foldl mv p) h]
  | [], p, h => rfl
  | a :: hs, p, h => by rw [List.cons_append, path, path_snoc hs]; rfl
theorem path_pre : ∀ (a b : List Nat) (p : Pl), ∃ l, path p (a ++ b) = path p a ++ l
  | [], [], p => ⟨[], rfl⟩
  | [], h :: hs, p => ⟨path (mv p h) hs, rfl⟩
  | c :: a, b, p => by
    obtain ⟨l, e⟩ := path_pre a b (mv p c)
    exact ⟨l, by rw [List.cons_append, path, e]; rfl⟩
theorem hop_mv {p : Pl} {h : Nat} (hh : h ∈ hds) : hop (p, mv p h) = some h := (hd_iff hh).mp rfl
theorem path_hd (p : Pl) (hs : List Nat) : ∃ l, path p hs = p :: l := by cases hs with
  | nil => exact ⟨[], rfl⟩
  | cons h hs => exact ⟨_, rfl⟩
theorem path_adj : ∀ {hs : List Nat} {p : Pl}, (∀ h ∈ hs, h ∈ hds) → (adj (path p hs)).map hop = hs.map some
  | [], p, _ => rfl
  | h :: hs, p, hh => by
    have ih := path_adj (hs := hs) (p := mv p h) fun z hz => hh z (List.mem_cons_of_mem _ hz)
    obtain ⟨l, e⟩ := path_hd (mv p h) hs
    rw [path, List.map_cons, ← ih, e, adj_cc, List.map_cons, hop_mv (hh h List.mem_cons_self)]
theorem path_way {R C : Nat} {g : List (List Nat)} {hs : List Nat} {p : Pl} (hh : ∀ h ∈ hs, h ∈ hds) : isWay g R C (path p hs) = (path p hs).all (isFree g R C) := by
  cases hf : (path p hs).all (isFree g R C) with
  | true =>
    rw [way_iff]
    refine ⟨(fun z => by obtain ⟨l, e⟩ := path_hd p hs; rw [e] at z; cases z), List.all_eq_true.mp hf, fun x hx => ?_⟩
    have := path_adj (p := p) hh
    have hm : hop x ∈ hs.map some := by rw [← this]; exact List.mem_map_of_mem hx
    obtain ⟨k, _, e⟩ := List.mem_map.mp hm
    rw [← e]; rfl
  | false =>
    unfold isWay
    rw [hf]
    simp
theorem path_hstr {hs : List Nat} {p : Pl} (hh : ∀ h ∈ hs, h ∈ hds) : hstr (path p hs) = hs := by
  rw [hstr_eq]
  have : (adj (path p hs)).map (fun x => (hop x).getD 0) = ((adj (path p hs)).map hop).map fun o => o.getD 0 := by rw [List.map_map]; rfl
  rw [this, path_adj hh, List.map_map]
  have e : ((fun o : Option Nat => o.getD 0) ∘ some) = id := rfl
  rw [e, List.map_id]
/-! a way straight on leaves the grid -/
section
variable {R C : Nat} {g : List (List Nat)}
theorem all_app : ∀ (a b : List Nat) (p : Pl), (path p (a ++ b)).all (isFree g R C) = ((path p a).all (isFree g R C) && (path (a.foldl mv p) b).all (isFree g R C))
  | [], b, p => by
    obtain ⟨l, e⟩ := path_hd p b
    show (path p b).all _ = ((path p []).all _ && (path p b).all _)
    rw [e]
    simp only [path, List.all_cons, List.all_nil]
    cases isFree g R C p <;> rfl
  | h :: a, b, p => by
    rw [List.cons_append, path, path, List.all_cons, List.all_cons, all_app a b (mv p h), Bool.and_assoc]
    rfl
theorem fold_rep (h : Nat) : ∀ (n : Nat) (p : Pl), (List.replicate n h).foldl mv p = (p.1 + n * (hdStep h).1, p.2 + n * (hdStep h).2)
  | 0, p => by simp
  | n + 1, p => by
    rw [List.replicate_succ, List.foldl_cons, fold_rep h n]
    simp only [mv, Prod.mk.injEq]
    have e : ∀ z : Int, ((n + 1 : Nat) : Int) * z = z + n * z := fun z => by rw [Int.natCast_add, Int.add_mul]; simp; omega
    rw [e, e]
    omega
theorem free_in {p : Pl} (h : isFree g R C p = true) : 0 ≤ p.1 ∧ p.1 < R ∧ 0 ≤ p.2 ∧ p.2 < C := by
  unfold isFree at h
  simp only [Bool.and_eq_true, decide_eq_true_eq] at h
  exact ⟨h.1.1, h.1.2, h.2.1.1, h.2.1.2⟩
theorem hd_cases {h : Nat} (hh : h ∈ hds) : hdStep h = (0, 1) ∨ hdStep h = (-1, 0) ∨ hdStep h = (1, 0) ∨ hdStep h = (0, -1) := by
  simp only [hds, List.mem_cons, List.not_mem_nil, or_false] at hh
  rcases hh with rfl | rfl | rfl | rfl <;> simp [hdStep]
theorem straight {n h : Nat} {p : Pl} (hR : R ≤ 12) (hC : C ≤ 12) (hh : h ∈ hds) (ha : (path p (List.replicate n h)).all (isFree g R C) = true) : n ≤ 11 := by
  have hp : isFree g R C p = true := by
    obtain ⟨l, e⟩ := path_hd p (List.replicate n h)
    rw [e, List.all_cons, Bool.and_eq_true] at ha
    exact ha.1
  have hq : isFree g R C ((List.replicate n h).foldl mv p) = true := List.all_eq_true.mp ha _ (List.mem_of_getLast? (path_last _ _))
  rw [fold_rep] at hq
  have a := free_in hp
  have b := free_in hq
  rcases hd_cases hh with e | e | e | e <;> rw [e] at b <;> simp at b <;> omega
theorem free_small (hR : R ≤ 12) (hC : C ≤ 12) : ∀ {rs : List (Nat × Nat)} {p : Pl}, (∀ r ∈ rs, r.1 ∈ hds) → (path p (expand rs)).all (isFree g R C) = true → ∀ r ∈ rs, r.2 ≤ 11
  | [], p, _, _ => by simp
  | r :: rs, p, hh, ha => by
    have e : expand (r :: rs) = List.replicate r.2 r.1 ++ expand rs := by simp [expand]
    rw [e, all_app, Bool.and_eq_true] at ha
    intro z hz
    rcases List.mem_cons.mp hz with rfl | hz
    · exact straight hR hC (hh _ List.mem_cons_self) ha.1
    · exact free_small hR hC (fun z hz => hh z (List.mem_cons_of_mem _ hz)) ha.2 z hz
theorem exp_len : ∀ {rs : List (Nat × Nat)} {k : Nat}, (∀ r ∈ rs, r.2 ≤ k) → (expand rs).length ≤ k * rs.length
  | [], k, _ => by simp [expand]
  | r :: rs, k, h => by
    have e : expand (r :: rs) = List.replicate r.2 r.1 ++ expand rs := by simp [expand]
    have ih := exp_len (rs := rs) fun z hz => h z (List.mem_cons_of_mem _ hz)
    have := h r List.mem_cons_self
    rw [e, List.length_append, List.length_replicate, List.length_cons, Nat.mul_add]
    omega
/-- no more than so many steps of each -/
def capR (rs : List (Nat × Nat)) : List (Nat × Nat) := rs.map fun r => (r.1, min r.2 13)
theorem cap_cons (r : Nat × Nat) (rs : List (Nat × Nat)) : capR (r :: rs) = (r.1, min r.2 13) :: capR rs := rfl
theorem cap_free (hR : R ≤ 12) (hC : C ≤ 12) : ∀ {rs : List (Nat × Nat)} {p : Pl}, (∀ r ∈ rs, r.1 ∈ hds) → (path p (expand (capR rs))).all (isFree g R C) = (path p (expand rs)).all (isFree g R C)
  | [], p, _ => rfl
  | r :: rs, p, hh => by
    have e : ∀ (r : Nat × Nat) (rs), expand (r :: rs) = List.replicate r.2 r.1 ++ expand rs := fun r rs => by simp [expand]
    have h1 := hh r List.mem_cons_self
    have ih := fun p => cap_free hR hC (rs := rs) (p := p) fun z hz => hh z (List.mem_cons_of_mem _ hz)
    rw [cap_cons, e, e, all_app, all_app]
    by_cases hr : r.2 ≤ 13
    · rw [show ((r.1, min r.2 13) : Nat × Nat).2 = r.2 from Nat.min_eq_left hr, ih]
    · have n1 : (path p (List.replicate r.2 r.1)).all (isFree g R C) = false := by
        cases z : (path p (List.replicate r.2 r.1)).all (isFree g R C) with
        | false => rfl
        | true => have := straight hR hC h1 z; omega
      have n2 : (path p (List.replicate (min r.2 13) r.1)).all (isFree g R C) = false := by
        cases z : (path p (List.replicate (min r.2 13) r.1)).all (isFree g R C) with
        | false => rfl
        | true => have := straight hR hC h1 z; omega
      rw [n1, Bool.false_and]
      show ((path p (List.replicate (min r.2 13) r.1)).all (isFree g R C) && _) = false
      rw [n2, Bool.false_and]
theorem cap_eq {rs : List (Nat × Nat)} (h : ∀ r ∈ rs, r.2 ≤ 11) : capR rs = rs := by
  unfold capR
  conv => rhs; rw [← List.map_id rs]
  refine List.map_congr_left fun r hr => ?_
  have := h r hr
  show (r.1, min r.2 13) = r
  rw [Nat.min_eq_left (by omega)]
end
end VL

namespace VL
open PySem PySem.Spec PyProof.Rows L2
/-! plain: walks by states (place, last heading), turns and length -/
section
variable {fr : Pl → Bool} {o : Pl}
def tnI (c : List Nat) (h : Nat) : Nat := if c = [] ∨ c = [h] then 0 else 1
inductive Wk (fr : Pl → Bool) (o : Pl) : St → Nat → Nat → Prop
  | start : Wk fr o (o, []) 0 0
  | step {p : Pl} {c : List Nat} {t l h : Nat} : Wk fr o (p, c) t l → h ∈ hds → fr (mv p h) = true → Wk fr o (mv p h, [h]) (t + tnI c h) (l + 1)
theorem tnI_le (c : List Nat) (h : Nat) : tnI c h ≤ 1 := by unfold tnI; split <;> omega
theorem Wk.le {s : St} {t l : Nat} (w : Wk fr o s t l) : t ≤ l := by
  induction w with
  | start => exact Nat.le_refl _
  | @step p c t l h _ _ _ ih => have := tnI_le c h; omega
/-- least by turns, then length -/
def LB (fr : Pl → Bool) (o : Pl) (s : St) (t l : Nat) : Prop := Wk fr o s t l ∧ ∀ t' l', Wk fr o s t' l' → t < t' ∨ (t = t' ∧ l ≤ l')
/-- none with no more turns is shorter -/
def Pm (fr : Pl → Bool) (o : Pl) (s : St) (t l : Nat) : Prop := Wk fr o s t l ∧ ∀ t' l', Wk fr o s t' l' → t' ≤ t → l ≤ l'
theorem LB.pm {s : St} {t l : Nat} (h : LB fr o s t l) : Pm fr o s t l := ⟨h.1, fun t' l' w ht => by rcases h.2 t' l' w with z | ⟨_, z⟩ <;> omega⟩
theorem LB.uniq {s : St} {t l t' l' : Nat} (h : LB fr o s t l) (h' : LB fr o s t' l') : t = t' ∧ l = l' := by
  rcases h.2 _ _ h'.1 with a | ⟨a, b⟩ <;> rcases h'.2 _ _ h.1 with c | ⟨c, d⟩ <;> omega
theorem least_of {p : Nat → Prop} : ∀ n, p n → ∃ m, p m ∧ m ≤ n ∧ ∀ k, p k → m ≤ k := fun n => by
  induction n using Nat.strongRecOn with
  | ind n ih =>
    intro h
    by_cases e : ∃ k, k < n ∧ p k
    · obtain ⟨k, hk, pk⟩ := e
      obtain ⟨m, a, b, c⟩ := ih k hk pk
      exact ⟨m, a, by omega, c⟩
    · exact ⟨n, h, Nat.le_refl _, fun k pk => by
        rcases Nat.lt_or_ge k n with z | z
        · exact absurd ⟨k, z, pk⟩ e
        · exact z⟩
theorem LB.ex {s : St} {t l : Nat} (w : Wk fr o s t l) : ∃ t' l', LB fr o s t' l' ∧ t' ≤ t := by
  obtain ⟨t', ⟨l0, w0⟩, ht, hm⟩ := least_of (p := fun t => ∃ l, Wk fr o s t l) t ⟨l, w⟩
  obtain ⟨l', w', _, hm'⟩ := least_of (p := fun l => Wk fr o s t' l) l0 w0
  refine ⟨t', l', ⟨w', fun t2 l2 w2 => ?_⟩, ht⟩
  have a := hm t2 ⟨l2, w2⟩
  rcases Nat.lt_or_ge t' t2 with z | z
  · exact .inl z
  · have : t' = t2 := by omega
    subst this
    exact .inr ⟨rfl, hm' l2 w2⟩
/-- straight on -/
def adv (s : St) : Nat → St
  | 0 => s
  | k + 1 => (mv (adv s k).1 (s.2.headD 0), s.2)
theorem adv_2 (s : St) (k : Nat) : (adv s k).2 = s.2 := by cases k <;> rfl
theorem adv_add (s : St) (j : Nat) : ∀ k, adv (adv s j) k = adv s (j + k)
  | 0 => rfl
  | k + 1 => by
    show (mv (adv (adv s j) k).1 ((adv s j).2.headD 0), (adv s j).2) = _
    rw [adv_add s j k, adv_2]
    rfl
theorem Wk.adv {p : Pl} {h t l : Nat} (hh : h ∈ hds) (w : Wk fr o (p, [h]) t l) : ∀ k, (∀ j, 1 ≤ j → j ≤ k → fr (adv (p, [h]) j).1 = true) → Wk fr o (VL.adv (p, [h]) k) t (l + k)
  | 0, _ => w
  | k + 1, hf => by
    have ih := w.adv hh k fun j h1 h2 => hf j h1 (by omega)
    have e : VL.adv (p, [h]) k = ((VL.adv (p, [h]) k).1, [h]) := by rw [Prod.ext_iff]; exact ⟨rfl, adv_2 _ _⟩
    rw [e] at ih
    have := Wk.step ih hh (hf (k + 1) (by omega) (Nat.le_refl _))
    rw [show t + tnI [h] h = t by unfold tnI; rw [if_pos (.inr rfl)]; rfl] at this
    exact this
/-- the last straight piece -/
structure Dec (fr : Pl → Bool) (o : Pl) (s : St) (t l : Nat) (e : St) (k m : Nat) : Prop where
  adv_ : s = adv e k
  len : l = m + 1 + k
  free : ∀ j ≤ k, fr (adv e j).1 = true
  src : ∃ p0 c0 h, h ∈ hds ∧ e = (mv p0 h, [h]) ∧ ((c0 = [] ∧ p0 = o ∧ t = 0 ∧ m = 0) ∨ (∃ h0, c0 = [h0] ∧ h0 ≠ h ∧ 1 ≤ t ∧ Wk fr o (p0, [h0]) (t - 1) m))
theorem Wk.st {s : St} {t l : Nat} (w : Wk fr o s t l) : (s = (o, []) ∧ t = 0 ∧ l = 0) ∨ (∃ p h, h ∈ hds ∧ s = (p, [h]) ∧ fr p = true ∧ 1 ≤ l) := by
  cases w with
  | start => exact .inl ⟨rfl, rfl, rfl⟩
  | step _ hh hf => exact .inr ⟨_, _, hh, rfl, hf, by omega⟩
theorem Wk.dec {s : St} {t l : Nat} (w : Wk fr o s t l) (hs : s.2 ≠ []) : ∃ e k m, Dec fr o s t l e k m := by
  induction w with
  | start => exact absurd rfl hs
  | @step p c t l h w hh hf ih =>
    rcases w.st with ⟨e1, e2, e3⟩ | ⟨p', h', hh', e1, hf', hl⟩
    · cases e1
      subst e2 e3
      refine ⟨(mv o h, [h]), 0, 0, rfl, rfl, fun j hj => ?_, o, [], h, hh, rfl, .inl ⟨rfl, rfl, by unfold tnI; rw [if_pos (.inl rfl)], rfl⟩⟩
      have : j = 0 := by omega
      subst this
      exact hf
    · cases e1
      by_cases e : h' = h
      · subst e
        obtain ⟨e, k, m, d⟩ := ih (by simp)
        have et : t + tnI [h'] h' = t := by unfold tnI; rw [if_pos (.inr rfl)]; rfl
        rw [et]
        have e2 : e.2 = [h'] := by
          have := congrArg Prod.snd d.adv_
          rw [adv_2] at this
          exact this.symm
        refine ⟨e, k + 1, m, ?_, by have := d.len; omega, fun j hj => ?_, d.src⟩
        · show _ = (mv (VL.adv e k).1 (e.2.headD 0), e.2)
          rw [← d.adv_, e2]
          rfl
        · rcases Nat.lt_or_ge j (k + 1) with z | z
          · exact d.free j (by omega)
          · have : j = k + 1 := by omega
            subst this
            show fr (mv (VL.adv e k).1 (e.2.headD 0)) = true
            rw [← d.adv_, e2]
            exact hf
      · have et : t + tnI [h'] h = t + 1 := by
          unfold tnI
          rw [if_neg]
          rintro (z | z)
          · cases z
          · injection z with z _
            exact e z
        rw [et]
        refine ⟨(mv p h, [h]), 0, l, rfl, rfl, fun j hj => ?_, p, [h'], h, hh, rfl, .inr ⟨h', rfl, e, by omega, by rw [Nat.add_sub_cancel]; exact w⟩⟩
        have : j = 0 := by omega
        subst this
        exact hf
/-- one more step makes no less -/
theorem Pm.pre {p : Pl} {c : List Nat} {t l h : Nat} (w : Wk fr o (p, c) t l) (hh : h ∈ hds) (hf : fr (mv p h) = true) (q : Pm fr o (mv p h, [h]) (t + tnI c h) (l + 1)) : Pm fr o (p, c) t l := ⟨w, fun t' l' w' ht => by
  have := q.2 _ _ (Wk.step w' hh hf) (by omega)
  omega⟩
theorem Pm.list {s : St} {t l : Nat} (w : Wk fr o s t l) : Pm fr o s t l → ∃ L : List St, L.length = l + 1 ∧ L.Nodup ∧ ∀ x ∈ L, ∃ t' l', Wk fr o x t' l' ∧ t' ≤ t ∧ l' ≤ l := by
  induction w with
  | start => exact fun _ => ⟨[(o, [])], rfl, by simp, fun x hx => by rw [List.mem_singleton.mp hx]; exact ⟨0, 0, .start, Nat.le_refl _, Nat.le_refl _⟩⟩
  | @step p c t l h w hh hf ih =>
    intro q
    obtain ⟨L, h1, h2, h3⟩ := ih (q.pre w hh hf)
    refine ⟨L ++ [(mv p h, [h])], by rw [List.length_append, h1]; rfl, ?_, fun x hx => ?_⟩
    · rw [List.nodup_append]
      refine ⟨h2, by simp, fun a ha b hb e => ?_⟩
      rw [List.mem_singleton] at hb
      subst hb e
      obtain ⟨t', l', w', ht, hl⟩ := h3 _ ha
      have := q.2 t' l' w' (by omega)
      omega
    · rcases List.mem_append.mp hx with z | z
      · obtain ⟨t', l', w', ht, hl⟩ := h3 x z
        exact ⟨t', l', w', by omega, by omega⟩
      · rw [List.mem_singleton.mp z]
        exact ⟨_, _, Wk.step w hh hf, Nat.le_refl _, Nat.le_refl _⟩
end
/-- all states -/
def univ (R C : Nat) (o : Pl) : List St := (o, []) :: ((List.range R).map fun (r : Nat) => ((List.range C).map fun (c : Nat) => hds.map fun h => (((r : Int), (c : Int)), [h])).flatten).flatten
theorem univ_len (R C : Nat) (o : Pl) : (univ R C o).length = 1 + R * (C * 4) := by
  unfold univ
  rw [List.length_cons, List.length_flatten, List.map_map]
  have h2 : ∀ (r : Nat) (l : List Nat), ((l.map fun (c : Nat) => hds.map fun h => ((((r : Int), (c : Int)), [h]) : St)).flatten).length = l.length * 4 := by
    intro r l
    induction l with
    | nil => rfl
    | cons a l ih =>
      rw [List.map_cons, List.flatten_cons, List.length_append, ih, List.length_map, List.length_cons, Nat.add_mul]
      simp [hds]
      omega
  have h3 : ∀ l : List Nat, (l.map (List.length ∘ fun (r : Nat) => ((List.range C).map fun (c : Nat) => hds.map fun h => ((((r : Int), (c : Int)), [h]) : St)).flatten)).sum = l.length * (C * 4) := by
    intro l
    induction l with
    | nil => simp
    | cons a l ih =>
      rw [List.map_cons, List.sum_cons, ih, List.length_cons, Nat.add_mul]
      have := h2 a (List.range C)
      rw [List.length_range] at this
      simp only [Function.comp_apply, this]
      omega
  rw [h3, List.length_range]
  omega
theorem univ_mem {R C : Nat} {o p : Pl} {h : Nat} (h1 : 0 ≤ p.1) (h2 : p.1 < R) (h3 : 0 ≤ p.2) (h4 : p.2 < C) (hh : h ∈ hds) : ((p, [h]) : St) ∈ univ R C o := by
  obtain ⟨a, b⟩ := p
  simp only at h1 h2 h3 h4
  unfold univ
  refine List.mem_cons_of_mem _ ?_
  have ha : a.toNat < R := by omega
  have hb : b.toNat < C := by omega
  rw [List.mem_flatten]
  refine ⟨_, List.mem_map.mpr ⟨a.toNat, List.mem_range.mpr ha, rfl⟩, ?_⟩
  rw [List.mem_flatten]
  refine ⟨_, List.mem_map.mpr ⟨b.toNat, List.mem_range.mpr hb, rfl⟩, List.mem_map.mpr ⟨h, hh, ?_⟩⟩
  rw [Int.toNat_of_nonneg h1, Int.toNat_of_nonneg h3]
theorem wk_univ {g : List (List Nat)} {R C : Nat} {o : Pl} {s : St} {t l : Nat} (w : Wk (isFree g R C) o s t l) : s ∈ univ R C o := by
  rcases w.st with ⟨rfl, _, _⟩ | ⟨p, h, hh, rfl, hf, _⟩
  · exact List.mem_cons_self
  · have := free_in hf
    exact univ_mem this.1 this.2.1 this.2.2.1 this.2.2.2 hh
theorem pm_short {g : List (List Nat)} {R C : Nat} {o : Pl} (hR : R ≤ 12) (hC : C ≤ 12) {s : St} {t l : Nat} (q : Pm (isFree g R C) o s t l) : l ≤ 576 ∧ t ≤ 576 := by
  obtain ⟨L, h1, h2, h3⟩ := Pm.list q.1 q
  have := nodup_le h2 fun x hx => by obtain ⟨t', l', w, _⟩ := h3 x hx; exact wk_univ w
  rw [univ_len] at this
  have hm : R * (C * 4) ≤ 12 * (12 * 4) := Nat.mul_le_mul hR (Nat.mul_le_mul_right _ hC)
  have := q.1.le
  omega
end VL

namespace VL
open PySem PySem.Spec PyProof.Rows L2
/-! family A: free places, beside -/
theorem run_besideA (p : Pl) {h : Nat} (hh : h ∈ hds) {Q : D → Rho → Prop} {E : Xn → Rho → Prop} (q : ∀ xs, Q (pD (mv p h)) xs) : (f_beside.run pg_beside [pD p, .str [h]]).wp Q E := by
  have e1 : dIx [gd_STEPS, .str [h]] = some (pD (hdStep h)) := by
    have e : h = 101 ∨ h = 110 ∨ h = 115 ∨ h = 119 := by simpa [hds] using hh
    rcases e with rfl | rfl | rfl | rfl <;> rfl
  refine run_wp rfl (sw_cons (sw_asgP ?_))
  refine xw_v (d := pD (hdStep h)) (v_2 (v_glob gv_STEPS) (v_var rfl) e1) ⟨_, rfl, sw_cons (sw_ret ?_)⟩
  refine xw_v (d := pD (mv p h)) ?_ (q _)
  exact v_2 (o := .tup) (v_2 (v_2 (v_var rfl) v_lit rfl) (v_var rfl) rfl) (v_2 (v_2 (v_var rfl) v_lit rfl) (v_var rfl) rfl) (by simp [applyOp, dTup, immL, D.imm, LIM, mv])
section
variable {R C : Nat} {g : List (List Nat)}
/-- free places need no refusal -/
theorem run_needA (hg : Grd R C g) (hR : 1 ≤ R) (ps : List Pl) (hf : ∀ p ∈ ps, isFree g R C p = true) {Q : D → Rho → Prop} {E : Xn → Rho → Prop} (q : ∀ xs, Q .non xs) : (f_need_free.run pg_need_free [.tup (g.map .str), .tup (ps.map pD)]).wp Q E := by
  refine run_wp rfl ?_
  refine sw_cons (sw_for ?_)
  refine ow_x (xw_shi (d := .tup (ps.map pD)) rfl (by rw [D.imm]; exact immL_pl ps) (ow_nil ⟨[.tup (ps.map pD)], ps.map pD, rfl, rfl, rfl, immL_pl ps, ?_⟩))
  refine fw_inv (fun i ρ => ∃ x2, ρ = [some (.tup (g.map .str)), some (.tup (ps.map pD)), x2]) 0 ⟨_, rfl⟩ ?_ ?_
  · rintro i x ρ hx ⟨x2, rfl⟩
    obtain ⟨p, hp, rfl⟩ : ∃ p ∈ ps, x = pD p := by
      obtain ⟨p, hp, e⟩ := List.mem_map.mp (List.mem_of_getElem? hx)
      exact ⟨p, hp, e.symm⟩
    refine ⟨_, rfl, sw_cons (sw_if ?_)⟩
    refine xw_not (xw_call0 fn_need_free_is_free ?_)
    refine ow_var (d := .tup (g.map .str)) rfl (ow_var (d := pD p) rfl (ow_nil ⟨[.tup (g.map .str), pD p], rfl, lent_b (d := .tup (g.map .str)) rfl (by rw [D.imm]; exact immL_txts g) (lent_b (d := pD p) rfl rfl rfl), run_free hg hR p fun xs => ?_⟩))
    refine ⟨_, rfl, .inr ⟨?_, sw_nil (sw_nil ⟨_, rfl⟩)⟩⟩
    rw [hf p hp]
    rfl
  · rintro ρ ⟨x2, rfl⟩
    exact sw_nil (q _)
/-- free places of a row -/
def rowE (i : Int) : D → Option D
  | .tup [.int j, .str s] => if s = [46] then some (pD (i, j)) else none
  | _ => none
theorem run_freesA (hg : Grd R C g) (hR : 1 ≤ R) (hR2 : R ≤ 12) (hC2 : C ≤ 12) {Q : D → Rho → Prop} {E : Xn → Rho → Prop} (q : ∀ (l : List Pl) xs, (∀ p ∈ l, isFree g R C p = true) → l.length ≤ 144 → Q (.lst true (l.map pD)) xs) : (f_law_free.run pg_law_free [.tup (g.map .str)]).wp Q E := by
  refine run_wp rfl ?_
  refine sw_cons ?_
  refine sw_asg ?_
  refine xw_v (d := .lst true []) rfl ⟨lt_b rfl, ?_⟩
  refine sw_cons (sw_for ?_)
  refine ow_x (xw_shi (d := .tup (g.map .str)) rfl (by rw [D.imm]; exact immL_txts g) (ow_nil ⟨[.tup (g.map .str)], enumD 0 (g.map .str), rfl, rfl, rfl, enumD_imm (immL_txts g), ?_⟩))
  refine fw_inv (fun i ρ => ∃ (l : List Pl) (x2 x3 x4 x5 : Option D), ρ = [some (.tup (g.map .str)), some (.lst true (l.map pD)), x2, x3, x4, x5] ∧ (∀ p ∈ l, isFree g R C p = true) ∧ l.length ≤ 12 * i) 0 ⟨[], _, _, _, _, rfl, (fun p h => by cases h), by simp⟩ ?_ ?_
  · rintro i x ρ hx ⟨l, x2, x3, x4, x5, rfl, a1, a2⟩
    rw [Nat.zero_add] at a2 ⊢
    obtain ⟨d, hd, rfl⟩ := enum_at hx
    rw [List.getElem?_map, Option.map_eq_some_iff] at hd
    obtain ⟨t, ht, rfl⟩ := hd
    have hi : i < R := by
      have := (List.getElem?_eq_some_iff.mp ht).1
      rw [hg.len] at this
      exact this
    have htl : t.length = C := (hg.row t (List.mem_of_getElem? ht)).1
    refine ⟨_, rfl, sw_cons (sw_ext (xs0 := l.map pD) rfl ?_)⟩
    have im : immL (t.map fun c => D.str [c]) = true := immL_iff.mpr fun d hd => by
      obtain ⟨c, _, rfl⟩ := List.mem_map.mp hd
      rfl
    have key : ∀ y ∈ enumD 0 (t.map fun c => D.str [c]), ∃ (j c : Nat), t[j]? = some c ∧ y = .tup [.int j, .str [c]] := by
      intro y hy
      obtain ⟨j, hj⟩ := List.getElem?_of_mem hy
      obtain ⟨d, hd, rfl⟩ := enum_at hj
      rw [List.getElem?_map, Option.map_eq_some_iff] at hd
      obtain ⟨c, hc, rfl⟩ := hd
      exact ⟨j, c, hc, rfl⟩
    have elen : (enumD 0 (t.map fun c => D.str [c])).length = C := by rw [enumD_len, List.length_map, htl]
    refine xw_v (v_comp2 (rowE i) (ds := [.str t]) (items := enumD 0 (t.map fun c => D.str [c])) (vs_cons (v_var rfl) vs_nil) rfl (by rw [elen]; exact lim_le (by omega)) ?_ ?_) ?_
    · intro y hy
      obtain ⟨j, c, hc, rfl⟩ := key y hy
      refine (stepP_one1 (b := c == 46) (ρ2 := [some (.tup (g.map .str)), some (.lst true (l.map pD)), some (.int i), some (.str t), some (.int j), some (.str [c])]) rfl ?_).trans ?_
      · refine v_2 (v_var rfl) v_lit (eqs.trans ?_)
        simp
      · simp only [rowE]
        by_cases e : c = 46
        · subst e
          rw [if_pos (by rfl), if_pos rfl, v_2 (o := .tup) (d := pD ((i : Int), (j : Int))) (v_var rfl) (v_var rfl) (by simp [applyOp, dTup, immL, D.imm, LIM])]
          rfl
        · rw [if_neg (by simpa using e), if_neg (by simpa using e)]
    · intro y hy z hz
      obtain ⟨j, c, hc, rfl⟩ := key y hy
      simp only [rowE] at hz
      split at hz
      · cases hz; rfl
      · cases hz
    · obtain ⟨l2, e2, h2⟩ := pl_of (f := fun p => isFree g R C p = true) (ys := (enumD 0 (t.map fun c => D.str [c])).filterMap (rowE i)) fun y hy => by
        obtain ⟨x, hx, e⟩ := List.mem_filterMap.mp hy
        obtain ⟨j, c, hc, rfl⟩ := key x hx
        simp only [rowE] at e
        split at e
        · cases e
          rename_i e46
          have e46 : c = 46 := by simpa using e46
          have hj : j < C := by
            have := (List.getElem?_eq_some_iff.mp hc).1
            omega
          refine ⟨_, rfl, ?_⟩
          have hs : sgn g i j = some c := by
            unfold sgn
            rw [ht]
            exact hc
          unfold isFree gsn
          simp [hs, hi, hj, e46]
        · cases e
      have hl2 : l2.length ≤ 12 := by
        have := congrArg List.length e2
        rw [List.length_map] at this
        rw [← this]
        exact Nat.le_trans (List.length_filterMap_le ..) (by rw [elen]; exact hC2)
      refine ⟨l.map pD, l2.map pD, ?_, immL_pl _, rfl, ?_, sw_nil ⟨l ++ l2, some (.int i), some (.str t), x4, x5, ?_, fun p hp => ?_, ?_⟩⟩
      · rw [e2]
      · rw [List.length_map, List.length_map]
        exact lim_le (by omega)
      · rw [List.map_append]; rfl
      · rcases List.mem_append.mp hp with z | z
        · exact a1 p z
        · exact h2 p z
      · rw [List.length_append]; omega
  · rintro ρ ⟨l, x2, x3, x4, x5, rfl, a1, a2⟩
    rw [Nat.zero_add, enumD_len, List.length_map, hg.len] at a2
    exact sw_cons (sw_ret (xw_tk (d := .lst true (l.map pD)) rfl (q l _ a1 (by omega))))
end
end VL

namespace VL
open PySem PySem.Spec PyProof.Rows L2
/-! family A: _law_beside -/
section
variable {P : Prg} {ρ : Rho}
theorem sw_par {i j : Nat} {a b : Ex} {Q : Po} (h : OW P [a, b] ρ (fun os ρ1 => ∃ x y, getAll ρ1 os = some [x, y] ∧ lent ρ1 os = [] ∧ i < ρ1.length ∧ j < ρ1.length ∧ Q.nx ((ρ1.set i (some x)).set j (some y))) Q.ex) : SW P (.par i j a b) ρ Q := by
  refine ⟨?_⟩
  simp only [evS]
  refine at_to (wp_mono h.run (fun os ρ1 z => ?_) fun _ _ z => z)
  obtain ⟨x, y, e, l, h1, h2, z⟩ := z
  rw [e, optS_some, if_pos ⟨l, h1, h2⟩]
  exact z
end
section
variable {R C : Nat} {g : List (List Nat)}
theorem v_freeE {G : Str → Option D} {ρ : Rho} {e a b : Ex} {x y : Int} (hg : Grd R C g) (hR : 1 ≤ R) (he : evP G e ρ = some (.tup (g.map .str))) (ha : evP G a ρ = some (.int x)) (hb : evP G b ρ = some (.int y)) : evP G (.and (.chain .LtE .Lt (.lit (.int 0)) a (.node .len [e])) (.and (.chain .LtE .Lt (.lit (.int 0)) b (.node .len [.node .ix [e, .lit (.int 0)]])) (.node (.cmp .Eq) [.node .ix [.node .ix [e, a], b], .lit (.str [46])]))) ρ = some (.bl (isFree g R C (x, y))) := by
  refine v_and (v_in v_lit ha (v_rows hg he)) fun h1 => v_and (v_in v_lit hb (v_cols hg hR he)) fun h2 => ?_
  simp only [Bool.and_eq_true, decide_eq_true_eq] at h1 h2
  obtain ⟨s, hx, _⟩ := sgn_in hg (r := x.toNat) (c := y.toNat) (by omega) (by omega)
  refine v_2 (x := .str [s]) (v_sign he (r := x.toNat) (c := y.toNat) ?_ ?_ hx) v_lit ?_
  · rw [Int.toNat_of_nonneg h1.1]; exact ha
  · rw [Int.toNat_of_nonneg h2.1]; exact hb
  · show dEq false [.str [s], .str [46]] = _
    rw [eqs]
    simp [gsn, hx]
def nb (g : List (List Nat)) (R C : Nat) (p : Pl) : List Nat := hds.filter fun h => isFree g R C (mv p h)
abbrev hpD (p : Pl) (h : Nat) : D := .tup [.str [h], pD (mv p h)]
abbrev hsD (h : Nat) : D := .tup [.str [h], .int (hdStep h).1, .int (hdStep h).2]
theorem nb_mem {p : Pl} {h : Nat} : h ∈ nb g R C p ↔ h ∈ hds ∧ isFree g R C (mv p h) = true := by unfold nb; rw [List.mem_filter]
theorem imm_hp (p : Pl) (l : List Nat) : immL (l.map (hpD p)) = true := immL_iff.mpr fun d hd => by
  obtain ⟨x, _, rfl⟩ := List.mem_map.mp hd
  rfl
theorem run_besideL (hg : Grd R C g) (hR : 1 ≤ R) (p : Pl) {Q : D → Rho → Prop} {E : Xn → Rho → Prop} (q : ∀ xs, Q (.lst true ((nb g R C p).map (hpD p))) xs) : (f_law_beside.run pg_law_beside [.tup (g.map .str), pD p]).wp Q E := by
  refine run_wp rfl ?_
  refine sw_cons (sw_asgP (xw_tk (d := pD p) rfl ⟨[some (.tup (g.map .str)), some (pD p), some (.int p.1), some (.int p.2), none, none, none, none, none, none], rfl, ?_⟩))
  refine sw_cons (sw_asg (xw_v (d := .lst true []) rfl ⟨lt_b rfl, ?_⟩))
  have hl : ∀ ρ, evP pg_law_beside.G (.node .lst [.node .tup [.lit (.str [101]), .lit (.int 0), .lit (.int 1)], .node .tup [.lit (.str [110]), .node .neg [.lit (.int 1)], .lit (.int 0)], .node .tup [.lit (.str [115]), .lit (.int 1), .lit (.int 0)], .node .tup [.lit (.str [119]), .lit (.int 0), .node .neg [.lit (.int 1)]]]) ρ = some (.lst true (hds.map hsD)) := fun ρ => rfl
  refine sw_cons (sw_for (ow_v (hl _) (ow_nil ⟨_, hds.map hsD, rfl, rfl, rfl, rfl, ?_⟩)))
  refine fw_inv (fun i ρ => ∃ (x5 x6 x7 x8 x9 : Option D), ρ = [some (.tup (g.map .str)), some (pD p), some (.int p.1), some (.int p.2), some (.lst true (((hds.take i).filter fun h => isFree g R C (mv p h)).map (hpD p))), x5, x6, x7, x8, x9]) 0 ⟨_, _, _, _, _, rfl⟩ ?_ ?_
  · rintro i x ρ hx ⟨x5, x6, x7, x8, x9, rfl⟩
    rw [Nat.zero_add]
    rw [List.getElem?_map, Option.map_eq_some_iff] at hx
    obtain ⟨h, hh, rfl⟩ := hx
    rw [take_snoc hh, List.filter_append]
    have hlen : (((hds.take i).filter fun h => isFree g R C (mv p h)).map (hpD p)).length ≤ 4 := by
      rw [List.length_map]
      refine Nat.le_trans (List.length_filter_le ..) ?_
      rw [List.length_take]
      simp [hds]
      omega
    generalize ((hds.take i).filter fun h => isFree g R C (mv p h)) = l at hlen ⊢
    refine ⟨[some (.tup (g.map .str)), some (pD p), some (.int p.1), some (.int p.2), some (.lst true (l.map (hpD p))), some (.str [h]), some (.int (hdStep h).1), some (.int (hdStep h).2), x8, x9], rfl, ?_⟩
    refine sw_cons (sw_par (ow_v (d := .int (mv p h).1) (v_2 (v_var rfl) (v_var rfl) add_int) (ow_v (d := .int (mv p h).2) (v_2 (v_var rfl) (v_var rfl) add_int) (ow_nil ⟨.int (mv p h).1, .int (mv p h).2, rfl, rfl, lt_b rfl, lt_b rfl, ?_⟩))))
    show SWs _ _ [some (.tup (g.map .str)), some (pD p), some (.int p.1), some (.int p.2), some (.lst true (l.map (hpD p))), some (.str [h]), some (.int (hdStep h).1), some (.int (hdStep h).2), some (.int (mv p h).1), some (.int (mv p h).2)] _
    refine sw_cons (sw_ifb (v_freeE (x := (mv p h).1) (y := (mv p h).2) hg hR (v_var rfl) (v_var rfl) (v_var rfl)) (fun k => ?_) fun k => ?_)
    · refine sw_cons (sw_app (xs0 := l.map (hpD p)) rfl (xw_v (d := hpD p h) (v_2 (o := .tup) (v_var rfl) (v_2 (o := .tup) (v_var rfl) (v_var rfl) tup2) (by simp [applyOp, dTup, immL, D.imm, LIM])) ⟨l.map (hpD p), rfl, lim_lt (by omega), ?_⟩))
      refine sw_nil (sw_nil ⟨some (.str [h]), some (.int (hdStep h).1), some (.int (hdStep h).2), some (.int (mv p h).1), some (.int (mv p h).2), ?_⟩)
      rw [List.filter_cons_of_pos (by exact k), List.filter_nil, List.map_append]
      rfl
    · refine sw_nil (sw_nil ⟨some (.str [h]), some (.int (hdStep h).1), some (.int (hdStep h).2), some (.int (mv p h).1), some (.int (mv p h).2), ?_⟩)
      rw [List.filter_cons_of_neg (by rw [show isFree g R C (mv p h) = false from k]; exact Bool.false_ne_true), List.filter_nil, List.append_nil]
  · rintro ρ ⟨x5, x6, x7, x8, x9, rfl⟩
    exact sw_cons (sw_ret (xw_tk (d := .lst true ((nb g R C p).map (hpD p))) rfl (q _)))
end
end VL

namespace VL
open PySem PySem.Spec PyProof.Rows L2
/-! family A: the least of pairs -/
abbrev NN := Nat × Nat
abbrev valP (x : NN) : D := .tup [.int x.1, .int x.2]
def ltp (a b : NN) : Bool := decide (a.1 < b.1 ∨ (a.1 = b.1 ∧ a.2 < b.2))
theorem ltDD_pl (a b : NN) : ltDD (valP a) (valP b) = ltp a b := by
  unfold ltDD ltp
  show PySem.W.dataLt (.tuple [.int a.1, .int a.2]) (.tuple [.int b.1, .int b.2]) = _
  rw [PySem.W.dataLt_ii]
  rw [decide_eq_decide]
  omega
def minTL (x : NN) (xs : List NN) : NN := xs.foldl (fun a y => if ltp y a then y else a) x
theorem minDD_tl : ∀ (xs : List NN) (x : NN), minDD (valP x) (xs.map valP) = valP (minTL x xs)
  | [], x => rfl
  | y :: xs, x => by
    show minDD (if ltDD (valP y) (valP x) then valP y else valP x) (xs.map valP) = valP (minTL (if ltp y x then y else x) xs)
    rw [ltDD_pl, ← minDD_tl xs]
    congr 1
    cases ltp y x <;> rfl
theorem ali_pl (xs : List NN) : alikes (xs.map valP) = true := by
  unfold alikes
  rw [Bool.and_eq_true, List.all_eq_true, List.all_eq_true]
  refine ⟨fun d hd => ?_, fun d hd => ?_⟩
  · obtain ⟨a, _, rfl⟩ := List.mem_map.mp hd
    simp [ordD, ordL, D.depth, depthL]
  · rw [List.all_eq_true]
    intro e he
    obtain ⟨a, _, rfl⟩ := List.mem_map.mp hd
    obtain ⟨b, _, rfl⟩ := List.mem_map.mp he
    simp [toPy, toPys, PySem.W.alike, PySem.W.alikeAll]
def minO : List NN → Option NN
  | [] => none
  | x :: xs => some (minTL x xs)
abbrev pairD : Option NN → D
  | none => .non
  | some x => valP x
theorem min_pl {x : NN} {xs : List NN} (h : xs.length < 1000) {o : Bool} : applyOp .min2 [.lst o ((x :: xs).map valP)] = some (valP (minTL x xs)) := by
  show (if alikes (valP x :: xs.map valP) = true ∧ (xs.map valP).length < LIM then some (minDD (valP x) (xs.map valP)) else none) = _
  rw [if_pos ⟨ali_pl (x :: xs), by rw [List.length_map]; exact lim_lt (by omega)⟩, minDD_tl]
theorem minTL_le : ∀ (xs : List NN) (x : NN), (minTL x xs = x ∨ minTL x xs ∈ xs) ∧ ltp x (minTL x xs) = false ∧ ∀ y ∈ xs, ltp y (minTL x xs) = false
  | [], x => ⟨.inl rfl, by simp [minTL, ltp], fun y h => by cases h⟩
  | y :: xs, x => by
    have ih := minTL_le xs (if ltp y x then y else x)
    show (minTL (if ltp y x then y else x) xs = x ∨ minTL (if ltp y x then y else x) xs ∈ y :: xs) ∧ ltp x (minTL (if ltp y x then y else x) xs) = false ∧ ∀ z ∈ y :: xs, ltp z (minTL (if ltp y x then y else x) xs) = false
    generalize minTL (if ltp y x then y else x) xs = m at ih ⊢
    obtain ⟨h1, h2, h3⟩ := ih
    have tr : ltp x m = false ∧ ltp y m = false := by
      by_cases e : ltp y x = true
      · rw [if_pos e] at h2
        refine ⟨?_, h2⟩
        unfold ltp at *
        simp only [decide_eq_false_iff_not, decide_eq_true_eq] at *
        omega
      · rw [if_neg e] at h2
        refine ⟨h2, ?_⟩
        unfold ltp at *
        simp only [decide_eq_false_iff_not, decide_eq_true_eq] at *
        omega
    refine ⟨?_, tr.1, fun z hz => ?_⟩
    · rcases h1 with h | h
      · by_cases e : ltp y x = true
        · rw [if_pos e] at h
          exact .inr (by rw [h]; exact List.mem_cons_self)
        · rw [if_neg e] at h
          exact .inl h
      · exact .inr (List.mem_cons_of_mem _ h)
    · rcases List.mem_cons.mp hz with rfl | h
      · exact tr.2
      · exact h3 z h
theorem ltp_zero {xs : List NN} {x : NN} (h : (0, 0) ∈ x :: xs) : minTL x xs = (0, 0) := by
  obtain ⟨_, h2, h3⟩ := minTL_le xs x
  generalize minTL x xs = m at *
  have : ltp (0, 0) m = false := by
    rcases List.mem_cons.mp h with z | z
    · rw [z]; exact h2
    · exact h3 _ z
  unfold ltp at this
  simp only [decide_eq_false_iff_not] at this
  obtain ⟨a, b⟩ := m
  simp only at this
  rw [Prod.mk.injEq]
  omega
end VL

namespace VL
open PySem PySem.Spec PyProof.Rows L2
/-! family A: told_from, _law_pair, _law_is_pair -/
theorem v_ite {G : Str → Option D} {ρ : Rho} {t a b : Ex} {k : Bool} {d : D} (h : evP G t ρ = some (.bl k)) (h1 : k = true → evP G a ρ = some d) (h2 : k = false → evP G b ρ = some d) : evP G (.ite t a b) ρ = some d := by
  rw [evP, h]
  cases k with
  | true => exact h1 rfl
  | false => exact h2 rfl
/-- what is known of a place, by these headings -/
def tl (f : St → Option NN) (hs : List (List Nat)) (p : Pl) : List NN := hs.filterMap fun c => f (p, c)
def tlD (f : St → Option NN) (p : Pl) : D → Option D
  | .str c => (f (p, c)).map valP
  | _ => none
theorem tl_map (f : St → Option NN) (p : Pl) : ∀ hs : List (List Nat), (hs.map D.str).filterMap (tlD f p) = (tl f hs p).map valP
  | [] => rfl
  | c :: hs => by
    have ih := tl_map f p hs
    unfold tl at ih ⊢
    rw [List.map_cons, List.filterMap_cons, List.filterMap_cons, ih]
    rw [show tlD f p (.str c) = (f (p, c)).map valP from rfl]
    cases f (p, c) <;> rfl
theorem tl_len (f : St → Option NN) (hs : List (List Nat)) (p : Pl) : (tl f hs p).length ≤ hs.length := List.length_filterMap_le ..
theorem dep_tl (l : List NN) : depthL (l.map valP) ≤ 60 := Nat.le_trans (depth_one fun y hy => by
  obtain ⟨z, _, rfl⟩ := List.mem_map.mp hy
  simp [D.depth, depthL]) (by decide)
theorem tup_key (s : Pl) (c : List Nat) : applyOp .tup [pD s, .str c] = some (keyS (s, c)) := by simp [applyOp, dTup, immL, D.imm, LIM]
section
variable {G : Str → Option D} {ρ : Rho} {ks vs : List D} {f : St → Option NN}
theorem v_tl (m : Mp keyS valP ks vs f) {p : Pl} {hs : List (List Nat)} {a b c : Nat} {x : Str} {e : Ex} {o : Bool} {ds : List D} (he : evPs G [e] ρ = some ds) (hit : srcItems .it ds = some (hs.map D.str)) (hl : hs.length ≤ 10)
    (hb : ∀ t, ∃ ρ2, bindP (.nm c) (.str t) (wipeR ρ [c]) = some ρ2 ∧ slotOf ρ2 a = some (.dic o ks vs) ∧ slotOf ρ2 b = some (pD p) ∧ slotOf ρ2 c = some (.str t)) :
    evP G (.comp [(x, c)] (.node .ix [.var a, .node .tup [.var b, .var c]]) (.nm c) .it [e] [.node (.cmp .In) [.node .tup [.var b, .var c], .var a]]) ρ = some (.lst true ((tl f hs p).map valP)) := by
  rw [← tl_map]
  refine v_comp2 (tlD f p) he hit (by rw [List.length_map]; exact lim_le (by omega)) ?_ ?_
  · intro y hy
    obtain ⟨t, _, rfl⟩ := List.mem_map.mp hy
    obtain ⟨ρ2, e1, h1, h2, h3⟩ := hb t
    have vk : evP G (.node .tup [.var b, .var c]) ρ2 = some (keyS (p, t)) := v_2 (v_var h2) (v_var h3) (tup_key p t)
    refine (stepP_one1 (b := (f (p, t)).isSome) (ρ2 := ρ2) e1 ?_).trans ?_
    · refine v_2 (o := .cmp .In) vk (v_var h1) ((m.in_ (o := o) (neg := false) (s := (p, t)) (keySt _)).trans ?_)
      cases f (p, t) <;> rfl
    · show _ = some (Option.map valP (f (p, t)))
      cases hf : f (p, t) with
      | none => rfl
      | some a' =>
        rw [if_pos (by rfl), v_2 (o := .ix) (v_var h1) vk (m.ix (o := o) (s := (p, t)) (keySt _) hf)]
        rfl
  · intro y hy z hz
    obtain ⟨t, _, rfl⟩ := List.mem_map.mp hy
    simp only [tlD, Option.map_eq_some_iff] at hz
    obtain ⟨w, _, rfl⟩ := hz
    rfl
end
def hdL : List (List Nat) := hds.map fun h => [h]
def toldO (f : St → Option NN) (one p : Pl) : Option NN := if one = p then some (0, 0) else minO (tl f hdL p)
def pairO (f : St → Option NN) (p : Pl) : Option NN := minO (tl f ([] :: hdL) p)
section
variable {ks vs : List D} {f : St → Option NN}
theorem run_told (m : Mp keyS valP ks vs f) {o : Bool} (one p : Pl) {Q : D → Rho → Prop} {E : Xn → Rho → Prop} (q : ∀ xs, Q (pairD (toldO f one p)) xs) : (f_told_from.run pg_told_from [.dic o ks vs, pD one, pD p]).wp Q E := by
  refine run_wp rfl ?_
  unfold toldO at q
  refine sw_cons (sw_ifb (v_2 (o := .cmp .Eq) (v_var rfl) (v_var rfl) eq_pl) (fun k => ?_) fun k => sw_nil ?_)
  · simp only [decide_eq_true_eq] at k
    rw [if_pos k] at q
    exact sw_cons (sw_ret (xw_v (d := valP (0, 0)) rfl (q _)))
  · simp only [decide_eq_false_iff_not] at k
    rw [if_neg k] at q
    refine sw_cons (sw_asg (xw_v (d := .lst true ((tl f hdL p).map valP)) (v_tl m (o := o) (vs_cons (v_glob gv_HEADINGS) vs_nil) rfl (by simp [hdL, hds]) fun t => ⟨_, rfl, rfl, rfl, rfl⟩) ⟨lt_b rfl, ?_⟩))
    have hl : (tl f hdL p).length ≤ 5 := Nat.le_trans (tl_len f hdL p) (by decide)
    generalize tl f hdL p = l at *
    refine sw_cons (sw_ret (xw_v (d := pairD (minO l)) ?_ (q _) rfl (by cases l <;> rfl)))
    refine v_ite (v_2 (o := .cmp .NotEq) (v_var rfl) (d := .bl (!l.isEmpty)) (y := .lst true []) rfl ?_) (fun h => ?_) fun h => ?_
    · refine (ne_nil (dep_tl l)).trans ?_
      cases l <;> rfl
    · cases l with
      | nil => cases h
      | cons x l => exact v_1 (v_var rfl) (min_pl (by rw [List.length_cons] at hl; omega))
    · cases l with
      | nil => exact v_lit
      | cons x l => cases h
theorem run_pair (m : Mp keyS valP ks vs f) {o : Bool} (p : Pl) {Q : D → Rho → Prop} {E : Xn → Rho → Prop} (q : ∀ xs, Q (pairD (pairO f p)) (some (.dic o ks vs) :: xs)) : (f_law_pair.run pg_law_pair [.dic o ks vs, pD p]).wp Q E := by
  refine run_wp rfl ?_
  unfold pairO at q
  refine sw_cons (sw_asg (xw_v (d := .lst true ((tl f ([] :: hdL) p).map valP)) (v_tl m (o := o) (ds := [.lst true (([] :: hdL).map D.str)]) rfl rfl (by simp [hdL, hds]) fun t => ⟨_, rfl, rfl, rfl, rfl⟩) ⟨lt_b rfl, ?_⟩))
  have hl : (tl f ([] :: hdL) p).length ≤ 5 := Nat.le_trans (tl_len f ([] :: hdL) p) (by decide)
  generalize tl f ([] :: hdL) p = l at *
  refine sw_cons (sw_ifb (k := l.isEmpty) (v_2 (o := .cmp .Eq) (v_var rfl) (y := .lst true []) rfl ?_) (fun h => ?_) fun h => sw_nil ?_)
  · refine (eq_nil (dep_tl l)).trans ?_
    cases l <;> rfl
  · cases l with
    | nil => exact sw_cons (sw_ret (xw_v (d := .non) v_lit (q _)))
    | cons x l => cases h
  · cases l with
    | nil => cases h
    | cons x l => exact sw_cons (sw_ret (xw_v (d := valP (minTL x l)) (v_1 (v_var rfl) (min_pl (by rw [List.length_cons] at hl; omega))) (q _)))
end
end VL

namespace VL
open PySem PySem.Spec PyProof.Rows L2
/-! family A: _law_is_pair -/
theorem ne_same {x : NN} : dEq true [valP x, valP x] = some (.bl false) := by simp [dEq, D.depth, depthL, eqD, eqDs]
theorem run_is_pair (x : Option NN) {Q : D → Rho → Prop} {E : Xn → Rho → Prop} (q : ∀ xs, Q (.bl true) xs) : (f_law_is_pair.run pg_law_is_pair [pairD x, pairD x]).wp Q E := by
  refine run_wp rfl ?_
  cases x with
  | none =>
    refine sw_cons (sw_ifb (k := true) rfl (fun _ => ?_) fun h => by cases h)
    exact sw_cons (sw_ret (xw_v (d := .bl true) rfl (q _)))
  | some x =>
    refine sw_cons (sw_ifb (k := false) rfl (fun h => by cases h) fun _ => sw_nil ?_)
    refine sw_cons (sw_ifb (k := false) (v_or (p := false) (q := false) rfl fun _ => ?_) (fun h => by cases h) fun _ => sw_nil ?_)
    · exact v_2 (o := .cmp .NotEq) (v_var rfl) (v_var rfl) ne_same
    refine sw_cons (sw_ret (xw_v (d := .bl true) ?_ (q _)))
    refine v_2 (o := .cmp .Eq) (x := .lst true []) (y := .lst true []) ?_ rfl rfl
    refine (v_comp2 (fun _ => none) (ds := [valP x]) (items := [.int x.1, .int x.2]) (vs_cons (v_var rfl) vs_nil) rfl (by simp [LIM]) ?_ ?_).trans rfl
    · intro y hy
      obtain ⟨n, rfl⟩ : ∃ n : Int, y = .int n := by
        rcases List.mem_cons.mp hy with e | e
        · exact ⟨_, e⟩
        · exact ⟨_, List.mem_singleton.mp e⟩
      refine (stepP_one1 (b := false) (ρ2 := [some (valP x), some (valP x), some (.int n)]) rfl ?_).trans rfl
      exact v_or (p := false) (q := false) rfl fun _ => rfl
    · intro y hy z hz
      cases hz
end VL

namespace VL
open PySem PySem.Spec PyProof.Rows L2
/-! plain: straight on -/
abbrev FN := St → Option Nat
section
variable {ok : St → Bool} {f φ : FN}
/-- a value that is no more, or the one to come -/
def Near (φ : FN) (x : St) (n : Nat) (y : St) (b : Nat) : Prop := (∃ v, φ y = some v ∧ v ≤ b) ∨ (y = x ∧ n ≤ b)
def upd (φ : FN) (x : St) (n : Nat) : FN := fun y => if y = x then some n else φ y
theorem upd_eq {φ : FN} {x : St} {n : Nat} : upd φ x n x = some n := if_pos rfl
theorem upd_ne {φ : FN} {x y : St} {n : Nat} (h : y ≠ x) : upd φ x n y = φ y := if_neg h
theorem Near.st {x : St} {n : Nat} {y : St} {b : Nat} {z : St} {m : Nat} (h : Near φ x n y b) (hb : ∀ w, φ x = some w → n ≤ w) : Near (upd φ x n) z m y b := by
  rcases h with ⟨v, e, hv⟩ | ⟨rfl, hn⟩
  · by_cases q : y = x
    · subst q
      exact .inl ⟨n, upd_eq, Nat.le_trans (hb v e) hv⟩
    · exact .inl ⟨v, by rw [upd_ne q, e], hv⟩
  · exact .inl ⟨n, upd_eq, hn⟩
/-- ahead of a step of a line: the state to come, its length -/
structure Ln (ok : St → Bool) (f : FN) (E : List (Nat × St)) (φ : FN) (x : St) (n : Nat) : Prop where
  src : ∀ y v, φ y = some v → ok y = true ∧ ∃ s l k, f s = some l ∧ y = adv s k ∧ (∀ j < k, ok (adv s j) = true) ∧ v = l + k
  cl : ∀ y v, φ y = some v → ok (adv y 1) = true → Near φ x n (adv y 1) (v + 1)
  dn : ∀ e ∈ E, ok e.2 = true → Near φ x n e.2 e.1
  me : ∃ s l k, f s = some l ∧ x = adv s k ∧ (∀ j < k, ok (adv s j) = true) ∧ n = l + k
/-- between two lines -/
structure Bt (ok : St → Bool) (f : FN) (E : List (Nat × St)) (φ : FN) : Prop where
  src : ∀ y v, φ y = some v → ok y = true ∧ ∃ s l k, f s = some l ∧ y = adv s k ∧ (∀ j < k, ok (adv s j) = true) ∧ v = l + k
  cl : ∀ y v, φ y = some v → ok (adv y 1) = true → ∃ w, φ (adv y 1) = some w ∧ w ≤ v + 1
  dn : ∀ e ∈ E, ok e.2 = true → ∃ w, φ e.2 = some w ∧ w ≤ e.1
theorem Bt.nil : Bt ok f [] (fun _ => none) := ⟨(fun y v h => by cases h), (fun y v h => by cases h), fun e h => by cases h⟩
theorem Bt.go {E : List (Nat × St)} (b : Bt ok f E φ) {s : St} {l : Nat} (h : f s = some l) : Ln ok f (E ++ [(l, s)]) φ s l :=
  ⟨b.src, fun y v h1 h2 => .inl (b.cl y v h1 h2), fun e he ho => by
    rcases List.mem_append.mp he with z | z
    · exact .inl (b.dn e z ho)
    · rw [List.mem_singleton.mp z]
      exact .inr ⟨rfl, Nat.le_refl _⟩, ⟨s, l, 0, h, rfl, (fun j hj => by omega), rfl⟩⟩
theorem Ln.off {E : List (Nat × St)} {x : St} {n : Nat} (q : Ln ok f E φ x n) (h : ok x = false) : Bt ok f E φ := by
  have k : ∀ y b, ok y = true → Near φ x n y b → ∃ w, φ y = some w ∧ w ≤ b := fun y b ho z => by
    rcases z with z | ⟨rfl, _⟩
    · exact z
    · rw [h] at ho; cases ho
  exact ⟨q.src, fun y v h1 h2 => k _ _ h2 (q.cl y v h1 h2), fun e he ho => k _ _ ho (q.dn e he ho)⟩
theorem Ln.brk {E : List (Nat × St)} {x : St} {n w : Nat} (q : Ln ok f E φ x n) (h : φ x = some w) (hw : w ≤ n) : Bt ok f E φ := by
  have k : ∀ y b, Near φ x n y b → ∃ w, φ y = some w ∧ w ≤ b := fun y b z => by
    rcases z with z | ⟨rfl, hb⟩
    · exact z
    · exact ⟨w, h, Nat.le_trans hw hb⟩
  exact ⟨q.src, fun y v h1 h2 => k _ _ (q.cl y v h1 h2), fun e he ho => k _ _ (q.dn e he ho)⟩
theorem Ln.st {E : List (Nat × St)} {x : St} {n : Nat} (q : Ln ok f E φ x n) (ho : ok x = true) (hb : ∀ w, φ x = some w → n < w) : Ln ok f E (upd φ x n) (adv x 1) (n + 1) := by
  have hb' : ∀ w, φ x = some w → n ≤ w := fun w e => Nat.le_of_lt (hb w e)
  obtain ⟨s, l, k, h1, h2, h3, h4⟩ := q.me
  refine ⟨fun y v e => ?_, fun y v e hy => ?_, fun e he hoe => (q.dn e he hoe).st hb', ⟨s, l, k + 1, h1, ?_, fun j hj => ?_, by omega⟩⟩
  · unfold upd at e
    split at e
    · rename_i z
      subst z
      cases e
      exact ⟨ho, s, l, k, h1, h2, h3, h4⟩
    · exact q.src y v e
  · by_cases z : y = x
    · subst z
      have : v = n := by
        unfold upd at e
        rw [if_pos rfl] at e
        cases e
        rfl
      exact .inr ⟨rfl, by omega⟩
    · have e' : φ y = some v := by
        unfold upd at e
        rw [if_neg z] at e
        exact e
      exact (q.cl y v e' hy).st hb'
  · rw [h2, adv_add]
  · rcases Nat.lt_or_ge j k with z | z
    · exact h3 j z
    · have : j = k := by omega
      subst this
      rw [← h2]
      exact ho
/-- what straight on tells -/
structure So (ok : St → Bool) (f φ : FN) : Prop where
  src : ∀ y v, φ y = some v → ∃ s l k, f s = some l ∧ y = adv s k ∧ (∀ j ≤ k, ok (adv s j) = true) ∧ v = l + k
  all : ∀ s l k, f s = some l → (∀ j ≤ k, ok (adv s j) = true) → ∃ w, φ (adv s k) = some w ∧ w ≤ l + k
theorem Bt.so {E : List (Nat × St)} (b : Bt ok f E φ) (hE : ∀ s l, f s = some l → (l, s) ∈ E) : So ok f φ := by
  refine ⟨fun y v e => ?_, fun s l k e hj => ?_⟩
  · obtain ⟨ho, s, l, k, h1, h2, h3, h4⟩ := b.src y v e
    refine ⟨s, l, k, h1, h2, fun j hj => ?_, h4⟩
    rcases Nat.lt_or_ge j k with z | z
    · exact h3 j z
    · have : j = k := by omega
      subst this
      rw [← h2]
      exact ho
  · induction k with
    | zero => exact b.dn _ (hE s l e) (hj 0 (Nat.le_refl _))
    | succ k ih =>
      obtain ⟨w, h1, h2⟩ := ih fun j hk => hj j (by omega)
      obtain ⟨v, h3, h4⟩ := b.cl _ _ h1 (by rw [adv_add]; exact hj (k + 1) (Nat.le_refl _))
      rw [adv_add] at h3
      exact ⟨v, h3, by omega⟩
end
/-- steps left to the border -/
def rem (R C : Nat) (p : Pl) (h : Nat) : Nat := if h = 101 then (C - p.2).toNat else if h = 110 then (p.1 + 1).toNat else if h = 115 then (R - p.1).toNat else (p.2 + 1).toNat
theorem rem_mv {g : List (List Nat)} {R C : Nat} {p : Pl} {h : Nat} (hh : h ∈ hds) (hf : isFree g R C p = true) : rem R C (mv p h) h < rem R C p h := by
  have z := free_in hf
  have e : h = 101 ∨ h = 110 ∨ h = 115 ∨ h = 119 := by simpa [hds] using hh
  obtain ⟨a, b⟩ := p
  simp only at z
  rcases e with rfl | rfl | rfl | rfl <;> simp [rem, mv, hdStep] <;> omega
end VL

namespace VL
open PySem PySem.Spec PyProof.Rows L2
/-! dicts shared; a number added in place -/
theorem sw_aug {P : Prg} {ρ : Rho} {i : Nat} {a b : Int} {e : Ex} {Q : Po} (hs : slotOf ρ i = some (.int a)) (v : evP P.G e ρ = some (.int b)) (z : Q.nx (ρ.set i (some (.int (a + b))))) (hp : pureC e = true := by rfl) : SW P (.aug i .Add e) ρ Q := by
  refine ⟨?_⟩
  have e1 := x_of (P := P) hp v rfl
  simp only [evS, hs, optS_some, e1, to_ok]
  exact z
theorem lkD_get : ∀ {ks vs : List D} {i : Nat} {k : D}, ks.Nodup → ks.length = vs.length → ks[i]? = some k → vs[i]? = lkD ks vs k
  | [], vs, i, k, _, _, h => by simp at h
  | a :: ks, [], i, k, _, h, _ => by simp at h
  | a :: ks, v :: vs, 0, k, _, _, h => by
    simp only [List.getElem?_cons_zero, Option.some.injEq] at h ⊢
    subst h
    exact (if_pos rfl).symm
  | a :: ks, v :: vs, i + 1, k, nd, hl, h => by
    rw [List.nodup_cons] at nd
    simp only [List.getElem?_cons_succ] at h ⊢
    have hne : a ≠ k := fun z => nd.1 (z ▸ List.mem_of_getElem? h)
    show _ = if a = k then some v else lkD ks vs k
    rw [if_neg hne]
    exact lkD_get nd.2 (by simpa using hl) h
section
variable {S A : Type} [DecidableEq S] {key : S → D} {val : A → D} {ks vs : List D} {f : S → Option A}
theorem Mp.immK (m : Mp key val ks vs f) (hk : ∀ s, (key s).imm = true) : immL ks = true := immL_iff.mpr fun d hd => by
  obtain ⟨s, rfl⟩ := m.mem d hd
  exact hk s
theorem Mp.immV (m : Mp key val ks vs f) (hv : ∀ a, (val a).imm = true) : immL vs = true := immL_iff.mpr fun d hd => by
  obtain ⟨i, hi⟩ := List.getElem?_of_mem hd
  have hl : i < ks.length := by rw [m.len]; exact (List.getElem?_eq_some_iff.mp hi).1
  have e := lkD_get m.nd m.len (List.getElem?_eq_getElem hl)
  obtain ⟨s, hs⟩ := m.mem _ (List.getElem_mem hl)
  rw [hi, hs, m.lk] at e
  cases hf : f s with
  | none => rw [hf] at e; cases e
  | some a =>
    rw [hf] at e
    cases e
    exact hv a
theorem Mp.fz (m : Mp key val ks vs f) (hk : ∀ s, (key s).imm = true) (hv : ∀ a, (val a).imm = true) {o : Bool} : (D.dic o ks vs).fz = .dic false ks vs := by
  simp only [D.fz, fzL_of_imm _ (m.immK hk), fzL_of_imm _ (m.immV hv)]
theorem Mp.dimm (m : Mp key val ks vs f) (hk : ∀ s, (key s).imm = true) (hv : ∀ a, (val a).imm = true) : (D.dic false ks vs).imm = true := by
  simp only [D.imm, Bool.not_false, Bool.true_and, m.immK hk, m.immV hv]
end
abbrev valN (n : Nat) : D := .int n
/-- as many keys as there are states, at most -/
theorem Mp.few {A : Type} {val : A → D} {ks vs : List D} {f : St → Option A} {R C : Nat} {o : Pl} (m : Mp keyS val ks vs f) (hR : R ≤ 12) (hC : C ≤ 12) (h : ∀ s a, f s = some a → s ∈ univ R C o) : ks.length ≤ 577 := by
  have hs : ∀ k ∈ ks, k ∈ (univ R C o).map keyS := fun k hk => by
    obtain ⟨i, hi⟩ := List.getElem?_of_mem hk
    obtain ⟨s, a, rfl, hf⟩ := m.at_ hi
    exact List.mem_map.mpr ⟨s, h s a hf, rfl⟩
  have := nodup_le m.nd hs
  rw [List.length_map, univ_len] at this
  have hm : R * (C * 4) ≤ 12 * (12 * 4) := Nat.mul_le_mul hR (Nat.mul_le_mul_right _ hC)
  omega
/-- entries to be put in order -/
abbrev triD (e : Nat × St) : D := .tup [.int e.1, pD e.2.1, .str e.2.2]
theorem triD_inj {a b : Nat × St} (h : triD a = triD b) : a = b := by
  obtain ⟨n, ⟨x, y⟩, s⟩ := a
  obtain ⟨m, ⟨z, w⟩, t⟩ := b
  simp at h
  obtain ⟨h0, ⟨h1, h2⟩, h3⟩ := h
  rw [h1, h2, h3, show n = m by omega]
theorem sort_tri (L : List (Nat × St)) : sortable (L.map triD) = true := by
  unfold sortable
  rw [Bool.and_eq_true, List.all_eq_true, List.all_eq_true]
  refine ⟨fun d hd => ?_, fun d hd => ?_⟩
  · obtain ⟨a, _, rfl⟩ := List.mem_map.mp hd
    simp [ordD, ordL, tup1, D.depth, depthL]
  · rw [List.all_eq_true]
    intro e he
    obtain ⟨a, _, rfl⟩ := List.mem_map.mp hd
    obtain ⟨b, _, rfl⟩ := List.mem_map.mp he
    simp [toPy, toPys, PySem.W.alike, PySem.W.alikeAll]
theorem of_tri {f : Nat × St → Prop} : ∀ {ys : List D}, (∀ y ∈ ys, ∃ p, y = triD p ∧ f p) → ∃ l : List (Nat × St), ys = l.map triD ∧ ∀ p ∈ l, f p
  | [], _ => ⟨[], rfl, fun p h => by cases h⟩
  | y :: ys, h => by
    obtain ⟨p, rfl, hp⟩ := h y List.mem_cons_self
    obtain ⟨l, rfl, hl⟩ := of_tri fun z hz => h z (List.mem_cons_of_mem _ hz)
    exact ⟨p :: l, rfl, fun q hq => (List.mem_cons.mp hq).elim (fun e => e ▸ hp) (hl q)⟩
theorem sorted_tri {L : List (Nat × St)} (h : L.length < 10000) : ∃ L' : List (Nat × St), applyOp .sorted [.lst true (L.map triD)] = some (.lst true (L'.map triD)) ∧ ∀ e, e ∈ L' ↔ e ∈ L := by
  have pm := List.mergeSort_perm (L.map triD) leD
  obtain ⟨L', e, hL⟩ := of_tri (f := fun p => p ∈ L) (ys := (L.map triD).mergeSort leD) fun y hy => by
    obtain ⟨p, hp, rfl⟩ := List.mem_map.mp (pm.mem_iff.mp hy)
    exact ⟨p, rfl, hp⟩
  refine ⟨L', ?_, fun x => ⟨hL x, fun hx => ?_⟩⟩
  · show (if sortable (L.map triD) = true ∧ (L.map triD).length ≤ LIM then some (D.lst true ((L.map triD).mergeSort leD)) else none) = _
    rw [if_pos ⟨sort_tri L, by rw [List.length_map]; exact lim_le (by omega)⟩, e]
  · have : triD x ∈ (L.map triD).mergeSort leD := pm.mem_iff.mpr (List.mem_map.mpr ⟨x, hx, rfl⟩)
    rw [e] at this
    obtain ⟨y, hy, q⟩ := List.mem_map.mp this
    rw [← triD_inj q]
    exact hy
end VL

namespace VL
open PySem PySem.Spec PyProof.Rows L2
/-! family A: straight_on -/
section
variable {R C : Nat} {g : List (List Nat)}
abbrev soS (g : List (List Nat)) (d1 d2 d3 : D) (x4 x5 x6 x7 : Option D) : Rho := [some (.tup (g.map .str)), some d1, some d2, some d3, x4, x5, x6, x7]
def okA (g : List (List Nat)) (R C : Nat) (σ : St → Option NN) (x : St) : Bool := isFree g R C x.1 && (σ x).isNone
/-- one line -/
theorem line_A (hg : Grd R C g) (hR : 1 ≤ R) (hR2 : R ≤ 12) (hC2 : C ≤ 12) {f φ : FN} {σ : St → Option NN} {E' : List (Nat × St)} {d1 : D} {o : Bool} {ks2 vs2 ks vs : List D} (m2 : Mp keyS valP ks2 vs2 σ) (hf : ∀ s l, f s = some l → ∃ h ∈ hds, s.2 = [h])
    (m : Mp keyS valN ks vs φ) {s : St} {l : Nat} (q : Ln (okA g R C σ) f E' φ s l) {x7 : Option D} {Q : Po}
    (fin : ∀ φ' ks' vs' x4 x5 x6, Mp keyS valN ks' vs' φ' → Bt (okA g R C σ) f E' φ' → Q.nx (soS g d1 (.dic o ks2 vs2) (.dic true ks' vs') x4 x5 x6 x7)) :
    SWs pg_straight_on l1_straight_on (soS g d1 (.dic o ks2 vs2) (.dic true ks vs) (some (.int l)) (some (pD s.1)) (some (.str s.2)) x7) Q := by
  obtain ⟨h, hh, es⟩ : ∃ h ∈ hds, s.2 = [h] := by
    obtain ⟨s0, l0, k, h1, rfl, _⟩ := q.me
    rw [adv_2]
    exact hf _ _ h1
  obtain ⟨p, c⟩ := s
  simp only at es
  subst es
  refine sw_cons (sw_whl (fun n ρ => ∃ (φ : FN) (ks vs : List D) (p : Pl) (l : Nat), ρ = soS g d1 (.dic o ks2 vs2) (.dic true ks vs) (some (.int l)) (some (pD p)) (some (.str [h])) x7 ∧ Mp keyS valN ks vs φ ∧ Ln (okA g R C σ) f E' φ (p, [h]) l ∧ n = rem R C p h) (rem R C p h) ⟨φ, ks, vs, p, l, rfl, m, q, rfl⟩ ?_)
  clear q m
  rintro n ρ ⟨φ, ks, vs, p, l, rfl, m, q, rfl⟩
  have vk : evP pg_straight_on.G (.node .tup [.var 5, .var 6]) (soS g d1 (.dic o ks2 vs2) (.dic true ks vs) (some (.int l)) (some (pD p)) (some (.str [h])) x7) = some (keyS (p, [h])) := v_2 (v_var rfl) (v_var rfl) (tup_key p [h])
  refine xw_and (xw_call0 fn_straight_on_is_free ?_)
  refine ow_var (d := .tup (g.map .str)) rfl (ow_var (d := pD p) rfl (ow_nil ⟨[.tup (g.map .str), pD p], rfl, lent_b (d := .tup (g.map .str)) rfl imm_grd (lent_b (d := pD p) rfl rfl rfl), run_free hg hR p fun xs => ?_⟩))
  by_cases hfr : isFree g R C p = true
  · refine .inl ⟨by rw [hfr], ?_⟩
    refine xw_v (d := .bl (!(σ (p, [h])).isSome)) (v_2 (o := .cmp .NotIn) vk (v_var rfl) ((m2.in_ (o := o) (neg := true) (s := (p, [h])) (keySt _)).trans ?_)) ?_
    · cases σ (p, [h]) <;> rfl
    · by_cases hσ : (σ (p, [h])).isSome = true
      · refine .inr ⟨by rw [hσ]; rfl, sw_nil (fin φ ks vs _ _ _ m (q.off ?_))⟩
        unfold okA
        rw [Option.isNone_eq_false_iff.mpr hσ, Bool.and_false]
      · refine .inl ⟨by rw [Bool.not_eq_true] at hσ; rw [hσ]; rfl, ?_⟩
        have hok : okA g R C σ (p, [h]) = true := by
          unfold okA
          rw [hfr]
          rw [Bool.not_eq_true] at hσ
          rw [Option.isNone_iff_eq_none.mpr (Option.isSome_eq_false_iff.mp hσ |> Option.isNone_iff_eq_none.mp)]
          rfl
        have vg : evP pg_straight_on.G (.node .get [.var 3, .node .tup [.var 5, .var 6], .node (.bin .Add) [.var 4, .lit (.int 1)]]) (soS g d1 (.dic o ks2 vs2) (.dic true ks vs) (some (.int l)) (some (pD p)) (some (.str [h])) x7) = some (.int (((φ (p, [h])).getD (l + 1) : Nat) : Int)) := by
          refine v_n (vs_cons (v_var rfl) (vs_cons vk (vs_cons (v_2 (v_var rfl) v_lit add_int) vs_nil))) ?_
          refine (m.get (o := true) (s := (p, [h])) (keySt _)).trans ?_
          cases φ (p, [h]) <;> rfl
        refine sw_cons (sw_ifb (k := decide (((φ (p, [h])).getD (l + 1) : Nat) ≤ l)) (v_2 (o := .cmp .LtE) vg (v_var rfl) (le_is.trans ?_)) (fun k => ?_) fun k => sw_nil ?_)
        · rw [show decide ((((φ (p, [h])).getD (l + 1) : Nat) : Int) ≤ (l : Int)) = decide (((φ (p, [h])).getD (l + 1) : Nat) ≤ l) by rw [decide_eq_decide]; omega]
        · simp only [decide_eq_true_eq] at k
          refine sw_cons (sw_brk (sw_nil (fin φ ks vs _ _ _ m ?_)))
          cases hφ : φ (p, [h]) with
          | none => rw [hφ] at k; simp at k; omega
          | some w => rw [hφ] at k; exact q.brk hφ k
        · simp only [decide_eq_false_iff_not] at k
          have hb : ∀ w, φ (p, [h]) = some w → l < w := fun w e => by rw [e] at k; simp at k; exact k
          have few : ks.length ≤ 577 := m.few (o := (0, 0)) hR2 hC2 fun s a hs => by
            obtain ⟨ho, s0, l0, k0, h1, h2, _⟩ := q.src s a hs
            obtain ⟨h', hh', e'⟩ := hf _ _ h1
            have e2 : s.2 = [h'] := by rw [h2, adv_2, e']
            unfold okA at ho
            rw [Bool.and_eq_true] at ho
            have z := free_in ho.1
            obtain ⟨sp, sc⟩ := s
            simp only at e2 z
            subst e2
            exact univ_mem z.1 z.2.1 z.2.2.1 z.2.2.2 hh'
          refine sw_cons (sw_dst (xw_v (d := valN l) (v_var rfl) ⟨keyS (p, [h]), ks, vs, vk, rfl, keySt _, lim_lt (by omega), ?_⟩))
          have m' := m.st keyS_inj (p, [h]) l
          generalize (stD ks vs (keyS (p, [h])) (valN l)).1 = ks' at m'
          generalize (stD ks vs (keyS (p, [h])) (valN l)).2 = vs' at m'
          show SWs _ _ (soS g d1 (.dic o ks2 vs2) (.dic true ks' vs') (some (.int l)) (some (pD p)) (some (.str [h])) x7) _
          refine sw_cons (sw_asg (xw_call0 fn_straight_on_beside ?_))
          refine ow_var (d := pD p) rfl (ow_var (d := .str [h]) rfl (ow_nil ⟨[pD p, .str [h]], rfl, lent_b (d := pD p) rfl rfl (lent_b (d := .str [h]) rfl rfl rfl), run_besideA p hh fun xs => ⟨lt_b rfl, ?_⟩⟩))
          show SWs _ _ (soS g d1 (.dic o ks2 vs2) (.dic true ks' vs') (some (.int l)) (some (pD (mv p h))) (some (.str [h])) x7) _
          refine sw_cons (sw_aug (a := l) (b := 1) rfl v_lit (sw_nil ⟨rem R C (mv p h) h, rem_mv hh hfr, upd φ (p, [h]) l, ks', vs', mv p h, l + 1, rfl, ?_, ?_, rfl⟩))
          · exact m'
          · exact q.st hok hb
  · refine .inr ⟨by rw [Bool.not_eq_true] at hfr; rw [hfr], .inr ⟨rfl, sw_nil (fin φ ks vs _ _ _ m (q.off ?_))⟩⟩
    unfold okA
    rw [Bool.not_eq_true] at hfr
    rw [hfr, Bool.false_and]
end
end VL

namespace VL
open PySem PySem.Spec PyProof.Rows L2
/-! family A: straight_on, whole -/
section
variable {R C : Nat} {g : List (List Nat)}
theorem run_straight (hg : Grd R C g) (hR : 1 ≤ R) (hR2 : R ≤ 12) (hC2 : C ≤ 12) {f : FN} {σ : St → Option NN} {o : Bool} {ks1 vs1 ks2 vs2 : List D} (m1 : Mp keyS valN ks1 vs1 f) (m2 : Mp keyS valP ks2 vs2 σ) (hf : ∀ s l, f s = some l → ∃ h ∈ hds, s.2 = [h]) (few : ks1.length ≤ 9000)
    {Q : D → Rho → Prop} {E : Xn → Rho → Prop} (q : ∀ φ ks vs, Mp keyS valN ks vs φ → So (okA g R C σ) f φ → Q (.dic true ks vs) [some (.tup (g.map .str)), some (.dic false ks1 vs1), some (.dic o ks2 vs2)]) :
    (f_straight_on.run pg_straight_on [.tup (g.map .str), .dic true ks1 vs1, .dic o ks2 vs2]).wp Q E := by
  refine run_wp rfl ?_
  refine sw_cons (sw_asg (xw_v (d := .dic true [] []) rfl ⟨lt_b rfl, ?_⟩))
  show SWs _ _ (soS g (.dic true ks1 vs1) (.dic o ks2 vs2) (.dic true [] []) none none none none) _
  have kI : ∀ s, (keyS s).imm = true := fun s => rfl
  have vI : ∀ a, (valN a).imm = true := fun a => rfl
  refine sw_cons (sw_for (ow_x (xw_op (ow_x ?_))))
  refine xw_comp (fun i acc ρ => ∃ L : List (Nat × St), acc = L.map triD ∧ ρ = soS g (.dic false ks1 vs1) (.dic o ks2 vs2) (.dic true [] []) none none none none ∧ L.length = i ∧ (∀ e ∈ L, f e.2 = some e.1) ∧ (∀ j < i, ∀ s, ks1[j]? = some (keyS s) → ∃ l, (l, s) ∈ L)) ?_
  refine ow_x (xw_sh (d := .dic true ks1 vs1) rfl (fun _ => ?_) fun z => by cases z)
  rw [m1.fz kI vI]
  refine ow_nil ⟨[.dic false ks1 vs1], ks1, rfl, rfl, rfl, lim_le (by omega), m1.immK kI, ⟨[], rfl, rfl, rfl, (fun e h => by cases h), fun j hj => by omega⟩, ?_, ?_⟩
  · rintro i x acc ρ1 hx ⟨L, rfl, rfl, e1, e2, e3⟩
    obtain ⟨s, l, rfl, hs⟩ := m1.at_ hx
    refine ⟨soS g (.dic false ks1 vs1) (.dic o ks2 vs2) (.dic true [] []) none none none (some (keyS s)), rfl, xt_nil ?_⟩
    rw [if_pos rfl]
    refine xw_v (d := triD (l, s)) (v_n (o := .tup) (vs_cons (v_2 (o := .ix) (v_var rfl) (v_var rfl) (m1.ix (o := false) (keySt s) hs)) (vs_cons (v_2 (o := .ix) (v_var rfl) v_lit rfl) (vs_cons (v_2 (o := .ix) (v_var rfl) v_lit rfl) vs_nil))) (by simp [applyOp, dTup, immL, D.imm, LIM])) ?_
    refine ⟨L ++ [(l, s)], by rw [List.map_append]; rfl, rfl, by rw [List.length_append, e1]; rfl, fun e he => ?_, fun j hj s' hs' => ?_⟩
    · rcases List.mem_append.mp he with z | z
      · exact e2 e z
      · rw [List.mem_singleton.mp z]; exact hs
    · rcases Nat.lt_or_ge j i with z | z
      · obtain ⟨l', h'⟩ := e3 j z s' hs'
        exact ⟨l', List.mem_append_left _ h'⟩
      · have : j = i := by omega
        subst this
        rw [hx] at hs'
        have := keyS_inj _ _ (Option.some.inj hs')
        subst this
        exact ⟨l, List.mem_append_right _ List.mem_cons_self⟩
  rintro ys ρ' ⟨L, rfl, rfl, e1, e2, e3⟩
  obtain ⟨L', eL, hL⟩ := sorted_tri (L := L) (by omega)
  have all : ∀ s l, f s = some l → (l, s) ∈ L' := fun s l hs => by
    have hk : keyS s ∈ ks1 := (m1.key_mem s).mpr (by rw [hs]; rfl)
    obtain ⟨j, hj⟩ := List.getElem?_of_mem hk
    obtain ⟨l', h'⟩ := e3 j (List.getElem?_eq_some_iff.mp hj).1 s hj
    have := e2 _ h'
    simp only at this
    rw [hs] at this
    cases this
    exact (hL _).mpr h'
  refine ow_nil ⟨[.lst true (L.map triD)], .lst true (L'.map triD), rfl, eL, rfl, ?_⟩
  show OW _ _ (soS g (.dic false ks1 vs1) (.dic o ks2 vs2) (.dic true [] []) none none none none) _ _
  refine ow_nil ⟨[.lst true (L'.map triD)], L'.map triD, rfl, rfl, rfl, immL_iff.mpr (fun d hd => ?_), ?_⟩
  · obtain ⟨e, _, rfl⟩ := List.mem_map.mp hd
    rfl
  refine fw_inv (fun i ρ => ∃ φ ks vs x4 x5 x6 x7, ρ = soS g (.dic false ks1 vs1) (.dic o ks2 vs2) (.dic true ks vs) x4 x5 x6 x7 ∧ Mp keyS valN ks vs φ ∧ Bt (okA g R C σ) f (L'.take i) φ) 0 ⟨_, _, _, _, _, _, _, rfl, Mp.empty, Bt.nil⟩ ?_ ?_
  · rintro i x ρ hx ⟨φ, ks, vs, x4, x5, x6, x7, rfl, m, b⟩
    rw [Nat.zero_add] at b ⊢
    rw [List.getElem?_map, Option.map_eq_some_iff] at hx
    obtain ⟨e, he, rfl⟩ := hx
    have hfe : f e.2 = some e.1 := e2 e ((hL e).mp (List.mem_of_getElem? he))
    refine ⟨soS g (.dic false ks1 vs1) (.dic o ks2 vs2) (.dic true ks vs) (some (.int e.1)) (some (pD e.2.1)) (some (.str e.2.2)) x7, rfl, ?_⟩
    refine line_A hg hR hR2 hC2 m2 hf m (b.go hfe) fun φ' ks' vs' x4' x5' x6' m' b' => ⟨φ', ks', vs', x4', x5', x6', x7, rfl, m', ?_⟩
    rw [take_snoc he]
    exact b'
  · rintro ρ ⟨φ, ks, vs, x4, x5, x6, x7, rfl, m, b⟩
    rw [Nat.zero_add, List.length_map, List.take_length] at b
    exact sw_cons (sw_ret (xw_tk (d := .dic true ks vs) rfl (q φ ks vs m (b.so all))))
end
end VL

namespace VL
open PySem PySem.Spec PyProof.Rows L2
/-! plain: the search, turn by turn -/
section
variable {fr : Pl → Bool} {o : Pl}
/-- first of a straight piece with T turns, l steps -/
def Sr (fr : Pl → Bool) (o : Pl) (T : Nat) (s : St) (l : Nat) : Prop := ∃ p0 h m, h ∈ hds ∧ s = (mv p0 h, [h]) ∧ l = m + 1 ∧ ((p0 = o ∧ T = 0 ∧ m = 0) ∨ (∃ h0, h0 ∈ hds ∧ h0 ≠ h ∧ 1 ≤ T ∧ Wk fr o (p0, [h0]) (T - 1) m))
theorem Sr.wk {T l : Nat} {s : St} (q : Sr fr o T s l) (hf : fr s.1 = true) : Wk fr o s T l := by
  obtain ⟨p0, h, m, hh, rfl, rfl, ⟨rfl, rfl, rfl⟩ | ⟨h0, h1, h2, h3, w⟩⟩ := q
  · have := Wk.step (h := h) (Wk.start (fr := fr) (o := p0)) hh hf
    rwa [show tnI [] h = 0 by unfold tnI; rw [if_pos (.inl rfl)]] at this
  · have := Wk.step (h := h) w hh hf
    rwa [show tnI [h0] h = 1 by unfold tnI; rw [if_neg]; rintro (z | z); cases z; injection z with z _; exact h2 z, show T - 1 + 1 = T by omega] at this
theorem Wk.on {s : St} {t l : Nat} (w : Wk fr o s t l) (hs : s.2 ≠ []) (k : Nat) (hf : ∀ j, 1 ≤ j → j ≤ k → fr (VL.adv s j).1 = true) : Wk fr o (VL.adv s k) t (l + k) := by
  rcases w.st with ⟨rfl, _, _⟩ | ⟨p, h, hh, rfl, _, _⟩
  · exact absurd rfl hs
  · exact w.adv hh k hf
/-- ahead of the turn T -/
structure Tn (fr : Pl → Bool) (o : Pl) (T : Nat) (σ : St → Option NN) (f : FN) : Prop where
  set : ∀ s t l, σ s = some (t, l) ↔ s.2 ≠ [] ∧ LB fr o s t l ∧ t < T
  src : ∀ s l, f s = some l → Sr fr o T s l
  all0 : T = 0 → ∀ h ∈ hds, f (mv o h, [h]) = some 1
  all1 : ∀ p h0 h m, 1 ≤ T → LB fr o (p, [h0]) (T - 1) m → h ∈ hds → h0 ≠ h → σ (mv p h, [h]) = none → ∃ w, f (mv p h, [h]) = some w ∧ w ≤ m + 1
theorem Tn.comp {T : Nat} {σ : St → Option NN} {f φ : FN} (q : Tn fr o T σ f) (so : So (fun x => fr x.1 && (σ x).isNone) f φ) {s : St} {l : Nat} (hs : s.2 ≠ []) (b : LB fr o s T l) : ∃ w, φ s = some w ∧ w ≤ l := by
  obtain ⟨e, k, m, d⟩ := b.1.dec hs
  have e2 : e.2 ≠ [] := by
    have := congrArg Prod.snd d.adv_
    rw [adv_2] at this
    rw [← this]; exact hs
  -- none of the line is settled
  have un : ∀ j ≤ k, σ (adv e j) = none := fun j hj => by
    cases hσ : σ (adv e j) with
    | none => rfl
    | some x =>
      obtain ⟨t', l'⟩ := x
      obtain ⟨h1, h2, h3⟩ := (q.set _ _ _).mp hσ
      have w := h2.1.on h1 (k - j) fun i hi1 hi2 => by
        rw [adv_add]
        exact d.free _ (by omega)
      rw [adv_add, show j + (k - j) = k by omega, ← d.adv_] at w
      have := b.2 _ _ w
      omega
  have ok : ∀ j ≤ k, (fr (adv e j).1 && (σ (adv e j)).isNone) = true := fun j hj => by rw [un j hj, d.free j hj]; rfl
  have fe : ∃ w, f e = some w ∧ w ≤ m + 1 := by
    obtain ⟨p0, c0, h, hh, rfl, ⟨rfl, rfl, rfl, rfl⟩ | ⟨h0, rfl, hne, hT, w⟩⟩ := d.src
    · exact ⟨1, q.all0 rfl h hh, Nat.le_refl _⟩
    · obtain ⟨t0, m0, b0, ht0⟩ := LB.ex w
      have := b0.2 _ _ w
      rcases Nat.lt_or_ge t0 (T - 1) with z | z
      · -- fewer turns
        have w1 := Wk.step (h := h) b0.1 hh (d.free 0 (by omega))
        have w2 := w1.on (by simp) k fun i hi1 hi2 => d.free i hi2
        rw [← d.adv_] at w2
        have := b.2 _ _ w2
        have := tnI_le [h0] h
        omega
      · have : t0 = T - 1 := by omega
        subst this
        obtain ⟨w', h1, h2⟩ := q.all1 p0 h0 h m0 hT b0 hh hne (un 0 (by omega))
        exact ⟨w', h1, by omega⟩
  obtain ⟨w, hw, hl⟩ := fe
  obtain ⟨v, hv, hl2⟩ := so.all e w k hw ok
  refine ⟨v, by rw [d.adv_]; exact hv, ?_⟩
  have := d.len
  omega
theorem Tn.here {T : Nat} {σ : St → Option NN} {f φ : FN} (q : Tn fr o T σ f) (so : So (fun x => fr x.1 && (σ x).isNone) f φ) (s : St) (l : Nat) : φ s = some l ↔ s.2 ≠ [] ∧ LB fr o s T l := by
  constructor
  · intro h
    obtain ⟨e, l0, k, h1, h2, h3, h4⟩ := so.src s l h
    have sr := q.src e l0 h1
    have e2 : e.2 ≠ [] := by
      obtain ⟨p0, h', m, _, rfl, _⟩ := sr
      simp
    have hs : s.2 ≠ [] := by rw [h2, adv_2]; exact e2
    have fre : ∀ j ≤ k, fr (adv e j).1 = true ∧ σ (adv e j) = none := fun j hj => by
      have := h3 j hj
      simp only [Bool.and_eq_true, Option.isNone_iff_eq_none] at this
      exact this
    have w := (sr.wk (fre 0 (by omega)).1).on e2 k fun j _ hj => (fre j hj).1
    rw [← h2, ← h4] at w
    obtain ⟨t', l', b, ht⟩ := LB.ex w
    have hT : t' = T := by
      rcases Nat.lt_or_ge t' T with z | z
      · have := (q.set s t' l').mpr ⟨hs, b, z⟩
        rw [h2, (fre k (Nat.le_refl _)).2] at this
        cases this
      · omega
    subst hT
    obtain ⟨v, hv, hl⟩ := q.comp so hs b
    rw [h] at hv
    cases hv
    have := b.2 _ _ w
    have : l = l' := by omega
    subst this
    exact ⟨hs, b⟩
  · rintro ⟨hs, b⟩
    obtain ⟨v, hv, hl⟩ := q.comp so hs b
    -- the value is a walk's length
    obtain ⟨e, l0, k, h1, h2, h3, h4⟩ := so.src s v hv
    have sr := q.src e l0 h1
    have e2 : e.2 ≠ [] := by
      obtain ⟨p0, h', m, _, rfl, _⟩ := sr
      simp
    have fre : ∀ j ≤ k, fr (adv e j).1 = true := fun j hj => by
      have := h3 j hj
      simp only [Bool.and_eq_true] at this
      exact this.1
    have w := (sr.wk (fre 0 (by omega))).on e2 k fun j _ hj => fre j hj
    rw [← h2, ← h4] at w
    have := b.2 _ _ w
    have : v = l := by omega
    rw [hv, this]
/-- what is settled, with this turn's -/
def sett (σ : St → Option NN) (T : Nat) (φ : FN) : St → Option NN := fun s => match φ s with
  | some l => some (T, l)
  | none => σ s
/-- the states of the next turn -/
structure Nx (φ : FN) (σ' : St → Option NN) (f' : FN) : Prop where
  src : ∀ s v, f' s = some v → ∃ p h0 h l, φ (p, [h0]) = some l ∧ h ∈ hds ∧ h0 ≠ h ∧ s = (mv p h, [h]) ∧ v = l + 1
  all : ∀ p h0 h l, φ (p, [h0]) = some l → h ∈ hds → h0 ≠ h → σ' (mv p h, [h]) = none → ∃ w, f' (mv p h, [h]) = some w ∧ w ≤ l + 1
theorem Tn.next {T : Nat} {σ : St → Option NN} {f φ f' : FN} (q : Tn fr o T σ f) (so : So (fun x => fr x.1 && (σ x).isNone) f φ) (nx : Nx φ (sett σ T φ) f') : Tn fr o (T + 1) (sett σ T φ) f' := by
  have hr := q.here so
  refine ⟨fun s t l => ?_, fun s v h => ?_, fun h => by omega, fun p h0 h m h1 b hh hne hσ => ?_⟩
  · unfold sett
    cases hφ : φ s with
    | none =>
      show σ s = _ ↔ _
      rw [q.set]
      constructor
      · rintro ⟨h1, h2, h3⟩; exact ⟨h1, h2, by omega⟩
      · rintro ⟨h1, h2, h3⟩
        refine ⟨h1, h2, ?_⟩
        rcases Nat.lt_or_ge t T with z | z
        · exact z
        · have : t = T := by omega
          subst this
          have := (hr s l).mpr ⟨h1, h2⟩
          rw [hφ] at this
          cases this
    | some l' =>
      show some (T, l') = some (t, l) ↔ _
      have b := (hr s l').mp hφ
      constructor
      · intro e
        cases e
        exact ⟨b.1, b.2, by omega⟩
      · rintro ⟨h1, h2, h3⟩
        obtain ⟨rfl, rfl⟩ := h2.uniq b.2
        rfl
  · obtain ⟨p, h0, h', l, h1, h2, h3, h4, h5⟩ := nx.src s v h
    have b := (hr _ _).mp h1
    refine ⟨p, h', l, h2, h4, h5, .inr ⟨h0, ?_, h3, by omega, b.2.1⟩⟩
    rcases b.2.1.st with ⟨z, _⟩ | ⟨p', h'', hh, z, _⟩
    · cases z
    · cases z; exact hh
  · exact nx.all p h0 h m ((hr _ _).mpr ⟨by simp, by simpa using b⟩) hh hne hσ
/-- none left: all are settled -/
theorem Tn.end_ {T : Nat} {σ : St → Option NN} {f : FN} (q : Tn fr o T σ f) (he : ∀ s, f s = none) (s : St) (t l : Nat) : σ s = some (t, l) ↔ s.2 ≠ [] ∧ LB fr o s t l := by
  have so : So (fun x => fr x.1 && (σ x).isNone) f (fun _ => none) := ⟨(fun y v h => by cases h), fun s l k h => by rw [he] at h; cases h⟩
  have no : ∀ d (s : St) l, s.2 ≠ [] → ¬ LB fr o s (T + d) l := by
    intro d
    induction d with
    | zero =>
      intro s l hs b
      obtain ⟨w, h, _⟩ := q.comp so hs b
      cases h
    | succ d ih =>
      intro s l hs b
      obtain ⟨e, k, m, dd⟩ := b.1.dec hs
      obtain ⟨p0, c0, h, hh, rfl, ⟨_, _, h0, _⟩ | ⟨h0, rfl, hne, hT, w⟩⟩ := dd.src
      · omega
      · obtain ⟨t0, m0, b0, ht0⟩ := LB.ex w
        rcases Nat.lt_or_ge t0 (T + (d + 1) - 1) with z | z
        · have w1 := Wk.step (h := h) b0.1 hh (dd.free 0 (by omega))
          have w2 := w1.on (by simp) k fun i hi1 hi2 => dd.free i hi2
          rw [← dd.adv_] at w2
          have := b.2 _ _ w2
          have := tnI_le [h0] h
          omega
        · have : t0 = T + d := by omega
          subst this
          exact ih _ _ (by simp) b0
  rw [q.set]
  constructor
  · rintro ⟨h1, h2, _⟩; exact ⟨h1, h2⟩
  · rintro ⟨h1, h2⟩
    refine ⟨h1, h2, ?_⟩
    rcases Nat.lt_or_ge t T with z | z
    · exact z
    · exact absurd (show LB fr o s (T + (t - T)) l by rw [show T + (t - T) = t by omega]; exact h2) (no (t - T) s l h1)
end
end VL

namespace VL
open PySem PySem.Spec PyProof.Rows L2
/-! family A: search, its loops -/
theorem nodup_at {α : Type} {xs : List α} {i : Nat} {x : α} (nd : xs.Nodup) (h : xs[i]? = some x) : x ∉ xs.take i := by
  have e := take_snoc h
  have n : (xs.take (i + 1)).Nodup := nd.sublist (List.take_sublist _ _)
  rw [e, List.nodup_append] at n
  exact fun z => n.2.2 x z x List.mem_cons_self rfl
section
variable {R C : Nat} {g : List (List Nat)} {o : Pl}
abbrev seS (g : List (List Nat)) (o : Pl) (d2 : D) (x3 : Option D) (d4 : D) (T : Nat) (d6 : D) (x7 x8 x9 x10 : Option D) : Rho := [some (.tup (g.map .str)), some (pD o), some d2, x3, some d4, some (.int T), some d6, x7, x8, x9, x10]
theorem settle_A {φ : FN} {σ : St → Option NN} {T : Nat} {k6 v6 ks vs : List D} (m6 : Mp keyS valN k6 v6 φ) (m4 : Mp keyS valP ks vs σ) (dj : ∀ s l, φ s = some l → σ s = none) (few : ks.length + k6.length ≤ 9000) {d2 : D} {x3 x7 x8 x9 x10 : Option D} {Q : Po}
    (fin : ∀ ks' vs' x7', Mp keyS valP ks' vs' (sett σ T φ) → ks'.length = ks.length + k6.length → Q.nx (seS g o d2 x3 (.dic true ks' vs') T (.dic false k6 v6) x7' x8 x9 x10)) :
    SW pg_search (.forS (.nm 7) .it [.sh 6] l2_search) (seS g o d2 x3 (.dic true ks vs) T (.dic true k6 v6) x7 x8 x9 x10) Q := by
  have kI : ∀ s, (keyS s).imm = true := fun s => rfl
  have vI : ∀ a, (valN a).imm = true := fun a => rfl
  refine sw_for (ow_x (xw_sh (d := .dic true k6 v6) rfl (fun _ => ?_) fun z => by cases z))
  rw [m6.fz kI vI]
  show OW _ _ (seS g o d2 x3 (.dic true ks vs) T (.dic false k6 v6) x7 x8 x9 x10) _ _
  refine ow_nil ⟨[.dic false k6 v6], k6, rfl, rfl, rfl, m6.immK kI, ?_⟩
  refine fw_inv (fun i ρ => ∃ ks' vs' σi x7, ρ = seS g o d2 x3 (.dic true ks' vs') T (.dic false k6 v6) x7 x8 x9 x10 ∧ Mp keyS valP ks' vs' σi ∧ ks'.length = ks.length + i ∧ ∀ s, (keyS s ∈ k6.take i → σi s = (φ s).map fun l => (T, l)) ∧ (keyS s ∉ k6.take i → σi s = σ s)) 0 ⟨ks, vs, σ, _, rfl, m4, rfl, fun s => ⟨(fun h => by simp at h), fun _ => rfl⟩⟩ ?_ ?_
  · rintro i x ρ hx ⟨ks', vs', σi, x7, rfl, m, hl, hs⟩
    rw [Nat.zero_add] at hl hs ⊢
    obtain ⟨s, l, rfl, hφ⟩ := m6.at_ hx
    have hi : i < k6.length := (List.getElem?_eq_some_iff.mp hx).1
    have nin : keyS s ∉ k6.take i := nodup_at m6.nd hx
    have hn : σi s = none := by rw [(hs s).2 nin]; exact dj s l hφ
    refine ⟨seS g o d2 x3 (.dic true ks' vs') T (.dic false k6 v6) (some (keyS s)) x8 x9 x10, rfl, ?_⟩
    refine sw_cons (sw_dst (xw_v (d := valP (T, l)) (v_2 (o := .tup) (v_var rfl) (v_2 (o := .ix) (v_var rfl) (v_var rfl) (m6.ix (o := false) (keySt s) hφ)) tup2) ⟨keyS s, ks', vs', v_var rfl, rfl, keySt s, lim_le (n := ks'.length + 1) (by omega), ?_⟩))
    have m' := m.st keyS_inj s (T, l)
    have hk := stD_keys (k := keyS s) (d := valP (T, l)) m.len
    rw [if_neg (fun z => by have := (m.key_mem s).mp z; rw [hn] at this; cases this)] at hk
    refine sw_nil ⟨_, _, _, some (keyS s), rfl, m', ?_, fun s' => ⟨fun h => ?_, fun h => ?_⟩⟩
    · rw [hk, List.length_append, hl]; rfl
    · rw [take_snoc hx] at h
      by_cases e : s' = s
      · subst e
        rw [if_pos rfl, hφ]
        rfl
      · rw [if_neg e]
        refine (hs s').1 ?_
        rcases List.mem_append.mp h with z | z
        · exact z
        · exact absurd (keyS_inj _ _ (List.mem_singleton.mp z)) e
    · rw [take_snoc hx] at h
      by_cases e : s' = s
      · subst e
        exact absurd (List.mem_append_right _ List.mem_cons_self) h
      · rw [if_neg e]
        exact (hs s').2 fun z => h (List.mem_append_left _ z)
  · rintro ρ ⟨ks', vs', σi, x7, rfl, m, hl, hs⟩
    rw [Nat.zero_add] at hl hs
    rw [List.take_length] at hs
    have e : σi = sett σ T φ := by
      funext s
      unfold sett
      cases hφ : φ s with
      | none =>
        refine (hs s).2 fun z => ?_
        have := (m6.key_mem s).mp z
        rw [hφ] at this
        cases this
      | some l =>
        have := (hs s).1 ((m6.key_mem s).mpr (by rw [hφ]; rfl))
        rw [hφ] at this
        exact this
    rw [e] at m
    exact fin ks' vs' x7 m hl
end
/-- the states of the next turn, so far -/
structure NxP (D : Pl → Nat → Nat → Prop) (φ : FN) (σ' : St → Option NN) (f' : FN) : Prop where
  src : ∀ s v, f' s = some v → ∃ p h0 h l, φ (p, [h0]) = some l ∧ h ∈ hds ∧ h0 ≠ h ∧ s = (mv p h, [h]) ∧ v = l + 1
  all : ∀ p h0 h l, D p h0 h → φ (p, [h0]) = some l → h ∈ hds → h0 ≠ h → σ' (mv p h, [h]) = none → ∃ w, f' (mv p h, [h]) = some w ∧ w ≤ l + 1
theorem NxP.skip {D : Pl → Nat → Nat → Prop} {φ f' : FN} {σ' : St → Option NN} (q : NxP D φ σ' f') {p : Pl} {h0 h : Nat} (hs : h0 = h ∨ σ' (mv p h, [h]) ≠ none) : NxP (fun a b c => D a b c ∨ (a = p ∧ b = h0 ∧ c = h)) φ σ' f' :=
  ⟨q.src, fun p' h0' h' l hd e hh hne hσ => by
    rcases hd with hd | ⟨rfl, rfl, rfl⟩
    · exact q.all _ _ _ _ hd e hh hne hσ
    · rcases hs with hs | hs
      · exact absurd hs hne
      · exact absurd hσ hs⟩
theorem NxP.st {D : Pl → Nat → Nat → Prop} {φ f' : FN} {σ' : St → Option NN} (q : NxP D φ σ' f') {p : Pl} {h0 h l : Nat} (e : φ (p, [h0]) = some l) (hh : h ∈ hds) (hne : h0 ≠ h) (hl : l < 9999) :
    NxP (fun a b c => D a b c ∨ (a = p ∧ b = h0 ∧ c = h)) φ σ' (upd f' (mv p h, [h]) (min ((f' (mv p h, [h])).getD 10000) (l + 1))) := by
  refine ⟨fun s v hv => ?_, fun p' h0' h' l' hd e' hh' hne' hσ => ?_⟩
  · by_cases z : s = (mv p h, [h])
    · subst z
      rw [upd_eq] at hv
      cases hv
      cases hf : f' (mv p h, [h]) with
      | none => exact ⟨p, h0, h, l, e, hh, hne, rfl, by simp only [Option.getD_none]; omega⟩
      | some w =>
        rcases Nat.le_total w (l + 1) with y | y
        · obtain ⟨a, b, c, d, h1, h2, h3, h4, h5⟩ := q.src _ _ hf
          exact ⟨a, b, c, d, h1, h2, h3, h4, by simp only [Option.getD_some]; omega⟩
        · exact ⟨p, h0, h, l, e, hh, hne, rfl, by simp only [Option.getD_some]; omega⟩
    · rw [upd_ne z] at hv
      exact q.src s v hv
  · by_cases z : ((mv p' h', [h']) : St) = (mv p h, [h])
    · rw [z, upd_eq]
      refine ⟨_, rfl, ?_⟩
      rcases hd with hd | ⟨rfl, rfl, rfl⟩
      · obtain ⟨w, hw, hl'⟩ := q.all _ _ _ _ hd e' hh' hne' hσ
        rw [z] at hw
        rw [hw]
        simp only [Option.getD_some]
        omega
      · rw [e] at e'
        cases e'
        omega
    · rw [upd_ne z]
      rcases hd with hd | ⟨rfl, rfl, rfl⟩
      · exact q.all _ _ _ _ hd e' hh' hne' hσ
      · exact absurd rfl z
end VL

namespace VL
open PySem PySem.Spec PyProof.Rows L2
/-! family A: search, the states of the next turn -/
theorem min2_nat (x y : Nat) : applyOp .min2 [.int x, .int y] = some (valN (min x y)) := by
  show some (D.int (if (y : Int) < (x : Int) then (y : Int) else (x : Int))) = _
  congr 2
  split <;> omega
section
variable {R C : Nat} {g : List (List Nat)} {o : Pl}
theorem states_A {φ : FN} {σ' : St → Option NN} {T : Nat} {k6 v6 ks vs : List D} (m6 : Mp keyS valN k6 v6 φ) (m4 : Mp keyS valP ks vs σ') (hφ : ∀ s l, φ s = some l → (∃ h ∈ hds, s.2 = [h]) ∧ l < 9999) (few : k6.length ≤ 900) {x3 x7 x8 x9 x10 : Option D} {Q : Po}
    (fin : ∀ f' k2 v2 x3 x8 x9 x10, Mp keyS valN k2 v2 f' → Nx φ σ' f' → k2.length ≤ 4 * k6.length → Q.nx (seS g o (.dic true k2 v2) x3 (.dic true ks vs) T (.dic false k6 v6) x7 x8 x9 x10)) :
    SW pg_search (.forS (.tp [.nm 8, .nm 3]) .it [.sh 6] l3_search) (seS g o (.dic true [] []) x3 (.dic true ks vs) T (.dic false k6 v6) x7 x8 x9 x10) Q := by
  have kI : ∀ s, (keyS s).imm = true := fun s => rfl
  have vI : ∀ a, (valN a).imm = true := fun a => rfl
  refine sw_for (ow_x (xw_shi (d := .dic false k6 v6) rfl (m6.dimm kI vI) (ow_nil ⟨[.dic false k6 v6], k6, rfl, rfl, rfl, m6.immK kI, ?_⟩)))
  refine fw_inv (fun i ρ => ∃ f' k2 v2 x3 x8 x9 x10, ρ = seS g o (.dic true k2 v2) x3 (.dic true ks vs) T (.dic false k6 v6) x7 x8 x9 x10 ∧ Mp keyS valN k2 v2 f' ∧ NxP (fun p h0 h => keyS (p, [h0]) ∈ k6.take i) φ σ' f' ∧ k2.length ≤ 4 * i) 0 ⟨_, _, _, _, _, _, _, rfl, Mp.empty, ⟨(fun s v h => by cases h), fun p h0 h l hd => by simp at hd⟩, by simp⟩ ?_ ?_
  · rintro i x ρ hx ⟨f', k2, v2, x3, x8, x9, x10, rfl, m, q, hl⟩
    rw [Nat.zero_add] at hl q ⊢
    obtain ⟨s, l, rfl, hs⟩ := m6.at_ hx
    have hi : i < k6.length := (List.getElem?_eq_some_iff.mp hx).1
    obtain ⟨⟨h0, hh0, e0⟩, hl9⟩ := hφ s l hs
    obtain ⟨p, c⟩ := s
    simp only at e0
    subst e0
    refine ⟨seS g o (.dic true k2 v2) (some (.str [h0])) (.dic true ks vs) T (.dic false k6 v6) x7 (some (pD p)) x9 x10, rfl, ?_⟩
    refine sw_cons (sw_for (ow_v (d := gd_HEADINGS) (v_glob gv_HEADINGS) (ow_nil ⟨_, hds.map fun h => D.str [h], rfl, rfl, rfl, rfl, ?_⟩)))
    refine fw_inv (fun j ρ => ∃ f' k2 v2 x9 x10, ρ = seS g o (.dic true k2 v2) (some (.str [h0])) (.dic true ks vs) T (.dic false k6 v6) x7 (some (pD p)) x9 x10 ∧ Mp keyS valN k2 v2 f' ∧ NxP (fun p' h0' h => keyS (p', [h0']) ∈ k6.take i ∨ (p' = p ∧ h0' = h0 ∧ h ∈ hds.take j)) φ σ' f' ∧ k2.length ≤ 4 * i + j) 0 ⟨f', k2, v2, _, _, rfl, m, ⟨q.src, fun p' h0' h l hd => by
      rcases hd with hd | ⟨_, _, hd⟩
      · exact q.all p' h0' h l hd
      · simp at hd⟩, by omega⟩ ?_ ?_
    · clear m q hl
      rintro j y ρ hy ⟨f', k2, v2, x9, x10, rfl, m, q, hl⟩
      rw [Nat.zero_add] at hl q ⊢
      rw [List.getElem?_map, Option.map_eq_some_iff] at hy
      obtain ⟨h, hj, rfl⟩ := hy
      have hh : h ∈ hds := List.mem_of_getElem? hj
      have hj4 : j < 4 := (List.getElem?_eq_some_iff.mp hj).1
      have done : ∀ {f'' : FN}, NxP (fun a b c => (keyS (a, [b]) ∈ k6.take i ∨ (a = p ∧ b = h0 ∧ c ∈ hds.take j)) ∨ (a = p ∧ b = h0 ∧ c = h)) φ σ' f'' → NxP (fun p' h0' h => keyS (p', [h0']) ∈ k6.take i ∨ (p' = p ∧ h0' = h0 ∧ h ∈ hds.take (j + 1))) φ σ' f'' := fun z => ⟨z.src, fun p' h0' h' l' hd => z.all p' h0' h' l' (by
        rcases hd with hd | ⟨a, b, c⟩
        · exact .inl (.inl hd)
        · rw [take_snoc hj] at c
          rcases List.mem_append.mp c with c | c
          · exact .inl (.inr ⟨a, b, c⟩)
          · exact .inr ⟨a, b, List.mem_singleton.mp c⟩)⟩
      refine ⟨seS g o (.dic true k2 v2) (some (.str [h0])) (.dic true ks vs) T (.dic false k6 v6) x7 (some (pD p)) (some (.str [h])) x10, rfl, ?_⟩
      refine sw_cons (sw_asg (xw_tup (ow_x (xw_call0 fn_search_beside ?_))))
      refine ow_var (d := pD p) rfl (ow_var (d := .str [h]) rfl (ow_nil ⟨[pD p, .str [h]], rfl, lent_b (d := pD p) rfl rfl (lent_b (d := .str [h]) rfl rfl rfl), run_besideA p hh fun xs => ?_⟩))
      refine ow_var (d := .str [h]) rfl (ow_nil ⟨[pD (mv p h), .str [h]], rfl, lent_b (d := .str [h]) rfl rfl rfl, by simp [LIM], lt_b rfl, ?_⟩)
      show SWs _ _ (seS g o (.dic true k2 v2) (some (.str [h0])) (.dic true ks vs) T (.dic false k6 v6) x7 (some (pD p)) (some (.str [h])) (some (keyS (mv p h, [h])))) _
      refine sw_cons (sw_ifb (v_and (p := !([h] == [h0])) (q := !(σ' (mv p h, [h])).isSome) (v_2 (o := .cmp .NotEq) (v_var rfl) (v_var rfl) nes) fun _ => v_2 (o := .cmp .NotIn) (v_var rfl) (v_var rfl) ((m4.in_ (o := true) (neg := true) (s := (mv p h, [h])) (keySt _)).trans ?_)) (fun k => ?_) fun k => ?_)
      · cases σ' (mv p h, [h]) <;> rfl
      · simp only [Bool.and_eq_true, Bool.not_eq_true', beq_eq_false_iff_ne, ne_eq, List.cons.injEq, and_true] at k
        have hne : h0 ≠ h := fun z => k.1 z.symm
        have vg : evP pg_search.G (.node .get [.var 2, .var 10, .lit (.int 10000)]) (seS g o (.dic true k2 v2) (some (.str [h0])) (.dic true ks vs) T (.dic false k6 v6) x7 (some (pD p)) (some (.str [h])) (some (keyS (mv p h, [h])))) = some (valN ((f' (mv p h, [h])).getD 10000)) := by
          refine v_n (vs_cons (v_var rfl) (vs_cons (v_var rfl) (vs_cons v_lit vs_nil))) ?_
          refine (m.get (o := true) (s := (mv p h, [h])) (keySt _)).trans ?_
          cases f' (mv p h, [h]) <;> rfl
        have va : evP pg_search.G (.node (.bin .Add) [.node .ix [.var 6, .node .tup [.var 8, .var 3]], .lit (.int 1)]) (seS g o (.dic true k2 v2) (some (.str [h0])) (.dic true ks vs) T (.dic false k6 v6) x7 (some (pD p)) (some (.str [h])) (some (keyS (mv p h, [h])))) = some (valN (l + 1)) :=
          v_2 (v_2 (o := .ix) (v_var rfl) (v_2 (v_var rfl) (v_var rfl) (tup_key p [h0])) (m6.ix (o := false) (s := (p, [h0])) (keySt _) hs)) v_lit add_int
        refine sw_cons (sw_dst (xw_v (d := valN (min ((f' (mv p h, [h])).getD 10000) (l + 1))) (v_2 (o := .min2) vg va (min2_nat _ _)) ⟨keyS (mv p h, [h]), k2, v2, v_var rfl, rfl, keySt _, lim_le (n := k2.length + 1) (by omega), ?_⟩))
        have m' := m.st keyS_inj (mv p h, [h]) (min ((f' (mv p h, [h])).getD 10000) (l + 1))
        have hk := stD_keys (k := keyS (mv p h, [h])) (d := valN (min ((f' (mv p h, [h])).getD 10000) (l + 1))) m.len
        refine sw_nil (sw_nil ⟨_, _, _, some (.str [h]), some (keyS (mv p h, [h])), rfl, m', done (q.st hs hh hne hl9), ?_⟩)
        rw [hk]
        split
        · omega
        · rw [List.length_append, List.length_singleton]; omega
      · refine sw_nil (sw_nil ⟨f', k2, v2, some (.str [h]), some (keyS (mv p h, [h])), rfl, m, done (q.skip ?_), by omega⟩)
        rw [Bool.and_eq_false_iff] at k
        rcases k with k | k
        · exact .inl (by simp at k; exact k.symm)
        · exact .inr fun z => by rw [z] at k; cases k
    · rintro ρ ⟨f', k2, v2, x9, x10, rfl, m, q, hl⟩
      rw [Nat.zero_add, List.length_map] at hl q
      refine sw_nil ⟨f', k2, v2, _, _, x9, x10, rfl, m, ⟨q.src, fun p' h0' h l' hd e' hh' => q.all p' h0' h l' ?_ e' hh'⟩, by have : hds.length = 4 := rfl; omega⟩
      rw [take_snoc hx] at hd
      rcases List.mem_append.mp hd with z | z
      · exact .inl z
      · have := keyS_inj _ _ (List.mem_singleton.mp z)
        cases this
        exact .inr ⟨rfl, rfl, by rw [List.take_length]; exact hh'⟩
  · rintro ρ ⟨f', k2, v2, x3, x8, x9, x10, rfl, m, q, hl⟩
    rw [Nat.zero_add] at hl q
    refine fin f' k2 v2 x3 x8 x9 x10 m ⟨q.src, fun p h0 h l e hh hne hσ => q.all p h0 h l ?_ e hh hne hσ⟩ hl
    rw [List.take_length]
    exact (m6.key_mem (p, [h0])).mpr (by rw [e]; rfl)
end
end VL

namespace VL
open PySem PySem.Spec PyProof.Rows L2
/-! family A: search, whole -/
/-- the first states -/
def fst0 (o : Pl) (L : List Nat) (f : FN) : FN := L.foldl (fun f h => upd f (mv o h, [h]) 1) f
theorem fst0_old {o : Pl} : ∀ (L : List Nat) (f : FN) s, f s = some 1 → fst0 o L f s = some 1
  | [], f, s, h => h
  | a :: L, f, s, h => fst0_old L _ s (by
    show upd f (mv o a, [a]) 1 s = some 1
    by_cases z : s = (mv o a, [a])
    · rw [z, upd_eq]
    · rw [upd_ne z]; exact h)
theorem fst0_all {o : Pl} : ∀ (L : List Nat) (f : FN), ∀ h ∈ L, fst0 o L f (mv o h, [h]) = some 1
  | a :: L, f, h, hh => by
    rcases List.mem_cons.mp hh with rfl | z
    · exact fst0_old L _ _ upd_eq
    · exact fst0_all L _ h z
theorem fst0_src {o : Pl} : ∀ (L : List Nat) (f : FN) s l, fst0 o L f s = some l → (∃ h ∈ L, s = (mv o h, [h]) ∧ l = 1) ∨ f s = some l
  | [], f, s, l, h => .inr h
  | a :: L, f, s, l, h => by
    rcases fst0_src L _ s l h with ⟨h', h1, h2⟩ | z
    · exact .inl ⟨h', List.mem_cons_of_mem _ h1, h2⟩
    · have z : upd f (mv o a, [a]) 1 s = some l := z
      by_cases e : s = (mv o a, [a])
      · rw [e, upd_eq] at z
        cases z
        exact .inl ⟨a, List.mem_cons_self, e, rfl⟩
      · rw [upd_ne e] at z
        exact .inr z
abbrev ent (o : Pl) (h : Nat) : D := .tup [keyS (mv o h, [h]), valN 1]
theorem mg_fst {o : Pl} : ∀ (L : List Nat) (ks vs : List D) (f : FN), Mp keyS valN ks vs f → Mp keyS valN (mgD (L.map (ent o)) (ks, vs)).1 (mgD (L.map (ent o)) (ks, vs)).2 (fst0 o L f)
  | [], ks, vs, f, m => m
  | a :: L, ks, vs, f, m => mg_fst L _ _ _ (m.st keyS_inj (mv o a, [a]) 1)
theorem mg_len {o : Pl} : ∀ (L : List Nat) (ks vs : List D), ks.length = vs.length → (mgD (L.map (ent o)) (ks, vs)).1.length ≤ ks.length + L.length
  | [], ks, vs, _ => Nat.le_refl _
  | a :: L, ks, vs, hl => by
    have := mg_len (o := o) L (stD ks vs (keyS (mv o a, [a])) (valN 1)).1 (stD ks vs (keyS (mv o a, [a])) (valN 1)).2 (stD_len hl)
    have e := stD_keys (k := keyS (mv o a, [a])) (d := valN 1) hl
    refine Nat.le_trans this ?_
    rw [e, List.length_cons]
    split
    · omega
    · rw [List.length_append, List.length_singleton]; omega
theorem tn_zero {fr : Pl → Bool} {o : Pl} : Tn fr o 0 (fun _ => none) (fst0 o hds fun _ => none) := by
  refine ⟨fun s t l => ⟨(fun h => by cases h), fun h => by omega⟩, fun s l h => ?_, fun _ h hh => fst0_all hds _ h hh, fun p h0 h m h1 => by omega⟩
  rcases fst0_src _ _ _ _ h with ⟨h', h1, h2, h3⟩ | z
  · exact ⟨o, h', 0, h1, h2, h3, .inl ⟨rfl, rfl, rfl⟩⟩
  · cases z
section
variable {R C : Nat} {g : List (List Nat)} {o : Pl}
abbrev seX (g : List (List Nat)) (o : Pl) (d2 : D) (x3 : Option D) (d4 : D) (T : Nat) (x6 x7 x8 x9 x10 : Option D) : Rho := [some (.tup (g.map .str)), some (pD o), some d2, x3, some d4, some (.int T), x6, x7, x8, x9, x10]
theorem own_0 {d2 d4 : D} {x3 x6 x7 x8 x9 x10 : Option D} {T : Nat} : hasOwn (seX g o d2 x3 d4 T x6 x7 x8 x9 x10) 0 = false := by
  unfold hasOwn
  show (!(D.tup (g.map .str)).imm) = false
  rw [imm_grd]
  rfl
theorem back_S {k1 v1 k2 v2 : List D} {x3 x6 x7 x8 x9 x10 y0 : Option D} {a b : D} {T : Nat} : back (seX g o (.dic true k1 v1) x3 (.dic true k2 v2) T x6 x7 x8 x9 x10) [.b 0, .b 2, .b 4] [y0, some a, some b] = seX g o a x3 b T x6 x7 x8 x9 x10 := by
  have h0 : hasOwn (seX g o (.dic true k1 v1) x3 (.dic true k2 v2) T x6 x7 x8 x9 x10) 0 = false := own_0
  have h2 : hasOwn (seX g o (.dic true k1 v1) x3 (.dic true k2 v2) T x6 x7 x8 x9 x10) 2 = true := rfl
  have h4 : hasOwn (seX g o (.dic true k1 v1) x3 (.dic true k2 v2) T x6 x7 x8 x9 x10) 4 = true := rfl
  simp [back, posOf, h0, h2, h4]
theorem lent_S {k1 v1 k2 v2 : List D} {x3 x6 x7 x8 x9 x10 : Option D} {T : Nat} : lent (seX g o (.dic true k1 v1) x3 (.dic true k2 v2) T x6 x7 x8 x9 x10) [.b 0, .b 2, .b 4] = [2, 4] := by
  have h0 : hasOwn (seX g o (.dic true k1 v1) x3 (.dic true k2 v2) T x6 x7 x8 x9 x10) 0 = false := own_0
  have h2 : hasOwn (seX g o (.dic true k1 v1) x3 (.dic true k2 v2) T x6 x7 x8 x9 x10) 2 = true := rfl
  have h4 : hasOwn (seX g o (.dic true k1 v1) x3 (.dic true k2 v2) T x6 x7 x8 x9 x10) 4 = true := rfl
  simp [lent, h0, h2, h4]
theorem run_search (hg : Grd R C g) (hR : 1 ≤ R) (hR2 : R ≤ 12) (hC2 : C ≤ 12) {Q : D → Rho → Prop} {E : Xn → Rho → Prop}
    (q : ∀ σ ks vs xs, Mp keyS valP ks vs σ → (∀ s t l, σ s = some (t, l) ↔ s.2 ≠ [] ∧ LB (isFree g R C) o s t l) → Q (.dic true ks vs) xs) : (f_search.run pg_search [.tup (g.map .str), pD o]).wp Q E := by
  refine run_wp rfl ?_
  show SWs _ _ [some (.tup (g.map .str)), some (pD o), none, none, none, none, none, none, none, none, none] _
  refine sw_cons (sw_asg (xw_op (ow_x ?_)))
  refine xw_comp (fun i acc ρ => acc = (hds.take i).map (ent o) ∧ ρ = [some (.tup (g.map .str)), some (pD o), none, none, none, none, none, none, none, none, none]) ?_
  refine ow_v (d := gd_HEADINGS) (v_glob gv_HEADINGS) (ow_nil ⟨[gd_HEADINGS], hds.map fun h => D.str [h], rfl, rfl, rfl, by simp [LIM, hds], rfl, ⟨rfl, rfl⟩, ?_, ?_⟩)
  · rintro i x acc ρ1 hx ⟨rfl, rfl⟩
    rw [List.getElem?_map, Option.map_eq_some_iff] at hx
    obtain ⟨h, hi, rfl⟩ := hx
    have hh : h ∈ hds := List.mem_of_getElem? hi
    refine ⟨[some (.tup (g.map .str)), some (pD o), none, some (.str [h]), none, none, none, none, none, none, none], rfl, xt_nil ?_⟩
    rw [if_pos rfl]
    refine xw_tup (ow_x (xw_tup (ow_x (xw_call0 fn_search_beside ?_))))
    refine ow_var (d := pD o) rfl (ow_var (d := .str [h]) rfl (ow_nil ⟨[pD o, .str [h]], rfl, lent_b (d := pD o) rfl rfl (lent_b (d := .str [h]) rfl rfl rfl), run_besideA o hh fun xs => ?_⟩))
    refine ow_var (d := .str [h]) rfl (ow_nil ⟨[pD (mv o h), .str [h]], rfl, lent_b (d := .str [h]) rfl rfl rfl, by simp [LIM], ?_⟩)
    refine ow_v (d := .int 1) v_lit (ow_nil ⟨[keyS (mv o h, [h]), .int 1], rfl, rfl, by simp [LIM], ?_, rfl⟩)
    rw [take_snoc hi, List.map_append]
    rfl
  rintro ys ρ' ⟨rfl, rfl⟩
  rw [List.length_map, List.take_length]
  have hd : applyOp .dictL [.lst true (hds.map (ent o))] = some (.dic true (mgD (hds.map (ent o)) ([], [])).1 (mgD (hds.map (ent o)) ([], [])).2) := by
    show (if (hds.map (ent o)).all prOk = true ∧ (hds.map (ent o)).length ≤ LIM then some (D.dic true (mgD (hds.map (ent o)) ([], [])).1 (mgD (hds.map (ent o)) ([], [])).2) else none) = _
    rw [if_pos]
    refine ⟨?_, by simp [LIM, hds]⟩
    rw [List.all_eq_true]
    intro d hd
    obtain ⟨h, _, rfl⟩ := List.mem_map.mp hd
    show ((keyT (keyS (mv o h, [h]))).isSome && (valN 1).imm) = true
    rw [keySt]
    rfl
  have m1 := mg_fst (o := o) hds [] [] _ (Mp.empty (key := keyS) (val := valN))
  have l1 := mg_len (o := o) hds [] [] rfl
  generalize (mgD (hds.map (ent o)) ([], [])).1 = k1 at hd m1 l1
  generalize (mgD (hds.map (ent o)) ([], [])).2 = v1 at hd m1
  refine ow_nil ⟨[.lst true (hds.map (ent o))], .dic true k1 v1, rfl, hd, rfl, lt_b rfl, ?_⟩
  refine sw_cons (sw_asg (xw_v (d := .dic true [] []) rfl ⟨lt_b rfl, ?_⟩))
  refine sw_cons (sw_asg (xw_v (d := .int 0) v_lit ⟨lt_b rfl, ?_⟩))
  show SWs _ _ (seX g o (.dic true k1 v1) none (.dic true [] []) 0 none none none none none) _
  refine sw_cons ?_
  refine sw_whl (fun n ρ => ∃ T f σ k1 v1 k2 v2 x3 x6 x7 x8 x9 x10, ρ = seX g o (.dic true k1 v1) x3 (.dic true k2 v2) T x6 x7 x8 x9 x10 ∧ Mp keyS valN k1 v1 f ∧ Mp keyS valP k2 v2 σ ∧ Tn (isFree g R C) o T σ f ∧ k1.length ≤ 9000 ∧ n = 2 * (577 - k2.length) + (if k1.isEmpty = true then 0 else 1)) _ ⟨0, _, _, k1, v1, [], [], _, _, _, _, _, _, rfl, m1, Mp.empty, tn_zero, Nat.le_trans l1 (by decide), rfl⟩ ?_
  clear m1 l1 hd
  rintro n ρ ⟨T, f, σ, k1, v1, k2, v2, x3, x6, x7, x8, x9, x10, rfl, m1, m2, tn, hl1, rfl⟩
  refine xw_v (d := .bl (!k1.isEmpty)) (v_2 (o := .cmp .NotEq) (x := .dic true k1 v1) (y := .dic true [] []) (v_var rfl) rfl ?_) ?_
  · cases k1 <;> rfl
  cases he : k1.isEmpty with
  | true =>
    refine .inr ⟨rfl, sw_cons (sw_ret (xw_tk (d := .dic true k2 v2) rfl (q σ k2 v2 _ m2 (tn.end_ fun s => ?_))))⟩
    rw [List.isEmpty_iff] at he
    subst he
    cases hf : f s with
    | none => rfl
    | some l =>
      have := (m1.key_mem s).mpr (by rw [hf]; rfl)
      cases this
  | false =>
    refine .inl ⟨rfl, ?_⟩
    refine sw_cons (sw_asg (xw_call fn_search_straight_on ?_))
    refine ow_var (d := .tup (g.map .str)) rfl (ow_var (d := .dic true k1 v1) rfl (ow_var (d := .dic true k2 v2) rfl (ow_nil ⟨[.tup (g.map .str), .dic true k1 v1, .dic true k2 v2], rfl, by rw [lent_S]; rfl, ?_⟩)))
    refine run_straight hg hR hR2 hC2 m1 m2 (fun s l h => ?_) hl1 fun φ k6 v6 m6 so => ?_
    · obtain ⟨p0, h', m, hh, rfl, _⟩ := tn.src s l h
      exact ⟨h', hh, rfl⟩
    rw [back_S]
    refine ⟨lt_b rfl, ?_⟩
    have so' : So (fun x => isFree g R C x.1 && (σ x).isNone) f φ := so
    have hr := tn.here so'
    show SWs _ _ (seS g o (.dic false k1 v1) x3 (.dic true k2 v2) T (.dic true k6 v6) x7 x8 x9 x10) _
    refine sw_cons (sw_asg (xw_v (d := .dic true [] []) rfl ⟨lt_b rfl, ?_⟩))
    show SWs _ _ (seS g o (.dic true [] []) x3 (.dic true k2 v2) T (.dic true k6 v6) x7 x8 x9 x10) _
    have f2 : k2.length ≤ 577 := m2.few (o := o) hR2 hC2 fun s a hs => wk_univ ((tn.set s a.1 a.2).mp hs).2.1.1
    have f6 : k6.length ≤ 577 := m6.few (o := o) hR2 hC2 fun s a hs => wk_univ ((hr s a).mp hs).2.1
    refine sw_cons (settle_A m6 m2 (fun s l h => ?_) (by omega) fun k2' v2' x7' m2' hl2 => ?_)
    · cases hσ : σ s with
      | none => rfl
      | some a =>
        have h1 := (tn.set s a.1 a.2).mp hσ
        have h2 := (hr s l).mp h
        have := h1.2.1.uniq h2.2
        omega
    refine sw_cons (states_A m6 m2' (fun s l h => ?_) (by omega) fun f' k1' v1' x3' x8' x9' x10' m1' nx hl1' => ?_)
    · have h2 := (hr s l).mp h
      have h3 := pm_short hR2 hC2 h2.2.pm
      rcases h2.2.1.st with ⟨rfl, _⟩ | ⟨p', h'', hh, rfl, _⟩
      · exact absurd rfl h2.1
      · exact ⟨⟨h'', hh, rfl⟩, by omega⟩
    have tn' := tn.next so' nx
    have f2' : k2'.length ≤ 577 := m2'.few (o := o) hR2 hC2 fun s a hs => wk_univ ((tn'.set s a.1 a.2).mp hs).2.1.1
    refine sw_cons (sw_aug (a := T) (b := 1) rfl v_lit (sw_nil ⟨_, ?_, T + 1, f', _, k1', v1', k2', v2', x3', some (.dic false k6 v6), x7', x8', x9', x10', rfl, m1', m2', tn', by omega, rfl⟩))
    rw [if_neg Bool.false_ne_true]
    by_cases z : k6.length = 0
    · have : k1' = [] := List.eq_nil_of_length_eq_zero (by omega)
      subst this
      rw [if_pos (by rfl)]
      omega
    · split <;> omega
end
end VL

namespace VL
open PySem PySem.Spec PyProof.Rows L2
/-! plain: the law's own going, length by length -/
section
variable {fr : Pl → Bool} {o : Pl}
/-- least among walks shorter than L -/
def LBn (fr : Pl → Bool) (o : Pl) (L : Nat) (s : St) (t l : Nat) : Prop := Wk fr o s t l ∧ l < L ∧ ∀ t' l', Wk fr o s t' l' → l' < L → t < t' ∨ (t = t' ∧ l ≤ l')
theorem LBn.uniq {L : Nat} {s : St} {t l t' l' : Nat} (h : LBn fr o L s t l) (h' : LBn fr o L s t' l') : t = t' ∧ l = l' := by
  rcases h.2.2 _ _ h'.1 h'.2.1 with a | ⟨a, b⟩ <;> rcases h'.2.2 _ _ h.1 h.2.1 with c | ⟨c, d⟩ <;> omega
theorem LBn.ex {L : Nat} {s : St} {t l : Nat} (w : Wk fr o s t l) (hl : l < L) : ∃ t' l', LBn fr o L s t' l' ∧ t' ≤ t := by
  obtain ⟨t', ⟨l0, w0, hl0⟩, ht, hm⟩ := least_of (p := fun t => ∃ l, Wk fr o s t l ∧ l < L) t ⟨l, w, hl⟩
  obtain ⟨l', ⟨w', hl'⟩, _, hm'⟩ := least_of (p := fun l => Wk fr o s t' l ∧ l < L) l0 ⟨w0, hl0⟩
  refine ⟨t', l', ⟨w', hl', fun t2 l2 w2 h2 => ?_⟩, ht⟩
  have a := hm t2 ⟨l2, w2, h2⟩
  rcases Nat.lt_or_ge t' t2 with z | z
  · exact .inl z
  · have : t' = t2 := by omega
    subst this
    exact .inr ⟨rfl, hm' l2 ⟨w2, h2⟩⟩
theorem LBn.pm {L : Nat} {s : St} {t : Nat} (h : LBn fr o (L + 1) s t L) : Pm fr o s t L := ⟨h.1, fun t' l' w ht => by
  rcases Nat.lt_or_ge l' (L + 1) with z | z
  · rcases h.2.2 t' l' w z with y | ⟨_, y⟩ <;> omega
  · omega⟩
/-- ahead of the length L -/
structure Lg (fr : Pl → Bool) (o : Pl) (L : Nat) (σ : St → Option NN) (f : FN) : Prop where
  set : ∀ s t l, σ s = some (t, l) ↔ LBn fr o L s t l
  here : ∀ s t, f s = some t ↔ LBn fr o (L + 1) s t L
def settL (σ : St → Option NN) (L : Nat) (f : FN) : St → Option NN := fun s => match f s with
  | some t => some (t, L)
  | none => σ s
theorem Lg.sett {L : Nat} {σ : St → Option NN} {f : FN} (q : Lg fr o L σ f) (s : St) (t l : Nat) : settL σ L f s = some (t, l) ↔ LBn fr o (L + 1) s t l := by
  unfold settL
  cases hf : f s with
  | some t0 =>
    have b := (q.here s t0).mp hf
    constructor
    · intro e
      cases e
      exact b
    · intro b'
      obtain ⟨rfl, rfl⟩ := b.uniq b'
      rfl
  | none =>
    show σ s = _ ↔ _
    rw [q.set]
    have down : ∀ t l, LBn fr o (L + 1) s t l → LBn fr o L s t l := fun t l b => by
      rcases Nat.lt_or_ge l L with z | z
      · exact ⟨b.1, z, fun t' l' w h => b.2.2 t' l' w (by omega)⟩
      · have := b.2.1
        have : l = L := by omega
        subst this
        have := (q.here s t).mpr b
        rw [hf] at this
        cases this
    constructor
    · intro b
      obtain ⟨t', l', b', _⟩ := LBn.ex (L := L + 1) b.1 (by have := b.2.1; omega)
      obtain ⟨rfl, rfl⟩ := b.uniq (down _ _ b')
      exact b'
    · exact down t l
/-- what the going makes of the next length -/
structure Lo (fr : Pl → Bool) (f : FN) (σ' : St → Option NN) (f' : FN) : Prop where
  src : ∀ s v, f' s = some v → ∃ p c h t, f (p, c) = some t ∧ h ∈ hds ∧ fr (mv p h) = true ∧ s = (mv p h, [h]) ∧ v = t + tnI c h ∧ ∀ x, σ' s = some x → v < x.1
  all : ∀ p c h t, f (p, c) = some t → h ∈ hds → fr (mv p h) = true → (∀ x, σ' (mv p h, [h]) = some x → t + tnI c h < x.1) → ∃ w, f' (mv p h, [h]) = some w ∧ w ≤ t + tnI c h
/-- how a walk of the next length comes -/
theorem pred_of {L : Nat} {s : St} {t : Nat} (w : Wk fr o s t (L + 1)) : ∃ p c h t0, Wk fr o (p, c) t0 L ∧ h ∈ hds ∧ fr (mv p h) = true ∧ s = (mv p h, [h]) ∧ t = t0 + tnI c h := by
  cases w with
  | step w hh hf => exact ⟨_, _, _, _, w, hh, hf, rfl, rfl⟩
theorem Lg.pred {L : Nat} {s : St} {t : Nat} (b : LBn fr o (L + 2) s t (L + 1)) : ∃ p c h t0, LBn fr o (L + 1) (p, c) t0 L ∧ h ∈ hds ∧ fr (mv p h) = true ∧ s = (mv p h, [h]) ∧ t = t0 + tnI c h := by
  obtain ⟨p, c, h, t1, w, hh, hf, rfl, rfl⟩ := pred_of b.1
  obtain ⟨t0, l0, b0, h0⟩ := LBn.ex (L := L + 1) w (by omega)
  have w2 := Wk.step b0.1 hh hf
  have := b0.2.1
  have := b.2.2 _ _ w2 (by omega)
  have : l0 = L := by omega
  subst this
  have : t0 = t1 := by omega
  subst this
  exact ⟨p, c, h, t0, b0, hh, hf, rfl, rfl⟩
theorem Lg.next {L : Nat} {σ : St → Option NN} {f f' : FN} (q : Lg fr o L σ f) (lo : Lo fr f (settL σ L f) f') : Lg fr o (L + 1) (settL σ L f) f' := by
  have hs := q.sett
  -- a value is a walk, with fewer turns than any shorter one
  have snd : ∀ s v, f' s = some v → Wk fr o s v (L + 1) ∧ ∀ t' l', Wk fr o s t' l' → l' < L + 1 → v < t' := fun s v h => by
    obtain ⟨p, c, h, t, h1, h2, h3, rfl, rfl, h5⟩ := lo.src s v h
    refine ⟨Wk.step ((q.here _ _).mp h1).1 h2 h3, fun t' l' w hl => ?_⟩
    obtain ⟨t2, l2, b, hb⟩ := LBn.ex (L := L + 1) w hl
    have := h5 (t2, l2) ((hs _ _ _).mpr b)
    simp only at this
    omega
  refine ⟨hs, fun s t => ⟨fun h => ?_, fun b => ?_⟩⟩
  · obtain ⟨w, hw⟩ := snd s t h
    refine ⟨w, by omega, fun t' l' w' hl' => ?_⟩
    rcases Nat.lt_or_ge l' (L + 1) with z | z
    · exact .inl (hw t' l' w' z)
    · have : l' = L + 1 := by omega
      subst this
      -- the least of these comes by here
      obtain ⟨t2, l2, b2, ht2⟩ := LBn.ex (L := L + 2) w' (by omega)
      have hc := b2.2.2 _ _ w (by omega)
      rcases Nat.lt_or_ge l2 (L + 1) with y | y
      · have := hw t2 l2 b2.1 y
        omega
      · have := b2.2.1
        have : l2 = L + 1 := by omega
        subst this
        obtain ⟨p, c, h', t0, b0, hh, hf, rfl, rfl⟩ := Lg.pred b2
        obtain ⟨v, hv, hle⟩ := lo.all p c h' t0 ((q.here _ _).mpr b0) hh hf fun x hx => by
          have b3 := (hs _ x.1 x.2).mp hx
          have := b2.2.2 _ _ b3.1 (by have := b3.2.1; omega)
          have := b3.2.1
          omega
        rw [h] at hv
        cases hv
        omega
  · obtain ⟨p, c, h', t0, b0, hh, hf, rfl, rfl⟩ := Lg.pred b
    obtain ⟨v, hv, hle⟩ := lo.all p c h' t0 ((q.here _ _).mpr b0) hh hf fun x hx => by
      have b3 := (hs _ x.1 x.2).mp hx
      have := b.2.2 _ _ b3.1 (by have := b3.2.1; omega)
      have := b3.2.1
      omega
    have := b.2.2 _ _ (snd _ _ hv).1 (by omega)
    have : v = t0 + tnI c h' := by omega
    rw [hv, this]
theorem Lg.zero : Lg fr o 0 (fun _ => none) (upd (fun _ => none) (o, []) 0) := by
  refine ⟨fun s t l => ⟨(fun h => by cases h), fun h => by have := h.2.1; omega⟩, fun s t => ⟨fun h => ?_, fun b => ?_⟩⟩
  · by_cases e : s = (o, [])
    · subst e
      rw [upd_eq] at h
      cases h
      exact ⟨.start, by omega, fun t' l' w hl => by omega⟩
    · rw [upd_ne e] at h
      cases h
  · rcases b.1.st with ⟨rfl, rfl, _⟩ | ⟨_, _, _, _, _, z⟩
    · exact upd_eq
    · omega
theorem Lg.end_ {L : Nat} {σ : St → Option NN} {f : FN} (q : Lg fr o L σ f) (he : ∀ s, f s = none) (s : St) (t l : Nat) : σ s = some (t, l) ↔ LB fr o s t l := by
  have no : ∀ d (s : St) t, ¬ LBn fr o (L + d + 1) s t (L + d) := by
    intro d
    induction d with
    | zero =>
      intro s t b
      have := (q.here s t).mpr b
      rw [he] at this
      cases this
    | succ d ih =>
      intro s t b
      obtain ⟨p, c, h', t0, b0, _⟩ := Lg.pred (L := L + d) b
      exact ih _ _ b0
  have lt : ∀ t l, LB fr o s t l → l < L := fun t l b => by
    rcases Nat.lt_or_ge l L with z | z
    · exact z
    · refine absurd (show LBn fr o (L + (l - L) + 1) s t (L + (l - L)) from ?_) (no (l - L) s t)
      rw [show L + (l - L) = l by omega]
      exact ⟨b.1, by omega, fun t' l' w _ => b.2 t' l' w⟩
  rw [q.set]
  constructor
  · intro b
    obtain ⟨t', l', b', _⟩ := LB.ex b.1
    obtain ⟨rfl, rfl⟩ := b.uniq ⟨b'.1, lt _ _ b', fun t2 l2 w _ => b'.2 t2 l2 w⟩
    exact b'
  · exact fun b => ⟨b.1, lt _ _ b, fun t2 l2 w _ => b.2 t2 l2 w⟩
end
end VL

namespace VL
open PySem PySem.Spec PyProof.Rows L2
/-! family A: _law_from, its loops -/
section
variable {R C : Nat} {g : List (List Nat)} {o : Pl}
abbrev laS (g : List (List Nat)) (o : Pl) (d2 d3 : D) (L : Nat) (d5 : D) (x6 x7 x8 x9 x10 x11 : Option D) : Rho := [some (.tup (g.map .str)), some (pD o), some d2, some d3, some (.int L), some d5, x6, x7, x8, x9, x10, x11]
theorem settle_L {φ : FN} {σ : St → Option NN} {L : Nat} {k6 v6 ks vs : List D} (m6 : Mp keyS valN k6 v6 φ) (m4 : Mp keyS valP ks vs σ) (few : ks.length + k6.length ≤ 9000) {d5 : D} {x6 x7 x8 x9 x10 x11 : Option D} {Q : Po}
    (fin : ∀ ks' vs' x6', Mp keyS valP ks' vs' (settL σ L φ) → Q.nx (laS g o (.dic true ks' vs') (.dic false k6 v6) L d5 x6' x7 x8 x9 x10 x11)) :
    SW pg_law_from (.forS (.nm 6) .it [.sh 3] l2_law_from) (laS g o (.dic true ks vs) (.dic true k6 v6) L d5 x6 x7 x8 x9 x10 x11) Q := by
  have kI : ∀ s, (keyS s).imm = true := fun s => rfl
  have vI : ∀ a, (valN a).imm = true := fun a => rfl
  refine sw_for (ow_x (xw_sh (d := .dic true k6 v6) rfl (fun _ => ?_) fun z => by cases z))
  rw [m6.fz kI vI]
  show OW _ _ (laS g o (.dic true ks vs) (.dic false k6 v6) L d5 x6 x7 x8 x9 x10 x11) _ _
  refine ow_nil ⟨[.dic false k6 v6], k6, rfl, rfl, rfl, m6.immK kI, ?_⟩
  refine fw_inv (fun i ρ => ∃ ks' vs' σi x6, ρ = laS g o (.dic true ks' vs') (.dic false k6 v6) L d5 x6 x7 x8 x9 x10 x11 ∧ Mp keyS valP ks' vs' σi ∧ ks'.length ≤ ks.length + i ∧ ∀ s, (keyS s ∈ k6.take i → σi s = (φ s).map fun t => (t, L)) ∧ (keyS s ∉ k6.take i → σi s = σ s)) 0 ⟨ks, vs, σ, _, rfl, m4, Nat.le_refl _, fun s => ⟨(fun h => by simp at h), fun _ => rfl⟩⟩ ?_ ?_
  · rintro i x ρ hx ⟨ks', vs', σi, x6, rfl, m, hl, hs⟩
    rw [Nat.zero_add] at hl hs ⊢
    obtain ⟨s, t, rfl, hφ⟩ := m6.at_ hx
    have hi : i < k6.length := (List.getElem?_eq_some_iff.mp hx).1
    refine ⟨laS g o (.dic true ks' vs') (.dic false k6 v6) L d5 (some (keyS s)) x7 x8 x9 x10 x11, rfl, ?_⟩
    refine sw_cons (sw_dst (xw_v (d := valP (t, L)) (v_2 (o := .tup) (v_2 (o := .ix) (v_var rfl) (v_var rfl) (m6.ix (o := false) (keySt s) hφ)) (v_var rfl) tup2) ⟨keyS s, ks', vs', v_var rfl, rfl, keySt s, lim_le (n := ks'.length + 1) (by omega), ?_⟩))
    have m' := m.st keyS_inj s (t, L)
    have hk := stD_keys (k := keyS s) (d := valP (t, L)) m.len
    refine sw_nil ⟨_, _, _, some (keyS s), rfl, m', ?_, fun s' => ⟨fun h => ?_, fun h => ?_⟩⟩
    · rw [hk]
      split
      · omega
      · rw [List.length_append, List.length_singleton]; omega
    · rw [take_snoc hx] at h
      by_cases e : s' = s
      · subst e
        rw [if_pos rfl, hφ]
        rfl
      · rw [if_neg e]
        refine (hs s').1 ?_
        rcases List.mem_append.mp h with z | z
        · exact z
        · exact absurd (keyS_inj _ _ (List.mem_singleton.mp z)) e
    · rw [take_snoc hx] at h
      by_cases e : s' = s
      · subst e
        exact absurd (List.mem_append_right _ List.mem_cons_self) h
      · rw [if_neg e]
        exact (hs s').2 fun z => h (List.mem_append_left _ z)
  · rintro ρ ⟨ks', vs', σi, x6, rfl, m, hl, hs⟩
    rw [Nat.zero_add, List.take_length] at hs
    have e : σi = settL σ L φ := by
      funext s
      unfold settL
      cases hφ : φ s with
      | none =>
        refine (hs s).2 fun z => ?_
        have := (m6.key_mem s).mp z
        rw [hφ] at this
        cases this
      | some l =>
        have := (hs s).1 ((m6.key_mem s).mpr (by rw [hφ]; rfl))
        rw [hφ] at this
        exact this
    rw [e] at m
    exact fin ks' vs' x6 m
end
/-- the next length, so far -/
structure LoP (D : Pl → List Nat → Nat → Prop) (fr : Pl → Bool) (f : FN) (σ' : St → Option NN) (f' : FN) : Prop where
  src : ∀ s v, f' s = some v → ∃ p c h t, f (p, c) = some t ∧ h ∈ hds ∧ fr (mv p h) = true ∧ s = (mv p h, [h]) ∧ v = t + tnI c h ∧ ∀ x, σ' s = some x → v < x.1
  all : ∀ p c h t, D p c h → f (p, c) = some t → h ∈ hds → fr (mv p h) = true → (∀ x, σ' (mv p h, [h]) = some x → t + tnI c h < x.1) → ∃ w, f' (mv p h, [h]) = some w ∧ w ≤ t + tnI c h
theorem LoP.st {D : Pl → List Nat → Nat → Prop} {fr : Pl → Bool} {f f' : FN} {σ' : St → Option NN} (q : LoP D fr f σ' f') {p : Pl} {c : List Nat} {h t : Nat} (e : f (p, c) = some t) (hh : h ∈ hds) (hf : fr (mv p h) = true) (hσ : ∀ x, σ' (mv p h, [h]) = some x → t + tnI c h < x.1) (hl : ∀ w, f' (mv p h, [h]) = some w → t + tnI c h < w) :
    LoP (fun a b d => D a b d ∨ (a = p ∧ b = c ∧ d = h)) fr f σ' (upd f' (mv p h, [h]) (t + tnI c h)) := by
  refine ⟨fun s v hv => ?_, fun p' c' h' t' hd e' hh' hf' hσ' => ?_⟩
  · by_cases z : s = (mv p h, [h])
    · subst z
      rw [upd_eq] at hv
      cases hv
      exact ⟨p, c, h, t, e, hh, hf, rfl, rfl, hσ⟩
    · rw [upd_ne z] at hv
      exact q.src s v hv
  · by_cases z : ((mv p' h', [h']) : St) = (mv p h, [h])
    · rw [z, upd_eq]
      refine ⟨_, rfl, ?_⟩
      rcases hd with hd | ⟨rfl, rfl, rfl⟩
      · obtain ⟨w, hw, hle⟩ := q.all _ _ _ _ hd e' hh' hf' hσ'
        rw [z] at hw
        have := hl w hw
        omega
      · rw [e] at e'
        cases e'
        omega
    · rw [upd_ne z]
      rcases hd with hd | ⟨rfl, rfl, rfl⟩
      · exact q.all _ _ _ _ hd e' hh' hf' hσ'
      · exact absurd rfl z
theorem LoP.skip {D : Pl → List Nat → Nat → Prop} {fr : Pl → Bool} {f f' : FN} {σ' : St → Option NN} (q : LoP D fr f σ' f') {p : Pl} {c : List Nat} {h t : Nat} (e : f (p, c) = some t) (hs : (∃ x, σ' (mv p h, [h]) = some x ∧ x.1 ≤ t + tnI c h) ∨ ∃ w, f' (mv p h, [h]) = some w ∧ w ≤ t + tnI c h) :
    LoP (fun a b d => D a b d ∨ (a = p ∧ b = c ∧ d = h)) fr f σ' f' :=
  ⟨q.src, fun p' c' h' t' hd e' hh' hf' hσ' => by
    rcases hd with hd | ⟨rfl, rfl, rfl⟩
    · exact q.all _ _ _ _ hd e' hh' hf' hσ'
    · rw [e] at e'
      cases e'
      rcases hs with ⟨x, hx, hx2⟩ | hs
      · have := hσ' x hx
        omega
      · exact hs⟩
end VL

namespace VL
open PySem PySem.Spec PyProof.Rows L2
/-! family A: _law_from, the next length -/
section
variable {R C : Nat} {g : List (List Nat)} {o : Pl}
theorem nb_len (p : Pl) : (nb g R C p).length ≤ 4 := by
  unfold nb
  exact Nat.le_trans (List.length_filter_le ..) (by decide)
theorem tn_b (c : List Nat) (h : Nat) : (if (!(c == []) && !(c == [h])) = true then 1 else 0 : Int) = ((tnI c h : Nat) : Int) := by
  unfold tnI
  by_cases h1 : c = []
  · subst h1; rfl
  · by_cases h2 : c = [h]
    · subst h2; simp
    · simp [h1, h2]
theorem longer_A (hg : Grd R C g) (hR : 1 ≤ R) {f : FN} {σ' : St → Option NN} {L : Nat} {k6 v6 ks vs : List D} (m6 : Mp keyS valN k6 v6 f) (m4 : Mp keyS valP ks vs σ') (hf9 : ∀ s t, f s = some t → t < 9000) (few : k6.length ≤ 900) {x6 x7 x8 x9 x10 x11 : Option D} {Q : Po}
    (fin : ∀ f' k5 v5 x6 x7 x8 x9 x10 x11, Mp keyS valN k5 v5 f' → Lo (isFree g R C) f σ' f' → Q.nx (laS g o (.dic true ks vs) (.dic false k6 v6) L (.dic true k5 v5) x6 x7 x8 x9 x10 x11)) :
    SW pg_law_from (.forS (.tp [.nm 7, .nm 8]) .it [.sh 3] l3_law_from) (laS g o (.dic true ks vs) (.dic false k6 v6) L (.dic true [] []) x6 x7 x8 x9 x10 x11) Q := by
  have kI : ∀ s, (keyS s).imm = true := fun s => rfl
  have vI : ∀ a, (valN a).imm = true := fun a => rfl
  refine sw_for (ow_x (xw_shi (d := .dic false k6 v6) rfl (m6.dimm kI vI) (ow_nil ⟨[.dic false k6 v6], k6, rfl, rfl, rfl, m6.immK kI, ?_⟩)))
  refine fw_inv (fun i ρ => ∃ f' k5 v5 x6 x7 x8 x9 x10 x11, ρ = laS g o (.dic true ks vs) (.dic false k6 v6) L (.dic true k5 v5) x6 x7 x8 x9 x10 x11 ∧ Mp keyS valN k5 v5 f' ∧ LoP (fun p c h => keyS (p, c) ∈ k6.take i) (isFree g R C) f σ' f' ∧ k5.length ≤ 4 * i) 0 ⟨_, _, _, _, _, _, _, _, _, rfl, Mp.empty, ⟨(fun s v h => by cases h), fun p c h t hd => by simp at hd⟩, by simp⟩ ?_ ?_
  · rintro i x ρ hx ⟨f', k5, v5, x6, x7, x8, x9, x10, x11, rfl, m, q, hl⟩
    rw [Nat.zero_add] at hl q ⊢
    obtain ⟨s, t, rfl, hs⟩ := m6.at_ hx
    have hi : i < k6.length := (List.getElem?_eq_some_iff.mp hx).1
    have ht := hf9 s t hs
    obtain ⟨p, c⟩ := s
    refine ⟨laS g o (.dic true ks vs) (.dic false k6 v6) L (.dic true k5 v5) x6 (some (pD p)) (some (.str c)) x9 x10 x11, rfl, ?_⟩
    refine sw_cons (sw_for (ow_x (xw_call0 fn_law_from_law_beside ?_)))
    refine ow_var (d := .tup (g.map .str)) rfl (ow_var (d := pD p) rfl (ow_nil ⟨[.tup (g.map .str), pD p], rfl, lent_b (d := .tup (g.map .str)) rfl imm_grd (lent_b (d := pD p) rfl rfl rfl), run_besideL hg hR p fun xs => ?_⟩))
    refine ow_nil ⟨[.lst true ((nb g R C p).map (hpD p))], (nb g R C p).map (hpD p), rfl, rfl, rfl, imm_hp p _, ?_⟩
    have n4 := nb_len (g := g) (R := R) (C := C) p
    refine fw_inv (fun j ρ => ∃ f' k5 v5 x6 x9 x10 x11, ρ = laS g o (.dic true ks vs) (.dic false k6 v6) L (.dic true k5 v5) x6 (some (pD p)) (some (.str c)) x9 x10 x11 ∧ Mp keyS valN k5 v5 f' ∧ LoP (fun p' c' h => keyS (p', c') ∈ k6.take i ∨ (p' = p ∧ c' = c ∧ h ∈ (nb g R C p).take j)) (isFree g R C) f σ' f' ∧ k5.length ≤ 4 * i + j) 0 ⟨f', k5, v5, _, _, _, _, rfl, m, ⟨q.src, fun p' c' h t hd => by
      rcases hd with hd | ⟨_, _, hd⟩
      · exact q.all p' c' h t hd
      · simp at hd⟩, by omega⟩ ?_ ?_
    · clear m q hl
      rintro j y ρ hy ⟨f', k5, v5, x6, x9, x10, x11, rfl, m, q, hl⟩
      rw [Nat.zero_add] at hl q ⊢
      rw [List.getElem?_map, Option.map_eq_some_iff] at hy
      obtain ⟨h, hj, rfl⟩ := hy
      obtain ⟨hh, hfr⟩ := nb_mem.mp (List.mem_of_getElem? hj)
      have hj4 : j < 4 := by have := (List.getElem?_eq_some_iff.mp hj).1; omega
      have done : ∀ {f'' : FN}, LoP (fun a b d => (keyS (a, b) ∈ k6.take i ∨ (a = p ∧ b = c ∧ d ∈ (nb g R C p).take j)) ∨ (a = p ∧ b = c ∧ d = h)) (isFree g R C) f σ' f'' → LoP (fun p' c' h => keyS (p', c') ∈ k6.take i ∨ (p' = p ∧ c' = c ∧ h ∈ (nb g R C p).take (j + 1))) (isFree g R C) f σ' f'' := fun z => ⟨z.src, fun p' c' h' t' hd => z.all p' c' h' t' (by
        rcases hd with hd | ⟨a, b, d⟩
        · exact .inl (.inl hd)
        · rw [take_snoc hj] at d
          rcases List.mem_append.mp d with d | d
          · exact .inl (.inr ⟨a, b, d⟩)
          · exact .inr ⟨a, b, List.mem_singleton.mp d⟩)⟩
      refine ⟨laS g o (.dic true ks vs) (.dic false k6 v6) L (.dic true k5 v5) x6 (some (pD p)) (some (.str c)) (some (.str [h])) (some (pD (mv p h))) x11, rfl, ?_⟩
      have tl1 := tnI_le c h
      refine sw_cons (sw_asg (xw_v (d := valN (t + tnI c h)) (v_2 (o := .bin .Add) (x := .int t) (y := .int (tnI c h : Nat)) (v_2 (o := .ix) (v_var rfl) (v_2 (v_var rfl) (v_var rfl) (tup_key p c)) (m6.ix (o := false) (s := (p, c)) (keySt _) hs)) (v_1 (x := .bl (!(c == []) && !(c == [h]))) (v_and (v_2 (o := .cmp .NotEq) (v_var rfl) v_lit nes) fun _ => v_2 (o := .cmp .NotEq) (v_var rfl) (v_var rfl) nes) ?_) add_int) ⟨lt_b rfl, ?_⟩))
      · rw [← tn_b]
        rfl
      generalize hv : t + tnI c h = v at *
      refine sw_cons (sw_asg (xw_v (d := keyS (mv p h, [h])) (v_2 (v_var rfl) (v_var rfl) (tup_key (mv p h) [h])) ⟨lt_b rfl, ?_⟩))
      show SWs _ _ (laS g o (.dic true ks vs) (.dic false k6 v6) L (.dic true k5 v5) (some (keyS (mv p h, [h]))) (some (pD p)) (some (.str c)) (some (.str [h])) (some (pD (mv p h))) (some (valN v))) _
      have vb : evP pg_law_from.G (.node .ix [.node .get [.var 2, .var 6, .node .tup [.lit (.int 10000), .lit (.int 0)]], .lit (.int 0)]) (laS g o (.dic true ks vs) (.dic false k6 v6) L (.dic true k5 v5) (some (keyS (mv p h, [h]))) (some (pD p)) (some (.str c)) (some (.str [h])) (some (pD (mv p h))) (some (valN v))) = some (valN (((σ' (mv p h, [h])).map fun x => x.1).getD 10000)) := by
        refine v_2 (o := .ix) (x := ((σ' (mv p h, [h])).map valP).getD (.tup [.int 10000, .int 0])) (y := .int 0) (v_n (o := .get) (vs_cons (v_var rfl) (vs_cons (v_var rfl) (vs_cons (show evP _ _ _ = some (.tup [.int 10000, .int 0]) from rfl) vs_nil))) (m4.get (o := true) (s := (mv p h, [h])) (keySt _))) v_lit ?_
        cases σ' (mv p h, [h]) <;> rfl
      have vl : evP pg_law_from.G (.node .get [.var 5, .var 6, .lit (.int 10000)]) (laS g o (.dic true ks vs) (.dic false k6 v6) L (.dic true k5 v5) (some (keyS (mv p h, [h]))) (some (pD p)) (some (.str c)) (some (.str [h])) (some (pD (mv p h))) (some (valN v))) = some (valN ((f' (mv p h, [h])).getD 10000)) := by
        refine v_n (vs_cons (v_var rfl) (vs_cons (v_var rfl) (vs_cons v_lit vs_nil))) ?_
        refine (m.get (o := true) (s := (mv p h, [h])) (keySt _)).trans ?_
        cases f' (mv p h, [h]) <;> rfl
      have dl : ∀ a b : Nat, applyOp (.cmp .Lt) [valN a, valN b] = some (.bl (decide (a < b))) := fun a b => by
        rw [lt_is]
        rw [show decide ((a : Int) < (b : Int)) = decide (a < b) by rw [decide_eq_decide]; omega]
      refine sw_cons (sw_ifb (v_and (v_2 (o := .cmp .Lt) (v_var rfl) vb (dl _ _)) fun _ => v_2 (o := .cmp .Lt) (v_var rfl) vl (dl _ _)) (fun k => ?_) fun k => ?_)
      · simp only [Bool.and_eq_true, decide_eq_true_eq] at k
        refine sw_cons (sw_dst (xw_v (d := valN v) (v_var rfl) ⟨keyS (mv p h, [h]), k5, v5, v_var rfl, rfl, keySt _, lim_le (n := k5.length + 1) (by omega), ?_⟩))
        have m' := m.st keyS_inj (mv p h, [h]) v
        have hk := stD_keys (k := keyS (mv p h, [h])) (d := valN v) m.len
        refine sw_nil (sw_nil ⟨_, _, _, some (keyS (mv p h, [h])), some (.str [h]), some (pD (mv p h)), some (valN v), rfl, m', done ?_, ?_⟩)
        · rw [← hv] at k ⊢
          refine q.st hs hh hfr (fun x hx => ?_) fun w hw => ?_
          · have := k.1
            rw [hx] at this
            exact this
          · have := k.2
            rw [hw] at this
            exact this
        · rw [hk]
          split
          · omega
          · rw [List.length_append, List.length_singleton]; omega
      · refine sw_nil (sw_nil ⟨f', k5, v5, some (keyS (mv p h, [h])), some (.str [h]), some (pD (mv p h)), some (valN v), rfl, m, done (q.skip hs ?_), by omega⟩)
        rw [hv]
        rw [Bool.and_eq_false_iff, decide_eq_false_iff_not, decide_eq_false_iff_not] at k
        rcases k with k | k
        · cases hx : σ' (mv p h, [h]) with
          | none => rw [hx] at k; simp only [Option.map_none, Option.getD_none] at k; omega
          | some x => rw [hx] at k; exact .inl ⟨x, rfl, by simp only [Option.map_some, Option.getD_some] at k; omega⟩
        · cases hx : f' (mv p h, [h]) with
          | none => rw [hx] at k; simp only [Option.getD_none] at k; omega
          | some w => rw [hx] at k; exact .inr ⟨w, rfl, by simp only [Option.getD_some] at k; omega⟩
    · rintro ρ ⟨f', k5, v5, x6, x9, x10, x11, rfl, m, q, hl⟩
      rw [Nat.zero_add, List.length_map] at hl q
      refine sw_nil ⟨f', k5, v5, x6, _, _, x9, x10, x11, rfl, m, ⟨q.src, fun p' c' h t' hd e' hh' hf' => q.all p' c' h t' ?_ e' hh' hf'⟩, by omega⟩
      rw [take_snoc hx] at hd
      rcases List.mem_append.mp hd with z | z
      · exact .inl z
      · have := keyS_inj _ _ (List.mem_singleton.mp z)
        cases this
        exact .inr ⟨rfl, rfl, by rw [List.take_length]; exact nb_mem.mpr ⟨hh', hf'⟩⟩
  · rintro ρ ⟨f', k5, v5, x6, x7, x8, x9, x10, x11, rfl, m, q, hl⟩
    rw [Nat.zero_add] at hl q
    refine fin f' k5 v5 x6 x7 x8 x9 x10 x11 m ⟨q.src, fun p c h t e hh hf hσ => q.all p c h t ?_ e hh hf hσ⟩
    rw [List.take_length]
    exact (m6.key_mem (p, c)).mpr (by rw [e]; rfl)
end
end VL

namespace VL
open PySem PySem.Spec PyProof.Rows L2
/-! family A: _law_from, whole -/
section
variable {R C : Nat} {g : List (List Nat)} {o : Pl}
abbrev laX (g : List (List Nat)) (o : Pl) (d2 d3 : D) (L : Nat) (x5 x6 x7 x8 x9 x10 x11 : Option D) : Rho := [some (.tup (g.map .str)), some (pD o), some d2, some d3, some (.int L), x5, x6, x7, x8, x9, x10, x11]
theorem run_lawfrom (hg : Grd R C g) (hR : 1 ≤ R) (hR2 : R ≤ 12) (hC2 : C ≤ 12) {Q : D → Rho → Prop} {E : Xn → Rho → Prop}
    (q : ∀ σ ks vs xs, Mp keyS valP ks vs σ → (∀ s t l, σ s = some (t, l) ↔ LB (isFree g R C) o s t l) → Q (.dic true ks vs) xs) : (f_law_from.run pg_law_from [.tup (g.map .str), pD o]).wp Q E := by
  refine run_wp rfl ?_
  refine sw_cons (sw_asg (xw_v (d := .dic true [] []) rfl ⟨lt_b rfl, ?_⟩))
  refine sw_cons (sw_asg (xw_v (d := .dic true [keyS (o, [])] [valN 0]) ?_ ⟨lt_b rfl, ?_⟩))
  · rfl
  refine sw_cons (sw_asg (xw_v (d := .int 0) v_lit ⟨lt_b rfl, ?_⟩))
  show SWs _ _ (laX g o (.dic true [] []) (.dic true [keyS (o, [])] [valN 0]) 0 none none none none none none none) _
  have m0 : Mp keyS valN [keyS (o, [])] [valN 0] (upd (fun _ => none) (o, []) 0) := (Mp.empty (key := keyS) (val := valN)).st keyS_inj (o, []) 0
  refine sw_cons ?_
  refine sw_whl (fun n ρ => ∃ L f σ k3 v3 k2 v2 x5 x6 x7 x8 x9 x10 x11, ρ = laX g o (.dic true k2 v2) (.dic true k3 v3) L x5 x6 x7 x8 x9 x10 x11 ∧ Mp keyS valN k3 v3 f ∧ Mp keyS valP k2 v2 σ ∧ Lg (isFree g R C) o L σ f ∧ n = 577 - L) _ ⟨0, _, _, _, _, [], [], _, _, _, _, _, _, _, rfl, m0, Mp.empty, Lg.zero, rfl⟩ ?_
  clear m0
  rintro n ρ ⟨L, f, σ, k3, v3, k2, v2, x5, x6, x7, x8, x9, x10, x11, rfl, m3, m2, lg, rfl⟩
  refine xw_v (d := .bl (!k3.isEmpty)) (v_2 (o := .cmp .NotEq) (x := .dic true k3 v3) (y := .dic true [] []) (v_var rfl) rfl ?_) ?_
  · cases k3 <;> rfl
  cases he : k3.isEmpty with
  | true =>
    refine .inr ⟨rfl, sw_cons (sw_ret (xw_tk (d := .dic true k2 v2) rfl (q σ k2 v2 _ m2 (lg.end_ fun s => ?_))))⟩
    rw [List.isEmpty_iff] at he
    subst he
    cases hf : f s with
    | none => rfl
    | some l =>
      have := (m3.key_mem s).mpr (by rw [hf]; rfl)
      cases this
  | false =>
    refine .inl ⟨rfl, ?_⟩
    have hsh : ∀ s t, f s = some t → L ≤ 576 ∧ t ≤ 576 := fun s t h => pm_short hR2 hC2 ((lg.here s t).mp h).pm
    have f3 : k3.length ≤ 577 := m3.few (o := o) hR2 hC2 fun s a hs => wk_univ ((lg.here s a).mp hs).1
    have f2 : k2.length ≤ 577 := m2.few (o := o) hR2 hC2 fun s a hs => wk_univ ((lg.set s a.1 a.2).mp hs).1
    have hL : L ≤ 576 := by
      cases k3 with
      | nil => cases he
      | cons k k3 =>
        obtain ⟨s, t, _, hs⟩ := m3.at_ (i := 0) rfl
        exact (hsh s t hs).1
    refine sw_cons (sw_asg (xw_v (d := .dic true [] []) rfl ⟨lt_b rfl, ?_⟩))
    show SWs _ _ (laS g o (.dic true k2 v2) (.dic true k3 v3) L (.dic true [] []) x6 x7 x8 x9 x10 x11) _
    refine sw_cons (settle_L m3 m2 (by omega) fun k2' v2' x6' m2' => ?_)
    refine sw_cons (longer_A hg hR m3 m2' (fun s t h => by have := hsh s t h; omega) (by omega) fun f' k5 v5 x6 x7 x8 x9 x10 x11 m5 lo => ?_)
    refine sw_cons (sw_asg (xw_tk (d := .dic true k5 v5) rfl ⟨lt_b rfl, ?_⟩))
    show SWs _ _ (laX g o (.dic true k2' v2') (.dic true k5 v5) L none x6 x7 x8 x9 x10 x11) _
    refine sw_cons (sw_asg (xw_v (d := .int ((L + 1 : Nat) : Int)) (v_2 (v_var rfl) v_lit add_int) ⟨lt_b rfl, ?_⟩))
    exact sw_nil ⟨577 - (L + 1), by omega, L + 1, f', settL σ L f, k5, v5, k2', v2', none, x6, x7, x8, x9, x10, x11, rfl, m5, m2', lg.next lo, rfl⟩
end
end VL

namespace VL
open PySem PySem.Spec PyProof.Rows L2
/-! family A: least_turns; both tell the same -/
theorem told_pair {fr : Pl → Bool} {o : Pl} {σ τ : St → Option NN} (hs : ∀ s t l, σ s = some (t, l) ↔ s.2 ≠ [] ∧ LB fr o s t l) (ht : ∀ s t l, τ s = some (t, l) ↔ LB fr o s t l) (p : Pl) : toldO σ o p = pairO τ p := by
  have same : ∀ h : Nat, σ (p, [h]) = τ (p, [h]) := fun h => by
    apply Option.ext
    rintro ⟨t, l⟩
    show σ _ = some _ ↔ τ _ = some _
    rw [hs, ht]
    exact ⟨fun z => z.2, fun z => ⟨by simp, z⟩⟩
  have tls : tl σ hdL p = tl τ hdL p := by
    unfold tl hdL
    rw [List.filterMap_map, List.filterMap_map]
    congr 1
    funext h
    exact same h
  unfold toldO pairO
  by_cases e : o = p
  · subst e
    rw [if_pos rfl]
    have z : τ (o, []) = some (0, 0) := (ht _ _ _).mpr ⟨.start, fun t' l' w => by omega⟩
    have : tl τ ([] :: hdL) o = (0, 0) :: tl τ hdL o := by
      unfold tl
      rw [List.filterMap_cons, z]
    rw [this]
    show _ = some (minTL (0, 0) (tl τ hdL o))
    rw [ltp_zero List.mem_cons_self]
  · rw [if_neg e, tls]
    have z : τ (p, []) = none := by
      cases hτ : τ (p, []) with
      | none => rfl
      | some a =>
        have b := (ht _ a.1 a.2).mp hτ
        rcases b.1.st with ⟨h, _⟩ | ⟨_, _, _, h, _⟩
        · cases h; exact absurd rfl e
        · cases h
    have : tl τ ([] :: hdL) p = tl τ hdL p := by
      show List.filterMap _ _ = List.filterMap _ _
      rw [List.filterMap_cons, z]
    rw [this]
section
variable {R C : Nat} {g : List (List Nat)} {o : Pl}
theorem run_least (hg : Grd R C g) (hR : 1 ≤ R) (hR2 : R ≤ 12) (hC2 : C ≤ 12) {p : Pl} {τ : St → Option NN} (ht : ∀ s t l, τ s = some (t, l) ↔ LB (isFree g R C) o s t l) (ho : isFree g R C o = true) (hp : isFree g R C p = true) {Q : D → Rho → Prop} {E : Xn → Rho → Prop}
    (q : ∀ xs, Q (pairD (pairO τ p)) xs) : (f_least_turns.run pg_least_turns [.tup (g.map .str), pD o, pD p]).wp Q E := by
  refine run_wp rfl ?_
  refine sw_cons (sw_expr (xw_call0 fn_least_turns_need_free ?_))
  refine ow_var (d := .tup (g.map .str)) rfl (ow_v (d := .tup ([o, p].map pD)) (v_2 (o := .tup) (v_var rfl) (v_var rfl) (by simp [applyOp, dTup, immL, D.imm, LIM])) (ow_nil ⟨[.tup (g.map .str), .tup ([o, p].map pD)], rfl, lent_b (d := .tup (g.map .str)) rfl imm_grd rfl, ?_⟩))
  refine run_needA hg hR [o, p] (fun x hx => ?_) fun xs => ?_
  · rcases List.mem_cons.mp hx with rfl | z
    · exact ho
    · rw [List.mem_singleton.mp z]; exact hp
  refine sw_cons (sw_ret (xw_call0 fn_least_turns_told_from (ow_x (xw_call0 fn_least_turns_search ?_))))
  refine ow_var (d := .tup (g.map .str)) rfl (ow_var (d := pD o) rfl (ow_nil ⟨[.tup (g.map .str), pD o], rfl, lent_b (d := .tup (g.map .str)) rfl imm_grd (lent_b (d := pD o) rfl rfl rfl), ?_⟩))
  refine run_search hg hR hR2 hC2 fun σ ks vs xs m hs => ?_
  refine ow_var (d := pD o) rfl (ow_var (d := pD p) rfl (ow_nil ⟨[.dic true ks vs, pD o, pD p], rfl, lent_b (d := pD o) rfl rfl (lent_b (d := pD p) rfl rfl rfl), ?_⟩))
  refine run_told m o p fun xs => ?_
  rw [told_pair hs ht]
  exact q _
end
end VL

namespace VL
open PySem PySem.Spec PyProof.Rows L2
/-! family A: _law_right, one question -/
section
variable {R C : Nat} {g : List (List Nat)} {o : Pl}
abbrev lrS (d : D) (g : List (List Nat)) (l : List Pl) (o : Pl) (ks vs : List D) (x5 x6 x7 x8 : Option D) : Rho := [some d, some (.tup (g.map .str)), some (.lst true (l.map pD)), some (pD o), some (.dic true ks vs), x5, x6, x7, x8]
theorem imm_pair (x : Option NN) : (pairD x).imm = true := by cases x <;> rfl
theorem turn_R (hg : Grd R C g) (hR : 1 ≤ R) (hR2 : R ≤ 12) (hC2 : C ≤ 12) {τ : St → Option NN} {ks vs : List D} (m : Mp keyS valP ks vs τ) (ht : ∀ s t l, τ s = some (t, l) ↔ LB (isFree g R C) o s t l) (ho : isFree g R C o = true) {p : Pl} (hp : isFree g R C p = true) {d : D} {l : List Pl} {x5 x6 x8 : Option D} {Q : Po}
    (fin : ∀ x8, Q.nx (lrS d g l o ks vs x5 x6 (some (pD p)) x8)) : SWs pg_law_right l2_law_right (lrS d g l o ks vs x5 x6 (some (pD p)) x8) Q := by
  refine sw_cons (sw_asg (xw_call1 0 fn_law_right_law_pair ?_))
  refine ow_var (d := .dic true ks vs) rfl (ow_var (d := pD p) rfl (ow_nil ⟨[.dic true ks vs, pD p], 4, rfl, lent_o (d := .dic true ks vs) rfl rfl (lent_b (d := pD p) rfl rfl rfl), posOf_o (d := .dic true ks vs) rfl rfl, ?_⟩))
  refine run_pair m p fun xs => ⟨lt_b rfl, ?_⟩
  show SWs _ _ (lrS d g l o ks vs x5 x6 (some (pD p)) (some (pairD (pairO τ p)))) _
  refine sw_cons (sw_if (xw_not (xw_call0 fn_law_right_law_is_pair (ow_x (xw_call0 fn_law_right_least_turns ?_)))))
  refine ow_var (d := .tup (g.map .str)) rfl (ow_var (d := pD o) rfl (ow_var (d := pD p) rfl (ow_nil ⟨[.tup (g.map .str), pD o, pD p], rfl, lent_b (d := .tup (g.map .str)) rfl imm_grd (lent_b (d := pD o) rfl rfl (lent_b (d := pD p) rfl rfl rfl)), ?_⟩)))
  refine run_least hg hR hR2 hC2 ht ho hp fun xs => ?_
  refine ow_var (d := pairD (pairO τ p)) rfl (ow_nil ⟨[pairD (pairO τ p), pairD (pairO τ p)], rfl, lent_b (d := pairD (pairO τ p)) rfl (imm_pair _) rfl, ?_⟩)
  exact run_is_pair _ fun xs => ⟨true, rfl, .inr ⟨rfl, sw_nil (sw_nil (fin _))⟩⟩
end
end VL

namespace VL
open PySem PySem.Spec PyProof.Rows L2
/-! family A: _law_right, one place to start from: the places asked -/
section
variable {R C : Nat} {g : List (List Nat)} {o : Pl}
theorem others_R {d : D} (hd : Sd d) {l : List Pl} (hl : l ≠ []) (hl2 : l.length ≤ 144) (hf : ∀ p ∈ l, isFree g R C p = true) (ho : isFree g R C o = true) {ks vs : List D} {x5 x6 x7 x8 : Option D} {Q : D → Rho → Prop} {E : Xn → Rho → Prop}
    (q : ∀ d' (ps : List Pl), Sd d' → ps ≠ [] → (∀ p ∈ ps, isFree g R C p = true) → Q (.lst true (ps.map pD)) (lrS d' g l o ks vs x5 x6 x7 x8)) :
    XW pg_law_right (.node (.bin .Add) [.comp [("turn", 6)] (.node .ix [.var 2, .call "_law_draw" [.var 0, .node .len [.var 2]]]) (.nm 6) .rng [.lit (.int 5)] [], .node .lst [.node .ix [.var 2, .lit (.int 0)], .node .ix [.var 2, .node .neg [.lit (.int 1)]], .var 3]]) (lrS d g l o ks vs x5 x6 x7 x8) Q E := by
  have l1 : 1 ≤ l.length := List.length_pos_iff.mpr hl
  refine xw_op (ow_x (xw_comp (fun i acc ρ => ∃ (d' : D) (ps : List Pl), ρ = lrS d' g l o ks vs x5 none x7 x8 ∧ acc = ps.map pD ∧ ps.length = i ∧ Sd d' ∧ ∀ p ∈ ps, isFree g R C p = true) ?_))
  refine ow_v (d := .int 5) v_lit (ow_nil ⟨[.int 5], rngItems 0 5, rfl, rfl, src_rng (n := 5) (by omega), by rw [rng_len]; exact lim_le (by omega), rng_imm, ⟨d, [], rfl, rfl, rfl, hd, fun p h => by cases h⟩, ?_, ?_⟩)
  · rintro i x acc ρ1 hx ⟨d', ps, rfl, rfl, e1, hd', e2⟩
    obtain ⟨hi, rfl⟩ := rng_at hx
    refine ⟨lrS d' g l o ks vs x5 (some (.int i)) x7 x8, rfl, xt_nil ?_⟩
    rw [if_pos rfl]
    refine xw_op (ow_var (d := .lst true (l.map pD)) rfl (ow_x ?_))
    refine xw_draw (many := (l.length : Int)) fn_law_right_law_draw rfl hd' (v_1 (v_var rfl) (by simp [applyOp, dLen])) (by omega) (by omega) fun v d'' v0 v1 hd'' => ?_
    obtain ⟨s, hs, es⟩ := atI_pl (l := l) v0 (by omega)
    refine ow_nil ⟨[.lst true (l.map pD), .int v], pD s, rfl, es, rfl, d'', ps ++ [s], rfl, by rw [List.map_append]; rfl, by rw [List.length_append, e1]; rfl, hd'', fun p hp => ?_⟩
    rcases List.mem_append.mp hp with z | z
    · exact e2 p z
    · rw [List.mem_singleton.mp z]; exact hf s hs
  · rintro ys ρ' ⟨d', ps, rfl, rfl, e1, hd', e2⟩
    rw [rng_len] at e1
    obtain ⟨a, ha, ea⟩ := atI_pl (l := l) (v := 0) (by omega) (by omega)
    obtain ⟨b, hb, eb⟩ : ∃ b ∈ l, L2.atI (l.map pD) (-1) = some (pD b) := by
      refine ⟨l.getLast hl, List.getLast_mem hl, ?_⟩
      refine atI_last ?_
      rw [List.getLast?_map]
      first
      | rw [List.getLast?_eq_some_getLast hl]; rfl
      | rw [List.getLast?_eq_getLast hl]; rfl
      | simp [List.getLast?_eq_getLast, hl]
    show OW _ _ (lrS d' g l o ks vs x5 x6 x7 x8) _ _
    refine ow_v (d := .lst true ([a, b, o].map pD)) (v_n (o := .lst) (vs_cons (v_2 (o := .ix) (v_var rfl) v_lit ea) (vs_cons (v_2 (o := .ix) (y := .int (-1)) (v_var rfl) rfl eb) (vs_cons (v_var rfl) vs_nil))) (by simp [applyOp, dLst, immL, D.imm, LIM])) (ow_nil ⟨[.lst true (ps.map pD), .lst true ([a, b, o].map pD)], .lst true ((ps ++ [a, b, o]).map pD), rfl, ?_, rfl, q d' _ hd' (by simp) fun p hp => ?_⟩)
    · rw [List.map_append]
      show dAdd [.lst true (ps.map pD), .lst true ([a, b, o].map pD)] = _
      simp only [dAdd]
      rw [if_pos ⟨by rw [List.length_map, List.length_map, e1]; exact lim_le (show 5 + 3 < 100000 by decide), immL_pl _, immL_pl _⟩]
    · rcases List.mem_append.mp hp with z | z
      · exact e2 p z
      · simp at z
        rcases z with rfl | rfl | rfl
        · exact hf _ ha
        · exact hf _ hb
        · exact ho
end
end VL

namespace VL
open PySem PySem.Spec PyProof.Rows L2
/-! family A: _law_right, one place to start from -/
section
variable {R C : Nat} {g : List (List Nat)} {o : Pl}
theorem ne_pairD (x : Option NN) : applyOp (.cmp .NotEq) [pairD x, pairD x] = some (.bl false) := by
  cases x with
  | none => rfl
  | some x => exact ne_same
abbrev lrX (d : D) (g : List (List Nat)) (l : List Pl) (x3 x4 x5 x6 x7 x8 : Option D) : Rho := [some d, some (.tup (g.map .str)), some (.lst true (l.map pD)), x3, x4, x5, x6, x7, x8]
theorem one_R (hg : Grd R C g) (hR : 1 ≤ R) (hR2 : R ≤ 12) (hC2 : C ≤ 12) {d : D} (hd : Sd d) {l : List Pl} (hl : l ≠ []) (hl2 : l.length ≤ 144) (hf : ∀ p ∈ l, isFree g R C p = true) (ho : isFree g R C o = true) {x4 x5 x6 x7 x8 : Option D} {Q : Po}
    (fin : ∀ d' x4 x5 x6 x7 x8, Sd d' → Q.nx (lrX d' g l (some (pD o)) x4 x5 x6 x7 x8)) : SWs pg_law_right l1_law_right (lrX d g l (some (pD o)) x4 x5 x6 x7 x8) Q := by
  refine sw_cons (sw_asg (xw_call0 fn_law_right_law_from ?_))
  refine ow_var (d := .tup (g.map .str)) rfl (ow_var (d := pD o) rfl (ow_nil ⟨[.tup (g.map .str), pD o], rfl, lent_b (d := .tup (g.map .str)) rfl imm_grd (lent_b (d := pD o) rfl rfl rfl), ?_⟩))
  refine run_lawfrom hg hR hR2 hC2 fun τ ks vs xs m ht => ⟨lt_b rfl, ?_⟩
  show SWs _ _ (lrS d g l o ks vs x5 x6 x7 x8) _
  refine sw_cons (sw_asg (others_R hd hl hl2 hf ho fun d' ps hd' hps hpf => ⟨lt_b rfl, ?_⟩))
  show SWs _ _ (lrS d' g l o ks vs (some (.lst true (ps.map pD))) x6 x7 x8) _
  refine sw_cons (sw_for (ow_x (xw_sh (d := .lst true (ps.map pD)) rfl (fun _ => ?_) fun z => by cases z)))
  have fz : (D.lst true (ps.map pD)).fz = .lst false (ps.map pD) := by simp only [D.fz, fzL_of_imm _ (immL_pl ps)]
  rw [fz]
  show OW _ _ (lrS d' g l o ks vs (some (.lst false (ps.map pD))) x6 x7 x8) _ _
  refine ow_nil ⟨[.lst false (ps.map pD)], ps.map pD, rfl, rfl, rfl, immL_pl ps, ?_⟩
  refine fw_inv (fun i ρ => ∃ x7 x8, ρ = lrS d' g l o ks vs (some (.lst false (ps.map pD))) x6 x7 x8) 0 ⟨_, _, rfl⟩ ?_ ?_
  · rintro i x ρ hx ⟨x7, x8, rfl⟩
    rw [List.getElem?_map, Option.map_eq_some_iff] at hx
    obtain ⟨p, hp, rfl⟩ := hx
    refine ⟨lrS d' g l o ks vs (some (.lst false (ps.map pD))) x6 (some (pD p)) x8, rfl, ?_⟩
    exact turn_R hg hR hR2 hC2 m ht ho (hpf p (List.mem_of_getElem? hp)) fun x8 => ⟨_, _, rfl⟩
  · rintro ρ ⟨x7, x8, rfl⟩
    obtain ⟨p, hp, ep⟩ := atI_pl (l := ps) (v := 0) (by omega) (by have := List.length_pos_iff.mpr hps; omega)
    have vp : evP pg_law_right.G (.node .ix [.var 5, .lit (.int 0)]) (lrS d' g l o ks vs (some (.lst false (ps.map pD))) x6 x7 x8) = some (pD p) := v_2 (o := .ix) (v_var rfl) v_lit ep
    refine sw_cons (sw_if (xw_op (ow_x (xw_call0 fn_law_right_least_turns ?_))))
    refine ow_var (d := .tup (g.map .str)) rfl (ow_var (d := pD o) rfl (ow_v (d := pD p) vp (ow_nil ⟨[.tup (g.map .str), pD o, pD p], rfl, lent_b (d := .tup (g.map .str)) rfl imm_grd (lent_b (d := pD o) rfl rfl rfl), ?_⟩)))
    refine run_least hg hR hR2 hC2 ht ho (hpf p hp) fun xs => ?_
    refine ow_x (xw_call1 0 fn_law_right_law_pair ?_)
    refine ow_var (d := .dic true ks vs) rfl (ow_v (d := pD p) vp (ow_nil ⟨[.dic true ks vs, pD p], 4, rfl, lent_o (d := .dic true ks vs) rfl rfl rfl, posOf_o (d := .dic true ks vs) rfl rfl, ?_⟩))
    refine run_pair m p fun xs => ?_
    refine ow_nil ⟨[pairD (pairO τ p), pairD (pairO τ p)], .bl false, rfl, ne_pairD _, rfl, .inr ⟨rfl, sw_nil (sw_nil ?_)⟩⟩
    exact fin d' _ _ _ _ _ hd'
end
end VL

namespace VL
open PySem PySem.Spec PyProof.Rows L2
/-! family A: _law_right -/
section
variable {R C : Nat} {g : List (List Nat)}
theorem run_right (hg : Grd R C g) (hR : 1 ≤ R) (hR2 : R ≤ 12) (hC2 : C ≤ 12) {d : D} (hd : Sd d) {Q : D → Rho → Prop} {E : Xn → Rho → Prop} (q : ∀ d' xs, Q (.bl true) (some d' :: xs)) : (f_law_right.run pg_law_right [d, .tup (g.map .str)]).wp Q E := by
  refine run_wp rfl ?_
  refine sw_cons (sw_asg (xw_call0 fn_law_right_law_free ?_))
  refine ow_var (d := .tup (g.map .str)) rfl (ow_nil ⟨[.tup (g.map .str)], rfl, lent_b (d := .tup (g.map .str)) rfl imm_grd rfl, ?_⟩)
  refine run_freesA hg hR hR2 hC2 fun l xs hf hl2 => ⟨lt_b rfl, ?_⟩
  show SWs _ _ (lrX d g l none none none none none none) _
  refine sw_cons (sw_ifb (k := (l.map pD).isEmpty) (v_2 (o := .cmp .Eq) (y := .lst true []) (v_var rfl) rfl (eq_nil (Nat.le_trans (depth_pl l) (by decide)))) (fun _ => ?_) fun k => sw_nil ?_)
  · exact sw_cons (sw_ret (xw_v (d := .bl true) v_lit (q _ _)))
  have hl : l ≠ [] := fun z => by subst z; cases k
  have l1 : 1 ≤ l.length := List.length_pos_iff.mpr hl
  refine sw_cons (sw_for (ow_x (xw_tup (ow_x (xw_op (ow_var (d := .lst true (l.map pD)) rfl (ow_x ?_)))))))
  refine xw_draw (many := (l.length : Int)) fn_law_right_law_draw rfl hd (v_1 (v_var rfl) (by simp [applyOp, dLen])) (by omega) (by omega) fun v d1 v0 v1 hd1 => ?_
  obtain ⟨a, ha, ea⟩ := atI_pl (l := l) v0 (by omega)
  refine ow_nil ⟨[.lst true (l.map pD), .int v], pD a, rfl, ea, rfl, ?_⟩
  refine ow_x (xw_op (ow_var (d := .lst true (l.map pD)) rfl (ow_x (xw_op (ow_v (d := .lst true [.int 0, .int (-1)]) rfl (ow_x ?_))))))
  refine xw_draw (many := 2) fn_law_right_law_draw rfl hd1 v_lit (by omega) (by omega) fun w d2 w0 w1 hd2 => ?_
  obtain ⟨z, b, hb, e1, e2⟩ : ∃ z : Int, ∃ b ∈ l, L2.atI [D.int 0, .int (-1)] w = some (.int z) ∧ L2.atI (l.map pD) z = some (pD b) := by
    rcases (show w = 0 ∨ w = 1 by omega) with rfl | rfl
    · obtain ⟨b, hb, eb⟩ := atI_pl (l := l) (v := 0) (by omega) (by omega)
      exact ⟨0, b, hb, rfl, eb⟩
    · refine ⟨-1, l.getLast hl, List.getLast_mem hl, rfl, atI_last ?_⟩
      rw [List.getLast?_map]
      first
      | rw [List.getLast?_eq_some_getLast hl]; rfl
      | rw [List.getLast?_eq_getLast hl]; rfl
      | simp [List.getLast?_eq_getLast, hl]
  refine ow_nil ⟨[.lst true [.int 0, .int (-1)], .int w], .int z, rfl, e1, rfl, ?_⟩
  refine ow_nil ⟨[.lst true (l.map pD), .int z], pD b, rfl, e2, rfl, ?_⟩
  refine ow_nil ⟨[pD a, pD b], rfl, rfl, by simp [LIM], ?_⟩
  refine ow_nil ⟨[.tup [pD a, pD b]], [pD a, pD b], rfl, rfl, rfl, rfl, ?_⟩
  refine fw_inv (fun i ρ => ∃ d x3 x4 x5 x6 x7 x8, ρ = lrX d g l x3 x4 x5 x6 x7 x8 ∧ Sd d) 0 ⟨d2, _, _, _, _, _, _, rfl, hd2⟩ ?_ ?_
  · rintro i x ρ hx ⟨d, x3, x4, x5, x6, x7, x8, rfl, hd⟩
    obtain ⟨o, hm, rfl⟩ : ∃ o ∈ l, x = pD o := by
      rcases List.mem_cons.mp (List.mem_of_getElem? hx) with h | h
      · exact ⟨a, ha, h⟩
      · exact ⟨b, hb, List.mem_singleton.mp h⟩
    refine ⟨lrX d g l (some (pD o)) x4 x5 x6 x7 x8, rfl, ?_⟩
    exact one_R hg hR hR2 hC2 hd hl hl2 hf (hf o hm) fun d' x4 x5 x6 x7 x8 hd' => ⟨d', _, x4, x5, x6, x7, x8, rfl, hd'⟩
  · rintro ρ ⟨d, x3, x4, x5, x6, x7, x8, rfl, hd⟩
    exact sw_cons (sw_ret (xw_v (d := .bl true) v_lit (q _ _)))
end
end VL

namespace VL
open PySem PySem.Spec PyProof.Rows L2
/-! family A: the law -/
theorem turn_law {cell : Int} {sc : D} {x2 : Option D} {Q : Po} (fin : ∀ x2, Q.nx [some sc, some (.int cell), x2]) : SWs pg_law l1_law [some sc, some (.int cell), x2] Q := by
  refine sw_cons (sw_asg (xw_call0 fn_law_law_seed (ow_var (d := .int cell) rfl (ow_nil ⟨[.int cell], rfl, lent_b (d := .int cell) rfl rfl rfl, ?_⟩))))
  refine run_seed cell fun d xs hd => ⟨lt_b rfl, ?_⟩
  show SWs _ _ [some sc, some (.int cell), some d] _
  refine sw_cons (sw_if (xw_not (xw_call1 0 fn_law_law_right (ow_var (d := d) rfl (ow_x (xw_call1 0 fn_law_law_grid ?_))))))
  refine ow_var (d := d) rfl (ow_x (xw_op (ow_v (d := .lst true [.int 6, .int 12]) rfl (ow_x ?_))))
  refine xw_draw (many := 2) fn_law_law_draw rfl hd v_lit (by omega) (by omega) fun v d1 v0 v1 hd1 => ?_
  obtain ⟨m, m1, m2, em⟩ : ∃ m : Int, 1 ≤ m ∧ m ≤ 12 ∧ L2.atI [D.int 6, .int 12] v = some (.int m) := by
    rcases (show v = 0 ∨ v = 1 by omega) with rfl | rfl
    · exact ⟨6, by omega, by omega, rfl⟩
    · exact ⟨12, by omega, by omega, rfl⟩
  refine ow_nil ⟨[.lst true [.int 6, .int 12], .int v], .int m, rfl, em, rfl, ?_⟩
  show OW _ _ [some sc, some (.int cell), some d1] _ _
  refine ow_nil ⟨[d1, .int m], 2, rfl, lent_o (d := d1) rfl hd1.no rfl, posOf_o (d := d1) rfl hd1.no, ?_⟩
  refine run_gridA hd1 m1 m2 fun g R C d2 xs r1 r2 c1 c2 hg hd2 => ?_
  show OW _ _ [some sc, some (.int cell), some d2] _ _
  refine ow_nil ⟨[d2, .tup (g.map .str)], 2, rfl, lent_o (d := d2) rfl hd2.no rfl, posOf_o (d := d2) rfl hd2.no, ?_⟩
  exact run_right hg r1 r2 c2 hd2 fun d3 xs => ⟨true, rfl, .inr ⟨rfl, sw_nil (sw_nil (fin _))⟩⟩
theorem law_true (ns : List Int) (h : ns.length ≤ 63) : ∀ o, ∃ xs, f_law.run (prg G0 tb19) [.lst o (ns.map D.int)] = .ok (.bl true) xs := fun o => by
  have key : (f_law.run pg_law [.lst o (ns.map D.int)]).wp (fun d _ => d = .bl true) NoE := by
    refine run_wp rfl (sw_cons (sw_for (ow_x (xw_op ?_))))
    have vs : evP pg_law.G (.node (.slc false true) [.var 0, .lit (.int 2)]) [some (.lst o (ns.map D.int)), none, none] = some (.lst true ((ns.take 2).map D.int)) := by
      refine v_2 (v_var rfl) v_lit ?_
      show dSlc1 none (some ((2 : Nat) : Int)) (.lst o (ns.map D.int)) = _
      simp only [dSlc1, immL_ints, if_true]
      rw [cut_to, List.map_take]
    refine ow_v vs (ow_x (xw_lst (ow_x ?_)))
    have go : ∀ n : Int, ∀ sc : D, FW pg_law (.nm 1) l1_law ((ns.take 2 ++ [n]).map D.int) [some sc, none, none] { nx := fun ρ => SWs pg_law [.ret (.lit (.bl true))] ρ { nx := fun ρ => (D.non = D.bl true), rt := fun d ρ => d = D.bl true, ex := fun x ρ => NoE x (f_law.ends ρ) }, rt := fun d ρ => d = D.bl true, bk := fun ρ => False, ex := fun x ρ => NoE x (f_law.ends ρ) } := fun n sc => by
      refine fw_inv (fun i ρ => ∃ x1 x2, ρ = [some sc, x1, x2]) 0 ⟨_, _, rfl⟩ ?_ ?_
      · rintro i x ρ hx ⟨x1, x2, rfl⟩
        rw [List.getElem?_map, Option.map_eq_some_iff] at hx
        obtain ⟨c, hc, rfl⟩ := hx
        exact ⟨_, rfl, turn_law fun x2 => ⟨_, _, rfl⟩⟩
      · rintro ρ ⟨x1, x2, rfl⟩
        exact sw_cons (sw_ret (xw_v (d := .bl true) v_lit rfl))
    have add : ∀ n : Int, applyOp (.bin .Add) [.lst true ((ns.take 2).map D.int), .lst true [.int n]] = some (.lst true ((ns.take 2 ++ [n]).map D.int)) := fun n => by
      rw [List.map_append]
      show dAdd [.lst true ((ns.take 2).map D.int), .lst true ([n].map D.int)] = _
      simp only [dAdd]
      rw [if_pos ⟨by rw [List.length_map, List.length_map, List.length_take]; exact lim_le (by simp; omega), immL_ints _, immL_ints _⟩]
    cases o with
    | true =>
      refine xw_call1 0 fn_law_law_folded (ow_var (d := .lst true (ns.map .int)) rfl (ow_nil ⟨[.lst true (ns.map .int)], 0, rfl, lent_o (d := .lst true (ns.map .int)) rfl rfl rfl, posOf_o (d := .lst true (ns.map .int)) rfl rfl, run_folded ns true h fun n => ?_⟩))
      refine ow_nil ⟨[.int n], rfl, rfl, by simp [LIM], ?_⟩
      refine ow_nil ⟨[.lst true ((ns.take 2).map D.int), .lst true [.int n]], .lst true ((ns.take 2 ++ [n]).map D.int), rfl, add n, rfl, ?_⟩
      exact ow_nil ⟨[.lst true ((ns.take 2 ++ [n]).map D.int)], (ns.take 2 ++ [n]).map D.int, rfl, rfl, rfl, immL_ints _, go n _⟩
    | false =>
      have him : (D.lst false (ns.map .int)).imm = true := by simp [D.imm, immL_ints]
      refine xw_call0 fn_law_law_folded (ow_var (d := .lst false (ns.map .int)) rfl (ow_nil ⟨[.lst false (ns.map .int)], rfl, lent_b (d := .lst false (ns.map .int)) rfl him rfl, run_folded ns false h fun n => ?_⟩))
      refine ow_nil ⟨[.int n], rfl, rfl, by simp [LIM], ?_⟩
      refine ow_nil ⟨[.lst true ((ns.take 2).map D.int), .lst true [.int n]], .lst true ((ns.take 2 ++ [n]).map D.int), rfl, add n, rfl, ?_⟩
      exact ow_nil ⟨[.lst true ((ns.take 2 ++ [n]).map D.int)], (ns.take 2 ++ [n]).map D.int, rfl, rfl, rfl, immL_ints _, go n _⟩
  obtain ⟨a, xs, e, rfl⟩ := wp_ex key
  exact ⟨xs, e⟩
end VL

namespace VL
open PySem PySem.Spec PyProof.Rows L2
theorem all_mk {P : Program} {w : World} {K : PySem.W.Frag} {h : Heap} {mg : Str → Option Value} {fa f0 f1 f2 f3 f4 f5 f6 f7 f8 f9 f10 f11 f12 f13 f14 f15 f16 f17 f18 f19 : Addr} (X : K.In h) (G : h.Ns mainGlobals mg) (hfa : mg "law" = some (.ref fa))
    {oc0 kV0 dc0 pm0 cd0 ct0 : Value} {od0 an0 : Option Addr} {sl0 : Array (Option Value)}
    (a0 : PySem.W.nsIn K mainGlobals "_law_seed" = some (some (.ref f0))) (l0 : K.lookup f0 = some ⟨oc0, od0, .func (PySem.W.fnOf "_law_seed" "_law_seed" (defArgs (top1 16)) (defBody (top1 16)) (defScope (top1 16)) .none kV0 dc0 pm0 an0 cd0 ct0), sl0⟩)
    (c0 : PySem.W.codeIn K cd0 "_law_seed" = true) (k0 : PySem.W.keepIn K (.ref f0) = true)
    {oc1 kV1 dc1 pm1 cd1 ct1 : Value} {od1 an1 : Option Addr} {sl1 : Array (Option Value)}
    (a1 : PySem.W.nsIn K mainGlobals "_law_folded" = some (some (.ref f1))) (l1 : K.lookup f1 = some ⟨oc1, od1, .func (PySem.W.fnOf "_law_folded" "_law_folded" (defArgs (top1 15)) (defBody (top1 15)) (defScope (top1 15)) .none kV1 dc1 pm1 an1 cd1 ct1), sl1⟩)
    (c1 : PySem.W.codeIn K cd1 "_law_folded" = true) (k1 : PySem.W.keepIn K (.ref f1) = true)
    {oc2 kV2 dc2 pm2 cd2 ct2 : Value} {od2 an2 : Option Addr} {sl2 : Array (Option Value)}
    (a2 : PySem.W.nsIn K mainGlobals "_law_free" = some (some (.ref f2))) (l2 : K.lookup f2 = some ⟨oc2, od2, .func (PySem.W.fnOf "_law_free" "_law_free" (defArgs (top1 21)) (defBody (top1 21)) (defScope (top1 21)) .none kV2 dc2 pm2 an2 cd2 ct2), sl2⟩)
    (c2 : PySem.W.codeIn K cd2 "_law_free" = true) (k2 : PySem.W.keepIn K (.ref f2) = true)
    {oc3 kV3 dc3 pm3 cd3 ct3 : Value} {od3 an3 : Option Addr} {sl3 : Array (Option Value)}
    (a3 : PySem.W.nsIn K mainGlobals "_law_beside" = some (some (.ref f3))) (l3 : K.lookup f3 = some ⟨oc3, od3, .func (PySem.W.fnOf "_law_beside" "_law_beside" (defArgs (top1 22)) (defBody (top1 22)) (defScope (top1 22)) .none kV3 dc3 pm3 an3 cd3 ct3), sl3⟩)
    (c3 : PySem.W.codeIn K cd3 "_law_beside" = true) (k3 : PySem.W.keepIn K (.ref f3) = true)
    {oc4 kV4 dc4 pm4 cd4 ct4 : Value} {od4 an4 : Option Addr} {sl4 : Array (Option Value)}
    (a4 : PySem.W.nsIn K mainGlobals "_law_from" = some (some (.ref f4))) (l4 : K.lookup f4 = some ⟨oc4, od4, .func (PySem.W.fnOf "_law_from" "_law_from" (defArgs (top1 23)) (defBody (top1 23)) (defScope (top1 23)) .none kV4 dc4 pm4 an4 cd4 ct4), sl4⟩)
    (c4 : PySem.W.codeIn K cd4 "_law_from" = true) (k4 : PySem.W.keepIn K (.ref f4) = true)
    {oc5 kV5 dc5 pm5 cd5 ct5 : Value} {od5 an5 : Option Addr} {sl5 : Array (Option Value)}
    (a5 : PySem.W.nsIn K mainGlobals "_law_draw" = some (some (.ref f5))) (l5 : K.lookup f5 = some ⟨oc5, od5, .func (PySem.W.fnOf "_law_draw" "_law_draw" (defArgs (top1 17)) (defBody (top1 17)) (defScope (top1 17)) .none kV5 dc5 pm5 an5 cd5 ct5), sl5⟩)
    (c5 : PySem.W.codeIn K cd5 "_law_draw" = true) (k5 : PySem.W.keepIn K (.ref f5) = true)
    {oc6 kV6 dc6 pm6 cd6 ct6 : Value} {od6 an6 : Option Addr} {sl6 : Array (Option Value)}
    (a6 : PySem.W.nsIn K mainGlobals "_law_pair" = some (some (.ref f6))) (l6 : K.lookup f6 = some ⟨oc6, od6, .func (PySem.W.fnOf "_law_pair" "_law_pair" (defArgs (top1 24)) (defBody (top1 24)) (defScope (top1 24)) .none kV6 dc6 pm6 an6 cd6 ct6), sl6⟩)
    (c6 : PySem.W.codeIn K cd6 "_law_pair" = true) (k6 : PySem.W.keepIn K (.ref f6) = true)
    {oc7 kV7 dc7 pm7 cd7 ct7 : Value} {od7 an7 : Option Addr} {sl7 : Array (Option Value)}
    (a7 : PySem.W.nsIn K mainGlobals "is_free" = some (some (.ref f7))) (l7 : K.lookup f7 = some ⟨oc7, od7, .func (PySem.W.fnOf "is_free" "is_free" (defArgs (top1 6)) (defBody (top1 6)) (defScope (top1 6)) .none kV7 dc7 pm7 an7 cd7 ct7), sl7⟩)
    (c7 : PySem.W.codeIn K cd7 "is_free" = true) (k7 : PySem.W.keepIn K (.ref f7) = true)
    {oc8 kV8 dc8 pm8 cd8 ct8 : Value} {od8 an8 : Option Addr} {sl8 : Array (Option Value)}
    (a8 : PySem.W.nsIn K mainGlobals "need_free" = some (some (.ref f8))) (l8 : K.lookup f8 = some ⟨oc8, od8, .func (PySem.W.fnOf "need_free" "need_free" (defArgs (top1 7)) (defBody (top1 7)) (defScope (top1 7)) .none kV8 dc8 pm8 an8 cd8 ct8), sl8⟩)
    (c8 : PySem.W.codeIn K cd8 "need_free" = true) (k8 : PySem.W.keepIn K (.ref f8) = true)
    {oc9 kV9 dc9 pm9 cd9 ct9 : Value} {od9 an9 : Option Addr} {sl9 : Array (Option Value)}
    (a9 : PySem.W.nsIn K mainGlobals "told_from" = some (some (.ref f9))) (l9 : K.lookup f9 = some ⟨oc9, od9, .func (PySem.W.fnOf "told_from" "told_from" (defArgs (top1 12)) (defBody (top1 12)) (defScope (top1 12)) .none kV9 dc9 pm9 an9 cd9 ct9), sl9⟩)
    (c9 : PySem.W.codeIn K cd9 "told_from" = true) (k9 : PySem.W.keepIn K (.ref f9) = true)
    {oc10 kV10 dc10 pm10 cd10 ct10 : Value} {od10 an10 : Option Addr} {sl10 : Array (Option Value)}
    (a10 : PySem.W.nsIn K mainGlobals "beside" = some (some (.ref f10))) (l10 : K.lookup f10 = some ⟨oc10, od10, .func (PySem.W.fnOf "beside" "beside" (defArgs (top1 8)) (defBody (top1 8)) (defScope (top1 8)) .none kV10 dc10 pm10 an10 cd10 ct10), sl10⟩)
    (c10 : PySem.W.codeIn K cd10 "beside" = true) (k10 : PySem.W.keepIn K (.ref f10) = true)
    {oc11 kV11 dc11 pm11 cd11 ct11 : Value} {od11 an11 : Option Addr} {sl11 : Array (Option Value)}
    (a11 : PySem.W.nsIn K mainGlobals "straight_on" = some (some (.ref f11))) (l11 : K.lookup f11 = some ⟨oc11, od11, .func (PySem.W.fnOf "straight_on" "straight_on" (defArgs (top1 9)) (defBody (top1 9)) (defScope (top1 9)) .none kV11 dc11 pm11 an11 cd11 ct11), sl11⟩)
    (c11 : PySem.W.codeIn K cd11 "straight_on" = true) (k11 : PySem.W.keepIn K (.ref f11) = true)
    {oc12 kV12 dc12 pm12 cd12 ct12 : Value} {od12 an12 : Option Addr} {sl12 : Array (Option Value)}
    (a12 : PySem.W.nsIn K mainGlobals "search" = some (some (.ref f12))) (l12 : K.lookup f12 = some ⟨oc12, od12, .func (PySem.W.fnOf "search" "search" (defArgs (top1 10)) (defBody (top1 10)) (defScope (top1 10)) .none kV12 dc12 pm12 an12 cd12 ct12), sl12⟩)
    (c12 : PySem.W.codeIn K cd12 "search" = true) (k12 : PySem.W.keepIn K (.ref f12) = true)
    {oc13 kV13 dc13 pm13 cd13 ct13 : Value} {od13 an13 : Option Addr} {sl13 : Array (Option Value)}
    (a13 : PySem.W.nsIn K mainGlobals "least_turns" = some (some (.ref f13))) (l13 : K.lookup f13 = some ⟨oc13, od13, .func (PySem.W.fnOf "least_turns" "least_turns" (defArgs (top1 13)) (defBody (top1 13)) (defScope (top1 13)) .none kV13 dc13 pm13 an13 cd13 ct13), sl13⟩)
    (c13 : PySem.W.codeIn K cd13 "least_turns" = true) (k13 : PySem.W.keepIn K (.ref f13) = true)
    {oc14 kV14 dc14 pm14 cd14 ct14 : Value} {od14 an14 : Option Addr} {sl14 : Array (Option Value)}
    (a14 : PySem.W.nsIn K mainGlobals "_law_is_pair" = some (some (.ref f14))) (l14 : K.lookup f14 = some ⟨oc14, od14, .func (PySem.W.fnOf "_law_is_pair" "_law_is_pair" (defArgs (top1 25)) (defBody (top1 25)) (defScope (top1 25)) .none kV14 dc14 pm14 an14 cd14 ct14), sl14⟩)
    (c14 : PySem.W.codeIn K cd14 "_law_is_pair" = true) (k14 : PySem.W.keepIn K (.ref f14) = true)
    {oc15 kV15 dc15 pm15 cd15 ct15 : Value} {od15 an15 : Option Addr} {sl15 : Array (Option Value)}
    (a15 : PySem.W.nsIn K mainGlobals "_law_right" = some (some (.ref f15))) (l15 : K.lookup f15 = some ⟨oc15, od15, .func (PySem.W.fnOf "_law_right" "_law_right" (defArgs (top1 26)) (defBody (top1 26)) (defScope (top1 26)) .none kV15 dc15 pm15 an15 cd15 ct15), sl15⟩)
    (c15 : PySem.W.codeIn K cd15 "_law_right" = true) (k15 : PySem.W.keepIn K (.ref f15) = true)
    {oc16 kV16 dc16 pm16 cd16 ct16 : Value} {od16 an16 : Option Addr} {sl16 : Array (Option Value)}
    (a16 : PySem.W.nsIn K mainGlobals "_law_spiral" = some (some (.ref f16))) (l16 : K.lookup f16 = some ⟨oc16, od16, .func (PySem.W.fnOf "_law_spiral" "_law_spiral" (defArgs (top1 18)) (defBody (top1 18)) (defScope (top1 18)) .none kV16 dc16 pm16 an16 cd16 ct16), sl16⟩)
    (c16 : PySem.W.codeIn K cd16 "_law_spiral" = true) (k16 : PySem.W.keepIn K (.ref f16) = true)
    {oc17 kV17 dc17 pm17 cd17 ct17 : Value} {od17 an17 : Option Addr} {sl17 : Array (Option Value)}
    (a17 : PySem.W.nsIn K mainGlobals "_law_sign" = some (some (.ref f17))) (l17 : K.lookup f17 = some ⟨oc17, od17, .func (PySem.W.fnOf "_law_sign" "_law_sign" (defArgs (top1 19)) (defBody (top1 19)) (defScope (top1 19)) .none kV17 dc17 pm17 an17 cd17 ct17), sl17⟩)
    (c17 : PySem.W.codeIn K cd17 "_law_sign" = true) (k17 : PySem.W.keepIn K (.ref f17) = true)
    {oc18 kV18 dc18 pm18 cd18 ct18 : Value} {od18 an18 : Option Addr} {sl18 : Array (Option Value)}
    (a18 : PySem.W.nsIn K mainGlobals "_law_grid" = some (some (.ref f18))) (l18 : K.lookup f18 = some ⟨oc18, od18, .func (PySem.W.fnOf "_law_grid" "_law_grid" (defArgs (top1 20)) (defBody (top1 20)) (defScope (top1 20)) .none kV18 dc18 pm18 an18 cd18 ct18), sl18⟩)
    (c18 : PySem.W.codeIn K cd18 "_law_grid" = true) (k18 : PySem.W.keepIn K (.ref f18) = true)
    {oc19 kV19 dc19 pm19 cd19 ct19 : Value} {od19 an19 : Option Addr} {sl19 : Array (Option Value)}
    (a19 : PySem.W.nsIn K mainGlobals "law" = some (some (.ref f19))) (l19 : K.lookup f19 = some ⟨oc19, od19, .func (PySem.W.fnOf "law" "law" (defArgs (top1 27)) (defBody (top1 27)) (defScope (top1 27)) .none kV19 dc19 pm19 an19 cd19 ct19), sl19⟩)
    (c19 : PySem.W.codeIn K cd19 "law" = true) (k19 : PySem.W.keepIn K (.ref f19) = true)
    {C_NoPlace : Addr} {C_TurnError : Addr} {on_NoPlace : Str} {oq_NoPlace : Str} {oN_NoPlace fI_NoPlace : Addr} {ob_NoPlace om_NoPlace : List Value} {os_NoPlace : List Str} {ou_NoPlace : List Value} {oa_NoPlace : Bool} {oc_NoPlace : Option Bool} {od_NoPlace : Option Addr} {k0_NoPlace k1_NoPlace k2_NoPlace k3_NoPlace k5_NoPlace : Option Value} {ioc_NoPlace ikV_NoPlace idc_NoPlace ipm_NoPlace icd_NoPlace ict_NoPlace : Value} {iod_NoPlace ian_NoPlace : Option Addr} {isl_NoPlace : Array (Option Value)} {xHEADINGS_1 : Tok} {a_STEPS : Addr} {es_STEPS : Array DictEntry} {n_STEPS : Nat} {xSTEPS_1 : Tok} {xSTEPS_2 : Tok} {xSTEPS_3 : Addr} {xSTEPS_4 : Option Addr} {xSTEPS_5 : Nat} {xSTEPS_6 : Array (Option Value)} {xSTEPS_7 : Tok} {xSTEPS_8 : Tok} {xSTEPS_9 : Addr} {xSTEPS_10 : Option Addr} {xSTEPS_11 : Nat} {xSTEPS_12 : Array (Option Value)} {xSTEPS_13 : Tok} {xSTEPS_14 : Tok} {xSTEPS_15 : Addr} {xSTEPS_16 : Option Addr} {xSTEPS_17 : Nat} {xSTEPS_18 : Array (Option Value)} {xSTEPS_19 : Tok} {xSTEPS_20 : Tok} {xSTEPS_21 : Addr} {xSTEPS_22 : Option Addr} {xSTEPS_23 : Nat} {xSTEPS_24 : Array (Option Value)}
    (hcg : PySem.W.specialIn K (.builtin "object.__class__") "__get__" = some (some (.builtin "getset_descriptor.__get__")))
    (htk : PySem.W.takesIn K (.builtin "object.__class__") = some true)
    (g_NoPlace : PySem.W.nsIn K mainGlobals "NoPlace" = some (some (.ref C_NoPlace)))
    (g_TurnError : PySem.W.nsIn K mainGlobals "TurnError" = some (some (.ref C_TurnError)))
    (hd_NoPlace : PySem.W.hasDictIn K C_NoPlace = true)
    (ga_NoPlace : PySem.W.findIn K (.ref C_NoPlace) "__getattribute__" = some (some (.builtin "BaseException.__getattribute__")))
    (gt_NoPlace : PySem.W.findIn K (.ref C_NoPlace) "__getattr__" = some none)
    (sb_NoPlace : PySem.W.subIn K (.ref C_NoPlace) (.type "BaseException") = some true)
    (ca_NoPlace : PySem.W.findIn K (.ref C_NoPlace) "__class__" = some (some (.builtin "object.__class__")))
    (so_NoPlace : PySem.W.subIn K (.ref C_NoPlace) (.type "object") = some true)
    (sv_NoPlace : PySem.W.subIn K (.ref C_NoPlace) (.type "ValueError") = some true)
    (ty_NoPlace : PySem.W.typeIn K (.ref C_NoPlace) = some (.type "type"))
    (kp_NoPlace : PySem.W.keepIn K (.ref C_NoPlace) = true)
    (se_NoPlace : PySem.W.subIn K (.ref C_NoPlace) (.ref C_NoPlace) = some true)
    (un_NoPlace_NoPlace : PySem.W.subIn K (.ref C_NoPlace) (.ref C_NoPlace) = some true)
    (oc_NoPlace : K.lookup C_NoPlace = some (excClassObj on_NoPlace oq_NoPlace C_NoPlace oN_NoPlace ob_NoPlace om_NoPlace true os_NoPlace ou_NoPlace oa_NoPlace oc_NoPlace od_NoPlace k0_NoPlace k1_NoPlace k2_NoPlace k3_NoPlace k5_NoPlace "ValueError.__new__"))
    (rv_NoPlace : PySem.HandSPX.refsVE om_NoPlace = true)
    (sa_NoPlace : PySem.W.findIn K (.ref C_NoPlace) "__setattr__" = some (some (.builtin "object.__setattr__")))
    (fo_NoPlace : PySem.W.findIn K (.ref C_NoPlace) "place" = some none)
    (ic_NoPlace : PySem.W.findIn K (.ref C_NoPlace) "__init__" = some (some (.ref fI_NoPlace)))
    (ti_NoPlace : PySem.W.typeIn K (.ref fI_NoPlace) = some (.type "function"))
    (li_NoPlace : K.lookup fI_NoPlace = some ⟨ioc_NoPlace, iod_NoPlace, .func (PySem.W.fnOf "__init__" "NoPlace.__init__" (defArgs ini_NoPlace) (defBody ini_NoPlace) (defScope ini_NoPlace) .none ikV_NoPlace idc_NoPlace ipm_NoPlace ian_NoPlace icd_NoPlace ict_NoPlace), isl_NoPlace⟩)
    (ci_NoPlace : PySem.W.codeIn K icd_NoPlace "NoPlace.__init__" = true)
    (ki_NoPlace : PySem.W.keepIn K (.ref fI_NoPlace) = true)
    (tg1 : PySem.W.specialIn K (.ref C_TurnError) "__getattribute__" = some (some (.builtin "type.__getattribute__")))
    (tg2 : PySem.W.readsIn K C_TurnError (.type "type") = true)
    (tg3 : PySem.W.findCls K (.ref C_TurnError) (.type "type") "__init__" = some (.val (.builtin "ValueError.__init__")))
    (g_HEADINGS : PySem.W.nsIn K mainGlobals "HEADINGS" = some (some (.str ⟨([101, 110, 115, 119] : List Nat).toArray⟩ xHEADINGS_1)))
    (g_STEPS : PySem.W.nsIn K mainGlobals "STEPS" = some (some (.ref a_STEPS)))
    (hl_STEPS : K.lookup a_STEPS = some ⟨.type "dict", none, .dict es_STEPS n_STEPS, #[]⟩)
    (hk_STEPS : PySem.W.KeysLit w.params es_STEPS.toList)
    (gv0_STEPS : PySem.W.nsIn K a_STEPS "e" = some (some (.ref xSTEPS_3)))
    (gv1_STEPS : PySem.W.nsIn K a_STEPS "n" = some (some (.ref xSTEPS_9)))
    (gv2_STEPS : PySem.W.nsIn K a_STEPS "s" = some (some (.ref xSTEPS_15)))
    (gv3_STEPS : PySem.W.nsIn K a_STEPS "w" = some (some (.ref xSTEPS_21)))
    (hxSTEPS_3 : K.lookup xSTEPS_3 = some ⟨.type "tuple", xSTEPS_4, .seq (List.toArray [(.int (0) xSTEPS_1), (.int (1) xSTEPS_2)]) xSTEPS_5, xSTEPS_6⟩)
    (hxSTEPS_9 : K.lookup xSTEPS_9 = some ⟨.type "tuple", xSTEPS_10, .seq (List.toArray [(.int (-1) xSTEPS_7), (.int (0) xSTEPS_8)]) xSTEPS_11, xSTEPS_12⟩)
    (hxSTEPS_15 : K.lookup xSTEPS_15 = some ⟨.type "tuple", xSTEPS_16, .seq (List.toArray [(.int (1) xSTEPS_13), (.int (0) xSTEPS_14)]) xSTEPS_17, xSTEPS_18⟩)
    (hxSTEPS_21 : K.lookup xSTEPS_21 = some ⟨.type "tuple", xSTEPS_22, .seq (List.toArray [(.int (0) xSTEPS_19), (.int (-1) xSTEPS_20)]) xSTEPS_23, xSTEPS_24⟩)
    (hd_TurnError : PySem.W.hasDictIn K C_TurnError = true)
    (ga_TurnError : PySem.W.findIn K (.ref C_TurnError) "__getattribute__" = some (some (.builtin "BaseException.__getattribute__")))
    (gt_TurnError : PySem.W.findIn K (.ref C_TurnError) "__getattr__" = some none)
    (sb_TurnError : PySem.W.subIn K (.ref C_TurnError) (.type "BaseException") = some true)
    (ca_TurnError : PySem.W.findIn K (.ref C_TurnError) "__class__" = some (some (.builtin "object.__class__")))
    (so_TurnError : PySem.W.subIn K (.ref C_TurnError) (.type "object") = some true)
    (sv_TurnError : PySem.W.subIn K (.ref C_TurnError) (.type "ValueError") = some true)
    (ty_TurnError : PySem.W.typeIn K (.ref C_TurnError) = some (.type "type"))
    (kp_TurnError : PySem.W.keepIn K (.ref C_TurnError) = true)
    (se_TurnError : PySem.W.subIn K (.ref C_TurnError) (.ref C_TurnError) = some true)
    (un_NoPlace_TurnError : PySem.W.subIn K (.ref C_NoPlace) (.ref C_TurnError) = some true)
    (ex_TurnError : PySem.W.excIn K C_TurnError [.type "ValueError", .type "Exception", .type "BaseException", .type "object"] "ValueError.__new__" = true)
    (st_TurnError : PySem.W.findIn K (.ref C_TurnError) "__str__" = some (some (.builtin "BaseException.__str__")))
    (bz : ∀ y ∈ bnames, PySem.W.nsIn K mainGlobals y = some none) :
    ∃ fd : FuncData, (∀ (s : Shared) (v : Value), BindsTo s fd ⟨[v], []⟩ [("script", v)]) ∧ ∀ base : Heap, K.In base → base.Ns mainGlobals mg → FnOk (KW.mk K P w).P (KW.mk K P w).w (KW.mk K P w).f mg base (L2.CX (KW.mk K P w).P (KW.mk K P w).w) 22 fa fd ["script"] (FnSp (KW.mk K P w) (clsOf (KW.mk K P w)) (f_law.run (prg G0 tb19))) := by
  have e := hfa.symm.trans (PySem.W.mg_of X G a19)
  cases e
  have blt := free_all (K := KW.mk K P w) X G bz
  have F0 := fun_mk (st := top1 16) l0 c0 k0
  have b0 := F0.binds (ps := f_law_seed.ps) fun _ _ _ _ _ _ us hl => match us, hl with | [_], _ => rfl
  have r0 : Row1 (KW.mk K P w) mg "_law_seed" f_law_seed := ⟨_, _, _, F0, PySem.W.mg_of X G a0, b0, sc_f_law_seed, ms_f_law_seed⟩
  have F1 := fun_mk (st := top1 15) l1 c1 k1
  have b1 := F1.binds (ps := f_law_folded.ps) fun _ _ _ _ _ _ us hl => match us, hl with | [_], _ => rfl
  have r1 : Row1 (KW.mk K P w) mg "_law_folded" f_law_folded := ⟨_, _, _, F1, PySem.W.mg_of X G a1, b1, sc_f_law_folded, ms_f_law_folded⟩
  have F2 := fun_mk (st := top1 21) l2 c2 k2
  have b2 := F2.binds (ps := f_law_free.ps) fun _ _ _ _ _ _ us hl => match us, hl with | [_], _ => rfl
  have r2 : Row1 (KW.mk K P w) mg "_law_free" f_law_free := ⟨_, _, _, F2, PySem.W.mg_of X G a2, b2, sc_f_law_free, ms_f_law_free⟩
  have F3 := fun_mk (st := top1 22) l3 c3 k3
  have b3 := F3.binds (ps := f_law_beside.ps) fun _ _ _ _ _ _ us hl => match us, hl with | [_, _], _ => rfl
  have r3 : Row1 (KW.mk K P w) mg "_law_beside" f_law_beside := ⟨_, _, _, F3, PySem.W.mg_of X G a3, b3, sc_f_law_beside, ms_f_law_beside⟩
  have F4 := fun_mk (st := top1 23) l4 c4 k4
  have b4 := F4.binds (ps := f_law_from.ps) fun _ _ _ _ _ _ us hl => match us, hl with | [_, _], _ => rfl
  have r4 : Row1 (KW.mk K P w) mg "_law_from" f_law_from := ⟨_, _, _, F4, PySem.W.mg_of X G a4, b4, sc_f_law_from, ms_f_law_from⟩
  have F5 := fun_mk (st := top1 17) l5 c5 k5
  have b5 := F5.binds (ps := f_law_draw.ps) fun _ _ _ _ _ _ us hl => match us, hl with | [_, _], _ => rfl
  have r5 : Row1 (KW.mk K P w) mg "_law_draw" f_law_draw := ⟨_, _, _, F5, PySem.W.mg_of X G a5, b5, sc_f_law_draw, ms_f_law_draw⟩
  have F6 := fun_mk (st := top1 24) l6 c6 k6
  have b6 := F6.binds (ps := f_law_pair.ps) fun _ _ _ _ _ _ us hl => match us, hl with | [_, _], _ => rfl
  have r6 : Row1 (KW.mk K P w) mg "_law_pair" f_law_pair := ⟨_, _, _, F6, PySem.W.mg_of X G a6, b6, sc_f_law_pair, ms_f_law_pair⟩
  have F7 := fun_mk (st := top1 6) l7 c7 k7
  have b7 := F7.binds (ps := f_is_free.ps) fun _ _ _ _ _ _ us hl => match us, hl with | [_, _], _ => rfl
  have r7 : Row1 (KW.mk K P w) mg "is_free" f_is_free := ⟨_, _, _, F7, PySem.W.mg_of X G a7, b7, sc_f_is_free, ms_f_is_free⟩
  have F8 := fun_mk (st := top1 7) l8 c8 k8
  have b8 := F8.binds (ps := f_need_free.ps) fun _ _ _ _ _ _ us hl => match us, hl with | [_, _], _ => rfl
  have r8 : Row1 (KW.mk K P w) mg "need_free" f_need_free := ⟨_, _, _, F8, PySem.W.mg_of X G a8, b8, sc_f_need_free, ms_f_need_free⟩
  have F9 := fun_mk (st := top1 12) l9 c9 k9
  have b9 := F9.binds (ps := f_told_from.ps) fun _ _ _ _ _ _ us hl => match us, hl with | [_, _, _], _ => rfl
  have r9 : Row1 (KW.mk K P w) mg "told_from" f_told_from := ⟨_, _, _, F9, PySem.W.mg_of X G a9, b9, sc_f_told_from, ms_f_told_from⟩
  have F10 := fun_mk (st := top1 8) l10 c10 k10
  have b10 := F10.binds (ps := f_beside.ps) fun _ _ _ _ _ _ us hl => match us, hl with | [_, _], _ => rfl
  have r10 : Row1 (KW.mk K P w) mg "beside" f_beside := ⟨_, _, _, F10, PySem.W.mg_of X G a10, b10, sc_f_beside, ms_f_beside⟩
  have F11 := fun_mk (st := top1 9) l11 c11 k11
  have b11 := F11.binds (ps := f_straight_on.ps) fun _ _ _ _ _ _ us hl => match us, hl with | [_, _, _], _ => rfl
  have r11 : Row1 (KW.mk K P w) mg "straight_on" f_straight_on := ⟨_, _, _, F11, PySem.W.mg_of X G a11, b11, sc_f_straight_on, ms_f_straight_on⟩
  have F12 := fun_mk (st := top1 10) l12 c12 k12
  have b12 := F12.binds (ps := f_search.ps) fun _ _ _ _ _ _ us hl => match us, hl with | [_, _], _ => rfl
  have r12 : Row1 (KW.mk K P w) mg "search" f_search := ⟨_, _, _, F12, PySem.W.mg_of X G a12, b12, sc_f_search, ms_f_search⟩
  have F13 := fun_mk (st := top1 13) l13 c13 k13
  have b13 := F13.binds (ps := f_least_turns.ps) fun _ _ _ _ _ _ us hl => match us, hl with | [_, _, _], _ => rfl
  have r13 : Row1 (KW.mk K P w) mg "least_turns" f_least_turns := ⟨_, _, _, F13, PySem.W.mg_of X G a13, b13, sc_f_least_turns, ms_f_least_turns⟩
  have F14 := fun_mk (st := top1 25) l14 c14 k14
  have b14 := F14.binds (ps := f_law_is_pair.ps) fun _ _ _ _ _ _ us hl => match us, hl with | [_, _], _ => rfl
  have r14 : Row1 (KW.mk K P w) mg "_law_is_pair" f_law_is_pair := ⟨_, _, _, F14, PySem.W.mg_of X G a14, b14, sc_f_law_is_pair, ms_f_law_is_pair⟩
  have F15 := fun_mk (st := top1 26) l15 c15 k15
  have b15 := F15.binds (ps := f_law_right.ps) fun _ _ _ _ _ _ us hl => match us, hl with | [_, _], _ => rfl
  have r15 : Row1 (KW.mk K P w) mg "_law_right" f_law_right := ⟨_, _, _, F15, PySem.W.mg_of X G a15, b15, sc_f_law_right, ms_f_law_right⟩
  have F16 := fun_mk (st := top1 18) l16 c16 k16
  have b16 := F16.binds (ps := f_law_spiral.ps) fun _ _ _ _ _ _ us hl => match us, hl with | [_, _], _ => rfl
  have r16 : Row1 (KW.mk K P w) mg "_law_spiral" f_law_spiral := ⟨_, _, _, F16, PySem.W.mg_of X G a16, b16, sc_f_law_spiral, ms_f_law_spiral⟩
  have F17 := fun_mk (st := top1 19) l17 c17 k17
  have b17 := F17.binds (ps := f_law_sign.ps) fun _ _ _ _ _ _ us hl => match us, hl with | [_, _, _, _, _], _ => rfl
  have r17 : Row1 (KW.mk K P w) mg "_law_sign" f_law_sign := ⟨_, _, _, F17, PySem.W.mg_of X G a17, b17, sc_f_law_sign, ms_f_law_sign⟩
  have F18 := fun_mk (st := top1 20) l18 c18 k18
  have b18 := F18.binds (ps := f_law_grid.ps) fun _ _ _ _ _ _ us hl => match us, hl with | [_, _], _ => rfl
  have r18 : Row1 (KW.mk K P w) mg "_law_grid" f_law_grid := ⟨_, _, _, F18, PySem.W.mg_of X G a18, b18, sc_f_law_grid, ms_f_law_grid⟩
  have F19 := fun_mk (st := top1 27) l19 c19 k19
  have b19 := F19.binds (ps := f_law.ps) fun _ _ _ _ _ _ us hl => match us, hl with | [_], _ => rfl
  have r19 : Row1 (KW.mk K P w) mg "law" f_law := ⟨_, _, _, F19, PySem.W.mg_of X G a19, b19, sc_f_law, ms_f_law⟩
  have rows0 : ∀ e ∈ tb0, Row1 (KW.mk K P w) mg e.1 e.2 := fun e he => by cases he
  have rows1 : ∀ e ∈ tb1, Row1 (KW.mk K P w) mg e.1 e.2 := fun e he => (List.mem_cons.mp he).elim (fun q => by rw [q]; exact r0) (rows0 e)
  have rows2 : ∀ e ∈ tb2, Row1 (KW.mk K P w) mg e.1 e.2 := fun e he => (List.mem_cons.mp he).elim (fun q => by rw [q]; exact r1) (rows1 e)
  have rows3 : ∀ e ∈ tb3, Row1 (KW.mk K P w) mg e.1 e.2 := fun e he => (List.mem_cons.mp he).elim (fun q => by rw [q]; exact r2) (rows2 e)
  have rows4 : ∀ e ∈ tb4, Row1 (KW.mk K P w) mg e.1 e.2 := fun e he => (List.mem_cons.mp he).elim (fun q => by rw [q]; exact r3) (rows3 e)
  have rows5 : ∀ e ∈ tb5, Row1 (KW.mk K P w) mg e.1 e.2 := fun e he => (List.mem_cons.mp he).elim (fun q => by rw [q]; exact r4) (rows4 e)
  have rows6 : ∀ e ∈ tb6, Row1 (KW.mk K P w) mg e.1 e.2 := fun e he => (List.mem_cons.mp he).elim (fun q => by rw [q]; exact r5) (rows5 e)
  have rows7 : ∀ e ∈ tb7, Row1 (KW.mk K P w) mg e.1 e.2 := fun e he => (List.mem_cons.mp he).elim (fun q => by rw [q]; exact r6) (rows6 e)
  have rows8 : ∀ e ∈ tb8, Row1 (KW.mk K P w) mg e.1 e.2 := fun e he => (List.mem_cons.mp he).elim (fun q => by rw [q]; exact r7) (rows7 e)
  have rows9 : ∀ e ∈ tb9, Row1 (KW.mk K P w) mg e.1 e.2 := fun e he => (List.mem_cons.mp he).elim (fun q => by rw [q]; exact r8) (rows8 e)
  have rows10 : ∀ e ∈ tb10, Row1 (KW.mk K P w) mg e.1 e.2 := fun e he => (List.mem_cons.mp he).elim (fun q => by rw [q]; exact r9) (rows9 e)
  have rows11 : ∀ e ∈ tb11, Row1 (KW.mk K P w) mg e.1 e.2 := fun e he => (List.mem_cons.mp he).elim (fun q => by rw [q]; exact r10) (rows10 e)
  have rows12 : ∀ e ∈ tb12, Row1 (KW.mk K P w) mg e.1 e.2 := fun e he => (List.mem_cons.mp he).elim (fun q => by rw [q]; exact r11) (rows11 e)
  have rows13 : ∀ e ∈ tb13, Row1 (KW.mk K P w) mg e.1 e.2 := fun e he => (List.mem_cons.mp he).elim (fun q => by rw [q]; exact r12) (rows12 e)
  have rows14 : ∀ e ∈ tb14, Row1 (KW.mk K P w) mg e.1 e.2 := fun e he => (List.mem_cons.mp he).elim (fun q => by rw [q]; exact r13) (rows13 e)
  have rows15 : ∀ e ∈ tb15, Row1 (KW.mk K P w) mg e.1 e.2 := fun e he => (List.mem_cons.mp he).elim (fun q => by rw [q]; exact r14) (rows14 e)
  have rows16 : ∀ e ∈ tb16, Row1 (KW.mk K P w) mg e.1 e.2 := fun e he => (List.mem_cons.mp he).elim (fun q => by rw [q]; exact r15) (rows15 e)
  have rows17 : ∀ e ∈ tb17, Row1 (KW.mk K P w) mg e.1 e.2 := fun e he => (List.mem_cons.mp he).elim (fun q => by rw [q]; exact r16) (rows16 e)
  have rows18 : ∀ e ∈ tb18, Row1 (KW.mk K P w) mg e.1 e.2 := fun e he => (List.mem_cons.mp he).elim (fun q => by rw [q]; exact r17) (rows17 e)
  have rows19 : ∀ e ∈ tb19, Row1 (KW.mk K P w) mg e.1 e.2 := fun e he => (List.mem_cons.mp he).elim (fun q => by rw [q]; exact r18) (rows18 e)
  have iF_NoPlace := fun_mk (st := ini_NoPlace) li_NoPlace ci_NoPlace ki_NoPlace
  have iB_NoPlace := iF_NoPlace.binds (ps := ["self", "place"]) fun _ _ _ _ _ _ us hl => match us, hl with | [_, _], _ => rfl
  have q_NoPlace : QG (KW.mk K P w) mg "NoPlace" gd_NoPlace := q_cls (PySem.W.mg_of X G g_NoPlace) (xcl_mk (xis_mk g_NoPlace hd_NoPlace ga_NoPlace gt_NoPlace sb_NoPlace ca_NoPlace hcg htk so_NoPlace sv_NoPlace ty_NoPlace kp_NoPlace) se_NoPlace (und_cons g_NoPlace un_NoPlace_NoPlace und_nil) und_nil (fun _ _ => ini_mk (K := KW.mk K P w) (by decide) ⟨⟨_, _, _, _, _, _, _, _, _, _, _, _, _, _, _, oc_NoPlace, rv_NoPlace⟩, sa_NoPlace, sb_NoPlace, ty_NoPlace, kp_NoPlace⟩ fo_NoPlace ic_NoPlace ti_NoPlace iF_NoPlace iB_NoPlace isc_NoPlace iib_NoPlace g_TurnError tg1 tg2 tg3) (fun z => absurd z (by decide)))
  have q_HEADINGS : QG (KW.mk K P w) mg "HEADINGS" gd_HEADINGS := RK.qg (rk_str (by decide +kernel)) (PySem.W.mg_of X G g_HEADINGS)
  have q_STEPS : QG (KW.mk K P w) mg "STEPS" gd_STEPS := q_dks (PySem.W.mg_of X G g_STEPS) hl_STEPS hk_STEPS (.cons (by decide +kernel) gv0_STEPS (rk_tup hxSTEPS_3 (by simp) (.cons rk_int (.cons rk_int .nil))) (.cons (by decide +kernel) gv1_STEPS (rk_tup hxSTEPS_9 (by simp) (.cons rk_int (.cons rk_int .nil))) (.cons (by decide +kernel) gv2_STEPS (rk_tup hxSTEPS_15 (by simp) (.cons rk_int (.cons rk_int .nil))) (.cons (by decide +kernel) gv3_STEPS (rk_tup hxSTEPS_21 (by simp) (.cons rk_int (.cons rk_int .nil))) .nil))))
  have q_TurnError : QG (KW.mk K P w) mg "TurnError" gd_TurnError := q_cls (PySem.W.mg_of X G g_TurnError) (xcl_mk (xis_mk g_TurnError hd_TurnError ga_TurnError gt_TurnError sb_TurnError ca_TurnError hcg htk so_TurnError sv_TurnError ty_TurnError kp_TurnError) se_TurnError (und_cons g_NoPlace un_NoPlace_TurnError und_nil) und_nil (fun _ z => absurd rfl z) (fun _ => ⟨ex_TurnError, st_TurnError⟩))
  have glob : ∀ y d, G0 y = some d → ∃ v u, mg y = some u ∧ RelV v u ∧ ∀ H, Rep (KW.mk K P w) H d v [] := fun y d hy => by
    unfold G0 at hy
    by_cases e_NoPlace : y = "NoPlace"
    · rw [if_pos e_NoPlace] at hy
      cases hy
      rw [e_NoPlace]
      exact q_NoPlace
    rw [if_neg e_NoPlace] at hy
    by_cases e_HEADINGS : y = "HEADINGS"
    · rw [if_pos e_HEADINGS] at hy
      cases hy
      rw [e_HEADINGS]
      exact q_HEADINGS
    rw [if_neg e_HEADINGS] at hy
    by_cases e_STEPS : y = "STEPS"
    · rw [if_pos e_STEPS] at hy
      cases hy
      rw [e_STEPS]
      exact q_STEPS
    rw [if_neg e_STEPS] at hy
    by_cases e_TurnError : y = "TurnError"
    · rw [if_pos e_TurnError] at hy
      cases hy
      rw [e_TurnError]
      exact q_TurnError
    rw [if_neg e_TurnError] at hy
    cases hy
  exact ⟨_, fun s v => .of_eq rfl, fun base _ _ => fn_okV (K := KW.mk K P w) F19 sc_f_law ms_f_law blt (by rw [prg_G]; exact glob) (by decide) (tbl_ok (K := KW.mk K P w) blt glob tb19 rows19)⟩
end VL
open PySem PySem.W PyProof.Rows
set_option maxHeartbeats 0 in
theorem PySem.Challenge.cw_fewturns_k09_least_turns_holds : PySem.Challenge.rw_fewturns_k09_least_turns.Holds := by
  w_on; o_law; k_head; (case hw => w_witness2)
  k_fill
  refine VL.walkV (VL.f_law.run (VL.prg VL.G0 VL.tb19)) (n := 63) (k := 22) (x := "script") rfl (by decide) rfl ⟨rfl, by decide, by decide⟩ (fun w h Y => PySem.W.kIn_of Y) VL.law_true ?F
  case F =>
    intro w mg fa h KX G hmg
    dsimp only [VL.kwOf] at KX ⊢
    refine' VL.all_mk KX G hmg ?a0 ?l0 ?c0 ?k0 ?a1 ?l1 ?c1 ?k1 ?a2 ?l2 ?c2 ?k2 ?a3 ?l3 ?c3 ?k3 ?a4 ?l4 ?c4 ?k4 ?a5 ?l5 ?c5 ?k5 ?a6 ?l6 ?c6 ?k6 ?a7 ?l7 ?c7 ?k7 ?a8 ?l8 ?c8 ?k8 ?a9 ?l9 ?c9 ?k9 ?a10 ?l10 ?c10 ?k10 ?a11 ?l11 ?c11 ?k11 ?a12 ?l12 ?c12 ?k12 ?a13 ?l13 ?c13 ?k13 ?a14 ?l14 ?c14 ?k14 ?a15 ?l15 ?c15 ?k15 ?a16 ?l16 ?c16 ?k16 ?a17 ?l17 ?c17 ?k17 ?a18 ?l18 ?c18 ?k18 ?a19 ?l19 ?c19 ?k19 ?hcg ?htk ?g_NoPlace ?g_TurnError ?hd_NoPlace ?ga_NoPlace ?gt_NoPlace ?sb_NoPlace ?ca_NoPlace ?so_NoPlace ?sv_NoPlace ?ty_NoPlace ?kp_NoPlace ?se_NoPlace ?un_NoPlace_NoPlace ?oc_NoPlace ?rv_NoPlace ?sa_NoPlace ?fo_NoPlace ?ic_NoPlace ?ti_NoPlace ?li_NoPlace ?ci_NoPlace ?ki_NoPlace ?tg1 ?tg2 ?tg3 ?g_HEADINGS ?g_STEPS ?hl_STEPS ?hk_STEPS ?gv0_STEPS ?gv1_STEPS ?gv2_STEPS ?gv3_STEPS ?hxSTEPS_3 ?hxSTEPS_9 ?hxSTEPS_15 ?hxSTEPS_21 ?hd_TurnError ?ga_TurnError ?gt_TurnError ?sb_TurnError ?ca_TurnError ?so_TurnError ?sv_TurnError ?ty_TurnError ?kp_TurnError ?se_TurnError ?un_NoPlace_TurnError ?ex_TurnError ?st_TurnError ?bz
    (case a0 => k_is); (case l0 => k_is); (case c0 => k_is); (case k0 => k_is)
    (case a1 => k_is); (case l1 => k_is); (case c1 => k_is); (case k1 => k_is)
    (case a2 => k_is); (case l2 => k_is); (case c2 => k_is); (case k2 => k_is)
    (case a3 => k_is); (case l3 => k_is); (case c3 => k_is); (case k3 => k_is)
    (case a4 => k_is); (case l4 => k_is); (case c4 => k_is); (case k4 => k_is)
    (case a5 => k_is); (case l5 => k_is); (case c5 => k_is); (case k5 => k_is)
    (case a6 => k_is); (case l6 => k_is); (case c6 => k_is); (case k6 => k_is)
    (case a7 => k_is); (case l7 => k_is); (case c7 => k_is); (case k7 => k_is)
    (case a8 => k_is); (case l8 => k_is); (case c8 => k_is); (case k8 => k_is)
    (case a9 => k_is); (case l9 => k_is); (case c9 => k_is); (case k9 => k_is)
    (case a10 => k_is); (case l10 => k_is); (case c10 => k_is); (case k10 => k_is)
    (case a11 => k_is); (case l11 => k_is); (case c11 => k_is); (case k11 => k_is)
    (case a12 => k_is); (case l12 => k_is); (case c12 => k_is); (case k12 => k_is)
    (case a13 => k_is); (case l13 => k_is); (case c13 => k_is); (case k13 => k_is)
    (case a14 => k_is); (case l14 => k_is); (case c14 => k_is); (case k14 => k_is)
    (case a15 => k_is); (case l15 => k_is); (case c15 => k_is); (case k15 => k_is)
    (case a16 => k_is); (case l16 => k_is); (case c16 => k_is); (case k16 => k_is)
    (case a17 => k_is); (case l17 => k_is); (case c17 => k_is); (case k17 => k_is)
    (case a18 => k_is); (case l18 => k_is); (case c18 => k_is); (case k18 => k_is)
    (case a19 => k_is); (case l19 => k_is); (case c19 => k_is); (case k19 => k_is)
    (case hcg => k_is)
    (case htk => k_is)
    (case g_NoPlace => k_is)
    (case g_TurnError => k_is)
    (case hd_NoPlace => k_is)
    (case ga_NoPlace => k_is)
    (case gt_NoPlace => k_is)
    (case sb_NoPlace => k_is)
    (case ca_NoPlace => k_is)
    (case so_NoPlace => k_is)
    (case sv_NoPlace => k_is)
    (case ty_NoPlace => k_is)
    (case kp_NoPlace => k_is)
    (case se_NoPlace => k_is)
    (case un_NoPlace_NoPlace => k_is)
    (case oc_NoPlace => k_is)
    (case rv_NoPlace => rfl)
    (case sa_NoPlace => k_is)
    (case fo_NoPlace => k_is)
    (case ic_NoPlace => k_is)
    (case ti_NoPlace => k_is)
    (case li_NoPlace => k_is)
    (case ci_NoPlace => k_is)
    (case ki_NoPlace => k_is)
    (case tg1 => k_is)
    (case tg2 => k_is)
    (case tg3 => k_is)
    (case g_HEADINGS => k_is)
    (case g_STEPS => k_is)
    (case hl_STEPS => k_is)
    (case hk_STEPS => exact ⟨⟨_, _, rfl, rfl⟩, ⟨_, _, rfl, rfl⟩, ⟨_, _, rfl, rfl⟩, ⟨_, _, rfl, rfl⟩, trivial⟩)
    (case gv0_STEPS => k_is)
    (case gv1_STEPS => k_is)
    (case gv2_STEPS => k_is)
    (case gv3_STEPS => k_is)
    (case hxSTEPS_3 => k_is)
    (case hxSTEPS_9 => k_is)
    (case hxSTEPS_15 => k_is)
    (case hxSTEPS_21 => k_is)
    (case hd_TurnError => k_is)
    (case ga_TurnError => k_is)
    (case gt_TurnError => k_is)
    (case sb_TurnError => k_is)
    (case ca_TurnError => k_is)
    (case so_TurnError => k_is)
    (case sv_TurnError => k_is)
    (case ty_TurnError => k_is)
    (case kp_TurnError => k_is)
    (case se_TurnError => k_is)
    (case un_NoPlace_TurnError => k_is)
    (case ex_TurnError => k_exc)
    (case st_TurnError => k_is)
    case bz =>
      intro y hy
      simp only [VL.bnames, List.mem_cons, List.not_mem_nil, or_false] at hy
      rcases hy with rfl | rfl | rfl | rfl | rfl | rfl | rfl | rfl | rfl | rfl | rfl | rfl | rfl | rfl | rfl | rfl | rfl | rfl <;> k_is

