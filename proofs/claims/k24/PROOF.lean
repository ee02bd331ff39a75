import PyProof.Rows.All
import Wide.All
import OpenK.AllK
import Wide.FinOn
import KE.KStateDown
import HandS.Base
import HandS.Call
import HandS.Words
import HandS.WordsExc
import HandS.Exc
import HandS.ExcInit
import HandS.Head0
import HandS.Head1
import HandS.Head2
import HandS.HeadHook1
import HandS.HeadHook2
import HandS.ForMost
import HandS.ForExc
import HandS.CallSlots
import HandS.TupAny
import HandS.IsInst
import HandS.Flow
import HandS.Style
import HandS.TupLe
import PyProof.NeKinds
import HandS.ExcOwn
import HandS.More
import HandS.Small
import HandS.ExcIs
import HandS.ExcField
import HandS.Defaults
import HandS.FStr
import HandS.Star
import HandS.Text
import HandS.OwnEq
import PyProof.ReprRoads
import PyProof.StrLawsRepr
import HandS.Zip
import KE.GoesMore
import HandS.ClsMeth
import HandS.CallLocal
import PyProof.RulesMatch
import PySem.Challenge.RW_laytwice_k24_forms_laid_out
set_option Elab.async false
set_option linter.all false
set_option maxRecDepth 100000
namespace LT
open PySem PySem.Spec PyProof.Rows L2

/-! ### what the walk looks at: the part of the heap that the module's names reach, long tuples left unopened -/
def refsQ (o : Obj) : List Addr := match o.data with
  | .seq its _ => (match Nat.ble its.size 64 with
    | true => He.refsD o
    | false => [])
  | _ => He.refsD o
def reachQ (g : Addr → Option Obj) : Nat → List Addr → Nat → List Addr
  | 0, _, _ => []
  | _ + 1, [], _ => []
  | n + 1, a :: r, seen => match Nat.testBit seen a with
    | true => reachQ g n r seen
    | false => (match g a with
      | some o => a :: HandSHeadRun.frNat (Nat.lor seen (Nat.shiftLeft 1 a)) fun seen => reachQ g n (refsQ o ++ r) seen
      | none => reachQ g n r seen)
def partQ (n : Nat) (g : Addr → Option Obj) : PySem.W.Frag := He.frG g (cStatics :: reachQ g n [mainGlobals] 0)

/-! ### a def's text, off the heap -/
def fdAt (K : PySem.W.Frag) (a : Addr) : FuncData := match K.lookup a with
  | some ⟨_, _, .func fd, _⟩ => fd
  | _ => default
def dfA (K : PySem.W.Frag) (a : Addr) : Addr := match (fdAt K a).defaults with
  | .ref t => t
  | _ => 0
abbrev TxQ : Type := Option (Str × Str × Arguments × FuncBody × Scope × Addr × List (Str × Addr) × Addr)
def txAt (K : PySem.W.Frag) (a : Addr) : TxQ := match K.lookup a with
  | some ⟨_, _, .func fd, _⟩ => some (fd.name, fd.qualname, fd.params, fd.body, fd.scope, fd.globals, fd.closure, fd.builtins)
  | _ => none
structure DefQ where
  at_ : PySem.W.Frag → Addr
  name : Str
  qual : Str
  st : Stmt
def DefQ.val (d : DefQ) : TxQ := some (d.name, d.qual, defArgs d.st, .stmts (defBody d.st), defScope d.st, mainGlobals, [], builtinsNs)
theorem tx_look {K : PySem.W.Frag} {a : Addr} {nm q : Str} {st : Stmt} {dV : Value} (e : txAt K a = some (nm, q, defArgs st, .stmts (defBody st), defScope st, mainGlobals, [], builtinsNs)) (hd : (fdAt K a).defaults = dV) :
    ∃ oc od kV dc pm an ct sl, K.lookup a = some ⟨oc, od, .func (PySem.W.fnOf nm q (defArgs st) (defBody st) (defScope st) dV kV dc pm an (fdAt K a).code ct), sl⟩ := by
  unfold txAt at e
  unfold fdAt at hd ⊢
  split at e
  · rename_i oc od fd sl ho
    simp only [ho] at hd ⊢
    obtain ⟨n1, n2, n3, n4, n5, n6, n7, n8, n9, n10, n11, n12, n13, n14, n15⟩ := fd
    simp only [Option.some.injEq, Prod.mk.injEq] at e
    obtain ⟨h1, h2, h3, h4, h5, h6, h7, h8⟩ := e
    subst h1 h2 h3 h4 h5 h6 h7 h8 hd
    exact ⟨oc, od, n9, n10, n11, n12, n14, sl, rfl⟩
  · cases e

/-! ### tuples, tokens, classes -/
def itsAt (K : PySem.W.Frag) (a : Addr) : Array Value := match K.lookup a with
  | some ⟨_, _, .seq i _, _⟩ => i
  | _ => #[]
def tupAt (K : PySem.W.Frag) (a : Addr) : Bool := match K.lookup a with
  | some ⟨.type c, _, .seq _ _, _⟩ => decide (c = "tuple")
  | _ => false
theorem tup_look {K : PySem.W.Frag} {a : Addr} (h : tupAt K a = true) : ∃ q m s, K.lookup a = some ⟨.type "tuple", q, .seq (itsAt K a) m, s⟩ := by
  unfold tupAt at h
  unfold itsAt
  split at h
  · rename_i c q i m s ho
    simp only [ho]
    have e : c = "tuple" := of_decide_eq_true h
    subst e
    exact ⟨q, m, s, rfl⟩
  · cases h
theorem tup_lookL {K : PySem.W.Frag} {a : Addr} {l : List Value} (h : tupAt K a = true) (hl : (itsAt K a).toList = l) : ∃ q m s, K.lookup a = some ⟨.type "tuple", q, .seq l.toArray m, s⟩ := by
  obtain ⟨q, m, s, e⟩ := tup_look h
  refine ⟨q, m, s, ?_⟩
  rw [e, ← hl]
def tokV : Option Value → Tok
  | some (.int _ t) => t
  | some (.str _ t) => t
  | _ => 0
def refO : Option Value → Addr
  | some (.ref a) => a
  | _ => 0
def tokN (K : PySem.W.Frag) (x : Str) : Tok := match PySem.W.nsIn K mainGlobals x with
  | some v => tokV v
  | none => 0
def itemAt (K : PySem.W.Frag) (a : Addr) (i : Nat) : Option Value := (itsAt K a).toList[i]?
def excQ (K : PySem.W.Frag) (C : Addr) : Bool := match K.lookup C with
  | some ⟨.type c, _, .cls cd, sl⟩ => decide (c = "type") && ((match cd.mro, sl.toList with
    | .ref C' :: bm, [_, _, _, _, some (.builtin n), _] => Nat.beq C' C && (decide (n = "ValueError.__new__") && PySem.HandSPX.refsVE bm)
    | _, _ => false) && (cd.hasDict && !cd.hasDel))
  | _ => false
theorem exc_look {K : PySem.W.Frag} {C : Addr} (h : excQ K C = true) : ∃ nm q N bs bm sn sub ab col dd k0 k1 k2 k3 k5, K.lookup C = some (excClassObj nm q C N bs bm true sn sub ab col dd k0 k1 k2 k3 k5 "ValueError.__new__") ∧ PySem.HandSPX.refsVE bm = true := by
  unfold excQ at h
  split at h
  · rename_i c dd cd sl ho
    obtain ⟨hc, hq⟩ := Bool.and_eq_true_iff.mp h
    clear h
    obtain ⟨h, hx⟩ := Bool.and_eq_true_iff.mp hq
    clear hq
    obtain ⟨hh, hdl⟩ := Bool.and_eq_true_iff.mp hx
    have e : c = "type" := of_decide_eq_true hc
    subst e
    split at h
    · rename_i C' bm k0 k1 k2 k3 n k5 hm hs
      obtain ⟨e1, h2⟩ := Bool.and_eq_true_iff.mp h
      obtain ⟨e2, hr⟩ := Bool.and_eq_true_iff.mp h2
      have e3 : C' = C := Nat.eq_of_beq_eq_true e1
      have e4 : n = "ValueError.__new__" := of_decide_eq_true e2
      subst e3 e4
      obtain ⟨nm, bs, mro, ns, qn, hd, sn, sub, ab, col, del⟩ := cd
      dsimp only at hm hh hdl
      subst hm hh
      have hd2 : del = false := by
        cases del with
        | false => rfl
        | true => cases hdl
      subst hd2
      obtain ⟨sl⟩ := sl
      dsimp only at hs
      subst hs
      exact ⟨nm, qn, ns, bs, bm, sn, sub, ab, col, dd, k0, k1, k2, k3, k5, ho, hr⟩
    · cases h
  · cases h
theorem cls_look {K : PySem.W.Frag} {C : Addr} (h : (PySem.W.clsIn K C).isSome = true) : PySem.W.clsIn K C = some ((PySem.W.clsIn K C).getD default) := by
  cases e : PySem.W.clsIn K C with
  | none =>
    rw [e] at h
    cases h
  | some c => rfl
def cfB : Option PySem.W.CFound → Option PySem.W.CFound → Bool
  | some (.val a), some (.val b) => decide (a = b)
  | some (.get a b c d), some (.get a' b' c' d') => decide (a = a') && (decide (b = b') && (decide (c = c') && decide (d = d')))
  | _, _ => false
theorem cf_look : ∀ {a b : Option PySem.W.CFound}, cfB a b = true → a = b
  | some (.val a), some (.val b), h => by rw [of_decide_eq_true (show decide (a = b) = true from h)]
  | some (.get a b c d), some (.get a' b' c' d'), h => by
    obtain ⟨h1, h⟩ := Bool.and_eq_true_iff.mp (show (decide (a = a') && (decide (b = b') && (decide (c = c') && decide (d = d')))) = true from h)
    obtain ⟨h2, h⟩ := Bool.and_eq_true_iff.mp h
    obtain ⟨h3, h4⟩ := Bool.and_eq_true_iff.mp h
    rw [of_decide_eq_true h1, of_decide_eq_true h2, of_decide_eq_true h3, of_decide_eq_true h4]
  | none, none, h => by cases h
  | none, some _, h => by cases h
  | some (.val _), none, h => by cases h
  | some (.get _ _ _ _), none, h => by cases h
  | some (.val _), some (.get _ _ _ _), h => by cases h
  | some (.get _ _ _ _), some (.val _), h => by cases h
def cmF (K : PySem.W.Frag) (p : Addr) : Addr := match PySem.W.recIn K p "classmethod" with
  | some (.ref f :: _) => f
  | _ => 0
def cmR (K : PySem.W.Frag) (p : Addr) : List Value := match PySem.W.recIn K p "classmethod" with
  | some (_ :: r) => r
  | _ => []

def textsQ : List Value → Option (List Str)
  | [] => some []
  | .str x _ :: us => (textsQ us).map (x :: ·)
  | _ :: _ => none
def refsAllQ : List Value → Bool
  | [] => true
  | .ref _ :: r => refsAllQ r
  | _ => false
/-! ### the Hook -/
abbrev Fq := PySem.W.Frag → Bool
abbrev AlQ : Type := Bool × List TxQ
def obsQ (fs : List Fq) (fn : List DefQ) (K : PySem.W.Frag) : AlQ := (fs.all fun f => f K, fn.map fun d => txAt K (d.at_ K))
def valQ (fn : List DefQ) : AlQ := (true, fn.map DefQ.val)
def SaysQ (fs : List Fq) (fn : List DefQ) (K : PySem.W.Frag) : Prop := obsQ fs fn K = valQ fn
def hookQ (n : Nat) (fs : List Fq) (fn : List DefQ) : PySem.W.Hook where
  α := AlQ
  obs := fun s => obsQ fs fn (partQ n s.heap.get?)
  val := fun _ => valQ fn
  says := fun _ h => ∃ K : PySem.W.Frag, K.In h ∧ SaysQ fs fn K
  of := fun _ _ e => ⟨_, He.frG_in, e⟩
  keeps := fun _ _ _ ⟨K, hK, c⟩ k => ⟨K, PySem.W.Frag.In.keeps hK k, c⟩
theorem obQ_eq {n : Nat} {fs : List Fq} {fn : List DefQ} (s : PySem.W.SharedT) : obsQ fs fn (partQ n (HandSHeadRun.getT s)) = (hookQ n fs fn).obs s.abs := by
  have e : HandSHeadRun.getT s = s.abs.heap.get? := funext fun a => HandSHeadRun.getT_eq s a
  rw [e] <;> rfl
section
variable {fs : List Fq} {fn : List DefQ} {K : PySem.W.Frag}
theorem SaysQ.fact (c : SaysQ fs fn K) (i : Nat) {f : Fq} (h : fs[i]? = some f) : f K = true :=
  List.all_eq_true.mp (show (fs.all fun f => f K) = true from congrArg (fun z : AlQ => z.1) c) f (List.mem_of_getElem? h)
theorem SaysQ.text (c : SaysQ fs fn K) (i : Nat) {d : DefQ} (h : fn[i]? = some d) : txAt K (d.at_ K) = d.val := by
  have e : fn.map (fun d => txAt K (d.at_ K)) = fn.map DefQ.val := congrArg (fun z : AlQ => z.2) c
  have e2 : (fn.map fun d => txAt K (d.at_ K))[i]? = (fn.map DefQ.val)[i]? := by rw [e]
  rw [List.getElem?_map, List.getElem?_map, h] at e2
  exact Option.some.inj e2
end
end LT
set_option Elab.async false
set_option linter.all false
set_option maxRecDepth 100000
set_option maxHeartbeats 0
namespace LawR
open PySem PySem.Spec PyProof.Rows L2 LT
def topS (i : Nat) : Stmt := PySem.Challenge.pw_laytwice_k24_forms_laid_out.main.body.getD i (.Pass ⟨0, 0, 0, 0⟩)
def fq0 : Fq := fun K => decide (PySem.W.nsIn K mainGlobals "LayError" = some (some (.ref (He.ga K "LayError"))))
def fq1 : Fq := fun K => decide (PySem.W.nsIn K mainGlobals "InvalidRow" = some (some (.ref (He.ga K "InvalidRow"))))
def fq2 : Fq := fun K => decide (PySem.W.nsIn K mainGlobals "InvalidTool" = some (some (.ref (He.ga K "InvalidTool"))))
def fq3 : Fq := fun K => decide (PySem.W.nsIn K mainGlobals "NoRow" = some (some (.ref (He.ga K "NoRow"))))
def fq4 : Fq := fun K => decide (PySem.W.nsIn K mainGlobals "Row" = some (some (.ref (He.ga K "Row"))))
def fq5 : Fq := fun K => decide (PySem.W.nsIn K mainGlobals "Tool" = some (some (.ref (He.ga K "Tool"))))
def fq6 : Fq := fun K => decide (PySem.W.nsIn K mainGlobals "abs" = some none)
def fq7 : Fq := fun K => decide (PySem.W.nsIn K mainGlobals "all" = some none)
def fq8 : Fq := fun K => decide (PySem.W.nsIn K mainGlobals "bool" = some none)
def fq9 : Fq := fun K => decide (PySem.W.nsIn K mainGlobals "int" = some none)
def fq10 : Fq := fun K => decide (PySem.W.nsIn K mainGlobals "isinstance" = some none)
def fq11 : Fq := fun K => decide (PySem.W.nsIn K mainGlobals "len" = some none)
def fq12 : Fq := fun K => decide (PySem.W.nsIn K mainGlobals "list" = some none)
def fq13 : Fq := fun K => decide (PySem.W.nsIn K mainGlobals "max" = some none)
def fq14 : Fq := fun K => decide (PySem.W.nsIn K mainGlobals "min" = some none)
def fq15 : Fq := fun K => decide (PySem.W.nsIn K mainGlobals "range" = some none)
def fq16 : Fq := fun K => decide (PySem.W.nsIn K mainGlobals "repr" = some none)
def fq17 : Fq := fun K => decide (PySem.W.nsIn K mainGlobals "str" = some none)
def fq18 : Fq := fun K => decide (PySem.W.nsIn K mainGlobals "tuple" = some none)
def fq19 : Fq := fun K => decide (PySem.W.nsIn K mainGlobals "NOT" = some (some (.str "not " (tokN K "NOT"))))
def fq20 : Fq := fun K => decide (PySem.W.nsIn K mainGlobals "TESTS" = some (some (.ref (He.ga K "TESTS"))))
def fq21 : Fq := fun K => tupAt K (He.ga K "TESTS")
def fq22 : Fq := fun K => decide ((itsAt K (He.ga K "TESTS")).size ≤ sizeLine)
def fq23 : Fq := fun K => decide (textsQ (itsAt K (He.ga K "TESTS")).toList = some (["broken", "marked", "left", "ahead", "behind", "blank", "long", "first", "afterbroken", "afterbehind"] : List Str))
def fq24 : Fq := fun K => decide (PySem.W.nsIn K mainGlobals "DEEDS" = some (some (.ref (He.ga K "DEEDS"))))
def fq25 : Fq := fun K => tupAt K (He.ga K "DEEDS")
def fq26 : Fq := fun K => decide ((itsAt K (He.ga K "DEEDS")).size ≤ sizeLine)
def fq27 : Fq := fun K => decide (textsQ (itsAt K (He.ga K "DEEDS")).toList = some (["break", "join", "mark", "unmark", "lift", "lower", "space", "close"] : List Str))
def fq28 : Fq := fun K => decide (PySem.W.nsIn K mainGlobals "FORMS" = some (some (.ref (He.ga K "FORMS"))))
def fq29 : Fq := fun K => tupAt K (He.ga K "FORMS")
def fq30 : Fq := fun K => decide ((itsAt K (He.ga K "FORMS")).size ≤ sizeLine)
def fq31 : Fq := fun K => decide ((itsAt K (He.ga K "FORMS")).size = 432)
def fq32 : Fq := fun K => decide (refsAllQ (itsAt K (He.ga K "FORMS")).toList = true)
def fq33 : Fq := fun K => decide (PySem.W.plainGet K (He.ga K "Row") Str.empty = true)
def fq34 : Fq := fun K => decide (PySem.W.hasDictIn K (He.ga K "Row") = true)
def fq35 : Fq := fun K => decide (PySem.W.plainOver K (He.ga K "Row") = true)
def fq36 : Fq := fun K => decide (PySem.W.findIn K (.ref (He.ga K "Row")) "__setattr__" = some (some (.builtin "object.__setattr__")))
def fq37 : Fq := fun K => decide (PySem.W.makesIn K (He.ga K "Row") = true)
def fq38 : Fq := fun K => decide (PySem.W.keepIn K (.ref (He.ga K "Row")) = true)
def fq39 : Fq := fun K => decide (PySem.W.plainGet K (He.ga K "Tool") Str.empty = true)
def fq40 : Fq := fun K => decide (PySem.W.hasDictIn K (He.ga K "Tool") = true)
def fq41 : Fq := fun K => decide (PySem.W.plainOver K (He.ga K "Tool") = true)
def fq42 : Fq := fun K => decide (PySem.W.findIn K (.ref (He.ga K "Tool")) "__setattr__" = some (some (.builtin "object.__setattr__")))
def fq43 : Fq := fun K => decide (PySem.W.makesIn K (He.ga K "Tool") = true)
def fq44 : Fq := fun K => decide (PySem.W.keepIn K (.ref (He.ga K "Tool")) = true)
def fq45 : Fq := fun K => decide (PySem.W.findIn K (.ref (He.ga K "Row")) "__class__" = some (some (.builtin "object.__class__")))
def fq46 : Fq := fun K => decide (PySem.W.specialIn K (.builtin "object.__class__") "__get__" = some (some (.builtin "getset_descriptor.__get__")))
def fq47 : Fq := fun K => decide (PySem.W.takesIn K (.builtin "object.__class__") = some true)
def fq48 : Fq := fun K => decide (PySem.W.mroIn K (He.ga K "Row") (.type "object") = some true)
def fq49 : Fq := fun K => decide (PySem.W.findIn K (.ref (He.ga K "Tool")) "__class__" = some (some (.builtin "object.__class__")))
def fq50 : Fq := fun K => decide (PySem.W.specialIn K (.builtin "object.__class__") "__get__" = some (some (.builtin "getset_descriptor.__get__")))
def fq51 : Fq := fun K => decide (PySem.W.takesIn K (.builtin "object.__class__") = some true)
def fq52 : Fq := fun K => decide (PySem.W.mroIn K (He.ga K "Tool") (.type "object") = some true)
def fq53 : Fq := fun K => decide (PySem.W.subIn K (.ref (He.ga K "Row")) (.type "tuple") = some false)
def fq54 : Fq := fun K => decide (PySem.W.subIn K (.ref (He.ga K "Row")) (.type "list") = some false)
def fq55 : Fq := fun K => decide (PySem.W.subIn K (.ref (He.ga K "Tool")) (.type "tuple") = some false)
def fq56 : Fq := fun K => decide (PySem.W.subIn K (.ref (He.ga K "Tool")) (.type "list") = some false)
def fq57 : Fq := fun K => decide (PySem.W.subIn K (.ref (He.ga K "Row")) (.type "bool") = some false)
def fq58 : Fq := fun K => decide (PySem.W.subIn K (.ref (He.ga K "Tool")) (.type "bool") = some false)
def fq59 : Fq := fun K => decide (PySem.W.subIn K (.ref (He.ga K "Row")) (.type "str") = some false)
def fq60 : Fq := fun K => decide (PySem.W.subIn K (.ref (He.ga K "Tool")) (.type "str") = some false)
def fq61 : Fq := fun K => decide (PySem.W.isClsIn K (He.ga K "Row") = true)
def fq62 : Fq := fun K => decide (PySem.W.typeIn K (.ref (He.ga K "Row")) = some (.type "type"))
def fq63 : Fq := fun K => decide (PySem.W.subIn K (.ref (He.ga K "Row")) (.ref (He.ga K "Row")) = some true)
def fq64 : Fq := fun K => decide (PySem.W.subIn K (.ref (He.ga K "Tool")) (.ref (He.ga K "Row")) = some false)
def fq65 : Fq := fun K => decide ((He.ga K "Tool") ≠ (He.ga K "Row"))
def fq66 : Fq := fun K => decide (PySem.W.subIn K (.type "NoneType") (.ref (He.ga K "Row")) = some false)
def fq67 : Fq := fun K => decide (PySem.W.subIn K (.type "bool") (.ref (He.ga K "Row")) = some false)
def fq68 : Fq := fun K => decide (PySem.W.subIn K (.type "int") (.ref (He.ga K "Row")) = some false)
def fq69 : Fq := fun K => decide (PySem.W.subIn K (.type "str") (.ref (He.ga K "Row")) = some false)
def fq70 : Fq := fun K => decide (PySem.W.subIn K (.type "tuple") (.ref (He.ga K "Row")) = some false)
def fq71 : Fq := fun K => decide (PySem.W.subIn K (.type "list") (.ref (He.ga K "Row")) = some false)
def fq72 : Fq := fun K => decide (PySem.W.subIn K (.type "dict") (.ref (He.ga K "Row")) = some false)
def fq73 : Fq := fun K => decide (PySem.W.findIn K (.ref (He.ga K "Tool")) "rows" = some none)
def fq74 : Fq := fun K => decide (PySem.W.findIn K (.ref (He.ga K "Tool")) "sorts" = some none)
def fq75 : Fq := fun K => decide (PySem.W.findIn K (.ref (He.ga K "Row")) "tests" = some none)
def fq76 : Fq := fun K => decide (PySem.W.findIn K (.ref (He.ga K "Row")) "deeds" = some none)
def fq77 : Fq := fun K => excQ K (He.ga K "InvalidRow")
def fq78 : Fq := fun K => decide (PySem.W.findIn K (.ref (He.ga K "InvalidRow")) "__setattr__" = some (some (.builtin "object.__setattr__")))
def fq79 : Fq := fun K => decide (PySem.W.subIn K (.ref (He.ga K "InvalidRow")) (.type "BaseException") = some true)
def fq80 : Fq := fun K => decide (PySem.W.typeIn K (.ref (He.ga K "InvalidRow")) = some (.type "type"))
def fq81 : Fq := fun K => decide (PySem.W.keepIn K (.ref (He.ga K "InvalidRow")) = true)
def fq82 : Fq := fun K => decide (PySem.W.findIn K (.ref (He.ga K "InvalidRow")) "part" = some none)
def fq83 : Fq := fun K => decide (PySem.W.findIn K (.ref (He.ga K "InvalidRow")) "__init__" = some (some (.ref (He.ma K (He.ga K "InvalidRow") "__init__"))))
def fq84 : Fq := fun K => decide (PySem.W.typeIn K (.ref (He.ma K (He.ga K "InvalidRow") "__init__")) = some (.type "function"))
def fq85 : Fq := fun K => decide ((fdAt K (He.ma K (He.ga K "InvalidRow") "__init__")).defaults = .none)
abbrev st_InvalidRowD_initD : Stmt := inClass (topS 11) 0
def dq0 : DefQ := ⟨fun K => (He.ma K (He.ga K "InvalidRow") "__init__"), "__init__", "InvalidRow.__init__", st_InvalidRowD_initD⟩
def fq86 : Fq := fun K => decide (PySem.W.codeIn K (fdAt K (He.ma K (He.ga K "InvalidRow") "__init__")).code "InvalidRow.__init__" = true)
def fq87 : Fq := fun K => decide (PySem.W.keepIn K (.ref (He.ma K (He.ga K "InvalidRow") "__init__")) = true)
def fq88 : Fq := fun K => decide (PySem.W.specialIn K (.ref (He.ga K "LayError")) "__getattribute__" = some (some (.builtin "type.__getattribute__")))
def fq89 : Fq := fun K => decide (PySem.W.readsIn K (He.ga K "LayError") (.type "type") = true)
def fq90 : Fq := fun K => decide (PySem.W.typeIn K (.ref (He.ga K "LayError")) = some (.type "type"))
def fq91 : Fq := fun K => cfB (PySem.W.findCls K (.ref (He.ga K "LayError")) (.type "type") "__init__") (some (.val (.builtin "ValueError.__init__")))
def fq92 : Fq := fun K => decide (PySem.W.nsIn K mainGlobals "_law_forms" = some (some (.ref (He.ga K "_law_forms"))))
def fq93 : Fq := fun K => decide ((fdAt K (He.ga K "_law_forms")).defaults = .none)
abbrev st_law_forms : Stmt := topS 33
def dq1 : DefQ := ⟨fun K => (He.ga K "_law_forms"), "_law_forms", "_law_forms", st_law_forms⟩
def fq94 : Fq := fun K => decide (PySem.W.codeIn K (fdAt K (He.ga K "_law_forms")).code "_law_forms" = true)
def fq95 : Fq := fun K => decide (PySem.W.keepIn K (.ref (He.ga K "_law_forms")) = true)
def fq96 : Fq := fun K => decide (PySem.W.nsIn K mainGlobals "_law_box" = some (some (.ref (He.ga K "_law_box"))))
def fq97 : Fq := fun K => decide ((fdAt K (He.ga K "_law_box")).defaults = .none)
abbrev st_law_box : Stmt := topS 26
def dq2 : DefQ := ⟨fun K => (He.ga K "_law_box"), "_law_box", "_law_box", st_law_box⟩
def fq98 : Fq := fun K => decide (PySem.W.codeIn K (fdAt K (He.ga K "_law_box")).code "_law_box" = true)
def fq99 : Fq := fun K => decide (PySem.W.keepIn K (.ref (He.ga K "_law_box")) = true)
def fq100 : Fq := fun K => decide (PySem.W.nsIn K mainGlobals "_law_take" = some (some (.ref (He.ga K "_law_take"))))
def fq101 : Fq := fun K => decide ((fdAt K (He.ga K "_law_take")).defaults = .none)
abbrev st_law_take : Stmt := topS 27
def dq3 : DefQ := ⟨fun K => (He.ga K "_law_take"), "_law_take", "_law_take", st_law_take⟩
def fq102 : Fq := fun K => decide (PySem.W.codeIn K (fdAt K (He.ga K "_law_take")).code "_law_take" = true)
def fq103 : Fq := fun K => decide (PySem.W.keepIn K (.ref (He.ga K "_law_take")) = true)
def fq104 : Fq := fun K => decide (PySem.W.nsIn K mainGlobals "_law_pick" = some (some (.ref (He.ga K "_law_pick"))))
def fq105 : Fq := fun K => decide ((fdAt K (He.ga K "_law_pick")).defaults = .none)
abbrev st_law_pick : Stmt := topS 28
def dq4 : DefQ := ⟨fun K => (He.ga K "_law_pick"), "_law_pick", "_law_pick", st_law_pick⟩
def fq106 : Fq := fun K => decide (PySem.W.codeIn K (fdAt K (He.ga K "_law_pick")).code "_law_pick" = true)
def fq107 : Fq := fun K => decide (PySem.W.keepIn K (.ref (He.ga K "_law_pick")) = true)
def fq108 : Fq := fun K => decide (PySem.W.nsIn K mainGlobals "_law_test" = some (some (.ref (He.ga K "_law_test"))))
def fq109 : Fq := fun K => decide ((fdAt K (He.ga K "_law_test")).defaults = .none)
abbrev st_law_test : Stmt := topS 29
def dq5 : DefQ := ⟨fun K => (He.ga K "_law_test"), "_law_test", "_law_test", st_law_test⟩
def fq110 : Fq := fun K => decide (PySem.W.codeIn K (fdAt K (He.ga K "_law_test")).code "_law_test" = true)
def fq111 : Fq := fun K => decide (PySem.W.keepIn K (.ref (He.ga K "_law_test")) = true)
def fq112 : Fq := fun K => decide (PySem.W.nsIn K mainGlobals "_law_row" = some (some (.ref (He.ga K "_law_row"))))
def fq113 : Fq := fun K => decide ((fdAt K (He.ga K "_law_row")).defaults = .none)
abbrev st_law_row : Stmt := topS 30
def dq6 : DefQ := ⟨fun K => (He.ga K "_law_row"), "_law_row", "_law_row", st_law_row⟩
def fq114 : Fq := fun K => decide (PySem.W.codeIn K (fdAt K (He.ga K "_law_row")).code "_law_row" = true)
def fq115 : Fq := fun K => decide (PySem.W.keepIn K (.ref (He.ga K "_law_row")) = true)
def fq116 : Fq := fun K => decide (PySem.W.nsIn K mainGlobals "_law_tool" = some (some (.ref (He.ga K "_law_tool"))))
def fq117 : Fq := fun K => decide ((fdAt K (He.ga K "_law_tool")).defaults = .none)
abbrev st_law_tool : Stmt := topS 31
def dq7 : DefQ := ⟨fun K => (He.ga K "_law_tool"), "_law_tool", "_law_tool", st_law_tool⟩
def fq118 : Fq := fun K => decide (PySem.W.codeIn K (fdAt K (He.ga K "_law_tool")).code "_law_tool" = true)
def fq119 : Fq := fun K => decide (PySem.W.keepIn K (.ref (He.ga K "_law_tool")) = true)
def fq120 : Fq := fun K => decide (PySem.W.nsIn K mainGlobals "is_sequence" = some (some (.ref (He.ga K "is_sequence"))))
def fq121 : Fq := fun K => decide ((fdAt K (He.ga K "is_sequence")).defaults = .none)
abbrev st_is_sequence : Stmt := topS 18
def dq8 : DefQ := ⟨fun K => (He.ga K "is_sequence"), "is_sequence", "is_sequence", st_is_sequence⟩
def fq122 : Fq := fun K => decide (PySem.W.codeIn K (fdAt K (He.ga K "is_sequence")).code "is_sequence" = true)
def fq123 : Fq := fun K => decide (PySem.W.keepIn K (.ref (He.ga K "is_sequence")) = true)
def fq124 : Fq := fun K => decide (PySem.W.findIn K (.ref (He.ga K "Tool")) "__init__" = some (some (.ref (He.ma K (He.ga K "Tool") "__init__"))))
def fq125 : Fq := fun K => decide (PySem.W.isFn K (.ref (He.ma K (He.ga K "Tool") "__init__")) = true)
def fq126 : Fq := fun K => decide ((fdAt K (He.ma K (He.ga K "Tool") "__init__")).defaults = (.ref (dfA K (He.ma K (He.ga K "Tool") "__init__"))))
abbrev st_ToolD_initD : Stmt := inClass (topS 24) 0
def dq9 : DefQ := ⟨fun K => (He.ma K (He.ga K "Tool") "__init__"), "__init__", "Tool.__init__", st_ToolD_initD⟩
def fq127 : Fq := fun K => decide (PySem.W.codeIn K (fdAt K (He.ma K (He.ga K "Tool") "__init__")).code "Tool.__init__" = true)
def fq128 : Fq := fun K => decide (PySem.W.keepIn K (.ref (He.ma K (He.ga K "Tool") "__init__")) = true)
def fq129 : Fq := fun K => tupAt K (dfA K (He.ma K (He.ga K "Tool") "__init__"))
def fq130 : Fq := fun K => decide ((itsAt K (dfA K (He.ma K (He.ga K "Tool") "__init__"))).toList = [.ref (refO (itemAt K (dfA K (He.ma K (He.ga K "Tool") "__init__")) 0)), .bool false])
def fq131 : Fq := fun K => tupAt K (refO (itemAt K (dfA K (He.ma K (He.ga K "Tool") "__init__")) 0))
def fq132 : Fq := fun K => decide ((itsAt K (refO (itemAt K (dfA K (He.ma K (He.ga K "Tool") "__init__")) 0))).toList = [])
def fq133 : Fq := fun K => decide (PySem.W.nsIn K mainGlobals "is_test" = some (some (.ref (He.ga K "is_test"))))
def fq134 : Fq := fun K => decide ((fdAt K (He.ga K "is_test")).defaults = .none)
abbrev st_is_test : Stmt := topS 20
def dq10 : DefQ := ⟨fun K => (He.ga K "is_test"), "is_test", "is_test", st_is_test⟩
def fq135 : Fq := fun K => decide (PySem.W.codeIn K (fdAt K (He.ga K "is_test")).code "is_test" = true)
def fq136 : Fq := fun K => decide (PySem.W.keepIn K (.ref (He.ga K "is_test")) = true)
def fq137 : Fq := fun K => decide (PySem.W.nsIn K mainGlobals "is_word" = some (some (.ref (He.ga K "is_word"))))
def fq138 : Fq := fun K => decide ((fdAt K (He.ga K "is_word")).defaults = .none)
abbrev st_is_word : Stmt := topS 19
def dq11 : DefQ := ⟨fun K => (He.ga K "is_word"), "is_word", "is_word", st_is_word⟩
def fq139 : Fq := fun K => decide (PySem.W.codeIn K (fdAt K (He.ga K "is_word")).code "is_word" = true)
def fq140 : Fq := fun K => decide (PySem.W.keepIn K (.ref (He.ga K "is_word")) = true)
def fq141 : Fq := fun K => decide (PySem.W.findIn K (.ref (He.ga K "Row")) "__init__" = some (some (.ref (He.ma K (He.ga K "Row") "__init__"))))
def fq142 : Fq := fun K => decide (PySem.W.isFn K (.ref (He.ma K (He.ga K "Row") "__init__")) = true)
def fq143 : Fq := fun K => decide ((fdAt K (He.ma K (He.ga K "Row") "__init__")).defaults = (.ref (dfA K (He.ma K (He.ga K "Row") "__init__"))))
abbrev st_RowD_initD : Stmt := inClass (topS 22) 0
def dq12 : DefQ := ⟨fun K => (He.ma K (He.ga K "Row") "__init__"), "__init__", "Row.__init__", st_RowD_initD⟩
def fq144 : Fq := fun K => decide (PySem.W.codeIn K (fdAt K (He.ma K (He.ga K "Row") "__init__")).code "Row.__init__" = true)
def fq145 : Fq := fun K => decide (PySem.W.keepIn K (.ref (He.ma K (He.ga K "Row") "__init__")) = true)
def fq146 : Fq := fun K => tupAt K (dfA K (He.ma K (He.ga K "Row") "__init__"))
def fq147 : Fq := fun K => decide ((itsAt K (dfA K (He.ma K (He.ga K "Row") "__init__"))).toList = [.ref (refO (itemAt K (dfA K (He.ma K (He.ga K "Row") "__init__")) 0)), .ref (refO (itemAt K (dfA K (He.ma K (He.ga K "Row") "__init__")) 1))])
def fq148 : Fq := fun K => tupAt K (refO (itemAt K (dfA K (He.ma K (He.ga K "Row") "__init__")) 0))
def fq149 : Fq := fun K => decide ((itsAt K (refO (itemAt K (dfA K (He.ma K (He.ga K "Row") "__init__")) 0))).toList = [])
def fq150 : Fq := fun K => tupAt K (refO (itemAt K (dfA K (He.ma K (He.ga K "Row") "__init__")) 1))
def fq151 : Fq := fun K => decide ((itsAt K (refO (itemAt K (dfA K (He.ma K (He.ga K "Row") "__init__")) 1))).toList = [])
def fq152 : Fq := fun K => decide (PySem.W.nsIn K mainGlobals "_law_tool_of" = some (some (.ref (He.ga K "_law_tool_of"))))
def fq153 : Fq := fun K => decide ((fdAt K (He.ga K "_law_tool_of")).defaults = .none)
abbrev st_law_tool_of : Stmt := topS 32
def dq13 : DefQ := ⟨fun K => (He.ga K "_law_tool_of"), "_law_tool_of", "_law_tool_of", st_law_tool_of⟩
def fq154 : Fq := fun K => decide (PySem.W.codeIn K (fdAt K (He.ga K "_law_tool_of")).code "_law_tool_of" = true)
def fq155 : Fq := fun K => decide (PySem.W.keepIn K (.ref (He.ga K "_law_tool_of")) = true)
def fq156 : Fq := fun K => decide (PySem.W.nsIn K mainGlobals "_law_is_long_form" = some (some (.ref (He.ga K "_law_is_long_form"))))
def fq157 : Fq := fun K => decide ((fdAt K (He.ga K "_law_is_long_form")).defaults = .none)
abbrev st_law_is_long_form : Stmt := topS 34
def dq14 : DefQ := ⟨fun K => (He.ga K "_law_is_long_form"), "_law_is_long_form", "_law_is_long_form", st_law_is_long_form⟩
def fq158 : Fq := fun K => decide (PySem.W.codeIn K (fdAt K (He.ga K "_law_is_long_form")).code "_law_is_long_form" = true)
def fq159 : Fq := fun K => decide (PySem.W.keepIn K (.ref (He.ga K "_law_is_long_form")) = true)
def fq160 : Fq := fun K => decide (PySem.W.nsIn K mainGlobals "_law_asks" = some (some (.ref (He.ga K "_law_asks"))))
def fq161 : Fq := fun K => decide ((fdAt K (He.ga K "_law_asks")).defaults = .none)
abbrev st_law_asks : Stmt := topS 35
def dq15 : DefQ := ⟨fun K => (He.ga K "_law_asks"), "_law_asks", "_law_asks", st_law_asks⟩
def fq162 : Fq := fun K => decide (PySem.W.codeIn K (fdAt K (He.ga K "_law_asks")).code "_law_asks" = true)
def fq163 : Fq := fun K => decide (PySem.W.keepIn K (.ref (He.ga K "_law_asks")) = true)
def fq164 : Fq := fun K => decide (PySem.W.nsIn K mainGlobals "_law_laid" = some (some (.ref (He.ga K "_law_laid"))))
def fq165 : Fq := fun K => decide ((fdAt K (He.ga K "_law_laid")).defaults = .none)
abbrev st_law_laid : Stmt := topS 36
def dq16 : DefQ := ⟨fun K => (He.ga K "_law_laid"), "_law_laid", "_law_laid", st_law_laid⟩
def fq166 : Fq := fun K => decide (PySem.W.codeIn K (fdAt K (He.ga K "_law_laid")).code "_law_laid" = true)
def fq167 : Fq := fun K => decide (PySem.W.keepIn K (.ref (He.ga K "_law_laid")) = true)
def fq168 : Fq := fun K => decide (PySem.W.nsIn K mainGlobals "is_long" = some (some (.ref (He.ga K "is_long"))))
def fq169 : Fq := fun K => decide ((fdAt K (He.ga K "is_long")).defaults = .none)
abbrev st_is_long : Stmt := topS 3
def dq17 : DefQ := ⟨fun K => (He.ga K "is_long"), "is_long", "is_long", st_is_long⟩
def fq170 : Fq := fun K => decide (PySem.W.codeIn K (fdAt K (He.ga K "is_long")).code "is_long" = true)
def fq171 : Fq := fun K => decide (PySem.W.keepIn K (.ref (He.ga K "is_long")) = true)
def fq172 : Fq := fun K => decide (PySem.W.nsIn K mainGlobals "holds" = some (some (.ref (He.ga K "holds"))))
def fq173 : Fq := fun K => decide ((fdAt K (He.ga K "holds")).defaults = .none)
abbrev st_holds : Stmt := topS 4
def dq18 : DefQ := ⟨fun K => (He.ga K "holds"), "holds", "holds", st_holds⟩
def fq174 : Fq := fun K => decide (PySem.W.codeIn K (fdAt K (He.ga K "holds")).code "holds" = true)
def fq175 : Fq := fun K => decide (PySem.W.keepIn K (.ref (He.ga K "holds")) = true)
def fq176 : Fq := fun K => decide (PySem.W.nsIn K mainGlobals "is_done" = some (some (.ref (He.ga K "is_done"))))
def fq177 : Fq := fun K => decide ((fdAt K (He.ga K "is_done")).defaults = .none)
abbrev st_is_done : Stmt := topS 6
def dq19 : DefQ := ⟨fun K => (He.ga K "is_done"), "is_done", "is_done", st_is_done⟩
def fq178 : Fq := fun K => decide (PySem.W.codeIn K (fdAt K (He.ga K "is_done")).code "is_done" = true)
def fq179 : Fq := fun K => decide (PySem.W.keepIn K (.ref (He.ga K "is_done")) = true)
def fq180 : Fq := fun K => decide (PySem.W.nsIn K mainGlobals "done" = some (some (.ref (He.ga K "done"))))
def fq181 : Fq := fun K => decide ((fdAt K (He.ga K "done")).defaults = .none)
abbrev st_done : Stmt := topS 5
def dq20 : DefQ := ⟨fun K => (He.ga K "done"), "done", "done", st_done⟩
def fq182 : Fq := fun K => decide (PySem.W.codeIn K (fdAt K (He.ga K "done")).code "done" = true)
def fq183 : Fq := fun K => decide (PySem.W.keepIn K (.ref (He.ga K "done")) = true)
def fq184 : Fq := fun K => decide (PySem.W.nsIn K mainGlobals "lay_by" = some (some (.ref (He.ga K "lay_by"))))
def fq185 : Fq := fun K => decide ((fdAt K (He.ga K "lay_by")).defaults = .none)
abbrev st_lay_by : Stmt := topS 7
def dq21 : DefQ := ⟨fun K => (He.ga K "lay_by"), "lay_by", "lay_by", st_lay_by⟩
def fq186 : Fq := fun K => decide (PySem.W.codeIn K (fdAt K (He.ga K "lay_by")).code "lay_by" = true)
def fq187 : Fq := fun K => decide (PySem.W.keepIn K (.ref (He.ga K "lay_by")) = true)
def fq188 : Fq := fun K => decide (PySem.W.nsIn K mainGlobals "lay" = some (some (.ref (He.ga K "lay"))))
def fq189 : Fq := fun K => decide ((fdAt K (He.ga K "lay")).defaults = .none)
abbrev st_lay : Stmt := topS 8
def dq22 : DefQ := ⟨fun K => (He.ga K "lay"), "lay", "lay", st_lay⟩
def fq190 : Fq := fun K => decide (PySem.W.codeIn K (fdAt K (He.ga K "lay")).code "lay" = true)
def fq191 : Fq := fun K => decide (PySem.W.keepIn K (.ref (He.ga K "lay")) = true)
def fq192 : Fq := fun K => decide (PySem.W.nsIn K mainGlobals "law" = some (some (.ref (He.ga K "law"))))
def fq193 : Fq := fun K => decide ((fdAt K (He.ga K "law")).defaults = .none)
abbrev st_law : Stmt := topS 37
def dq23 : DefQ := ⟨fun K => (He.ga K "law"), "law", "law", st_law⟩
def fq194 : Fq := fun K => decide (PySem.W.codeIn K (fdAt K (He.ga K "law")).code "law" = true)
def fq195 : Fq := fun K => decide (PySem.W.keepIn K (.ref (He.ga K "law")) = true)
def fsQ : List Fq := ([fq0, fq1, fq2, fq3, fq4, fq5, fq6, fq7, fq8, fq9, fq10, fq11, fq12, fq13, fq14, fq15, fq16, fq17, fq18, fq19, fq20, fq21, fq22, fq23, fq24, fq25, fq26, fq27, fq28, fq29] : List Fq) ++ (([fq30, fq31, fq32, fq33, fq34, fq35, fq36, fq37, fq38, fq39, fq40, fq41, fq42, fq43, fq44, fq45, fq46, fq47, fq48, fq49, fq50, fq51, fq52, fq53, fq54, fq55, fq56, fq57, fq58, fq59] : List Fq) ++ (([fq60, fq61, fq62, fq63, fq64, fq65, fq66, fq67, fq68, fq69, fq70, fq71, fq72, fq73, fq74, fq75, fq76, fq77, fq78, fq79, fq80, fq81, fq82, fq83, fq84, fq85, fq86, fq87, fq88, fq89] : List Fq) ++ (([fq90, fq91, fq92, fq93, fq94, fq95, fq96, fq97, fq98, fq99, fq100, fq101, fq102, fq103, fq104, fq105, fq106, fq107, fq108, fq109, fq110, fq111, fq112, fq113, fq114, fq115, fq116, fq117, fq118, fq119] : List Fq) ++ (([fq120, fq121, fq122, fq123, fq124, fq125, fq126, fq127, fq128, fq129, fq130, fq131, fq132, fq133, fq134, fq135, fq136, fq137, fq138, fq139, fq140, fq141, fq142, fq143, fq144, fq145, fq146, fq147, fq148, fq149] : List Fq) ++ (([fq150, fq151, fq152, fq153, fq154, fq155, fq156, fq157, fq158, fq159, fq160, fq161, fq162, fq163, fq164, fq165, fq166, fq167, fq168, fq169, fq170, fq171, fq172, fq173, fq174, fq175, fq176, fq177, fq178, fq179] : List Fq) ++ (([fq180, fq181, fq182, fq183, fq184, fq185, fq186, fq187, fq188, fq189, fq190, fq191, fq192, fq193, fq194, fq195] : List Fq)))))))
def fnQ : List DefQ := ([dq0, dq1, dq2, dq3, dq4, dq5, dq6, dq7, dq8, dq9, dq10, dq11, dq12, dq13, dq14, dq15, dq16, dq17, dq18, dq19, dq20, dq21, dq22, dq23] : List DefQ)
def looseQ : List Str := (["_wall", "FORMS", "is_long", "holds", "done", "is_done", "lay_by", "lay", "LayError", "InvalidRow", "InvalidTool", "NoRow", "TESTS", "DEEDS", "NOT", "is_sequence", "is_word", "is_test", "Row", "row_in", "Tool", "_law_box", "_law_take", "_law_pick", "_law_test", "_law_row", "_law_tool", "_law_tool_of", "_law_forms", "_law_is_long_form"] : List Str) ++ ((["_law_asks", "_law_laid"] : List Str))
abbrev RQ : PySem.W.OpenRow := PySem.W.OpenLaw.row PySem.Challenge.rw_laytwice_k24_forms_laid_out
abbrev hkQ : PySem.W.Hook := hookQ 4000 fsQ fnQ
def obQ (s : PySem.W.SharedT) : AlQ := obsQ fsQ fnQ (partQ 4000 (HandSHeadRun.getT s))
theorem runQ (w : World) : HandSHeadRun.RunEq RQ (PySem.W.view RQ.prog [37]) hkQ obQ 20000 looseQ w := by
  intro os
  kernel_rfl
end LawR
set_option Elab.async false
set_option linter.all false
set_option maxRecDepth 100000
namespace LT
open PySem PySem.Spec PyProof.Rows L2

/-! ### data, the store, results -/
inductive Dt where
  | non | bl (b : Bool) | int (i : Int) | str (s : List Nat) | tup (xs : List Dt) | rl (xs : List Dt) | li (xs : List Dt) | ob (c : Nat) (fs : List (Nat × Dt)) | dv (kvs : List (Dt × Dt)) | ref (i : Nat) | cl (c : Nat)
inductive Ob where
  | lst (xs : List Dt) | dk (kvs : List (Dt × Dt)) | ins (c : Nat) (fs : List (Nat × Dt))
abbrev Sto := List Ob
abbrev Lo := List (Option Dt)
inductive Re (α : Type) where
  | ok (a : α) (st : Sto) | exc (c : Nat) (fs : List (Nat × Dt)) (st : Sto) | stuck
inductive Rs where
  | nx (e : Lo) (st : Sto) | rt (d : Dt) (st : Sto) | bk (e : Lo) (st : Sto) | ct (e : Lo) (st : Sto)
  | ex (e : Lo) (c : Nat) (fs : List (Nat × Dt)) (st : Sto) | stuck
def Re.bind {α β : Type} (r : Re α) (f : α → Sto → Re β) : Re β := match r with
  | .ok a st => f a st
  | .exc c fs st => .exc c fs st
  | .stuck => .stuck
theorem Re.bind_ok {α β : Type} (a : α) (st : Sto) (f : α → Sto → Re β) : (Re.ok a st).bind f = f a st := rfl
theorem Re.bind_assoc {α β γ : Type} (r : Re α) (f : α → Sto → Re β) (g : β → Sto → Re γ) : (r.bind f).bind g = r.bind fun a st => (f a st).bind g := by cases r <;> rfl
/-- a result of an expression within a statement -/
def Re.on {α : Type} (r : Re α) (env : Lo) (f : α → Sto → Rs) : Rs := match r with
  | .ok a st => f a st
  | .exc c fs st => .ex env c fs st
  | .stuck => .stuck
theorem Re.on_ok {α : Type} (a : α) (st : Sto) (env : Lo) (f : α → Sto → Rs) : (Re.ok a st).on env f = f a st := rfl
abbrev M (α : Type) := Lo → Sto → Re α
abbrev ME := M Dt
abbrev MT := M Bool
abbrev MA := M (List Dt)
abbrev MS := Lo → Sto → Rs
abbrev MF := List Dt → Sto → Re Dt

/-! ### the tables of a text: classes, fields -/
structure Tz where
  cls : Nat → Addr
  fld : Nat → Str
  inj : ∀ i j, fld i = fld j → i = j
/-- with the addresses that are set aside -/
structure Tb where
  b : Tz
  rs : List Addr
abbrev Tb.cls (T : Tb) : Nat → Addr := T.b.cls
abbrev Tb.fld (T : Tb) : Nat → Str := T.b.fld
theorem Tb.inj (T : Tb) : ∀ i j, T.fld i = T.fld j → i = j := T.b.inj

/-! ### what stands for what -/
def SqF (K : PySem.W.Frag) (H : Hp) (a : Addr) (xs : List V) : Prop :=
  (∃ o, H a = some (.frz o (.lst xs))) ∨ ∃ (o : Obj) (its : Array Value) (n : Nat), K.lookup a = some o ∧ o.cls = .type "list" ∧ o.dict = none ∧ o.data = .seq its n ∧ its.size ≤ sizeLine ∧ Vals xs its.toList
theorem SqF.sq {K : PySem.W.Frag} {H : Hp} {a : Addr} {xs : List V} (h : SqF K H a xs) : SqL K H a xs := by
  rcases h with ⟨o, h⟩ | h
  · exact .inl (.inr ⟨o, h⟩)
  · exact .inr h
def KR : Dt → Key → Prop
  | .int i, .inl j => i = j
  | .str s, .inr x => x.cps.toList = s
  | _, _ => False
mutual
inductive RV (K : PySem.W.Frag) (T : Tb) (H : Hp) (f : List Addr) : Dt → V → Prop
  | non : RV K T H f .non .non
  | bl (b : Bool) : RV K T H f (.bl b) (.bl b)
  | int (i : Int) : RV K T H f (.int i) (.int i)
  | str (x : Str) : RV K T H f (.str x.cps.toList) (.str x)
  | tup {ds : List Dt} {vs : List V} {a : Addr} (h : SqT K H a vs) (r : RVs K T H f ds vs) : RV K T H f (.tup ds) (.ref a)
  | rl {ds : List Dt} {vs : List V} {a : Addr} (h : SqF K H a vs) (r : RVs K T H f ds vs) : RV K T H f (.rl ds) (.ref a)
  | li {ds : List Dt} {vs : List V} {a : Addr} (hf : a ∉ f ∧ a ∉ T.rs) (h : H a = some (.lst vs)) (r : RVs K T H f ds vs) : RV K T H f (.li ds) (.ref a)
  | ob {c : Nat} {fs : List (Nat × Dt)} {vs : List (Str × V)} {a dx : Addr} (hf : a ∉ f ∧ a ∉ T.rs) (h : H a = some (.ins (T.cls c) dx vs)) (r : FR K T H f fs vs) : RV K T H f (.ob c fs) (.ref a)
  | dv {kvs : List (Dt × Dt)} {vs : List (Key × V)} {a : Addr} (hf : a ∉ f ∧ a ∉ T.rs) (h : H a = some (.dK vs)) (r : DR K T H f kvs vs) : RV K T H f (.dv kvs) (.ref a)
  | ref {i : Nat} {a : Addr} (h : f[i]? = some a) : RV K T H f (.ref i) (.ref a)
  | cl (c : Nat) : RV K T H f (.cl c) (.ref (T.cls c))
inductive RVs (K : PySem.W.Frag) (T : Tb) (H : Hp) (f : List Addr) : List Dt → List V → Prop
  | nil : RVs K T H f [] []
  | cons {d : Dt} {v : V} {ds : List Dt} {vs : List V} (h : RV K T H f d v) (t : RVs K T H f ds vs) : RVs K T H f (d :: ds) (v :: vs)
inductive FR (K : PySem.W.Frag) (T : Tb) (H : Hp) (f : List Addr) : List (Nat × Dt) → List (Str × V) → Prop
  | nil : FR K T H f [] []
  | cons {i : Nat} {d : Dt} {v : V} {fs : List (Nat × Dt)} {vs : List (Str × V)} (h : RV K T H f d v) (t : FR K T H f fs vs) : FR K T H f ((i, d) :: fs) ((T.fld i, v) :: vs)
inductive DR (K : PySem.W.Frag) (T : Tb) (H : Hp) (f : List Addr) : List (Dt × Dt) → List (Key × V) → Prop
  | nil : DR K T H f [] []
  | cons {k d : Dt} {q : Key} {v : V} {fs : List (Dt × Dt)} {vs : List (Key × V)} (hk : KR k q) (h : RV K T H f d v) (t : DR K T H f fs vs) : DR K T H f ((k, d) :: fs) ((q, v) :: vs)
end
/-- what is promised from one heap to the next: what is not tracked stays -/
structure Stay0 (K : PySem.W.Frag) (T : Tb) (f : List Addr) (H : Hp) (f' : List Addr) (H' : Hp) : Prop where
  t : ∀ a xs, SqT K H a xs → SqT K H' a xs
  l : ∀ a xs, SqF K H a xs → SqF K H' a xs
  o : ∀ a u, a ∉ f → a ∉ T.rs → H a = some u → H' a = some u
  n : ∀ a, a ∈ f' → a ∈ f ∨ H a = none
/-- .. and what is set aside -/
structure Stay (K : PySem.W.Frag) (T : Tb) (f : List Addr) (H : Hp) (f' : List Addr) (H' : Hp) : Prop extends Stay0 K T f H f' H' where
  r : ∀ a u, a ∉ f → a ∈ T.rs → H a = some u → H' a = some u
theorem Stay.refl {K : PySem.W.Frag} {T : Tb} {f : List Addr} {H : Hp} : Stay K T f H f H := ⟨⟨fun _ _ h => h, fun _ _ h => h, fun _ _ _ _ h => h, fun _ h => .inl h⟩, fun _ _ _ _ h => h⟩
theorem Stay0.off {K : PySem.W.Frag} {T : Tb} {f f' : List Addr} {H H' : Hp} (s : Stay0 K T f H f' H') {a : Addr} {u : HO} (hf : a ∉ f) (h : H a = some u) : a ∉ f' := fun z => by
  rcases s.n a z with q | q
  · exact hf q
  · rw [h] at q; cases q
theorem Stay.any {K : PySem.W.Frag} {T : Tb} {f f' : List Addr} {H H' : Hp} (s : Stay K T f H f' H') {a : Addr} {u : HO} (hf : a ∉ f) (h : H a = some u) : H' a = some u := by
  by_cases hr : a ∈ T.rs
  · exact s.r a u hf hr h
  · exact s.o a u hf hr h
theorem Stay.trans {K : PySem.W.Frag} {T : Tb} {f f1 f2 : List Addr} {H H1 H2 : Hp} (a : Stay K T f H f1 H1) (b : Stay K T f1 H1 f2 H2) : Stay K T f H f2 H2 :=
  ⟨⟨fun p xs h => b.t p xs (a.t p xs h), fun p xs h => b.l p xs (a.l p xs h), fun p u hf hr h => b.o p u (a.off hf h) hr (a.o p u hf hr h), fun p hp => by
    rcases b.n p hp with q | q
    · exact a.n p q
    · by_cases hf : p ∈ f
      · exact .inl hf
      · cases e : H p with
        | none => exact .inr rfl
        | some u => rw [a.any hf e] at q; cases q⟩, fun p u hf hr h => b.r p u (a.off hf h) hr (a.r p u hf hr h)⟩
theorem Stay.tl {K : PySem.W.Frag} {H : Hp} {p : Addr} {o : HO} (ht : ∀ xs, H p ≠ some (.tup xs)) (hf : ∀ q u, H p ≠ some (.frz q u)) : (∀ a xs, SqT K H a xs → SqT K (upd H p o) a xs) ∧ ∀ a xs, SqF K H a xs → SqF K (upd H p o) a xs := by
  refine ⟨fun a xs h => ?_, fun a xs h => ?_⟩
  · rcases h with (h | ⟨q, h⟩) | h
    · exact .inl (.inl (by rw [upd_ne (fun e => ht xs (by rw [← e]; exact h))]; exact h))
    · exact .inl (.inr ⟨q, by rw [upd_ne (fun e => hf _ _ (by rw [← e]; exact h))]; exact h⟩)
    · exact .inr h
  · rcases h with ⟨q, h⟩ | h
    · exact .inl ⟨q, by rw [upd_ne (fun e => hf _ _ (by rw [← e]; exact h))]; exact h⟩
    · exact .inr h
/-- one tracked address may change that is no tuple and not locked -/
theorem Stay.but {K : PySem.W.Frag} {T : Tb} {f : List Addr} {H : Hp} {p : Addr} {o : HO} (hm : p ∈ f) (ht : ∀ xs, H p ≠ some (.tup xs)) (hf : ∀ q u, H p ≠ some (.frz q u)) : Stay K T f H f (upd H p o) :=
  ⟨⟨(Stay.tl ht hf).1, (Stay.tl ht hf).2, fun a u ha _ h => by rw [upd_ne (fun e => ha (by rw [e]; exact hm))]; exact h, fun _ h => .inl h⟩, fun a u ha _ h => by rw [upd_ne (fun e => ha (by rw [e]; exact hm))]; exact h⟩
/-- one address that is set aside may change -/
theorem Stay0.aside {K : PySem.W.Frag} {T : Tb} {f : List Addr} {H : Hp} {p : Addr} {o : HO} (hm : p ∈ T.rs) (ht : ∀ xs, H p ≠ some (.tup xs)) (hf : ∀ q u, H p ≠ some (.frz q u)) : Stay0 K T f H f (upd H p o) :=
  ⟨(Stay.tl ht hf).1, (Stay.tl ht hf).2, fun a u _ ha h => by rw [upd_ne (fun e => ha (by rw [e]; exact hm))]; exact h, fun _ h => .inl h⟩
theorem Stay.new {K : PySem.W.Frag} {T : Tb} {f : List Addr} {H : Hp} {p : Addr} {o : HO} (h : H p = none) : Stay K T f H f (upd H p o) :=
  have q := Stay.tl (K := K) (H := H) (p := p) (o := o) (fun xs e => by rw [h] at e; cases e) (fun q u e => by rw [h] at e; cases e)
  ⟨⟨q.1, q.2, fun a u _ _ e => by rw [upd_ne (fun z => by rw [z, h] at e; cases e)]; exact e, fun _ h => .inl h⟩, fun a u _ _ e => by rw [upd_ne (fun z => by rw [z, h] at e; cases e)]; exact e⟩
/-- the same, the new one tracked -/
theorem Stay.newA {K : PySem.W.Frag} {T : Tb} {f : List Addr} {H : Hp} {p : Addr} {o : HO} (h : H p = none) : Stay K T f H (f ++ [p]) (upd H p o) :=
  have q := Stay.new (K := K) (T := T) (f := f) (o := o) h
  ⟨⟨q.t, q.l, q.o, fun a ha => by
    rcases List.mem_append.mp ha with z | z
    · exact .inl z
    · have : a = p := by simpa using z
      rw [this]; exact .inr h⟩, q.r⟩

section
variable {K : PySem.W.Frag} {T : Tb} {H H' : Hp} {f f' : List Addr}
theorem mem_of {i : Nat} {a : Addr} (h : f[i]? = some a) : a ∈ f := List.mem_iff_getElem?.mpr ⟨i, h⟩
theorem get_pre {i : Nat} {a : Addr} (hp : f <+: f') (h : f[i]? = some a) : f'[i]? = some a := by
  obtain ⟨t, rfl⟩ := hp
  have hl : i < f.length := by
    rcases Nat.lt_or_ge i f.length with g | g
    · exact g
    · rw [List.getElem?_eq_none g] at h; cases h
  rw [List.getElem?_append_left hl]
  exact h
mutual
theorem RV.mono0 (hp : f <+: f') (s : Stay0 K T f H f' H') : ∀ {d : Dt} {v : V}, RV K T H f d v → RV K T H' f' d v
  | _, _, .non => .non
  | _, _, .bl b => .bl b
  | _, _, .int i => .int i
  | _, _, .str x => .str x
  | _, _, .tup h r => .tup (s.t _ _ h) (RVs.mono0 hp s r)
  | _, _, .rl h r => .rl (s.l _ _ h) (RVs.mono0 hp s r)
  | _, _, .li hf h r => .li ⟨s.off hf.1 h, hf.2⟩ (s.o _ _ hf.1 hf.2 h) (RVs.mono0 hp s r)
  | _, _, .ob hf h r => .ob ⟨s.off hf.1 h, hf.2⟩ (s.o _ _ hf.1 hf.2 h) (FR.mono0 hp s r)
  | _, _, .dv hf h r => .dv ⟨s.off hf.1 h, hf.2⟩ (s.o _ _ hf.1 hf.2 h) (DR.mono0 hp s r)
  | _, _, .ref h => .ref (get_pre hp h)
  | _, _, .cl c => .cl c
theorem RVs.mono0 (hp : f <+: f') (s : Stay0 K T f H f' H') : ∀ {ds : List Dt} {vs : List V}, RVs K T H f ds vs → RVs K T H' f' ds vs
  | _, _, .nil => .nil
  | _, _, .cons h t => .cons (RV.mono0 hp s h) (RVs.mono0 hp s t)
theorem FR.mono0 (hp : f <+: f') (s : Stay0 K T f H f' H') : ∀ {fs : List (Nat × Dt)} {vs : List (Str × V)}, FR K T H f fs vs → FR K T H' f' fs vs
  | _, _, .nil => .nil
  | _, _, .cons h t => .cons (RV.mono0 hp s h) (FR.mono0 hp s t)
theorem DR.mono0 (hp : f <+: f') (s : Stay0 K T f H f' H') : ∀ {fs : List (Dt × Dt)} {vs : List (Key × V)}, DR K T H f fs vs → DR K T H' f' fs vs
  | _, _, .nil => .nil
  | _, _, .cons hk h t => .cons hk (RV.mono0 hp s h) (DR.mono0 hp s t)
end
theorem RV.mono (hp : f <+: f') (s : Stay K T f H f' H') {d : Dt} {v : V} (r : RV K T H f d v) : RV K T H' f' d v := r.mono0 hp s.toStay0
theorem RVs.mono (hp : f <+: f') (s : Stay K T f H f' H') {ds : List Dt} {vs : List V} (r : RVs K T H f ds vs) : RVs K T H' f' ds vs := r.mono0 hp s.toStay0
theorem FR.mono (hp : f <+: f') (s : Stay K T f H f' H') {fs : List (Nat × Dt)} {vs : List (Str × V)} (r : FR K T H f fs vs) : FR K T H' f' fs vs := r.mono0 hp s.toStay0
theorem DR.mono (hp : f <+: f') (s : Stay K T f H f' H') {fs : List (Dt × Dt)} {vs : List (Key × V)} (r : DR K T H f fs vs) : DR K T H' f' fs vs := r.mono0 hp s.toStay0
theorem RVs.len : ∀ {ds : List Dt} {vs : List V}, RVs K T H f ds vs → ds.length = vs.length
  | _, _, .nil => rfl
  | _, _, .cons _ t => by rw [List.length_cons, List.length_cons, RVs.len t]
theorem RVs.get : ∀ {ds : List Dt} {vs : List V} {i : Nat} {d : Dt}, RVs K T H f ds vs → ds[i]? = some d → ∃ v, vs[i]? = some v ∧ RV K T H f d v
  | _, _, _, _, .nil, e => by simp at e
  | _, _, 0, _, .cons h _, e => by simp at e; subst e; exact ⟨_, rfl, h⟩
  | _, _, i + 1, _, .cons _ t, e => by
    obtain ⟨v, h1, h2⟩ := RVs.get (i := i) t (by simpa using e)
    exact ⟨v, by simpa using h1, h2⟩
theorem RVs.get' : ∀ {ds : List Dt} {vs : List V} {i : Nat} {v : V}, RVs K T H f ds vs → vs[i]? = some v → ∃ d, ds[i]? = some d ∧ RV K T H f d v
  | _, _, _, _, .nil, e => by simp at e
  | _, _, 0, _, .cons h _, e => by simp at e; subst e; exact ⟨_, rfl, h⟩
  | _, _, i + 1, _, .cons _ t, e => by
    obtain ⟨v, h1, h2⟩ := RVs.get' (i := i) t (by simpa using e)
    exact ⟨v, by simpa using h1, h2⟩
theorem RVs.app : ∀ {ds es : List Dt} {vs ws : List V}, RVs K T H f ds vs → RVs K T H f es ws → RVs K T H f (ds ++ es) (vs ++ ws)
  | _, _, _, _, .nil, s => s
  | _, _, _, _, .cons h t, s => .cons h (RVs.app t s)
theorem RVs.one {d : Dt} {v : V} (h : RV K T H f d v) : RVs K T H f [d] [v] := .cons h .nil
theorem RVs.set {d : Dt} {v : V} (r : RV K T H f d v) : ∀ {ds : List Dt} {vs : List V} (i : Nat), RVs K T H f ds vs → RVs K T H f (ds.set i d) (vs.set i v)
  | _, _, _, .nil => .nil
  | _, _, 0, .cons _ t => .cons r t
  | _, _, i + 1, .cons h t => .cons h (RVs.set r i t)
theorem RVs.take : ∀ {ds : List Dt} {vs : List V} (n : Nat), RVs K T H f ds vs → RVs K T H f (ds.take n) (vs.take n)
  | _, _, 0, _ => .nil
  | _, _, _ + 1, .nil => .nil
  | _, _, n + 1, .cons r t => .cons r (RVs.take n t)
theorem RVs.drop : ∀ {ds : List Dt} {vs : List V} (n : Nat), RVs K T H f ds vs → RVs K T H f (ds.drop n) (vs.drop n)
  | _, _, 0, r => r
  | _, _, _ + 1, .nil => .nil
  | _, _, n + 1, .cons _ t => RVs.drop n t
theorem RVs.rev : ∀ {ds : List Dt} {vs : List V}, RVs K T H f ds vs → RVs K T H f ds.reverse vs.reverse
  | _, _, .nil => .nil
  | _, _, .cons h t => by
    rw [List.reverse_cons, List.reverse_cons]
    exact RVs.app (RVs.rev t) (.one h)
end

/-! ### locals, objects, the store -/
structure REn (K : PySem.W.Frag) (T : Tb) (H : Hp) (f : List Addr) (env : Lo) (σ : L2.St) : Prop where
  len : env.length = σ.length
  get : ∀ (i : Nat) (d : Dt), env[i]? = some (some d) → ∃ v, σ[i]? = some (some v) ∧ RV K T H f d v
def RO (K : PySem.W.Frag) (T : Tb) (H : Hp) (f : List Addr) (a : Addr) : Ob → Prop
  | .lst ds => ∃ vs, H a = some (.lst vs) ∧ RVs K T H f ds vs
  | .dk kvs => ∃ vs, H a = some (.dK vs) ∧ DR K T H f kvs vs
  | .ins c fs => ∃ dx vs, H a = some (.ins (T.cls c) dx vs) ∧ FR K T H f fs vs
structure RH (K : PySem.W.Frag) (T : Tb) (f : List Addr) (H : Hp) (st : Sto) : Prop where
  len : f.length = st.length
  nd : f.Nodup
  obj : ∀ (i : Nat) (o : Ob) (a : Addr), st[i]? = some o → f[i]? = some a → RO K T H f a o
  rsv : ∀ a, a ∈ T.rs → a ∉ f ∧ ∃ u, H a = some u
section
variable {K : PySem.W.Frag} {T : Tb} {H H' : Hp} {f f' : List Addr} {env : Lo} {σ : L2.St} {st : Sto}
theorem REn.mono0 (r : REn K T H f env σ) (hp : f <+: f') (s : Stay0 K T f H f' H') : REn K T H' f' env σ := ⟨r.len, fun i d e => by
  obtain ⟨v, h1, h2⟩ := r.get i d e
  exact ⟨v, h1, h2.mono0 hp s⟩⟩
theorem REn.mono (r : REn K T H f env σ) (hp : f <+: f') (s : Stay K T f H f' H') : REn K T H' f' env σ := r.mono0 hp s.toStay0
theorem REn.set (r : REn K T H f env σ) {i : Nat} {d : Dt} {v : V} (h : RV K T H f d v) : REn K T H f (env.set i (some d)) (σ.set i (some v)) := ⟨by rw [List.length_set, List.length_set]; exact r.len, fun j e hj => by
  by_cases q : i = j
  · subst q
    have hl : i < env.length := by
      rcases Nat.lt_or_ge i env.length with g | g
      · exact g
      · rw [List.getElem?_eq_none (by rw [List.length_set]; exact g)] at hj; cases hj
    rw [List.getElem?_set_self hl] at hj
    cases hj
    exact ⟨v, List.getElem?_set_self (by rw [← r.len]; exact hl), h⟩
  · rw [List.getElem?_set_ne q] at hj
    obtain ⟨w, h1, h2⟩ := r.get j e hj
    exact ⟨w, by rw [List.getElem?_set_ne q]; exact h1, h2⟩⟩
theorem REn.wipe1 (r : REn K T H f env σ) {i : Nat} {x : Option V} : REn K T H f (env.set i none) (σ.set i x) := ⟨by rw [List.length_set, List.length_set]; exact r.len, fun j e hj => by
  by_cases q : i = j
  · subst q
    rw [List.getElem?_set] at hj
    split at hj
    · split at hj <;> cases hj
    · exact absurd rfl (by assumption)
  · rw [List.getElem?_set_ne q] at hj
    obtain ⟨w, h1, h2⟩ := r.get j e hj
    exact ⟨w, by rw [List.getElem?_set_ne q]; exact h1, h2⟩⟩
theorem RO.keep0 {a : Addr} {o : Ob} (hp : f <+: f') (s : Stay0 K T f H f' H') (e : H' a = H a) (r : RO K T H f a o) : RO K T H' f' a o := by
  cases o with
  | lst ds => obtain ⟨vs, h1, h2⟩ := r; exact ⟨vs, e.trans h1, h2.mono0 hp s⟩
  | dk kvs => obtain ⟨vs, h1, h2⟩ := r; exact ⟨vs, e.trans h1, h2.mono0 hp s⟩
  | ins c fs => obtain ⟨dx, vs, h1, h2⟩ := r; exact ⟨dx, vs, e.trans h1, h2.mono0 hp s⟩
theorem RO.keep {a : Addr} {o : Ob} (hp : f <+: f') (s : Stay K T f H f' H') (e : H' a = H a) (r : RO K T H f a o) : RO K T H' f' a o := r.keep0 hp s.toStay0 e
theorem RO.some {a : Addr} {o : Ob} (r : RO K T H f a o) : ∃ u, H a = some u ∧ (∀ xs, u ≠ .tup xs) ∧ ∀ q w, u ≠ .frz q w := by
  cases o with
  | lst ds => obtain ⟨vs, h1, _⟩ := r; exact ⟨_, h1, fun _ z => HO.noConfusion z, fun _ _ z => HO.noConfusion z⟩
  | dk ds => obtain ⟨vs, h1, _⟩ := r; exact ⟨_, h1, fun _ z => HO.noConfusion z, fun _ _ z => HO.noConfusion z⟩
  | ins c fs => obtain ⟨dx, vs, h1, _⟩ := r; exact ⟨_, h1, fun _ z => HO.noConfusion z, fun _ _ z => HO.noConfusion z⟩
theorem RO.stay {a : Addr} {o : Ob} (r : RO K T H f a o) (hm : a ∈ f) (u : HO) : Stay K T f H f (upd H a u) := by
  obtain ⟨w, h, h1, h2⟩ := r.some
  exact Stay.but hm (fun xs e => by rw [h] at e; cases e; exact h1 xs rfl) (fun q v e => by rw [h] at e; cases e; exact h2 q v rfl)
theorem RH.lt (r : RH K T f H st) {i : Nat} {a : Addr} (h : f[i]? = some a) : ∃ o, st[i]? = some o := by
  have hl : i < f.length := by
    rcases Nat.lt_or_ge i f.length with g | g
    · exact g
    · rw [List.getElem?_eq_none g] at h; cases h
  exact ⟨st[i]'(by rw [← r.len]; exact hl), List.getElem?_eq_getElem _⟩
theorem RH.addr (r : RH K T f H st) {i : Nat} {o : Ob} (h : st[i]? = some o) : ∃ a, f[i]? = some a := by
  have hl : i < st.length := by
    rcases Nat.lt_or_ge i st.length with g | g
    · exact g
    · rw [List.getElem?_eq_none g] at h; cases h
  exact ⟨f[i]'(by rw [r.len]; exact hl), List.getElem?_eq_getElem _⟩
theorem RH.fresh (r : RH K T f H st) {p : Addr} (h : H p = none) : p ∉ f := fun hm => by
  obtain ⟨i, hi⟩ := List.mem_iff_getElem?.mp hm
  obtain ⟨o, ho⟩ := r.lt hi
  obtain ⟨u, hu, _⟩ := (r.obj i o p ho hi).some
  rw [h] at hu; cases hu
theorem RH.free (r : RH K T f H st) {p : Addr} (h : H p = none) : p ∉ f ∧ p ∉ T.rs := ⟨r.fresh h, fun z => by
  obtain ⟨_, u, e⟩ := r.rsv p z
  rw [h] at e; cases e⟩
theorem RH.ne (r : RH K T f H st) {i j : Nat} {a b : Addr} (hi : f[i]? = some a) (hj : f[j]? = some b) (h : i ≠ j) : a ≠ b := fun e => by
  subst e
  obtain ⟨hi1, hi2⟩ := List.getElem?_eq_some_iff.mp hi
  exact h ((List.getElem?_inj hi1 r.nd).mp (hi.trans hj.symm))
/-- a new object -/
theorem RH.new (r : RH K T f H st) {p : Addr} {u : HO} {o : Ob} (h : H p = none) (new : RO K T (upd H p u) (f ++ [p]) p o) : RH K T (f ++ [p]) (upd H p u) (st ++ [o]) := by
  refine ⟨by rw [List.length_append, List.length_append, r.len]; rfl, ?_, fun i w a hi ha => ?_, fun a ha => ?_⟩
  · refine List.nodup_append.mpr ⟨r.nd, by simp, fun x hx y hy e => ?_⟩
    have : y = p := by simpa using hy
    subst this; subst e
    exact r.fresh h hx
  · rcases Nat.lt_trichotomy i st.length with g | g | g
    · rw [List.getElem?_append_left g] at hi
      rw [List.getElem?_append_left (by rw [r.len]; exact g)] at ha
      have hne : a ≠ p := fun e => r.fresh h (by rw [← e]; exact List.mem_iff_getElem?.mpr ⟨i, ha⟩)
      exact (r.obj i w a hi ha).keep (List.prefix_append _ _) (Stay.newA h) (upd_ne hne)
    · subst g
      rw [List.getElem?_append_right (Nat.le_refl _)] at hi
      rw [← r.len, List.getElem?_append_right (Nat.le_refl _)] at ha
      simp at hi ha
      subst hi; subst ha
      exact new
    · rw [List.getElem?_eq_none (by rw [List.length_append]; exact g)] at hi
      cases hi
  · obtain ⟨h1, u', h2⟩ := r.rsv a ha
    have ne : a ≠ p := fun e => by rw [e, h] at h2; cases h2
    refine ⟨fun z => ?_, u', by rw [upd_ne ne]; exact h2⟩
    rcases List.mem_append.mp z with z | z
    · exact h1 z
    · exact ne (by simpa using z)
/-- a new thing beside the store -/
theorem RH.side0 (rh : RH K T f H st) {p : Addr} {u : HO} (hq : H p = none) : RH K T f (upd H p u) st :=
  ⟨rh.len, rh.nd, fun i o a hi ha => (rh.obj i o a hi ha).keep (List.prefix_refl _) (Stay.new hq) (upd_ne (fun z => rh.fresh hq (by rw [← z]; exact mem_of ha))), fun a ha => ⟨(rh.rsv a ha).1, by
    obtain ⟨_, u', h2⟩ := rh.rsv a ha
    exact ⟨u', by rw [upd_ne (fun e => by rw [e, hq] at h2; cases h2)]; exact h2⟩⟩⟩
/-- an object is written anew -/
theorem RH.put (r : RH K T f H st) {i : Nat} {a : Addr} {u : HO} {o : Ob} (ha : f[i]? = some a) (new : RO K T (upd H a u) f a o) : RH K T f (upd H a u) (st.set i o) := by
  obtain ⟨o0, h0⟩ := r.lt ha
  refine ⟨by rw [List.length_set]; exact r.len, r.nd, fun j w b hj hb => ?_, fun b hb => ⟨(r.rsv b hb).1, by
    obtain ⟨h1, u', h2⟩ := r.rsv b hb
    exact ⟨u', by rw [upd_ne (fun e => h1 (by rw [e]; exact mem_of ha))]; exact h2⟩⟩⟩
  by_cases q : i = j
  · subst q
    rw [List.getElem?_set_self (List.getElem?_eq_some_iff.mp h0).1] at hj
    cases hj
    rw [ha] at hb; cases hb
    exact new
  · rw [List.getElem?_set_ne q] at hj
    exact (r.obj j w b hj hb).keep (List.prefix_refl _) ((r.obj i o0 a h0 ha).stay (List.mem_iff_getElem?.mpr ⟨i, ha⟩) u) (upd_ne (r.ne hb ha (Ne.symm q)))
end

/-! ### exceptions as they are wished for -/
def XR (K : PySem.W.Frag) (T : Tb) (H : Hp) (f : List Addr) (c : Nat) (fs : List (Nat × Dt)) (cls : Value) (d : Option Addr) : Prop :=
  cls = .ref (T.cls c) ∧ ∃ dd vs, d = some dd ∧ H dd = some (.xd vs) ∧ FR K T H f fs vs

/-! ### what is wanted behind a result -/
section
variable (K : PySem.W.Frag) (T : Tb)
abbrev Rel (α β : Type) := Hp → List Addr → α → β → Prop
def Post {α β : Type} (rel : Rel α β) (W : Value → Option Addr → Hp → Prop) (f : List Addr) (H : Hp) (r : Re α) (Q : β → Hp → Prop) : Prop := match r with
  | .ok a st' => ∀ f' H' b, f <+: f' → Stay K T f H f' H' → RH K T f' H' st' → rel H' f' a b → Q b H'
  | .exc c fs st' => ∀ f' H' cls d, f <+: f' → Stay K T f H f' H' → RH K T f' H' st' → XR K T H' f' c fs cls d → W cls d H'
  | .stuck => False
def PostS (W : WX) (f : List Addr) (H : Hp) (r : Rs) (E : Ends) : Prop := match r with
  | .nx env' st' => ∀ f' H' σ', f <+: f' → Stay K T f H f' H' → RH K T f' H' st' → REn K T H' f' env' σ' → E.nx σ' H'
  | .bk env' st' => ∀ f' H' σ', f <+: f' → Stay K T f H f' H' → RH K T f' H' st' → REn K T H' f' env' σ' → E.bk σ' H'
  | .ct env' st' => ∀ f' H' σ', f <+: f' → Stay K T f H f' H' → RH K T f' H' st' → REn K T H' f' env' σ' → E.ct σ' H'
  | .rt d st' => ∀ f' H' v, f <+: f' → Stay K T f H f' H' → RH K T f' H' st' → RV K T H' f' d v → E.rt v H'
  | .ex env' c fs st' => ∀ f' H' σ' cls d, f <+: f' → Stay K T f H f' H' → RH K T f' H' st' → REn K T H' f' env' σ' → XR K T H' f' c fs cls d → W cls d σ' H'
  | .stuck => False
def tG {α β : Type} (rel : Rel α β) (W : WX) (m : M α) : L2.St → Hp → (β → Hp → Prop) → Prop := fun σ H Q =>
  ∃ f env st, REn K T H f env σ ∧ RH K T f H st ∧ Post K T rel (fun c d H' => W c d σ H') f H (m env st) Q
def sG (W : WX) (m : MS) : TS := fun E σ H => ∃ f env st, REn K T H f env σ ∧ RH K T f H st ∧ PostS K T W f H (m env st) E
end
abbrev rV (K : PySem.W.Frag) (T : Tb) : Rel Dt V := RV K T
abbrev rVs (K : PySem.W.Frag) (T : Tb) : Rel (List Dt) (List V) := RVs K T
abbrev rB : Rel Bool Bool := fun _ _ a b => a = b
abbrev IE (X : Cx) (T : Tb) (W : WX) (e : Expr) (m : ME) : Prop := PE X e (tG X.K T (rV X.K T) W m)
abbrev IT (X : Cx) (T : Tb) (W : WX) (e : Expr) (m : MT) : Prop := PT X e (tG X.K T rB W m)
abbrev IW (X : Cx) (T : Tb) (W : WX) (e : Expr) (m : MT) : Prop := PW X e (tG X.K T rB W m)
abbrev IA (X : Cx) (T : Tb) (W : WX) (es : List Expr) (m : MA) : Prop := PA X es (tG X.K T (rVs X.K T) W m)
abbrev IS (X : Cx) (T : Tb) (W : WX) (s : Stmt) (m : MS) : Prop := PS X s (sG X.K T W m)
abbrev ISs (X : Cx) (T : Tb) (W : WX) (s : List Stmt) (m : MS) : Prop := PSs X s (sG X.K T W m)

theorem PEw {X : Cx} {e : Expr} {t t' : TE} (h : PE X e t) (w : ∀ σ H Q, t' σ H Q → t σ H Q) : PE X e t' := ⟨fun pins s σ H Q I q => h.run pins s σ H Q I (w σ H Q q)⟩
theorem PTw {X : Cx} {e : Expr} {t t' : TT} (h : PT X e t) (w : ∀ σ H Q, t' σ H Q → t σ H Q) : PT X e t' := ⟨fun pins s σ H Q I q => h.run pins s σ H Q I (w σ H Q q)⟩
theorem PWw {X : Cx} {e : Expr} {t t' : TT} (h : PW X e t) (w : ∀ σ H Q, t' σ H Q → t σ H Q) : PW X e t' := ⟨fun wh pins s σ H Q I q => h.run wh pins s σ H Q I (w σ H Q q)⟩
theorem PAw {X : Cx} {e : List Expr} {t t' : TA} (h : PA X e t) (w : ∀ σ H Q, t' σ H Q → t σ H Q) : PA X e t' := ⟨fun pos pins s σ H Q I q => h.run pos pins s σ H Q I (w σ H Q q)⟩
theorem PSw {X : Cx} {e : Stmt} {t t' : TS} (h : PS X e t) (w : ∀ E σ H, t' E σ H → t E σ H) : PS X e t' := ⟨fun pins s σ H E I q => h.run pins s σ H E I (w E σ H q)⟩
theorem PSsw {X : Cx} {e : List Stmt} {t t' : TS} (h : PSs X e t) (w : ∀ E σ H, t' E σ H → t E σ H) : PSs X e t' := ⟨fun pins s σ H E I q => h.run pins s σ H E I (w E σ H q)⟩

section
variable {K : PySem.W.Frag} {T : Tb} {α β γ δ : Type} {rel : Rel α β} {rel2 : Rel γ δ} {W : Value → Option Addr → Hp → Prop} {f f1 : List Addr} {H H1 : Hp}
theorem Post.mono {r : Re α} {Q : β → Hp → Prop} (h : Post K T rel W f H r Q) (hp : f <+: f1) (s : Stay K T f H f1 H1) : Post K T rel W f1 H1 r Q := by
  cases r with
  | ok a st => exact fun f' H' b p q => h f' H' b (hp.trans p) (s.trans q)
  | exc c fs st => exact fun f' H' cls d p q => h f' H' cls d (hp.trans p) (s.trans q)
  | stuck => exact h
theorem Post.bind {r : Re α} {g : α → Sto → Re γ} {Q : δ → Hp → Prop} {Q1 : β → Hp → Prop} (h : Post K T rel2 W f H (r.bind g) Q)
    (k : ∀ a st1 f1 H1 b, f <+: f1 → Stay K T f H f1 H1 → RH K T f1 H1 st1 → rel H1 f1 a b → Post K T rel2 W f1 H1 (g a st1) Q → Q1 b H1) : Post K T rel W f H r Q1 := by
  cases r with
  | ok a st => exact fun f' H' b p q rh rb => k a st f' H' b p q rh rb (Post.mono (r := g a st) h p q)
  | exc c fs st => exact h
  | stuck => exact h
/-- a result with one value for sure, nothing changed -/
theorem Post.now {a : α} {b : β} {st : Sto} {Q : β → Hp → Prop} (h : Post K T rel W f H (.ok a st) Q) (rh : RH K T f H st) (rb : rel H f a b) : Q b H := h f H b (List.prefix_refl _) Stay.refl rh rb
theorem Post.new {a : α} {b : β} {st : Sto} {p : Addr} {u : HO} {Q : β → Hp → Prop} (h : Post K T rel W f H (.ok a st) Q) (hp : H p = none) (rh : RH K T (f ++ [p]) (upd H p u) st) (rb : rel (upd H p u) (f ++ [p]) a b) : Q b (upd H p u) :=
  h _ _ b (List.prefix_append _ _) (Stay.newA hp) rh rb
theorem PostS.mono {W : WX} {r : Rs} {E : Ends} (h : PostS K T W f H r E) (hp : f <+: f1) (s : Stay K T f H f1 H1) : PostS K T W f1 H1 r E := by
  cases r with
  | nx e st => exact fun f' H' b p q => h f' H' b (hp.trans p) (s.trans q)
  | bk e st => exact fun f' H' b p q => h f' H' b (hp.trans p) (s.trans q)
  | ct e st => exact fun f' H' b p q => h f' H' b (hp.trans p) (s.trans q)
  | rt e st => exact fun f' H' b p q => h f' H' b (hp.trans p) (s.trans q)
  | ex e c fs st => exact fun f' H' σ' cls d p q => h f' H' σ' cls d (hp.trans p) (s.trans q)
  | stuck => exact h
/-- an expression within a statement -/
theorem PostS.on {W : WX} {env : Lo} {σ : L2.St} {r : Re α} {g : α → Sto → Rs} {E : Ends} {Q1 : β → Hp → Prop} (re : REn K T H f env σ) (h : PostS K T W f H (r.on env g) E)
    (k : ∀ a st1 f1 H1 b, f <+: f1 → Stay K T f H f1 H1 → RH K T f1 H1 st1 → rel H1 f1 a b → REn K T H1 f1 env σ → PostS K T W f1 H1 (g a st1) E → Q1 b H1) : Post K T rel (fun c d H' => W c d σ H') f H r Q1 := by
  cases r with
  | ok a st => exact fun f' H' b p q rh rb => k a st f' H' b p q rh rb (re.mono p q) (PostS.mono (r := g a st) h p q)
  | exc c fs st => exact fun f' H' cls d p q rh xr => h f' H' σ cls d p q rh (re.mono p q) xr
  | stuck => exact h
end
end LT
set_option Elab.async false
set_option linter.all false
set_option maxRecDepth 100000
namespace LT
open PySem PySem.Spec PyProof.Rows L2
/-! ### no place of the store from n on -/
mutual
def clD (n : Nat) : Dt → Bool
  | .tup xs => clL n xs
  | .rl xs => clL n xs
  | .li xs => clL n xs
  | .ob _ fs => clF n fs
  | .dv kvs => clK n kvs
  | .ref i => decide (i < n)
  | .non => true
  | .bl _ => true
  | .int _ => true
  | .str _ => true
  | .cl _ => true
def clL (n : Nat) : List Dt → Bool
  | [] => true
  | d :: r => clD n d && clL n r
def clF (n : Nat) : List (Nat × Dt) → Bool
  | [] => true
  | (_, d) :: r => clD n d && clF n r
def clK (n : Nat) : List (Dt × Dt) → Bool
  | [] => true
  | (k, d) :: r => clD n k && clD n d && clK n r
end
theorem clL_mem {n : Nat} : ∀ {xs : List Dt}, clL n xs = true ↔ ∀ d ∈ xs, clD n d = true
  | [] => by simp [clL]
  | d :: r => by simp [clL, clL_mem (xs := r)]
theorem clL_app {n : Nat} (xs ys : List Dt) : clL n (xs ++ ys) = (clL n xs && clL n ys) := by
  induction xs with
  | nil => simp [clL]
  | cons d r ih => simp [clL, ih, Bool.and_assoc]
mutual
theorem clD_mono {m n : Nat} (h : m ≤ n) : ∀ {d : Dt}, clD m d = true → clD n d = true
  | .tup xs, q => by simp only [clD] at q ⊢; exact clL_mono h q
  | .rl xs, q => by simp only [clD] at q ⊢; exact clL_mono h q
  | .li xs, q => by simp only [clD] at q ⊢; exact clL_mono h q
  | .ob _ fs, q => by simp only [clD] at q ⊢; exact clF_mono h q
  | .dv kvs, q => by simp only [clD] at q ⊢; exact clK_mono h q
  | .ref i, q => by simp only [clD, decide_eq_true_eq] at q ⊢; omega
  | .non, _ => rfl
  | .bl _, _ => rfl
  | .int _, _ => rfl
  | .str _, _ => rfl
  | .cl _, _ => rfl
theorem clL_mono {m n : Nat} (h : m ≤ n) : ∀ {d : List Dt}, clL m d = true → clL n d = true
  | [], _ => rfl
  | d :: r, q => by simp only [clL, Bool.and_eq_true] at q ⊢; exact ⟨clD_mono h q.1, clL_mono h q.2⟩
theorem clF_mono {m n : Nat} (h : m ≤ n) : ∀ {d : List (Nat × Dt)}, clF m d = true → clF n d = true
  | [], _ => rfl
  | (_, d) :: r, q => by simp only [clF, Bool.and_eq_true] at q ⊢; exact ⟨clD_mono h q.1, clF_mono h q.2⟩
theorem clK_mono {m n : Nat} (h : m ≤ n) : ∀ {d : List (Dt × Dt)}, clK m d = true → clK n d = true
  | [], _ => rfl
  | (k, d) :: r, q => by simp only [clK, Bool.and_eq_true] at q ⊢; exact ⟨⟨clD_mono h q.1.1, clD_mono h q.1.2⟩, clK_mono h q.2⟩
end
/-- from one view of the heap to another: the tracked ones below n stand, what is read stays readable -/
structure View (K : PySem.W.Frag) (T : Tb) (f : List Addr) (H : Hp) (T' : Tb) (f' : List Addr) (H' : Hp) (n : Nat) : Prop where
  b : T'.b = T.b
  i : ∀ i a, i < n → f[i]? = some a → f'[i]? = some a
  t : ∀ a xs, SqT K H a xs → SqT K H' a xs
  l : ∀ a xs, SqF K H a xs → SqF K H' a xs
  o : ∀ a u, a ∉ f → a ∉ T.rs → H a = some u → H' a = some u ∧ a ∉ f' ∧ a ∉ T'.rs
section
variable {K : PySem.W.Frag} {T T' : Tb} {H H' : Hp} {f f' : List Addr} {n : Nat}
theorem FR.cons' {i : Nat} {x : Str} {d : Dt} {v : V} {fs : List (Nat × Dt)} {vs : List (Str × V)} (e : T.fld i = x) (h : RV K T H f d v) (t : FR K T H f fs vs) : FR K T H f ((i, d) :: fs) ((x, v) :: vs) := e ▸ FR.cons h t
theorem view_of {rs : List Addr} {m : Nat} (hp : f <+: f') (s : Stay0 K T f H f' H') (hr : ∀ a, a ∈ rs → a ∈ T.rs ∨ H a = none) : View K T f H ⟨T.b, rs⟩ f' H' m :=
  ⟨rfl, fun i a _ h => get_pre hp h, s.t, s.l, fun a u h1 h2 e => ⟨s.o a u h1 h2 e, s.off h1 e, fun z => by
    rcases hr a z with q | q
    · exact h2 q
    · rw [e] at q; cases q⟩⟩
mutual
theorem RV.view (s : View K T f H T' f' H' n) : ∀ {d : Dt} {v : V}, clD n d = true → RV K T H f d v → RV K T' H' f' d v
  | _, _, _, .non => .non
  | _, _, _, .bl b => .bl b
  | _, _, _, .int i => .int i
  | _, _, _, .str x => .str x
  | _, _, q, .tup h r => .tup (s.t _ _ h) (RVs.view s (by simpa only [clD] using q) r)
  | _, _, q, .rl h r => .rl (s.l _ _ h) (RVs.view s (by simpa only [clD] using q) r)
  | _, _, q, .li hf h r => .li (s.o _ _ hf.1 hf.2 h).2 (s.o _ _ hf.1 hf.2 h).1 (RVs.view s (by simpa only [clD] using q) r)
  | _, _, q, .ob hf h r => .ob (s.o _ _ hf.1 hf.2 h).2 (by have := (s.o _ _ hf.1 hf.2 h).1; rwa [Tb.cls, ← s.b] at this) (FR.view s (by simpa only [clD] using q) r)
  | _, _, q, .dv hf h r => .dv (s.o _ _ hf.1 hf.2 h).2 (s.o _ _ hf.1 hf.2 h).1 (DR.view s (by simpa only [clD] using q) r)
  | _, _, q, .ref h => .ref (s.i _ _ (by simpa only [clD, decide_eq_true_eq] using q) h)
  | _, _, _, .cl c => by
    have e : T.cls c = T'.cls c := by rw [Tb.cls, Tb.cls, s.b]
    rw [e]
    exact .cl c
theorem RVs.view (s : View K T f H T' f' H' n) : ∀ {ds : List Dt} {vs : List V}, clL n ds = true → RVs K T H f ds vs → RVs K T' H' f' ds vs
  | _, _, _, .nil => .nil
  | _, _, q, .cons h t => by
    simp only [clL, Bool.and_eq_true] at q
    exact .cons (RV.view s q.1 h) (RVs.view s q.2 t)
theorem FR.view (s : View K T f H T' f' H' n) : ∀ {fs : List (Nat × Dt)} {vs : List (Str × V)}, clF n fs = true → FR K T H f fs vs → FR K T' H' f' fs vs
  | _, _, _, .nil => .nil
  | _, _, q, .cons h t => by
    simp only [clF, Bool.and_eq_true] at q
    exact FR.cons' (by rw [Tb.fld, Tb.fld, s.b]) (RV.view s q.1 h) (FR.view s q.2 t)
theorem DR.view (s : View K T f H T' f' H' n) : ∀ {fs : List (Dt × Dt)} {vs : List (Key × V)}, clK n fs = true → DR K T H f fs vs → DR K T' H' f' fs vs
  | _, _, _, .nil => .nil
  | _, _, q, .cons hk h t => by
    simp only [clK, Bool.and_eq_true] at q
    exact .cons hk (RV.view s q.1.2 h) (DR.view s q.2 t)
end
/-! what is tracked is closed by itself -/
mutual
theorem RV.closed : ∀ {d : Dt} {v : V}, RV K T H f d v → clD f.length d = true
  | _, _, .non => rfl
  | _, _, .bl b => rfl
  | _, _, .int i => rfl
  | _, _, .str x => rfl
  | _, _, .tup h r => by simp only [clD]; exact RVs.closed r
  | _, _, .rl h r => by simp only [clD]; exact RVs.closed r
  | _, _, .li _ h r => by simp only [clD]; exact RVs.closed r
  | _, _, .ob _ h r => by simp only [clD]; exact FR.closed r
  | _, _, .dv _ h r => by simp only [clD]; exact DR.closed r
  | _, _, .cl c => rfl
  | _, _, .ref h => by
    simp only [clD, decide_eq_true_eq]
    exact (List.getElem?_eq_some_iff.mp h).1
theorem RVs.closed : ∀ {ds : List Dt} {vs : List V}, RVs K T H f ds vs → clL f.length ds = true
  | _, _, .nil => rfl
  | _, _, .cons h t => by simp only [clL, Bool.and_eq_true]; exact ⟨RV.closed h, RVs.closed t⟩
theorem FR.closed : ∀ {fs : List (Nat × Dt)} {vs : List (Str × V)}, FR K T H f fs vs → clF f.length fs = true
  | _, _, .nil => rfl
  | _, _, .cons h t => by simp only [clF, Bool.and_eq_true]; exact ⟨RV.closed h, FR.closed t⟩
theorem DR.closed : ∀ {fs : List (Dt × Dt)} {vs : List (Key × V)}, DR K T H f fs vs → clK f.length fs = true
  | _, _, .nil => rfl
  | _, _, @DR.cons _ _ _ _ k _ _ _ _ _ hk h t => by
    simp only [clK, Bool.and_eq_true]
    refine ⟨⟨?_, RV.closed h⟩, DR.closed t⟩
    cases k <;> first | rfl | exact hk.elim
end
def clO (n : Nat) : Ob → Bool
  | .lst xs => clL n xs
  | .dk kvs => clK n kvs
  | .ins _ fs => clF n fs
theorem RO.view {a : Addr} {o : Ob} (s : View K T f H T' f' H' n) (e : H' a = H a) (q : clO n o = true) (r : RO K T H f a o) : RO K T' H' f' a o := by
  cases o with
  | lst ds => obtain ⟨vs, h1, h2⟩ := r; exact ⟨vs, e.trans h1, h2.view s q⟩
  | dk kvs => obtain ⟨vs, h1, h2⟩ := r; exact ⟨vs, e.trans h1, h2.view s q⟩
  | ins c fs => obtain ⟨dx, vs, h1, h2⟩ := r; exact ⟨dx, vs, by rw [Tb.cls, s.b]; exact e.trans h1, h2.view s q⟩
theorem RO.closed {a : Addr} {o : Ob} (r : RO K T H f a o) : clO f.length o = true := by
  cases o with
  | lst ds => obtain ⟨vs, h1, h2⟩ := r; exact h2.closed
  | dk kvs => obtain ⟨vs, h1, h2⟩ := r; exact h2.closed
  | ins c fs => obtain ⟨dx, vs, h1, h2⟩ := r; exact h2.closed
theorem RH.view {st : Sto} (rh : RH K T f H st) (s : View K T f H T' f H' f.length) (e : ∀ a, a ∈ f → H' a = H a) (hr : ∀ a, a ∈ T'.rs → a ∉ f ∧ ∃ u, H' a = some u) : RH K T' f H' st :=
  ⟨rh.len, rh.nd, fun i o a ho ha => (rh.obj i o a ho ha).view s (e a (mem_of ha)) (rh.obj i o a ho ha).closed, hr⟩
end
end LT
set_option Elab.async false
set_option linter.all false
set_option maxRecDepth 100000
namespace LT
open PySem PySem.Spec PyProof.Rows L2

/-! ### expressions: the words -/
def lim : Nat := 1000000
theorem lim_le {n : Nat} (h : n ≤ lim) : n ≤ sizeLine := Nat.le_trans h (by decide)
theorem lim_lt {n : Nat} (h : n < lim) : n < sizeLine := Nat.lt_of_lt_of_le h (by decide)
def mVar (i : Nat) : ME := fun env st => match env[i]? with
  | some (some d) => .ok d st
  | _ => .stuck
def mC (d : Dt) : ME := fun _ st => .ok d st
def mBin (g : Dt → Dt → Sto → Re Dt) (a b : ME) : ME := fun env st => (a env st).bind fun x st1 => (b env st1).bind fun y st2 => g x y st2
def mUn (g : Dt → Sto → Re Dt) (a : ME) : ME := fun env st => (a env st).bind fun x st1 => g x st1
def mNil : MA := fun _ st => .ok [] st
def mCons (a : ME) (r : MA) : MA := fun env st => (a env st).bind fun x st1 => (r env st1).bind fun xs st2 => .ok (x :: xs) st2
def mCB (g : List Dt → Sto → Re Dt) (a : MA) : ME := fun env st => (a env st).bind g
def mTup (a : MA) : ME := fun env st => (a env st).bind fun xs st1 => if xs.length ≤ lim then .ok (.tup xs) st1 else .stuck
def mLst (a : MA) : ME := fun env st => (a env st).bind fun xs st1 => if xs.length ≤ lim then .ok (.ref st1.length) (st1 ++ [.lst xs]) else .stuck
def isB : Dt → Sto → Re Bool
  | .bl b, st => .ok b st
  | _, _ => .stuck
def mB (a : ME) : MT := fun env st => (a env st).bind isB
def truD : Dt → Sto → Option Bool
  | .non, _ => some false
  | .bl b, _ => some b
  | .int i, _ => some (i != 0)
  | .str s, _ => if s.length ≤ lim then some (!s.isEmpty) else none
  | .tup xs, _ => some (!xs.isEmpty)
  | .rl xs, _ => some (!xs.isEmpty)
  | .li xs, _ => some (!xs.isEmpty)
  | .dv xs, _ => some (!xs.isEmpty)
  | .ob _ _, _ => none
  | .cl _, _ => none
  | .ref i, st => match st[i]? with
    | some (.lst xs) => some (!xs.isEmpty)
    | some (.dk xs) => some (!xs.isEmpty)
    | _ => none
def mTru (a : ME) : MT := fun env st => (a env st).bind fun x st1 => match truD x st1 with
  | some b => .ok b st1
  | none => .stuck
def mAnd (a b : MT) : MT := fun env st => (a env st).bind fun x st1 => if x then b env st1 else .ok false st1
def mOr (a b : MT) : MT := fun env st => (a env st).bind fun x st1 => if x then .ok true st1 else b env st1
def mNot (a : MT) : MT := fun env st => (a env st).bind fun x st1 => .ok (!x) st1
def mAndV (a b : ME) : ME := fun env st => (a env st).bind fun x st1 => match x with
  | .bl true => b env st1
  | .bl false => .ok (.bl false) st1
  | _ => .stuck
def mOrV (a b : ME) : ME := fun env st => (a env st).bind fun x st1 => match x with
  | .bl true => .ok (.bl true) st1
  | .bl false => b env st1
  | _ => .stuck
def mNotV (a : ME) : ME := fun env st => (a env st).bind fun x st1 => match x with
  | .bl b => .ok (.bl (!b)) st1
  | _ => .stuck
def mIf (t : MT) (a b : ME) : ME := fun env st => (t env st).bind fun x st1 => if x then a env st1 else b env st1
def mTop (a : MT) : ME := fun env st => (a env st).bind fun x st1 => .ok (.bl x) st1

section
variable {X : Cx} {T : Tb} {W : WX} {a b e : Expr} {es : List Expr} {pos : Pos} {ma mb me : ME} {ms : MA} {ta tb : MT}
theorem RV.str' {K : PySem.W.Frag} {H : Hp} {f : List Addr} {x : Str} {s : List Nat} (h : x.cps.toList = s) : RV K T H f (.str s) (.str x) := h ▸ RV.str x
theorem ie_var (i : Nat) {x : Str} (hN : X.N[i]? = some x := by rfl) (hv : Vis X.env.scope x := by first | exact Or.inl rfl | exact Or.inr (Or.inl rfl) | exact Or.inr (Or.inr rfl)) (hd : (x == ("__debug__" : Str)) = false := by decide)
    (hcd : (x == ("__classdict__" : Str)) = false := by decide) : IE X T W (.Name x pos) (mVar i) := PEw (pe_var hN hv hd hcd) fun σ H Q ⟨f, env, st, re, rh, p⟩ => by
  unfold mVar at p
  split at p
  · rename_i d hd
    obtain ⟨v, h1, h2⟩ := re.get _ _ hd
    exact ⟨v, h1, p.now rh h2⟩
  · exact p.elim
theorem ie_int {i : Int} {j} : IE X T W (.Constant (.int i) j pos) (mC (.int i)) := PEw pe_int fun σ H Q ⟨f, env, st, re, rh, p⟩ => p.now rh (.int i)
theorem ie_bl {b : Bool} {j} : IE X T W (.Constant (.bool b) j pos) (mC (.bl b)) := PEw pe_bl fun σ H Q ⟨f, env, st, re, rh, p⟩ => p.now rh (.bl b)
theorem ie_non {j} : IE X T W (.Constant .none j pos) (mC .non) := PEw pe_non fun σ H Q ⟨f, env, st, re, rh, p⟩ => p.now rh .non
theorem ie_str {x : Str} {j} {s : List Nat} (h : x.cps.toList = s) : IE X T W (.Constant (.str x) j pos) (mC (.str s)) := PEw pe_str fun σ H Q ⟨f, env, st, re, rh, p⟩ => p.now rh (.str' h)

/-- an operation on two values -/
def Snd2 (K : PySem.W.Frag) (T : Tb) (r : R2) (g : Dt → Dt → Sto → Re Dt) : Prop := ∀ (f : List Addr) (H : Hp) (st : Sto) (x y : Dt) (vx vy : V) (Wx : Value → Option Addr → Hp → Prop) (Q : VK),
  RH K T f H st → RV K T H f x vx → RV K T H f y vy → Post K T (rV K T) Wx f H (g x y st) Q → r vx vy H Q
theorem ev2 {r : R2} {g : Dt → Dt → Sto → Re Dt} (hg : Snd2 X.K T r g) {σ : L2.St} {H : Hp} {Q : VK} (h : tG X.K T (rV X.K T) W (mBin g ma mb) σ H Q) : tOp r (tG X.K T (rV X.K T) W ma) (tG X.K T (rV X.K T) W mb) σ H Q := by
  obtain ⟨f, env, st, re, rh, p⟩ := h
  exact ⟨f, env, st, re, rh, p.bind fun x st1 f1 H1 vx hp s rh1 rx p1 => ⟨f1, env, st1, re.mono hp s, rh1, p1.bind fun y st2 f2 H2 vy hp2 s2 rh2 ry p2 => hg f2 H2 st2 x y vx vy _ _ rh2 (rx.mono hp2 s2) ry p2⟩⟩
theorem ie_bin {op : Operator} {r : R2} {g : Dt → Dt → Sto → Re Dt} (ho : OpR X (binaryOp op) r) (hg : Snd2 X.K T r g) (ha : IE X T W a ma) (hb : IE X T W b mb) : IE X T W (.BinOp a op b pos) (mBin g ma mb) := PEw (pe_op ho ha hb) fun _ _ _ => ev2 hg
theorem ie_cmp {op : CmpOp} {r : R2} {g : Dt → Dt → Sto → Re Dt} (ho : OpR X (compareOp op) r) (hg : Snd2 X.K T r g) (ha : IE X T W a ma) (hb : IE X T W b mb) (hm : behindInMarks op b = false) : IE X T W (.Compare a [op] [b] pos) (mBin g ma mb) := PEw (pe_cmpR ho ha hb hm) fun _ _ _ => ev2 hg
theorem ie_ix {r : R2} {g : Dt → Dt → Sto → Re Dt} (hr : IxR X r) (hg : Snd2 X.K T r g) (ha : IE X T W a ma) (hb : IE X T W b mb) (hs : PlainIx b := by intro _ _; rfl) : IE X T W (.Subscript a b pos) (mBin g ma mb) := PEw (pe_ix hr ha hb hs) fun _ _ _ => ev2 hg
/-- an operation on one value -/
def Snd1 (K : PySem.W.Frag) (T : Tb) (r : V → Hp → VK → Prop) (g : Dt → Sto → Re Dt) : Prop := ∀ (f : List Addr) (H : Hp) (st : Sto) (x : Dt) (vx : V) (Wx : Value → Option Addr → Hp → Prop) (Q : VK),
  RH K T f H st → RV K T H f x vx → Post K T (rV K T) Wx f H (g x st) Q → r vx H Q
theorem ie_un {op : UnaryOp} {r : V → Hp → VK → Prop} {g : Dt → Sto → Re Dt} (ho : UnR X (unaryOp op) r) (hg : Snd1 X.K T r g) (ha : IE X T W a ma) : IE X T W (.UnaryOp op a pos) (mUn g ma) := PEw (pe_un ho ha) fun σ H Q ⟨f, env, st, re, rh, p⟩ =>
  ⟨f, env, st, re, rh, p.bind fun x st1 f1 H1 vx hp s rh1 rx p1 => hg f1 H1 st1 x vx _ _ rh1 rx p1⟩
/-! arguments -/
theorem ia_nil : IA X T W [] mNil := PAw pa_nil fun σ H Q ⟨f, env, st, re, rh, p⟩ => p.now rh .nil
theorem ia_cons (ha : IE X T W e me) (hr : IA X T W es ms) (hs : starEach (e :: es) X.env = (false, eval e X.env) :: starEach es X.env := by rfl) : IA X T W (e :: es) (mCons me ms) := PAw (pa_cons ha hr hs) fun σ H Q ⟨f, env, st, re, rh, p⟩ =>
  ⟨f, env, st, re, rh, p.bind fun x st1 f1 H1 vx hp s rh1 rx p1 => ⟨f1, env, st1, re.mono hp s, rh1, p1.bind fun y st2 f2 H2 vy hp2 s2 rh2 ry p2 => p2.now rh2 (RVs.cons (rx.mono hp2 s2) ry)⟩⟩
theorem ie_tup {k} (h : IA X T W es ms) : IE X T W (.Tuple es k pos) (mTup ms) := PEw (pe_tup h) fun σ H Q ⟨f, env, st, re, rh, p⟩ =>
  ⟨f, env, st, re, rh, p.bind fun x st1 f1 H1 vx hp s rh1 rx p1 => by
    split at p1
    · rename_i hl
      refine ⟨by rw [← rx.len]; exact lim_le hl, fun q hq => ?_⟩
      exact p1 f1 _ _ (List.prefix_refl _) (Stay.new hq) (rh1.side0 hq)
        (.tup (.inl (.inl upd_same)) (rx.mono (List.prefix_refl _) (Stay.new hq)))
    · exact p1.elim⟩
/-- a new tuple beside the store -/
theorem RH.side {K : PySem.W.Frag} {f : List Addr} {H : Hp} {st : Sto} {p : Addr} {u : HO} (rh : RH K T f H st) (hq : H p = none) : RH K T f (upd H p u) st := rh.side0 hq
theorem ie_lst (h : IA X T W es ms) : IE X T W (.List es pos) (mLst ms) := PEw (pe_lst h) fun σ H Q ⟨f, env, st, re, rh, p⟩ =>
  ⟨f, env, st, re, rh, p.bind fun x st1 f1 H1 vx hp s rh1 rx p1 => by
    split at p1
    · rename_i hl
      refine ⟨by rw [← rx.len]; exact lim_le hl, fun q hq => p1.new hq (rh1.new hq ⟨_, upd_same, rx.mono (List.prefix_append _ _) (Stay.newA hq)⟩) (.ref ?_)⟩
      rw [← rh1.len, List.getElem?_append_right (Nat.le_refl _), Nat.sub_self]
      rfl
    · exact p1.elim⟩
/-! tests -/
theorem it_val (h : IE X T W e me) (he : ∀ whole, isTrue e X.env whole = (do let v ← whole; standAt e.pos; holding [v] (truthy v)) := by intro _; rfl) : IT X T W e (mB me) := PTw (pt_val h he) fun σ H Q ⟨f, env, st, re, rh, p⟩ =>
  ⟨f, env, st, re, rh, p.bind fun x st1 f1 H1 vx hp s rh1 rx p1 => by
    cases rx with
    | bl b => exact ⟨b, rfl, p1.now rh1 rfl⟩
    | _ => exact p1.elim⟩
theorem it_cmp {op : CmpOp} {r : R2} {g : Dt → Dt → Sto → Re Dt} (ho : OpR X (compareOp op) r) (hg : Snd2 X.K T r g) (ha : IE X T W a ma) (hb : IE X T W b mb) (hm : behindInMarks op b = false) : IT X T W (.Compare a [op] [b] pos) (mB (mBin g ma mb)) := PTw (pt_cmpR ho ha hb hm) fun σ H Q ⟨f, env, st, re, rh, p⟩ => by
  have p' : Post X.K T rB (fun c d H' => W c d σ H') f H ((ma env st).bind fun x st1 => (mb env st1).bind fun y st2 => (g x y st2).bind isB) Q := by
    unfold mB mBin at p
    simp only [Re.bind_assoc] at p
    exact p
  exact ⟨f, env, st, re, rh, p'.bind fun x st1 f1 H1 vx hp s rh1 rx p1 => ⟨f1, env, st1, re.mono hp s, rh1, p1.bind fun y st2 f2 H2 vy hp2 s2 rh2 ry p2 => hg f2 H2 st2 x y vx vy _ _ rh2 (rx.mono hp2 s2) ry (p2.bind fun z st3 f3 H3 vz hp3 s3 rh3 rz p3 => by
    cases rz with
    | bl b => exact ⟨b, rfl, p3.now rh3 rfl⟩
    | _ => exact p3.elim)⟩⟩
theorem truV {K : PySem.W.Frag} {f : List Addr} {H : Hp} {st : Sto} {x : Dt} {v : V} {k : Bool} (rh : RH K T f H st) (rx : RV K T H f x v) (h : truD x st = some k) : TruV K v H k := by
  cases rx with
  | non => cases h; rfl
  | bl b => cases h; rfl
  | int i => cases h; rfl
  | str x =>
    have h' : (if x.cps.toList.length ≤ lim then some (!x.cps.toList.isEmpty) else none) = some k := h
    split at h'
    · cases h'
      rename_i hl
      refine ⟨by show x.cps.size ≤ _; rw [← Array.length_toList]; exact lim_le hl, ?_⟩
      show (!x.cps.toList.isEmpty) = ((x.cps.size : Int) != 0)
      rw [← Array.length_toList]
      cases x.cps.toList with
      | nil => rfl
      | cons a r => simp; omega
    · cases h'
  | tup hs r => cases h; exact .inr (.inl ⟨_, hs, by cases r <;> rfl⟩)
  | rl hs r => cases h; exact .inl ⟨_, hs.sq, by cases r <;> rfl⟩
  | li hf hs r => cases h; exact .inl ⟨_, .inl (.inl hs), by cases r <;> rfl⟩
  | dv hf hs r => cases h; exact .inr (.inr ⟨_, hs, by cases r <;> rfl⟩)
  | ob hf hs r => cases h
  | cl c => first | exact p.elim | exact p1.elim | exact p2.elim | exact p3.elim | (cases h; done) | (cases hd; done) | (cases h1; done) | (simp at h; done) | (simp_all; done)
  | ref hi =>
    obtain ⟨o, ho⟩ := rh.lt hi
    have r := rh.obj _ o _ ho hi
    cases o with
    | lst xs =>
      simp only [truD, ho] at h
      obtain ⟨vs, h1, h2⟩ := r
      cases h
      exact .inl ⟨_, .inl (.inl h1), by cases h2 <;> rfl⟩
    | dk xs =>
      simp only [truD, ho] at h
      obtain ⟨vs, h1, h2⟩ := r
      cases h
      exact .inr (.inr ⟨_, h1, by cases h2 <;> rfl⟩)
    | ins c fs =>
      simp only [truD, ho] at h
      cases h
theorem it_tru (h : IE X T W e me) (he : ∀ whole, isTrue e X.env whole = (do let v ← whole; standAt e.pos; holding [v] (truthy v)) := by intro _; rfl) : IT X T W e (mTru me) := PTw (pt_truth h he) fun σ H Q ⟨f, env, st, re, rh, p⟩ =>
  ⟨f, env, st, re, rh, p.bind fun x st1 f1 H1 vx hp s rh1 rx p1 => by
    cases ht : truD x st1 with
    | none => rw [ht] at p1; exact p1.elim
    | some k => rw [ht] at p1; exact ⟨k, truV rh1 rx ht, p1.now rh1 rfl⟩⟩
theorem iw_and1 (ha : IT X T W a ta) : IW X T W (.BoolOp .And [a] pos) ta := pw_and1 ha
theorem iw_or1 (ha : IT X T W a ta) : IW X T W (.BoolOp .Or [a] pos) ta := pw_or1 ha
theorem ev_and {σ : L2.St} {H : Hp} {Q : Bool → Hp → Prop} (h : tG X.K T rB W (mAnd ta tb) σ H Q) : tAnd (tG X.K T rB W ta) (tG X.K T rB W tb) σ H Q := by
  obtain ⟨f, env, st, re, rh, p⟩ := h
  refine ⟨f, env, st, re, rh, p.bind fun x st1 f1 H1 vx hp s rh1 rx p1 => ?_⟩
  cases rx
  cases x with
  | true => exact iteT ⟨f1, env, st1, re.mono hp s, rh1, p1⟩
  | false => exact iteF (p1.now rh1 rfl)
theorem ev_or {σ : L2.St} {H : Hp} {Q : Bool → Hp → Prop} (h : tG X.K T rB W (mOr ta tb) σ H Q) : tOr (tG X.K T rB W ta) (tG X.K T rB W tb) σ H Q := by
  obtain ⟨f, env, st, re, rh, p⟩ := h
  refine ⟨f, env, st, re, rh, p.bind fun x st1 f1 H1 vx hp s rh1 rx p1 => ?_⟩
  cases rx
  cases x with
  | true => exact iteT (p1.now rh1 rfl)
  | false => exact iteF ⟨f1, env, st1, re.mono hp s, rh1, p1⟩
theorem iw_and {rest : List Expr} (ha : IT X T W a ta) (hb : IW X T W (.BoolOp .And (b :: rest) pos) tb) : IW X T W (.BoolOp .And (a :: b :: rest) pos) (mAnd ta tb) := PWw (pw_and ha hb) fun _ _ _ => ev_and
theorem iw_or {rest : List Expr} (ha : IT X T W a ta) (hb : IW X T W (.BoolOp .Or (b :: rest) pos) tb) : IW X T W (.BoolOp .Or (a :: b :: rest) pos) (mOr ta tb) := PWw (pw_or ha hb) fun _ _ _ => ev_or
theorem it_w (h : IW X T W e ta) : IT X T W e ta := h.pt
theorem it_not (ha : IT X T W a ta) : IT X T W (.UnaryOp .Not a pos) (mNot ta) := PTw (pt_not ha) fun σ H Q ⟨f, env, st, re, rh, p⟩ =>
  ⟨f, env, st, re, rh, p.bind fun x st1 f1 H1 vx hp s rh1 rx p1 => by cases rx; exact p1.now rh1 rfl⟩
/-! boolean values -/
theorem ie_one {op} (h : IE X T W a ma) : IE X T W (.BoolOp op [a] pos) ma := pe_one h
theorem ie_and {rest : List Expr} (ha : IE X T W a ma) (hb : IE X T W (.BoolOp .And (b :: rest) pos) mb) : IE X T W (.BoolOp .And (a :: b :: rest) pos) (mAndV ma mb) := PEw (pe_and ha hb) fun σ H Q ⟨f, env, st, re, rh, p⟩ =>
  ⟨f, env, st, re, rh, p.bind fun x st1 f1 H1 vx hp s rh1 rx p1 => by
    cases rx with
    | bl k =>
      refine ⟨k, rfl, ?_⟩
      cases k with
      | true => exact iteT ⟨f1, env, st1, re.mono hp s, rh1, p1⟩
      | false => exact iteF (p1.now rh1 (.bl false))
    | _ => exact p1.elim⟩
theorem ie_or {rest : List Expr} (ha : IE X T W a ma) (hb : IE X T W (.BoolOp .Or (b :: rest) pos) mb) : IE X T W (.BoolOp .Or (a :: b :: rest) pos) (mOrV ma mb) := PEw (pe_or ha hb) fun σ H Q ⟨f, env, st, re, rh, p⟩ =>
  ⟨f, env, st, re, rh, p.bind fun x st1 f1 H1 vx hp s rh1 rx p1 => by
    cases rx with
    | bl k =>
      refine ⟨k, rfl, ?_⟩
      cases k with
      | true => exact iteT (p1.now rh1 (.bl true))
      | false => exact iteF ⟨f1, env, st1, re.mono hp s, rh1, p1⟩
    | _ => exact p1.elim⟩
theorem ie_not (ha : IE X T W a ma) : IE X T W (.UnaryOp .Not a pos) (mNotV ma) := PEw (pe_not ha) fun σ H Q ⟨f, env, st, re, rh, p⟩ =>
  ⟨f, env, st, re, rh, p.bind fun x st1 f1 H1 vx hp s rh1 rx p1 => by
    cases rx with
    | bl k => exact ⟨k, rfl, p1.now rh1 (.bl _)⟩
    | _ => exact p1.elim⟩
theorem ie_if {c : Expr} (hc : IT X T W c ta) (ha : IE X T W a ma) (hb : IE X T W b mb) : IE X T W (.IfExp c a b pos) (mIf ta ma mb) := PEw (pe_ifExp hc ha hb) fun σ H Q ⟨f, env, st, re, rh, p⟩ =>
  ⟨f, env, st, re, rh, p.bind fun x st1 f1 H1 vx hp s rh1 rx p1 => by
    cases rx
    cases x with
    | true => exact iteT ⟨f1, env, st1, re.mono hp s, rh1, p1⟩
    | false => exact iteF ⟨f1, env, st1, re.mono hp s, rh1, p1⟩⟩
/-! calls of what is built in -/
def SndC (K : PySem.W.Frag) (T : Tb) (r : List V → Hp → VK → Prop) (g : List Dt → Sto → Re Dt) : Prop := ∀ (f : List Addr) (H : Hp) (st : Sto) (xs : List Dt) (vs : List V) (Wx : Value → Option Addr → Hp → Prop) (Q : VK),
  RH K T f H st → RVs K T H f xs vs → Post K T (rV K T) Wx f H (g xs st) Q → r vs H Q
theorem evC {r : List V → Hp → VK → Prop} {g : List Dt → Sto → Re Dt} (hg : SndC X.K T r g) {σ : L2.St} {H : Hp} {Q : VK} (h : tG X.K T (rV X.K T) W (mCB g ms) σ H Q) : tCB r (tG X.K T (rVs X.K T) W ms) σ H Q := by
  obtain ⟨f, env, st, re, rh, p⟩ := h
  exact ⟨f, env, st, re, rh, p.bind fun x st1 f1 H1 vx hp s rh1 rx p1 => hg f1 H1 st1 x vx _ _ rh1 rx p1⟩
theorem ie_callB {id : String} {x : Str} {r : List V → Hp → VK → Prop} {g : List Dt → Sto → Re Dt} {p : Pos} (hc : CallR X (.builtin id) r) (hg : SndC X.K T r g) (hgl : Gl X x) (hm : X.mg x = none) (hv : bootBuiltins x = some (.builtin id)) (ha : IA X T W (e :: es) ms)
    (hn : x ≠ "__name__" := by decide) (hdb : (x == ("__debug__" : Str)) = false := by decide) (he : starEach (e :: es) X.env = (false, eval e X.env) :: starEach es X.env := by rfl) (hpl : (backTo pos (starEach es X.env)).any (·.1) = false := by rfl) :
    IE X T W (.Call (.Name x p) (e :: es) [] pos) (mCB g ms) := PEw (pe_callB hc hgl hm hv ha hn hdb he hpl) fun _ _ _ => evC hg
theorem ie_callTy {Ty : String} {x : Str} {r : List V → Hp → VK → Prop} {g : List Dt → Sto → Re Dt} {p : Pos} (hc : CallR X (.type Ty) r) (hg : SndC X.K T r g) (hgl : Gl X x) (hm : X.mg x = none) (hv : bootBuiltins x = some (.type Ty)) (ha : IA X T W (e :: es) ms)
    (hn : x ≠ "__name__" := by decide) (hdb : (x == ("__debug__" : Str)) = false := by decide) (he : starEach (e :: es) X.env = (false, eval e X.env) :: starEach es X.env := by rfl) (hpl : (backTo pos (starEach es X.env)).any (·.1) = false := by rfl) :
    IE X T W (.Call (.Name x p) (e :: es) [] pos) (mCB g ms) := PEw (pe_callTy hc hgl hm hv ha hn hdb he hpl) fun _ _ _ => evC hg
end
end LT
set_option Elab.async false
set_option linter.all false
set_option maxRecDepth 100000
namespace LT
open PySem PySem.Spec PyProof.Rows L2
section
variable {X : Cx} {T : Tb} {K : PySem.W.Frag}
theorem Post.stuck {α β : Type} {rel : Rel α β} {W : Value → Option Addr → Hp → Prop} {f : List Addr} {H : Hp} {Q : β → Hp → Prop} {C : Prop} (h : Post K T rel W f H (Re.stuck : Re α) Q) : C := h.elim
theorem len_str (x : Str) : x.cps.toList.length = x.length := Array.length_toList
theorem RH.lst {f : List Addr} {H : Hp} {st : Sto} {i : Nat} {a : Addr} {xs : List Dt} (rh : RH K T f H st) (hi : f[i]? = some a) (ho : st[i]? = some (.lst xs)) : ∃ vs, H a = some (.lst vs) ∧ RVs K T H f xs vs := rh.obj _ _ _ ho hi
theorem ref_new {f : List Addr} {H : Hp} {st : Sto} {p : Addr} (rh : RH K T f H st) : (f ++ [p])[st.length]? = some p := by
  rw [← rh.len, List.getElem?_append_right (Nat.le_refl _), Nat.sub_self]
  rfl
/-- a new list is told -/
theorem new_lst {f : List Addr} {H : Hp} {st : Sto} {p : Addr} {xs : List Dt} {vs : List V} {W : Value → Option Addr → Hp → Prop} {Q : VK} (h : Post K T (rV K T) W f H (.ok (.ref st.length) (st ++ [.lst xs])) Q) (rh : RH K T f H st) (hp : H p = none) (r : RVs K T H f xs vs) : Q (.ref p) (upd H p (.lst vs)) :=
  h.new hp (rh.new hp ⟨_, upd_same, r.mono (List.prefix_append _ _) (Stay.newA hp)⟩) (.ref (ref_new rh))
/-- a new list that is never changed -/
theorem new_li {f : List Addr} {H : Hp} {st : Sto} {p : Addr} {xs : List Dt} {vs : List V} {W : Value → Option Addr → Hp → Prop} {Q : VK} (h : Post K T (rV K T) W f H (.ok (.li xs) st) Q) (rh : RH K T f H st) (hp : H p = none) (r : RVs K T H f xs vs) : Q (.ref p) (upd H p (.lst vs)) :=
  h f _ _ (List.prefix_refl _) (Stay.new hp) (rh.side hp) (.li (rh.free hp) upd_same (r.mono (List.prefix_refl _) (Stay.new hp)))
/-- a list, tracked or not -/
def lsD : Dt → Sto → Option (List Dt)
  | .li xs, _ => some xs
  | .ref i, st => match st[i]? with
    | some (.lst xs) => some xs
    | _ => none
  | _, _ => none
theorem lsD_ok {f : List Addr} {H : Hp} {st : Sto} {d : Dt} {v : V} {xs : List Dt} (rh : RH K T f H st) (r : RV K T H f d v) (h : lsD d st = some xs) : ∃ a vs, v = .ref a ∧ H a = some (.lst vs) ∧ RVs K T H f xs vs := by
  cases r with
  | li hf hs r => cases h; exact ⟨_, _, rfl, hs, r⟩
  | ref hi =>
    obtain ⟨o, ho⟩ := rh.lt hi
    simp only [lsD, ho] at h
    cases o <;> first | cases h | skip
    obtain ⟨vs, h1, h2⟩ := rh.lst hi ho
    exact ⟨_, _, rfl, h1, h2⟩
  | _ => cases h
/-- a new tuple is told -/
theorem new_tup {f : List Addr} {H : Hp} {st : Sto} {p : Addr} {xs : List Dt} {vs : List V} {W : Value → Option Addr → Hp → Prop} {Q : VK} (h : Post K T (rV K T) W f H (.ok (.tup xs) st) Q) (rh : RH K T f H st) (hp : H p = none) (r : RVs K T H f xs vs) : Q (.ref p) (upd H p (.tup vs)) :=
  h f _ _ (List.prefix_refl _) (Stay.new hp) (rh.side hp) (.tup (.inl (.inl upd_same)) (r.mono (List.prefix_refl _) (Stay.new hp)))
/-- an object is written -/
theorem put_ob {α β : Type} {rel : Rel α β} {f : List Addr} {H : Hp} {st : Sto} {i : Nat} {a : Addr} {u : HO} {o o0 : Ob} {d : α} {b : β} {W : Value → Option Addr → Hp → Prop} {Q : β → Hp → Prop} (h : Post K T rel W f H (.ok d (st.set i o)) Q) (rh : RH K T f H st) (hi : f[i]? = some a) (ho : st[i]? = some o0)
    (new : RO K T (upd H a u) f a o) (rb : rel (upd H a u) f d b) : Q b (upd H a u) :=
  h f _ _ (List.prefix_refl _) ((rh.obj _ _ _ ho hi).stay (mem_of hi) u) (rh.put hi new) rb

/-! ### numbers -/
def i2 (g : Int → Int → Dt) : Dt → Dt → Sto → Re Dt
  | .int i, .int j, st => .ok (g i j) st
  | _, _, _ => .stuck
theorem snd_i0 {g : Int → Int → V} {h : Int → Int → Dt} (hg : ∀ i j (H : Hp) f, RV K T H f (h i j) (g i j)) : Snd2 K T (rI0 g) (i2 h) := fun f H st x y vx vy Wx Q rh rx ry p => by
  cases rx <;> first | exact p.elim | skip
  cases ry <;> first | exact p.elim | skip
  exact ⟨_, _, rfl, rfl, p.now rh (hg _ _ _ _)⟩
def i2c (c : Int → Int → Bool) (g : Int → Int → Dt) : Dt → Dt → Sto → Re Dt
  | .int i, .int j, st => if c i j then .ok (g i j) st else .stuck
  | _, _, _ => .stuck
theorem snd_ic {C : Int → Int → Prop} {c : Int → Int → Bool} {g : Int → Int → V} {h : Int → Int → Dt} (hc : ∀ i j, c i j = true → C i j) (hg : ∀ i j (H : Hp) f, RV K T H f (h i j) (g i j)) : Snd2 K T (rI C g) (i2c c h) := fun f H st x y vx vy Wx Q rh rx ry p => by
  cases rx <;> first | exact p.elim | skip
  cases ry <;> first | exact p.elim | skip
  rename_i i j
  have p' : Post K T (rV K T) Wx f H (if c i j then .ok (h i j) st else .stuck) Q := p
  split at p'
  · rename_i q
    exact ⟨_, _, rfl, rfl, hc _ _ q, p'.now rh (hg _ _ _ _)⟩
  · exact p'.elim
def subD := i2 fun i j => .int (i - j)
theorem snd_sub : Snd2 K T (rI0 fun i j => .int (i - j)) subD := snd_i0 fun _ _ _ _ => .int _
def cMul (i j : Int) : Bool := (decide (-(18446744073709551616) < i) && decide (i < 18446744073709551616)) || (decide (-(18446744073709551616) < j) && decide (j < 18446744073709551616))
theorem cMul_ok (i j : Int) (h : cMul i j = true) : CMul i j := by
  unfold cMul at h
  rw [Bool.or_eq_true, Bool.and_eq_true, Bool.and_eq_true] at h
  rcases h with ⟨h1, h2⟩ | ⟨h1, h2⟩
  · exact .inl ⟨of_decide_eq_true h1, of_decide_eq_true h2⟩
  · exact .inr ⟨of_decide_eq_true h1, of_decide_eq_true h2⟩
def mulI := i2c cMul fun i j => .int (i * j)
theorem snd_mulI : Snd2 K T (rI CMul fun i j => .int (i * j)) mulI := snd_ic cMul_ok fun _ _ _ _ => .int _
def fdivD := i2c (fun _ j => decide (0 < j) && decide (j < 1073741824)) fun i j => .int (i / j)
theorem snd_fdiv : Snd2 K T (rI CDiv fun i j => .int (i / j)) fdivD := snd_ic (fun i j h => by
  rw [Bool.and_eq_true] at h
  exact ⟨of_decide_eq_true h.1, of_decide_eq_true h.2⟩) fun _ _ _ _ => .int _
def modD := i2c (fun _ j => decide (0 < j)) fun i j => .int (i % j)
theorem snd_mod : Snd2 K T (rI (fun _ j => 0 < j) fun i j => .int (i % j)) modD := snd_ic (fun i j h => of_decide_eq_true h) fun _ _ _ _ => .int _
def powD := i2c (fun i j => decide (0 ≤ j) && decide (j ≤ 1000) && decide (-(18446744073709551616) < i) && decide (i < 18446744073709551616)) fun i j => .int (i ^ j.toNat)
theorem snd_pow : Snd2 K T (rI CPow fun i j => .int (i ^ j.toNat)) powD := snd_ic (fun i j h => by
  rw [Bool.and_eq_true, Bool.and_eq_true, Bool.and_eq_true] at h
  have h1 := of_decide_eq_true h.1.1.1
  have h2 := of_decide_eq_true h.1.1.2
  have h3 := of_decide_eq_true h.1.2
  have h4 := of_decide_eq_true h.2
  exact ⟨h1, by omega, by show i.natAbs < 18446744073709551616; omega⟩) fun _ _ _ _ => .int _
def ltD := i2 fun i j => .bl (decide (i < j))
def leD := i2 fun i j => .bl (decide (i ≤ j))
def gtD := i2 fun i j => .bl (decide (j < i))
def geD := i2 fun i j => .bl (decide (j ≤ i))
theorem snd_lt : Snd2 K T (rI0 fun i j => .bl (decide (i < j))) ltD := snd_i0 fun _ _ _ _ => .bl _
theorem snd_le : Snd2 K T (rI0 fun i j => .bl (decide (i ≤ j))) leD := snd_i0 fun _ _ _ _ => .bl _
theorem snd_gt : Snd2 K T (rI0 fun i j => .bl (decide (j < i))) gtD := snd_i0 fun _ _ _ _ => .bl _
theorem snd_ge : Snd2 K T (rI0 fun i j => .bl (decide (j ≤ i))) geD := snd_i0 fun _ _ _ _ => .bl _
def negD : Dt → Sto → Re Dt
  | .int i, st => .ok (.int (-i)) st
  | _, _ => .stuck
theorem snd_neg : Snd1 K T (rU fun i => .int (-i)) negD := fun f H st x vx Wx Q rh rx p => by
  cases rx <;> first | exact p.elim | skip
  exact ⟨_, rfl, p.now rh (.int _)⟩
/-! ### plus -/
def addD (x y : Dt) (st : Sto) : Re Dt := match x, y with
  | .int i, .int j => .ok (.int (i + j)) st
  | .str a, .str b => if a.length + b.length ≤ lim then .ok (.str (a ++ b)) st else .stuck
  | .tup a, .tup b => if a.length + b.length ≤ lim then .ok (.tup (a ++ b)) st else .stuck
  | x, y => match lsD x st, lsD y st with
    | some a, some b => if a.length + b.length ≤ lim then .ok (.li (a ++ b)) st else .stuck
    | _, _ => .stuck
def rAddD (K : PySem.W.Frag) : R2 := fun x y H Q => (∃ i j, x = .int i ∧ y = .int j ∧ Q (.int (i + j)) H) ∨ (∃ i j, x = .str i ∧ y = .str j ∧ i.length + j.length ≤ sizeLine ∧ Q (.str (i ++ j)) H) ∨ rCatA K x y H Q ∨ rCat x y H Q
theorem op_addD : OpR X (binaryOp .Add) (rAddD X.K) := OpR.or op_add (OpR.or op_add_str (OpR.or op_catA op_cat))
theorem str_app (a b : Str) : (a ++ b).cps.toList = a.cps.toList ++ b.cps.toList := by
  show (a.cps ++ b.cps).toList = _
  rw [Array.toList_append]
theorem snd_addL {f : List Addr} {H : Hp} {st : Sto} {x y : Dt} {vx vy : V} {Wx : Value → Option Addr → Hp → Prop} {Q : VK} (rh : RH K T f H st) (rx : RV K T H f x vx) (ry : RV K T H f y vy)
    (p : Post K T (rV K T) Wx f H (match lsD x st, lsD y st with
    | some a, some b => if a.length + b.length ≤ lim then .ok (.li (a ++ b)) st else .stuck
    | _, _ => .stuck) Q) : rCat vx vy H Q := by
  cases h1 : lsD x st with
  | none => rw [h1] at p; exact p.elim
  | some a =>
    cases h2 : lsD y st with
    | none => rw [h1, h2] at p; exact p.elim
    | some b =>
      rw [h1, h2] at p
      simp only at p
      obtain ⟨_, _, rfl, q1, r1⟩ := lsD_ok rh rx h1
      obtain ⟨_, _, rfl, q2, r2⟩ := lsD_ok rh ry h2
      split at p
      · rename_i hl
        rw [r1.len, r2.len] at hl
        exact ⟨_, _, _, _, rfl, rfl, q1, q2, lim_le hl, fun q hq => new_li p rh hq (r1.app r2)⟩
      · exact p.elim
theorem snd_add : Snd2 K T (rAddD K) addD := fun f H st x y vx vy Wx Q rh rx ry p => by
  unfold addD at p
  split at p
  · cases rx; cases ry
    exact .inl ⟨_, _, rfl, rfl, p.now rh (.int _)⟩
  · cases rx; cases ry
    rename_i a b
    split at p
    · rename_i hl
      rw [len_str, len_str] at hl
      exact .inr (.inl ⟨_, _, rfl, rfl, lim_le hl, p.now rh (.str' (str_app a b))⟩)
    · exact p.elim
  · rename_i as bs
    cases rx with
    | @tup as va ha hs1 r1 =>
    cases ry with
    | @tup bs vb hb hs2 r2 =>
    split at p
    · rename_i hl
      rw [r1.len, r2.len] at hl
      refine .inr (.inr (.inl ⟨_, _, _, _, rfl, rfl, hs1, hs2, lim_le hl, fun z => ?_, fun z z2 => ?_, fun z z2 q hq => ?_⟩))
      · subst z; cases r1
        exact p.now rh (.tup hs2 r2)
      · subst z2; cases r2
        rw [List.append_nil] at p
        exact p.now rh (.tup hs1 r1)
      · exact new_tup p rh hq (r1.app r2)
    · exact p.elim
  · exact .inr (.inr (.inr (snd_addL rh rx ry p)))
theorem snd_mono {r r' : R2} {g : Dt → Dt → Sto → Re Dt} (h : Snd2 K T r g) (hr : ∀ x y H Q, r x y H Q → r' x y H Q) : Snd2 K T r' g := fun f H st x y vx vy Wx Q rh rx ry p => hr _ _ _ _ (h f H st x y vx vy Wx Q rh rx ry p)
/-! ### times -/
def repL (n : Nat) (xs : List Dt) : List Dt := (List.replicate n xs).flatten
theorem RVs.rep {f : List Addr} {H : Hp} {xs : List Dt} {vs : List V} (r : RVs K T H f xs vs) : ∀ n, RVs K T H f (repL n xs) (List.replicate n vs).flatten
  | 0 => .nil
  | n + 1 => by
    unfold repL
    rw [List.replicate_succ, List.replicate_succ, List.flatten_cons, List.flatten_cons]
    exact r.app (RVs.rep r n)
def mulD (x y : Dt) (st : Sto) : Re Dt := match x, y with
  | .int i, .int j => if cMul i j then .ok (.int (i * j)) st else .stuck
  | x, .int k => match lsD x st with
    | some a => if -1000000 ≤ k ∧ k ≤ 1000000 ∧ a.length * k.toNat ≤ lim then .ok (.li (repL k.toNat a)) st else .stuck
    | _ => .stuck
  | _, _ => .stuck
def rMulD : R2 := fun x y H Q => rI CMul (fun i j => .int (i * j)) x y H Q ∨ rRep x y H Q
theorem op_mulD : OpR X (binaryOp .Mult) rMulD := OpR.or op_mul op_rep
theorem snd_mul : Snd2 K T rMulD mulD := fun f H st x y vx vy Wx Q rh rx ry p => by
  unfold mulD at p
  split at p
  · cases rx; cases ry
    exact .inl (snd_mulI f H st _ _ _ _ Wx Q rh (.int _) (.int _) p)
  · rename_i k _
    cases h1 : lsD x st with
    | none => rw [h1] at p; exact p.elim
    | some a =>
      rw [h1] at p
      simp only at p
      obtain ⟨_, _, rfl, q1, r1⟩ := lsD_ok rh rx h1
      cases ry
      split at p
      · rename_i hl
        obtain ⟨l1, l2, l3⟩ := hl
        rw [r1.len] at l3
        exact .inr ⟨_, _, _, rfl, rfl, q1, by omega, by omega, lim_le l3, fun q hq => new_li p rh hq (r1.rep _)⟩
      · exact p.elim
  · exact p.elim
end
end LT
set_option Elab.async false
set_option linter.all false
set_option maxRecDepth 100000
namespace LT
open PySem PySem.Spec PyProof.Rows L2
/-! ### equality -/
section
variable {X : Cx} {T : Tb} {K : PySem.W.Frag}
def toP : Nat → Sto → Dt → Option PyData
  | 0, _, _ => none
  | n + 1, st, d => match d with
    | .non => some .none
    | .bl b => some (.bool b)
    | .int i => some (.int i)
    | .str s => some (.str ⟨s.toArray⟩)
    | .tup xs => (xs.mapM (toP n st)).map .tuple
    | .rl xs => (xs.mapM (toP n st)).map .list
    | .li xs => (xs.mapM (toP n st)).map .list
    | .ob _ _ => none
    | .dv _ => none
    | .cl _ => none
    | .ref i => match st[i]? with
      | some (.lst xs) => (xs.mapM (toP n st)).map .list
      | _ => none
theorem str_eta (x : Str) : (⟨x.cps.toList.toArray⟩ : Str) = x := by
  cases x; simp
theorem toP_all {f : List Addr} {H : Hp} {st : Sto} {n : Nat} (ih : ∀ (d : Dt) (v : V) (p : PyData), RV K T H f d v → toP n st d = some p → Dp K H v p) : ∀ (xs : List Dt) (vs : List V) (ps : List PyData), RVs K T H f xs vs → xs.mapM (toP n st) = some ps → DpAll K H vs ps
  | [], _, ps, .nil, h => by
    simp at h; subst h; exact .nil
  | d :: ds, _, ps, .cons r t, h => by
    rw [List.mapM_cons] at h
    cases h1 : toP n st d with
    | none => rw [h1] at h; cases h
    | some p =>
      rw [h1] at h
      cases h2 : ds.mapM (toP n st) with
      | none => rw [h2] at h; cases h
      | some q =>
        rw [h2] at h
        cases h
        exact .cons (ih _ _ _ r h1) (toP_all ih ds _ q t h2)
theorem toP_ok {f : List Addr} {H : Hp} {st : Sto} (rh : RH K T f H st) : ∀ (n : Nat) (d : Dt) (v : V) (p : PyData), RV K T H f d v → toP n st d = some p → Dp K H v p
  | 0, _, _, _, _, h => by cases h
  | n + 1, d, v, p, r, h => by
    have ih := toP_ok rh n
    cases r with
    | non => cases h; exact .non
    | bl b => cases h; exact .bl b
    | int i => cases h; exact .int i
    | str x =>
      have e : p = .str x := by
        have h' : some (PyData.str ⟨x.cps.toList.toArray⟩) = some p := h
        rw [str_eta] at h'
        exact (Option.some.inj h').symm
      subst e
      exact .str x
    | @tup ds vs a hs r =>
      have h' : (ds.mapM (toP n st)).map PyData.tuple = some p := h
      cases h2 : ds.mapM (toP n st) with
      | none => rw [h2] at h'; cases h'
      | some q => rw [h2] at h'; cases h'; exact .tup hs (toP_all ih _ _ _ r h2)
    | @rl ds vs a hs r =>
      have h' : (ds.mapM (toP n st)).map PyData.list = some p := h
      cases h2 : ds.mapM (toP n st) with
      | none => rw [h2] at h'; cases h'
      | some q => rw [h2] at h'; cases h'; exact .lst hs.sq (toP_all ih _ _ _ r h2)
    | @li ds vs a hf hs r =>
      have h' : (ds.mapM (toP n st)).map PyData.list = some p := h
      cases h2 : ds.mapM (toP n st) with
      | none => rw [h2] at h'; cases h'
      | some q => rw [h2] at h'; cases h'; exact .lst (.inl (.inl hs)) (toP_all ih _ _ _ r h2)
    | ob hf hs r => cases h
    | dv hf hs r => cases h
    | cl c => first | exact p.elim | exact p1.elim | exact p2.elim | exact p3.elim | (cases h; done) | (cases hd; done) | (cases h1; done) | (simp at h; done) | (simp_all; done)
    | @ref i a hi =>
      obtain ⟨o, ho⟩ := rh.lt hi
      simp only [toP, ho] at h
      cases o with
      | lst xs =>
        obtain ⟨vs, h3, r⟩ := rh.lst hi ho
        have h' : (xs.mapM (toP n st)).map PyData.list = some p := h
        cases h2 : xs.mapM (toP n st) with
        | none => rw [h2] at h'; cases h'
        | some q => rw [h2] at h'; cases h'; exact .lst (.inl (.inl h3)) (toP_all ih _ _ _ r h2)
      | _ => cases h
/-- lists by their lengths -/
def lenL : Dt → Sto → Option Nat
  | .rl xs, _ => some xs.length
  | .li xs, _ => some xs.length
  | .ref i, st => match st[i]? with
    | some (.lst xs) => some xs.length
    | _ => none
  | _, _ => none
theorem lenL_ok {f : List Addr} {H : Hp} {st : Sto} {d : Dt} {v : V} {n : Nat} (rh : RH K T f H st) (r : RV K T H f d v) (h : lenL d st = some n) : ∃ a xs, v = .ref a ∧ SqL K H a xs ∧ xs.length = n := by
  cases r with
  | @rl ds vs a hs r => cases h; exact ⟨_, _, rfl, hs.sq, r.len.symm⟩
  | @li ds vs a hf hs r => cases h; exact ⟨_, _, rfl, .inl (.inl hs), r.len.symm⟩
  | @ref i a hi =>
    obtain ⟨o, ho⟩ := rh.lt hi
    simp only [lenL, ho] at h
    cases o with
    | lst xs => cases h; obtain ⟨vs, h3, r⟩ := rh.lst hi ho; exact ⟨_, _, rfl, .inl (.inl h3), r.len.symm⟩
    | _ => cases h
  | _ => cases h
def eqB (x y : Dt) (st : Sto) : Option Bool := match x, y with
  | .str a, .str b => some (decide (a = b))
  | .int i, .int j => some (decide (i = j))
  | .bl a, .bl b => some (decide (a = b))
  | .non, .non => some true
  | .non, .str _ => some false
  | .str _, .non => some false
  | .non, .int _ => some false
  | .int _, .non => some false
  | x, y => match lenL x st, lenL y st with
    | some m, some n => if m = n then eqP x y st else some false
    | _, _ => eqP x y st
where eqP (x y : Dt) (st : Sto) : Option Bool := match toP 40 st x, toP 40 st y with
    | some a, some b => if SeqAt.shaped a && SeqAt.shaped b then some (PyData.eqv a b) else none
    | _, _ => none
def rLens (K : PySem.W.Frag) (b : Bool) : R2 := fun x y H Q => ∃ p q xs ys, x = .ref p ∧ y = .ref q ∧ SqL K H p xs ∧ SqL K H q ys ∧ xs.length ≠ ys.length ∧ Q (.bl b) H
theorem op_lens (hu : X.A.units < cLine) : OpR X (compareOp .Eq) (rLens X.K false) := by
  intro pins s σ H x y v u Q I rx ry h
  obtain ⟨p, q, xs, ys, rfl, rfl, h1, h2, hl, hq⟩ := h
  cases rx; cases ry
  obtain ⟨i1, r1, t1, _⟩ := I.list h1
  obtain ⟨i2, r2, t2, _⟩ := I.list h2
  refine SeqAt.eq_list_lengthsAt t1.isList t2.isList ?_ hu ⟨.bl false, H, I, rfl, hq⟩
  rw [List.size_toArray, List.size_toArray, ← r1.length, ← r2.length]
  simpa using hl
theorem op_lensN (hu : X.A.units < cLine) : OpR X (compareOp .NotEq) (rLens X.K true) := by
  intro pins s σ H x y v u Q I rx ry h
  obtain ⟨p, q, xs, ys, rfl, rfl, h1, h2, hl, hq⟩ := h
  cases rx; cases ry
  obtain ⟨i1, r1, t1, _⟩ := I.list h1
  obtain ⟨i2, r2, t2, _⟩ := I.list h2
  refine SeqAt.RcNeAt.lists_lengths t1.isList t2.isList ?_ hu _ _ _ _ ⟨.bl true, H, I, rfl, hq⟩
  rw [List.size_toArray, List.size_toArray, ← r1.length, ← r2.length]
  simpa using hl
def rEqA (K : PySem.W.Frag) : R2 := fun x y H Q => rEq x y H Q ∨ rLens K false x y H Q ∨ rEqD K x y H Q
def rNeA (K : PySem.W.Frag) : R2 := fun x y H Q => rNe x y H Q ∨ rLens K true x y H Q ∨ rNeD K x y H Q
theorem op_eqA (hu : X.A.units + 64 < cLine) : OpR X (compareOp .Eq) (rEqA X.K) := OpR.or op_eq (OpR.or (op_lens (by omega)) (op_eqD hu))
theorem op_neA (hu : X.A.units + 64 < cLine) : OpR X (compareOp .NotEq) (rNeA X.K) := OpR.or op_ne (OpR.or (op_lensN (by omega)) (op_neD hu))
theorem dec_strL (a b : Str) : decide (V.str a = V.str b) = decide (a.cps.toList = b.cps.toList) := by
  by_cases h : a = b
  · subst h; simp
  · rw [decide_eq_false (fun z => h (V.str.inj z)), decide_eq_false (fun z => h ?_)]
    have z' : a.cps = b.cps := Array.toList_inj.mp z
    cases a; cases b; simp at z'; rw [z']
/-- the ways two values are compared -/
theorem eqB_ways {f : List Addr} {H : Hp} {st : Sto} {x y : Dt} {vx vy : V} {b : Bool} (rh : RH K T f H st) (rx : RV K T H f x vx) (ry : RV K T H f y vy) (h : eqB x y st = some b) :
    (scal vx vy = true ∧ decide (vx = vy) = b) ∨ (b = false ∧ ∃ p q xs ys, vx = .ref p ∧ vy = .ref q ∧ SqL K H p xs ∧ SqL K H q ys ∧ xs.length ≠ ys.length) ∨ ∃ d e, Dp K H vx d ∧ Dp K H vy e ∧ SeqAt.shaped d = true ∧ SeqAt.shaped e = true ∧ PyData.eqv d e = b := by
  have deep : eqB.eqP x y st = some b → ∃ d e, Dp K H vx d ∧ Dp K H vy e ∧ SeqAt.shaped d = true ∧ SeqAt.shaped e = true ∧ PyData.eqv d e = b := fun h => by
    unfold eqB.eqP at h
    split at h
    · rename_i d e h1 h2
      split at h
      · rename_i hs
        rw [Bool.and_eq_true] at hs
        cases h
        exact ⟨d, e, toP_ok rh _ _ _ _ rx h1, toP_ok rh _ _ _ _ ry h2, hs.1, hs.2, rfl⟩
      · cases h
    · cases h
  have gen : (match lenL x st, lenL y st with
    | some m, some n => if m = n then eqB.eqP x y st else some false
    | _, _ => eqB.eqP x y st) = some b → (b = false ∧ ∃ p q xs ys, vx = .ref p ∧ vy = .ref q ∧ SqL K H p xs ∧ SqL K H q ys ∧ xs.length ≠ ys.length) ∨ ∃ d e, Dp K H vx d ∧ Dp K H vy e ∧ SeqAt.shaped d = true ∧ SeqAt.shaped e = true ∧ PyData.eqv d e = b := fun h => by
    split at h
    · rename_i m n h1 h2
      split at h
      · exact .inr (deep h)
      · rename_i hne
        cases h
        obtain ⟨a1, xs, e1, q1, l1⟩ := lenL_ok rh rx h1
        obtain ⟨a2, ys, e2, q2, l2⟩ := lenL_ok rh ry h2
        exact .inl ⟨rfl, _, _, _, _, e1, e2, q1, q2, by rw [l1, l2]; exact hne⟩
    · exact .inr (deep h)
  unfold eqB at h
  split at h
  · cases rx; cases ry; cases h; exact .inl ⟨rfl, dec_strL _ _⟩
  · cases rx; cases ry; cases h; exact .inl ⟨rfl, by rw [dec_int]; simp [BEq.beq]⟩
  · cases rx; cases ry; cases h; exact .inl ⟨rfl, by rw [dec_bl]; simp [BEq.beq]⟩
  · cases rx; cases ry; cases h; exact .inl ⟨rfl, rfl⟩
  · cases rx; cases ry; cases h; exact .inl ⟨rfl, rfl⟩
  · cases rx; cases ry; cases h; exact .inl ⟨rfl, rfl⟩
  · cases rx; cases ry; cases h; exact .inl ⟨rfl, rfl⟩
  · cases rx; cases ry; cases h; exact .inl ⟨rfl, rfl⟩
  · exact .inr (gen h)
def eqD (x y : Dt) (st : Sto) : Re Dt := match eqB x y st with
  | some b => .ok (.bl b) st
  | none => .stuck
def neD (x y : Dt) (st : Sto) : Re Dt := match eqB x y st with
  | some b => .ok (.bl (!b)) st
  | none => .stuck
theorem snd_eq : Snd2 K T (rEqA K) eqD := fun f H st x y vx vy Wx Q rh rx ry p => by
  unfold eqD at p
  split at p
  · rename_i b hb
    have q : Q (.bl b) H := p.now rh (.bl b)
    rcases eqB_ways rh rx ry hb with ⟨h1, h2⟩ | ⟨rfl, p1, q1, xs, ys, e1, e2, h1, h2, hl⟩ | ⟨d, e, h1, h2, h3, h4, h5⟩
    · exact .inl ⟨h1, by rw [h2]; exact q⟩
    · exact .inr (.inl ⟨p1, q1, xs, ys, e1, e2, h1, h2, hl, q⟩)
    · exact .inr (.inr ⟨d, e, h1, h2, h3, h4, by rw [h5]; exact q⟩)
  · exact p.elim
theorem snd_ne : Snd2 K T (rNeA K) neD := fun f H st x y vx vy Wx Q rh rx ry p => by
  unfold neD at p
  split at p
  · rename_i b hb
    have q : Q (.bl (!b)) H := p.now rh (.bl _)
    rcases eqB_ways rh rx ry hb with ⟨h1, h2⟩ | ⟨rfl, p1, q1, xs, ys, e1, e2, h1, h2, hl⟩ | ⟨d, e, h1, h2, h3, h4, h5⟩
    · exact .inl ⟨h1, by rw [h2]; exact q⟩
    · exact .inr (.inl ⟨p1, q1, xs, ys, e1, e2, h1, h2, hl, q⟩)
    · exact .inr (.inr ⟨d, e, h1, h2, h3, h4, by rw [h5]; exact q⟩)
  · exact p.elim
/-! ### is None, is True -/
def isNonD : Dt → Dt → Sto → Re Dt
  | x, .non, st => .ok (.bl (match x with | .non => true | _ => false)) st
  | .bl a, .bl b, st => .ok (.bl (a == b)) st
  | _, _, _ => .stuck
def isNotD : Dt → Dt → Sto → Re Dt
  | x, .non, st => .ok (.bl (match x with | .non => false | _ => true)) st
  | .bl a, .bl b, st => .ok (.bl (!(a == b))) st
  | _, _, _ => .stuck
def rIsA : R2 := fun x y H Q => (y = .non ∧ Q (.bl (decide (x = .non))) H) ∨ ∃ a b, x = .bl a ∧ y = .bl b ∧ Q (.bl (decide (a = b))) H
def rIsNotA : R2 := fun x y H Q => (y = .non ∧ Q (.bl (!decide (x = .non))) H) ∨ ∃ a b, x = .bl a ∧ y = .bl b ∧ Q (.bl (!decide (a = b))) H
theorem op_isA : OpR X (compareOp .Is) rIsA := OpR.or op_isN op_is_bl
theorem op_isNotA : OpR X (compareOp .IsNot) rIsNotA := OpR.or op_notN op_isnot_bl
theorem snd_is : Snd2 K T rIsA isNonD := fun f H st x y vx vy Wx Q rh rx ry p => by
  cases ry with
  | non =>
    refine .inl ⟨rfl, ?_⟩
    cases rx <;> exact p.now rh (.bl _)
  | bl b =>
    cases rx <;> first | exact p.elim | skip
    rename_i a
    refine .inr ⟨_, _, rfl, rfl, ?_⟩
    have := p.now rh (.bl (a == b))
    rwa [Bool.beq_eq_decide_eq] at this
  | _ => cases rx <;> exact p.elim
theorem snd_isNot : Snd2 K T rIsNotA isNotD := fun f H st x y vx vy Wx Q rh rx ry p => by
  cases ry with
  | non =>
    refine .inl ⟨rfl, ?_⟩
    cases rx <;> exact p.now rh (.bl _)
  | bl b =>
    cases rx <;> first | exact p.elim | skip
    rename_i a
    refine .inr ⟨_, _, rfl, rfl, ?_⟩
    have := p.now rh (.bl (!(a == b)))
    rwa [Bool.beq_eq_decide_eq] at this
  | _ => cases rx <;> exact p.elim
end
end LT
set_option Elab.async false
set_option linter.all false
set_option maxRecDepth 100000
namespace LT
open PySem PySem.Spec PyProof.Rows L2
section
variable {X : Cx} {T : Tb} {K : PySem.W.Frag} {W : WX}
/-! ### sequences -/
def seqD : Dt → Sto → Option (List Dt)
  | .tup xs, _ => some xs
  | .rl xs, _ => some xs
  | .li xs, _ => some xs
  | .ref i, st => match st[i]? with
    | some (.lst xs) => some xs
    | _ => none
  | _, _ => none
theorem seqD_ok {f : List Addr} {H : Hp} {st : Sto} {d : Dt} {v : V} {xs : List Dt} (rh : RH K T f H st) (r : RV K T H f d v) (h : seqD d st = some xs) : ∃ a vs, v = .ref a ∧ (SqL K H a vs ∨ SqT K H a vs) ∧ RVs K T H f xs vs := by
  cases r with
  | @tup ds vs a hs r => cases h; exact ⟨_, _, rfl, .inr hs, r⟩
  | @rl ds vs a hs r => cases h; exact ⟨_, _, rfl, .inl hs.sq, r⟩
  | @li ds vs a hf hs r => cases h; exact ⟨_, _, rfl, .inl (.inl (.inl hs)), r⟩
  | @ref i a hi =>
    obtain ⟨o, ho⟩ := rh.lt hi
    simp only [seqD, ho] at h
    cases o with
    | lst ys => cases h; obtain ⟨vs, h3, r⟩ := rh.lst hi ho; exact ⟨_, _, rfl, .inl (.inl (.inl h3)), r⟩
    | _ => cases h
  | _ => cases h
def flatD : Dt → Bool
  | .non => true
  | .bl _ => true
  | .int _ => true
  | .str _ => true
  | _ => false
def eqFl : Dt → Dt → Bool
  | .non, .non => true
  | .bl a, .bl b => a == b
  | .bl a, .int b => (if a then 1 else 0) == b
  | .int a, .bl b => a == (if b then 1 else 0)
  | .int a, .int b => a == b
  | .str a, .str b => a == b
  | _, _ => false
theorem flat_ok {f : List Addr} {H : Hp} {d : Dt} {v : V} (r : RV K T H f d v) (h : flatD d = true) : flatV v = true := by
  cases r <;> first | rfl | cases h
theorem flat_all {f : List Addr} {H : Hp} : ∀ {ds : List Dt} {vs : List V}, RVs K T H f ds vs → ds.all flatD = true → vs.all flatV = true
  | _, _, .nil, _ => rfl
  | _, _, .cons r t, h => by
    rw [List.all_cons, Bool.and_eq_true] at h ⊢
    exact ⟨flat_ok r h.1, flat_all t h.2⟩
theorem str_beqL (x y : Str) : (x == y) = (x.cps.toList == y.cps.toList) := (SeqAt.str_beq x y).symm
theorem eqFl_ok {f : List Addr} {H : Hp} {d e : Dt} {v u : V} (r : RV K T H f d v) (r2 : RV K T H f e u) (h : flatD d = true) (h2 : flatD e = true) : eqV v u = eqFl d e := by
  cases r <;> first | cases h | skip
  all_goals (cases r2 <;> first | rfl | exact str_beqL _ _ | cases h2)
theorem inFl_ok {f : List Addr} {H : Hp} {d : Dt} {v : V} (r : RV K T H f d v) (h : flatD d = true) : ∀ {ds : List Dt} {vs : List V}, RVs K T H f ds vs → ds.all flatD = true → inV v vs = ds.any fun y => eqFl y d
  | _, _, .nil, _ => rfl
  | _, _, .cons r1 t, h1 => by
    rw [List.all_cons, Bool.and_eq_true] at h1
    unfold inV
    rw [List.any_cons, List.any_cons, eqFl_ok r1 r h1.1 h]
    congr 1
    exact inFl_ok r h t h1.2
def inB (x y : Dt) (st : Sto) : Option Bool := match x, y with
  | .str [c], .str s => some (decide (c ∈ s))
  | x, y => match seqD y st with
    | some ys => if flatD x && ys.all flatD then some (ys.any fun z => eqFl z x) else none
    | none => none
def rInA (K : PySem.W.Frag) : R2 := fun x y H Q => (∃ (c : Nat) (z : Str), x = .str ⟨#[c]⟩ ∧ y = .str z ∧ Q (.bl (decide (c ∈ z.cps.toList))) H) ∨ rIn K false x y H Q
def rNotInA (K : PySem.W.Frag) : R2 := fun x y H Q => (∃ (c : Nat) (z : Str), x = .str ⟨#[c]⟩ ∧ y = .str z ∧ Q (.bl (!decide (c ∈ z.cps.toList))) H) ∨ rIn K true x y H Q
theorem op_inA : OpR X (compareOp .In) (rInA X.K) := OpR.or op_in_sign op_in_seq
theorem op_notInA : OpR X (compareOp .NotIn) (rNotInA X.K) := OpR.or op_notIn_sign op_notIn_seq
theorem inB_ways {f : List Addr} {H : Hp} {st : Sto} {x y : Dt} {vx vy : V} {b : Bool} (rh : RH K T f H st) (rx : RV K T H f x vx) (ry : RV K T H f y vy) (h : inB x y st = some b) :
    (∃ (c : Nat) (z : Str), vx = .str ⟨#[c]⟩ ∧ vy = .str z ∧ decide (c ∈ z.cps.toList) = b) ∨ ∃ p xs, vy = .ref p ∧ (SqL K H p xs ∨ SqT K H p xs) ∧ flatV vx = true ∧ xs.all flatV = true ∧ inV vx xs = b := by
  unfold inB at h
  split at h
  · rename_i c s
    generalize hd : Dt.str [c] = d at rx
    cases rx <;> first | cases hd | skip
    rename_i z
    cases ry
    cases h
    refine .inl ⟨c, _, ?_, rfl, rfl⟩
    have e : z.cps.toList = [c] := (Dt.str.inj hd).symm
    rw [← str_eta z, e]
  · split at h
    · rename_i ys hy
      split at h
      · rename_i hf
        rw [Bool.and_eq_true] at hf
        cases h
        obtain ⟨a, vs, e, hs, r⟩ := seqD_ok rh ry hy
        exact .inr ⟨a, vs, e, hs, flat_ok rx hf.1, flat_all r hf.2, inFl_ok rx hf.1 r hf.2⟩
      · cases h
    · cases h
def inD (x y : Dt) (st : Sto) : Re Dt := match inB x y st with
  | some b => .ok (.bl b) st
  | none => .stuck
def notInD (x y : Dt) (st : Sto) : Re Dt := match inB x y st with
  | some b => .ok (.bl (!b)) st
  | none => .stuck
theorem snd_in : Snd2 K T (rInA K) inD := fun f H st x y vx vy Wx Q rh rx ry p => by
  unfold inD at p
  split at p
  · rename_i b hb
    have q : Q (.bl b) H := p.now rh (.bl b)
    rcases inB_ways rh rx ry hb with ⟨c, z, e1, e2, h⟩ | ⟨a, xs, e1, h1, h2, h3, h4⟩
    · exact .inl ⟨c, z, e1, e2, by rw [h]; exact q⟩
    · exact .inr ⟨a, xs, e1, h1, h2, h3, by rw [if_neg Bool.false_ne_true, h4]; exact q⟩
  · exact p.elim
theorem snd_notIn : Snd2 K T (rNotInA K) notInD := fun f H st x y vx vy Wx Q rh rx ry p => by
  unfold notInD at p
  split at p
  · rename_i b hb
    have q : Q (.bl (!b)) H := p.now rh (.bl _)
    rcases inB_ways rh rx ry hb with ⟨c, z, e1, e2, h⟩ | ⟨a, xs, e1, h1, h2, h3, h4⟩
    · exact .inl ⟨c, z, e1, e2, by rw [h]; exact q⟩
    · exact .inr ⟨a, xs, e1, h1, h2, h3, by rw [if_pos rfl, h4]; exact q⟩
  · exact p.elim
/-! ### a place -/
def ixD : Dt → Dt → Sto → Re Dt
  | .str s, .int i, st => match atI s i with
    | some c => if s.length ≤ lim then .ok (.str [c]) st else .stuck
    | none => .stuck
  | x, .int i, st => match seqD x st with
    | some xs => match atI xs i with
      | some d => .ok d st
      | none => .stuck
    | none => .stuck
  | _, _, _ => .stuck
theorem atI_ok {f : List Addr} {H : Hp} {xs : List Dt} {vs : List V} {i : Int} {d : Dt} (r : RVs K T H f xs vs) (h : atI xs i = some d) : ∃ v, atI vs i = some v ∧ RV K T H f d v := by
  unfold atI at h ⊢
  rw [r.len] at h
  cases hj : ixN vs.length i with
  | none => rw [hj] at h; cases h
  | some j => rw [hj] at h; exact r.get h
theorem snd_ix : Snd2 K T (rIx K) ixD := fun f H st x y vx vy Wx Q rh rx ry p => by
  cases ry with
  | int i =>
    have gen : (∃ xs d, seqD x st = some xs ∧ atI xs i = some d ∧ Post K T (rV K T) Wx f H (.ok d st) Q) → rIx K vx (.int i) H Q := fun ⟨xs, d, h1, h2, p⟩ => by
      obtain ⟨a, vs, e, hs, r⟩ := seqD_ok rh rx h1
      obtain ⟨v, h3, h4⟩ := atI_ok r h2
      rcases hs with hs | hs
      · exact .inl ⟨a, vs, i, v, e, rfl, hs, h3, p.now rh h4⟩
      · exact .inr (.inl ⟨a, vs, i, v, e, rfl, hs, h3, p.now rh h4⟩)
    cases rx with
    | str z =>
      have p' : Post K T (rV K T) Wx f H (match atI z.cps.toList i with
        | some c => if z.cps.toList.length ≤ lim then .ok (.str [c]) st else .stuck
        | none => .stuck) Q := p
      cases hc : atI z.cps.toList i with
      | none => rw [hc] at p'; exact p'.elim
      | some c =>
        rw [hc] at p'
        simp only at p'
        split at p'
        · rename_i hl
          rw [len_str] at hl
          exact .inr (.inr ⟨z, i, c, rfl, rfl, lim_le hl, hc, p'.now rh (.str' rfl)⟩)
        · exact p'.elim
    | @tup ds vs a hs r =>
      refine gen ?_
      simp only [ixD, seqD] at p
      cases hc : atI ds i with
      | none => rw [hc] at p; exact p.elim
      | some c => rw [hc] at p; exact ⟨_, _, rfl, hc, p⟩
    | @rl ds vs a hs r =>
      refine gen ?_
      simp only [ixD, seqD] at p
      cases hc : atI ds i with
      | none => rw [hc] at p; exact p.elim
      | some c => rw [hc] at p; exact ⟨_, _, rfl, hc, p⟩
    | @li ds vs a hf hs r =>
      refine gen ?_
      simp only [ixD, seqD] at p
      cases hc : atI ds i with
      | none => rw [hc] at p; exact p.elim
      | some c => rw [hc] at p; exact ⟨_, _, rfl, hc, p⟩
    | ob _ _ _ => exact p.elim
    | dv _ _ _ => exact p.elim
    | cl c => first | exact p.elim | exact p1.elim | exact p2.elim | exact p3.elim | (cases h; done) | (cases hd; done) | (cases h1; done) | (simp at h; done) | (simp_all; done)
    | @ref j a hj =>
      refine gen ?_
      simp only [ixD] at p
      split at p
      · rename_i xs hs
        split at p
        · rename_i d hc
          exact ⟨_, _, hs, hc, p⟩
        · exact p.elim
      · exact p.elim
    | non => exact p.elim
    | bl _ => exact p.elim
    | int _ => exact p.elim
  | _ => cases rx <;> exact p.elim
/-! ### slices -/
def cutL {α : Type} (xs : List α) (lo hi : Option Int) : List α := (xs.drop (HT.sIx xs.length 0 lo)).take (HT.sIx xs.length xs.length hi - HT.sIx xs.length 0 lo)
theorem cut_ok {f : List Addr} {H : Hp} {xs : List Dt} {vs : List V} (r : RVs K T H f xs vs) (lo hi : Option Int) : RVs K T H f (cutL xs lo hi) (cutV vs lo hi) := by
  unfold cutL cutV
  rw [r.len]
  exact (r.drop _).take _
abbrev MO := M (Option Int)
abbrev rOI : Rel (Option Int) (Option Int) := fun _ _ a b => a = b
abbrev IO (X : Cx) (T : Tb) (W : WX) (e : Option Expr) (m : MO) : Prop := PO X e (tG X.K T rOI W m)
def mNoPart : MO := fun _ st => .ok none st
def mPart (a : ME) : MO := fun env st => (a env st).bind fun x st1 => match x with
  | .int i => .ok (some i) st1
  | _ => .stuck
def mSl (g : Dt → Option Int → Option Int → Sto → Re Dt) (a : ME) (lo hi : MO) : ME := fun env st => (a env st).bind fun x st1 => (lo env st1).bind fun l st2 => (hi env st2).bind fun h st3 => g x l h st3
def slD (x : Dt) (lo hi : Option Int) (st : Sto) : Re Dt := match x with
  | .str s => if s.length ≤ lim then .ok (.str (cutL s lo hi)) st else .stuck
  | .tup xs => .ok (.tup (cutL xs lo hi)) st
  | .rl xs => .ok (.li (cutL xs lo hi)) st
  | .li xs => .ok (.li (cutL xs lo hi)) st
  | .ref i => match st[i]? with
    | some (.lst xs) => .ok (.li (cutL xs lo hi)) st
    | _ => .stuck
  | _ => .stuck
def rSlA' (K : PySem.W.Frag) : V → Option Int → Option Int → Hp → VK → Prop := fun x lo hi H Q => rSlS x lo hi H Q ∨ rSlA K x lo hi H Q ∨ rSlL K x lo hi H Q
theorem sl_A : SlR X (rSlA' X.K) := SlR.or sl_str (SlR.or sl_tupA sl_list)
theorem cut_whole {α : Type} {xs : List α} {lo hi : Option Int} (h : HT.sIx xs.length 0 lo = 0 ∧ HT.sIx xs.length xs.length hi = xs.length) : cutL xs lo hi = xs := by
  unfold cutL
  rw [h.1, h.2]
  simp
theorem slD_ok {f : List Addr} {H : Hp} {st : Sto} {x : Dt} {v : V} {lo hi : Option Int} {Wx : Value → Option Addr → Hp → Prop} {Q : VK} (rh : RH K T f H st) (rx : RV K T H f x v) (p : Post K T (rV K T) Wx f H (slD x lo hi st) Q) : rSlA' K v lo hi H Q := by
  cases rx with
  | str z =>
    have p' : Post K T (rV K T) Wx f H (if z.cps.toList.length ≤ lim then .ok (.str (cutL z.cps.toList lo hi)) st else .stuck) Q := p
    split at p'
    · rename_i hl
      rw [len_str] at hl
      refine .inl ⟨z, rfl, lim_le hl, p'.now rh (.str' ?_)⟩
      unfold cutS cutL
      rw [len_str]
    · exact p'.elim
  | @tup ds vs a hs r =>
    have p' : Post K T (rV K T) Wx f H (.ok (.tup (cutL ds lo hi)) st) Q := p
    refine .inr (.inl ⟨a, vs, rfl, hs, fun h => ?_, fun h q hq => new_tup p' rh hq (cut_ok r lo hi)⟩)
    rw [← r.len] at h
    rw [cut_whole h] at p'
    exact p'.now rh (.tup hs r)
  | @rl ds vs a hs r => exact .inr (.inr ⟨a, vs, rfl, hs.sq, fun q hq => new_li p rh hq (cut_ok r lo hi)⟩)
  | @li ds vs a hf hs r => exact .inr (.inr ⟨a, vs, rfl, .inl (.inl hs), fun q hq => new_li p rh hq (cut_ok r lo hi)⟩)
  | @ref i a hi' =>
    obtain ⟨o, ho⟩ := rh.lt hi'
    simp only [slD, ho] at p
    cases o with
    | lst ys =>
      obtain ⟨vs, h3, r⟩ := rh.lst hi' ho
      exact .inr (.inr ⟨a, vs, rfl, .inl (.inl h3), fun q hq => new_li p rh hq (cut_ok r lo hi)⟩)
    | _ => exact p.elim
  | _ => exact p.elim
theorem io_none : IO X T W none mNoPart := ⟨fun pins s σ H Q I ⟨f, env, st, re, rh, p⟩ => (po_none (X := X)).run pins s σ H Q I (p.now rh rfl)⟩
theorem io_some {e : Expr} {me : ME} (h : IE X T W e me) : IO X T W (some e) (mPart me) := ⟨fun pins s σ H Q I ⟨f, env, st, re, rh, p⟩ => (po_some h).run pins s σ H Q I ⟨f, env, st, re, rh, p.bind fun x st1 f1 H1 vx hp s rh1 rx p1 => by
    cases rx with
    | int i => exact ⟨i, rfl, p1.now rh1 rfl⟩
    | _ => exact p1.elim⟩⟩
theorem ie_slice {e : Expr} {me : ME} {lo hi : Option Expr} {ml mh : MO} {p2 pos : Pos} (he : IE X T W e me) (hl : IO X T W lo ml) (hh : IO X T W hi mh) : IE X T W (.Subscript e (.Slice lo hi none p2) pos) (mSl slD me ml mh) :=
  PEw (pe_slice sl_A he hl hh) fun σ H Q ⟨f, env, st, re, rh, p⟩ => ⟨f, env, st, re, rh, p.bind fun x st1 f1 H1 vx hp s rh1 rx p1 => ⟨f1, env, st1, re.mono hp s, rh1, p1.bind fun y st2 f2 H2 vy hp2 s2 rh2 ry p2 =>
    ⟨f2, env, st2, (re.mono hp s).mono hp2 s2, rh2, p2.bind fun z st3 f3 H3 vz hp3 s3 rh3 rz p3 => by
      cases ry; cases rz
      exact slD_ok rh3 ((rx.mono hp2 s2).mono hp3 s3) p3⟩⟩⟩
def mRev (a : ME) : ME := fun env st => (a env st).bind fun x st1 => match lsD x st1 with
  | some xs => .ok (.ref st1.length) (st1 ++ [.lst xs.reverse])
  | none => .stuck
def mRevV (a : ME) : ME := fun env st => (a env st).bind fun x st1 => match lsD x st1 with
  | some xs => .ok (.li xs.reverse) st1
  | none => .stuck
theorem ie_rev {e : Expr} {me : ME} {k : Nat} {p1 p2 p3 pos : Pos} (he : IE X T W e me) : IE X T W (.Subscript e (.Slice none none (some (.UnaryOp .USub (.Constant (.int 1) k p1) p2)) p3) pos) (mRev me) :=
  PEw (pe_revL he) fun σ H Q ⟨f, env, st, re, rh, p⟩ => ⟨f, env, st, re, rh, p.bind fun x st1 f1 H1 vx hp s rh1 rx p1 => by
    cases h1 : lsD x st1 with
    | none => rw [h1] at p1; exact p1.elim
    | some xs =>
      rw [h1] at p1
      obtain ⟨a, vs, rfl, h3, r⟩ := lsD_ok rh1 rx h1
      exact ⟨a, vs, rfl, .inl (.inl h3), fun q hq => new_lst p1 rh1 hq r.rev⟩⟩
theorem ie_revV {e : Expr} {me : ME} {k : Nat} {p1 p2 p3 pos : Pos} (he : IE X T W e me) : IE X T W (.Subscript e (.Slice none none (some (.UnaryOp .USub (.Constant (.int 1) k p1) p2)) p3) pos) (mRevV me) :=
  PEw (pe_revL he) fun σ H Q ⟨f, env, st, re, rh, p⟩ => ⟨f, env, st, re, rh, p.bind fun x st1 f1 H1 vx hp s rh1 rx p1 => by
    cases h1 : lsD x st1 with
    | none => rw [h1] at p1; exact p1.elim
    | some xs =>
      rw [h1] at p1
      obtain ⟨a, vs, rfl, h3, r⟩ := lsD_ok rh1 rx h1
      exact ⟨a, vs, rfl, .inl (.inl h3), fun q hq => new_li p1 rh1 hq r.rev⟩⟩
/-! ### built-in functions -/
def mLstV (a : MA) : ME := fun env st => (a env st).bind fun xs st1 => if xs.length ≤ lim then .ok (.li xs) st1 else .stuck
theorem ie_lstV {es : List Expr} {ms : MA} {pos : Pos} (h : IA X T W es ms) : IE X T W (.List es pos) (mLstV ms) := PEw (pe_lst h) fun σ H Q ⟨f, env, st, re, rh, p⟩ =>
  ⟨f, env, st, re, rh, p.bind fun xs st1 f1 H1 vx hp s rh1 rx p1 => by
    split at p1
    · rename_i hl
      exact ⟨by rw [← rx.len]; exact lim_le hl, fun q hq => new_li p1 rh1 hq rx⟩
    · exact p1.elim⟩
def lenD (xs : List Dt) (st : Sto) : Re Dt := match xs with
  | [.str s] => if s.length ≤ lim then .ok (.int s.length) st else .stuck
  | [x] => match seqD x st with
    | some ys => .ok (.int ys.length) st
    | none => match x with
      | .ref i => match st[i]? with
        | some (.dk kvs) => .ok (.int kvs.length) st
        | _ => .stuck
      | .dv kvs => .ok (.int kvs.length) st
      | _ => .stuck
  | _ => .stuck
def rLenA (K : PySem.W.Frag) : List V → Hp → VK → Prop := fun xs H Q => (∃ x n, xs = [x] ∧ LenV K x H n ∧ Q (.int n) H) ∨ ∃ a kvs, xs = [V.ref a] ∧ H a = some (.dK kvs) ∧ Q (.int kvs.length) H
theorem call_lenA : CallR X (.builtin "len") (rLenA X.K) := CallR.or call_len call_lenD
theorem DR.len {f : List Addr} {H : Hp} : ∀ {ks : List (Dt × Dt)} {vs : List (Key × V)}, DR K T H f ks vs → ks.length = vs.length
  | _, _, .nil => rfl
  | _, _, .cons _ _ t => by rw [List.length_cons, List.length_cons, DR.len t]
theorem snd_len : SndC K T (rLenA K) lenD := fun f H st xs vs Wx Q rh r p => by
  cases r with
  | nil => exact p.elim
  | cons rx t =>
    cases t with
    | cons _ _ => cases rx <;> exact p.elim
    | nil =>
      have gen : ∀ {x : Dt} {v : V} {ys : List Dt}, RV K T H f x v → seqD x st = some ys → Post K T (rV K T) Wx f H (.ok (.int ys.length) st) Q → rLenA K [v] H Q := fun rx h p => by
        obtain ⟨a, vs, e, hs, r⟩ := seqD_ok rh rx h
        rw [r.len] at p
        refine .inl ⟨_, vs.length, rfl, ?_, p.now rh (.int _)⟩
        rw [e]
        exact hs.elim (fun h => .inl ⟨_, h, rfl⟩) fun h => .inr ⟨_, h, rfl⟩
      cases rx with
      | str z =>
        have p' : Post K T (rV K T) Wx f H (if z.cps.toList.length ≤ lim then .ok (.int z.cps.toList.length) st else .stuck) Q := p
        split at p'
        · rename_i hl
          rw [len_str] at hl p'
          exact .inl ⟨_, z.length, rfl, ⟨lim_le hl, rfl⟩, p'.now rh (.int _)⟩
        · exact p'.elim
      | @tup ds vs a hs r => exact gen (.tup hs r) rfl p
      | @rl ds vs a hs r => exact gen (.rl hs r) rfl p
      | @li ds vs a hf hs r => exact gen (.li hf hs r) rfl p
      | @dv kvs vs a hf hs r =>
        have p' : Post K T (rV K T) Wx f H (.ok (.int kvs.length) st) Q := p
        rw [r.len] at p'
        exact .inr ⟨a, vs, rfl, hs, p'.now rh (.int _)⟩
      | @ref i a hi =>
        obtain ⟨o, ho⟩ := rh.lt hi
        simp only [lenD, seqD, ho] at p
        cases o with
        | lst ys => exact gen (.ref hi) (by simp only [seqD, ho]) p
        | dk kvs =>
          obtain ⟨vs, h1, h2⟩ := rh.obj _ _ _ ho hi
          have p' : Post K T (rV K T) Wx f H (.ok (.int kvs.length) st) Q := p
          rw [h2.len] at p'
          exact .inr ⟨a, vs, rfl, h1, p'.now rh (.int _)⟩
        | ins c fs => exact p.elim
      | _ => exact p.elim
def absD (xs : List Dt) (st : Sto) : Re Dt := match xs with
  | [.int i] => .ok (.int (if i < 0 then -i else i)) st
  | _ => .stuck
theorem snd_abs : SndC K T (fun xs H Q => ∃ i, xs = [.int i] ∧ Q (.int (if i < 0 then -i else i)) H) absD := fun f H st xs vs Wx Q rh r p => by
  cases r with
  | nil => exact p.elim
  | cons rx t =>
    cases t with
    | cons _ _ => cases rx <;> exact p.elim
    | nil =>
      cases rx <;> first | exact p.elim | skip
      exact ⟨_, rfl, p.now rh (.int _)⟩
def maxD (xs : List Dt) (st : Sto) : Re Dt := match xs with
  | [.int i, .int j] => .ok (.int (if j > i then j else i)) st
  | _ => .stuck
def minD (xs : List Dt) (st : Sto) : Re Dt := match xs with
  | [.int i, .int j] => .ok (.int (if j < i then j else i)) st
  | _ => .stuck
theorem snd_max : SndC K T (fun xs H Q => ∃ i j, xs = [.int i, .int j] ∧ Q (.int (if j > i then j else i)) H) maxD := fun f H st xs vs Wx Q rh r p => by
  cases r with
  | nil => exact p.elim
  | cons rx t =>
    cases t with
    | nil => cases rx <;> exact p.elim
    | cons ry t =>
      cases t with
      | cons _ _ => cases rx <;> cases ry <;> exact p.elim
      | nil =>
        cases rx <;> cases ry <;> first | exact p.elim | skip
        exact ⟨_, _, rfl, p.now rh (.int _)⟩
theorem snd_min : SndC K T (fun xs H Q => ∃ i j, xs = [.int i, .int j] ∧ Q (.int (if j < i then j else i)) H) minD := fun f H st xs vs Wx Q rh r p => by
  cases r with
  | nil => exact p.elim
  | cons rx t =>
    cases t with
    | nil => cases rx <;> exact p.elim
    | cons ry t =>
      cases t with
      | cons _ _ => cases rx <;> cases ry <;> exact p.elim
      | nil =>
        cases rx <;> cases ry <;> first | exact p.elim | skip
        exact ⟨_, _, rfl, p.now rh (.int _)⟩
def cintD (xs : List Dt) (st : Sto) : Re Dt := match xs with
  | [.int i] => .ok (.int i) st
  | [.bl b] => .ok (.int (if b then 1 else 0)) st
  | _ => .stuck
theorem snd_int : SndC K T (fun xs H Q => (∃ i, xs = [.int i] ∧ Q (.int i) H) ∨ ∃ k, xs = [.bl k] ∧ Q (.int (if k then 1 else 0)) H) cintD := fun f H st xs vs Wx Q rh r p => by
  cases r with
  | nil => exact p.elim
  | cons rx t =>
    cases t with
    | cons _ _ => cases rx <;> exact p.elim
    | nil =>
      cases rx <;> first | exact p.elim | skip
      · exact .inr ⟨_, rfl, p.now rh (.int _)⟩
      · exact .inl ⟨_, rfl, p.now rh (.int _)⟩
def listD (xs : List Dt) (st : Sto) : Re Dt := match xs with
  | [x] => match seqD x st with
    | some ys => .ok (.ref st.length) (st ++ [.lst ys])
    | none => .stuck
  | _ => .stuck
theorem snd_list : SndC K T (fun xs H Q => ∃ p ys, xs = [.ref p] ∧ (SqL K H p ys ∨ SqT K H p ys) ∧ ∀ l, H l = none → Q (.ref l) (upd H l (.lst ys))) listD := fun f H st xs vs Wx Q rh r p => by
  cases r with
  | nil => exact p.elim
  | cons rx t =>
    cases t with
    | cons _ _ => exact p.elim
    | nil =>
      simp only [listD] at p
      split at p
      · rename_i ys hy
        obtain ⟨a, vs, e, hs, r⟩ := seqD_ok rh rx hy
        exact ⟨a, vs, by rw [e], hs, fun l hl => new_lst p rh hl r⟩
      · exact p.elim
def listV (xs : List Dt) (st : Sto) : Re Dt := match xs with
  | [x] => match seqD x st with
    | some ys => .ok (.li ys) st
    | none => .stuck
  | _ => .stuck
theorem snd_listV : SndC K T (fun xs H Q => ∃ p ys, xs = [.ref p] ∧ (SqL K H p ys ∨ SqT K H p ys) ∧ ∀ l, H l = none → Q (.ref l) (upd H l (.lst ys))) listV := fun f H st xs vs Wx Q rh r p => by
  cases r with
  | nil => exact p.elim
  | cons rx t =>
    cases t with
    | cons _ _ => exact p.elim
    | nil =>
      simp only [listV] at p
      split at p
      · rename_i ys hy
        obtain ⟨a, vs, e, hs, r⟩ := seqD_ok rh rx hy
        exact ⟨a, vs, by rw [e], hs, fun l hl => new_li p rh hl r⟩
      · exact p.elim
def tupleD (xs : List Dt) (st : Sto) : Re Dt := match xs with
  | [x] => match seqD x st with
    | some ys => .ok (.tup ys) st
    | none => .stuck
  | _ => .stuck
theorem snd_tuple : SndC K T (fun xs H Q => ∃ p ys, xs = [.ref p] ∧ ((SqL K H p ys ∧ ∀ l, H l = none → Q (.ref l) (upd H l (.tup ys))) ∨ (SqT K H p ys ∧ Q (.ref p) H))) tupleD := fun f H st xs vs Wx Q rh r p => by
  cases r with
  | nil => exact p.elim
  | cons rx t =>
    cases t with
    | cons _ _ => exact p.elim
    | nil =>
      simp only [tupleD] at p
      split at p
      · rename_i ys hy
        obtain ⟨a, vs, e, hs, r⟩ := seqD_ok rh rx hy
        refine ⟨a, vs, by rw [e], ?_⟩
        rcases hs with hs | hs
        · exact .inl ⟨hs, fun l hl => new_tup p rh hl r⟩
        · exact .inr ⟨hs, p.now rh (.tup hs r)⟩
      · exact p.elim
/-- a list of truth values -/
def boolsD : List Dt → Option (List Bool)
  | [] => some []
  | .bl b :: r => (boolsD r).map (b :: ·)
  | _ :: _ => none
theorem bools_ok {f : List Addr} {H : Hp} : ∀ {ds : List Dt} {vs : List V} {bs : List Bool}, RVs K T H f ds vs → boolsD ds = some bs → vs = bs.map V.bl
  | _, _, _, .nil, h => by cases h; rfl
  | _, _, _, .cons r t, h => by
    cases r <;> first | cases h | skip
    rename_i ds vs b
    have h' : (boolsD ds).map (b :: ·) = some _ := h
    cases hb : boolsD ds with
    | none => rw [hb] at h'; cases h'
    | some q => rw [hb] at h'; cases h'; rw [bools_ok t hb, List.map_cons]
def lstD : Dt → Sto → Option (List Dt)
  | .rl xs, _ => some xs
  | .li xs, _ => some xs
  | .ref i, st => match st[i]? with
    | some (.lst xs) => some xs
    | _ => none
  | _, _ => none
theorem lstD_ok {f : List Addr} {H : Hp} {st : Sto} {d : Dt} {v : V} {xs : List Dt} (rh : RH K T f H st) (r : RV K T H f d v) (h : lstD d st = some xs) : ∃ a vs, v = .ref a ∧ SqL K H a vs ∧ RVs K T H f xs vs := by
  cases r with
  | @rl ds vs a hs r => cases h; exact ⟨_, _, rfl, hs.sq, r⟩
  | @li ds vs a hf hs r => cases h; exact ⟨_, _, rfl, .inl (.inl hs), r⟩
  | @ref i a hi =>
    obtain ⟨o, ho⟩ := rh.lt hi
    simp only [lstD, ho] at h
    cases o with
    | lst ys => cases h; obtain ⟨vs, h3, r⟩ := rh.lst hi ho; exact ⟨_, _, rfl, .inl (.inl h3), r⟩
    | _ => cases h
  | _ => cases h
def allD (xs : List Dt) (st : Sto) : Re Dt := match xs with
  | [x] => match lstD x st with
    | some ys => match boolsD ys with
      | some bs => .ok (.bl (bs.all id)) st
      | none => .stuck
    | none => .stuck
  | _ => .stuck
theorem snd_all : SndC K T (rAll K) allD := fun f H st xs vs Wx Q rh r p => by
  cases r with
  | nil => exact p.elim
  | cons rx t =>
    cases t with
    | cons _ _ => exact p.elim
    | nil =>
      simp only [allD] at p
      split at p
      · rename_i ys hy
        split at p
        · rename_i bs hb
          obtain ⟨a, vs, e, hs, r⟩ := lstD_ok rh rx hy
          exact ⟨a, bs, by rw [e], by rw [← bools_ok r hb]; exact hs, p.now rh (.bl _)⟩
        · exact p.elim
      · exact p.elim
def intsD : List Dt → Option (List Int)
  | [] => some []
  | .int b :: r => (intsD r).map (b :: ·)
  | _ :: _ => none
theorem ints_ok {f : List Addr} {H : Hp} : ∀ {ds : List Dt} {vs : List V} {bs : List Int}, RVs K T H f ds vs → intsD ds = some bs → vs = bs.map V.int
  | _, _, _, .nil, h => by cases h; rfl
  | _, _, _, .cons r t, h => by
    cases r <;> first | cases h | skip
    rename_i ds vs b
    have h' : (intsD ds).map (b :: ·) = some _ := h
    cases hb : intsD ds with
    | none => rw [hb] at h'; cases h'
    | some q => rw [hb] at h'; cases h'; rw [ints_ok t hb, List.map_cons]
def sumD (xs : List Dt) (st : Sto) : Re Dt := match xs with
  | [x] => match lstD x st with
    | some ys => match intsD ys with
      | some bs => .ok (.int bs.sum) st
      | none => .stuck
    | none => .stuck
  | _ => .stuck
theorem snd_sum : SndC K T (rSum K) sumD := fun f H st xs vs Wx Q rh r p => by
  cases r with
  | nil => exact p.elim
  | cons rx t =>
    cases t with
    | cons _ _ => exact p.elim
    | nil =>
      simp only [sumD] at p
      split at p
      · rename_i ys hy
        split at p
        · rename_i bs hb
          obtain ⟨a, vs, e, hs, r⟩ := lstD_ok rh rx hy
          exact ⟨a, bs, by rw [e], by rw [← ints_ok r hb]; exact hs, p.now rh (.int _)⟩
        · exact p.elim
      · exact p.elim
end
end LT
set_option Elab.async false
set_option linter.all false
set_option maxRecDepth 100000
namespace LT
open PySem PySem.Spec PyProof.Rows L2
/-! ### statements -/
def sNx : MS := fun env st => .nx env st
def sBrk : MS := fun env st => .bk env st
def sCt : MS := fun env st => .ct env st
def sSeq (a b : MS) : MS := fun env st => match a env st with
  | .nx env1 st1 => b env1 st1
  | r => r
def sExpr (e : ME) : MS := fun env st => (e env st).on env fun _ st1 => .nx env st1
def sRet (e : ME) : MS := fun env st => (e env st).on env fun d st1 => .rt d st1
def sRetN : MS := fun _ st => .rt .non st
def sIf (t : MT) (a b : MS) : MS := fun env st => (t env st).on env fun x st1 => if x then a env st1 else b env st1
abbrev MG := Dt → Lo → Sto → Rs
def gNm (i : Nat) : MG := fun d env st => .nx (env.set i (some d)) st
def sAsg (e : ME) (g : MG) : MS := fun env st => (e env st).on env fun d st1 => g d env st1
def sSet (i : Nat) (e : ME) : MS := sAsg e (gNm i)
section
variable (K : PySem.W.Frag) (T : Tb)
def PostG (f : List Addr) (H : Hp) (r : Rs) (Q : L2.St → Hp → Prop) : Prop := match r with
  | .nx env' st' => ∀ f' H' σ', f <+: f' → Stay K T f H f' H' → RH K T f' H' st' → REn K T H' f' env' σ' → Q σ' H'
  | _ => False
def gG (m : MG) : TG := fun v σ H Q => ∃ f env st d, REn K T H f env σ ∧ RH K T f H st ∧ RV K T H f d v ∧ PostG K T f H (m d env st) Q
end
abbrev IG (X : Cx) (T : Tb) (tg : Expr) (m : MG) : Prop := PG X tg (gG X.K T m)
theorem PGw {X : Cx} {e : Expr} {t t' : TG} (h : PG X e t) (w : ∀ v σ H Q, t' v σ H Q → t v σ H Q) : PG X e t' := ⟨fun pins s σ H v u Q I r q => h.run pins s σ H v u Q I r (w v σ H Q q)⟩
section
variable {X : Cx} {T : Tb} {W : WX} {e : Expr} {me : ME} {st : Stmt} {rest : List Stmt} {ma mb : MS} {pos : Pos} {ta : MT}
theorem PostS.nx_now {K : PySem.W.Frag} {W : WX} {f : List Addr} {H : Hp} {env : Lo} {st : Sto} {E : Ends} {σ : L2.St} (p : PostS K T W f H (.nx env st) E) (rh : RH K T f H st) (re : REn K T H f env σ) : E.nx σ H := p f H σ (List.prefix_refl _) Stay.refl rh re
theorem iss_nil : ISs X T W [] sNx := PSsw pss_nil fun E σ H ⟨f, env, st, re, rh, p⟩ => p.nx_now rh re
theorem ev_seq {E : Ends} {σ : L2.St} {H : Hp} (h : sG X.K T W (sSeq ma mb) E σ H) : tSeq (sG X.K T W ma) (sG X.K T W mb) E σ H := by
  obtain ⟨f, env, st, re, rh, p⟩ := h
  refine ⟨f, env, st, re, rh, ?_⟩
  unfold sSeq at p
  cases h1 : ma env st with
  | nx env1 st1 =>
    rw [h1] at p
    exact fun f1 H1 σ1 hp s rh1 re1 => ⟨f1, env1, st1, re1, rh1, p.mono hp s⟩
  | bk env1 st1 => rw [h1] at p; exact p
  | ct env1 st1 => rw [h1] at p; exact p
  | rt d st1 => rw [h1] at p; exact p
  | ex env1 c fs st1 => rw [h1] at p; exact p
  | stuck => rw [h1] at p; exact p
theorem iss_cons (h1 : IS X T W st ma) (h2 : ISs X T W rest mb) : ISs X T W (st :: rest) (sSeq ma mb) := PSsw (pss_cons h1 h2) fun _ _ _ => ev_seq
theorem iss_one (h1 : IS X T W st ma) : ISs X T W [st] ma := pss_one h1
theorem is_pass : IS X T W (.Pass pos) sNx := PSw ps_pass fun E σ H ⟨f, env, st, re, rh, p⟩ => p.nx_now rh re
theorem is_brk : IS X T W (.Break pos) sBrk := PSw ps_break fun E σ H ⟨f, env, st, re, rh, p⟩ => p f H σ (List.prefix_refl _) Stay.refl rh re
theorem is_ct : IS X T W (.Continue pos) sCt := PSw ps_continue fun E σ H ⟨f, env, st, re, rh, p⟩ => p f H σ (List.prefix_refl _) Stay.refl rh re
theorem is_expr (he : IE X T W e me) (hs : swapsWith e none pos.line X.env = pure false := by rfl) : IS X T W (.Expr e pos) (sExpr me) := PSw (ps_expr he hs) fun E σ H ⟨f, env, st, re, rh, p⟩ =>
  ⟨f, env, st, re, rh, PostS.on re p fun d st1 f1 H1 v hp s rh1 rv re1 p1 => p1.nx_now rh1 re1⟩
theorem is_ret (he : IE X T W e me) : IS X T W (.Return (some e) pos) (sRet me) := PSw (ps_ret he) fun E σ H ⟨f, env, st, re, rh, p⟩ =>
  ⟨f, env, st, re, rh, PostS.on re p fun d st1 f1 H1 v hp s rh1 rv re1 p1 => p1 f1 H1 v (List.prefix_refl _) Stay.refl rh1 rv⟩
theorem is_retN : IS X T W (.Return none pos) sRetN := PSw ps_retN fun E σ H ⟨f, env, st, re, rh, p⟩ => p f H .non (List.prefix_refl _) Stay.refl rh .non
theorem is_if {c : Expr} {a b : List Stmt} (hc : IT X T W c ta) (ha : ISs X T W a ma) (hb : ISs X T W b mb) : IS X T W (.If c a b pos) (sIf ta ma mb) := PSw (ps_if hc ha hb) fun E σ H ⟨f, env, st, re, rh, p⟩ =>
  ⟨f, env, st, re, rh, PostS.on re p fun d st1 f1 H1 v hp s rh1 rv re1 p1 => by
    cases rv
    cases d with
    | true => exact iteT ⟨f1, env, st1, re1, rh1, p1⟩
    | false => exact iteF ⟨f1, env, st1, re1, rh1, p1⟩⟩
/-! targets -/
theorem ig_name (i : Nat) {x : Str} (hN : X.N.Nodup) (hi : X.N[i]? = some x := by rfl) (hx : Loc X.env.scope x := by first | exact Or.inl rfl | exact Or.inr rfl) (hf : X.fn x = true ∨ X.env.scope.names.lookup x = some .local := by first | exact .inl rfl | exact .inr rfl) :
    IG X T (.Name x pos) (gNm i) := PGw (pg_name hN hi hx hf) fun v σ H Q ⟨f, env, st, d, re, rh, rv, p⟩ => p f H _ (List.prefix_refl _) Stay.refl rh (re.set rv)
theorem is_set (i : Nat) {x : Str} {pos' : Pos} (hN : X.N.Nodup) (he : IE X T W e me) (hi : X.N[i]? = some x := by rfl) (hx : Loc X.env.scope x := by first | exact Or.inl rfl | exact Or.inr rfl) (hs : swapsWith e (some (.Name x pos')) pos.line X.env = pure false := by rfl) (hf : X.fn x = true ∨ X.env.scope.names.lookup x = some .local := by first | exact .inl rfl | exact .inr rfl) :
    IS X T W (.Assign [.Name x pos'] e pos) (sSet i me) := PSw (ps_set hN hi hx he hs hf) fun E σ H ⟨f, env, st, re, rh, p⟩ =>
  ⟨f, env, st, re, rh, PostS.on re p fun d st1 f1 H1 v hp s rh1 rv re1 p1 => p1.nx_now rh1 (re1.set rv)⟩
theorem is_asg {tg : Expr} {g : MG} (he : IE X T W e me) (hg : IG X T tg g) (hno : ∀ d env st, (match g d env st with | .nx _ _ => true | .stuck => true | _ => false) = true := by intro _ _ _; rfl) (hs : swapsWithSole [tg] e pos.line X.env = pure false := by rfl) (hw : swappedStores [tg] e X.env = pure none := by rfl) (h1 : (assignEach [tg] X.env).map (·.2) = [assign tg X.env] := by rfl) :
    IS X T W (.Assign [tg] e pos) (sAsg me g) := PSw (ps_asg he hg hs hw h1) fun E σ H ⟨f, env, st, re, rh, p⟩ =>
  ⟨f, env, st, re, rh, PostS.on re p fun d st1 f1 H1 v hp s rh1 rv re1 p1 => ⟨f1, env, st1, d, re1, rh1, rv, by
    have h := hno d env st1
    cases hq : g d env st1 with
    | nx env2 st2 => rw [hq] at p1; exact p1
    | stuck => rw [hq] at p1; exact p1
    | _ => rw [hq] at h; cases h⟩⟩
/-- names from a tuple -/
def gTp : List Nat → MG
  | is, .tup ds, env, st => if is.length = ds.length then .nx ((is.zip ds).foldl (fun en p => en.set p.1 (some p.2)) env) st else .stuck
  | _, _, _, _ => .stuck
inductive NameTargets (X : Cx) : List Expr → List Nat → Prop
  | nil : NameTargets X [] []
  | cons {i : Nat} {x : Str} {p : Pos} {es : List Expr} {is : List Nat} (hi : X.N[i]? = some x) (hx : Loc X.env.scope x) (hf : X.fn x = true ∨ X.env.scope.names.lookup x = some .local)
      (hs : (assignEach (.Name x p :: es) X.env).map (·.2) = assign (.Name x p) X.env :: (assignEach es X.env).map (·.2)) (t : NameTargets X es is) : NameTargets X (.Name x p :: es) (i :: is)
theorem nts (i : Nat) {x : Str} {p : Pos} {es : List Expr} {is : List Nat} (t : NameTargets X es is) (hi : X.N[i]? = some x := by rfl) (hx : Loc X.env.scope x := by first | exact Or.inl rfl | exact Or.inr rfl) (hf : X.fn x = true ∨ X.env.scope.names.lookup x = some .local := by first | exact .inl rfl | exact .inr rfl)
    (hs : (assignEach (.Name x p :: es) X.env).map (·.2) = assign (.Name x p) X.env :: (assignEach es X.env).map (·.2) := by rfl) : NameTargets X (.Name x p :: es) (i :: is) := .cons hi hx hf hs t
def gNs : List Nat → TGs
  | [] => gNil
  | i :: is => gCons (gName i) (gNs is)
theorem pgs_names (hN : X.N.Nodup) : ∀ {es : List Expr} {is : List Nat}, NameTargets X es is → PGs X es (gNs is)
  | _, _, .nil => pgs_nil
  | _, _, .cons hi hx hf hs t => pgs_cons (pg_name hN hi hx hf) (pgs_names hN t) hs
theorem gNs_ok {K : PySem.W.Frag} {f : List Addr} {H : Hp} {Q : L2.St → Hp → Prop} : ∀ (is : List Nat) (ds : List Dt) (vs : List V) (env : Lo) (σ : L2.St), is.length = ds.length → RVs K T H f ds vs → REn K T H f env σ →
    (∀ σ', REn K T H f ((is.zip ds).foldl (fun en p => en.set p.1 (some p.2)) env) σ' → σ' = (is.zip vs).foldl (fun en p => en.set p.1 (some p.2)) σ → Q σ' H) → gNs is vs σ H Q
  | [], [], _, env, σ, _, .nil, re, q => ⟨rfl, q σ re rfl⟩
  | i :: is, d :: ds, _, env, σ, hl, .cons r t, re, q => ⟨_, _, rfl, gNs_ok is ds _ _ _ (by simpa using hl) t (re.set r) q⟩
  | [], _ :: _, _, _, _, hl, _, _, _ => by simp at hl
  | _ :: _, [], _, _, _, hl, _, _, _ => by simp at hl
theorem ig_tup {es : List Expr} {k : Nat} {is : List Nat} {n : Nat} (hc : X.calm = true) (hN : X.N.Nodup) (h : NameTargets X es is) (hl : is.length = n) (hn : (assignEach es X.env).length = n := by rfl) (hst : (assignEach es X.env).findIdx? (·.1) = none := by rfl) :
    IG X T (.Tuple es k pos) (gTp is) := PGw (pg_tup hc (pgs_names hN h) hn hst) fun v σ H Q ⟨f, env, st, d, re, rh, rv, p⟩ => by
  cases rv with
  | @tup ds vs a hs r =>
    have p' : PostG X.K T f H (if is.length = ds.length then .nx ((is.zip ds).foldl (fun en p => en.set p.1 (some p.2)) env) st else .stuck) Q := by
      cases is <;> exact p
    split at p'
    · rename_i hl2
      exact ⟨a, vs, rfl, hs, by rw [← r.len, ← hl2]; exact hl, gNs_ok is ds vs env σ hl2 r re fun σ' re' _ => p' f H σ' (List.prefix_refl _) Stay.refl rh re'⟩
    · exact p'.elim
  | _ => cases is <;> exact p.elim
/-- a, b = x, y -/
def sPar (i j : Nat) (a : MA) : MS := fun env st => (a env st).on env fun ds st1 => match ds with
  | [x, y] => .nx ((env.set i (some x)).set j (some y)) st1
  | _ => .stuck
theorem is_par (i j : Nat) {x y : Str} {a b : Expr} {ms : MA} {px py pt pt2 : Pos} {kt k2} (hc : X.calm = true) (hN : X.N.Nodup) (ha : IA X T W [a, b] ms) (hi : X.N[i]? = some x := by rfl) (hj : X.N[j]? = some y := by rfl) (hij : i ≠ j := by decide)
    (hx : X.env.scope.names.lookup x = some .local := by rfl) (hy : X.env.scope.names.lookup y = some .local := by rfl)
    (hw : swappedStores [.Tuple [.Name x px, .Name y py] kt pt] (.Tuple [a, b] k2 pt2) X.env = pure (some [x, y]) := by rfl) (hs : swapsWithSole [.Tuple [.Name x px, .Name y py] kt pt] (.Tuple [a, b] k2 pt2) pos.line X.env = pure false := by rfl) :
    IS X T W (.Assign [.Tuple [.Name x px, .Name y py] kt pt] (.Tuple [a, b] k2 pt2) pos) (sPar i j ms) := PSw (ps_par hc hN hi hj hij hx hy ha hw hs) fun E σ H ⟨f, env, st, re, rh, p⟩ =>
  ⟨f, env, st, re, rh, PostS.on re p fun d st1 f1 H1 v hp s rh1 rv re1 p1 => by
    cases rv with
    | nil => exact p1.elim
    | cons r1 t =>
      cases t with
      | nil => exact p1.elim
      | cons r2 t =>
        cases t with
        | nil => exact ⟨_, _, rfl, p1.nx_now rh1 ((re1.set r1).set r2)⟩
        | cons _ _ => exact p1.elim⟩
/-! stores at a place -/
def setL : Dt → Dt → Dt → Sto → Option Sto
  | .ref i, .int k, d, st => match st[i]? with
    | some (.lst xs) => match ixN xs.length k with
      | some j => some (st.set i (.lst (xs.set j d)))
      | none => none
    | _ => none
  | _, _, _, _ => none
def gSubL (mo mi : ME) : MG := fun d env st => match mo env st with
  | .ok o st1 => match mi env st1 with
    | .ok i st2 => match setL o i d st2 with
      | some st3 => .nx env st3
      | none => .stuck
    | _ => .stuck
  | _ => .stuck
theorem setL_ok {K : PySem.W.Frag} {f : List Addr} {H : Hp} {st st' : Sto} {o i d : Dt} {vo vi v : V} {Q : Hp → Prop} (rh : RH K T f H st) (ro : RV K T H f o vo) (ri : RV K T H f i vi) (rd : RV K T H f d v) (h : setL o i d st = some st')
    (q : ∀ H', Stay K T f H f H' → RH K T f H' st' → Q H') : rSetL vo vi v H Q := by
  cases ro with
  | @ref j a hj =>
    cases ri with
    | int k =>
      obtain ⟨ob, ho⟩ := rh.lt hj
      simp only [setL, ho] at h
      cases ob with
      | lst xs =>
        obtain ⟨vs, h1, h2⟩ := rh.lst hj ho
        cases hn : ixN xs.length k with
        | none => simp only [hn] at h; cases h
        | some m =>
          simp only [hn] at h
          cases h
          have stay := (rh.obj _ _ _ ho hj).stay (mem_of hj) (.lst (vs.set m v))
          refine ⟨a, vs, k, m, rfl, rfl, h1, by rw [← h2.len]; exact hn, q _ stay (rh.put hj ⟨_, upd_same, (h2.set rd m).mono (List.prefix_refl _) stay⟩)⟩
      | _ => cases h
    | _ => cases h
  | _ => cases h
theorem IE.at {o : Expr} {mo : ME} {σ : L2.St} {H : Hp} {f : List Addr} {env : Lo} {st0 st1 : Sto} {d : Dt} {W : WX} {Q : VK} (re : REn X.K T H f env σ) (rh : RH X.K T f H st0) (h : mo env st0 = .ok d st1) (q : ∀ f' H' v, f <+: f' → Stay X.K T f H f' H' → RH X.K T f' H' st1 → RV X.K T H' f' d v → Q v H') : tG X.K T (rV X.K T) W mo σ H Q :=
  ⟨f, env, st0, re, rh, by rw [h]; exact q⟩
theorem ig_sub {o i : Expr} {mo mi : ME} (ho : IE X T (fun _ _ _ _ => False) o mo) (hi : IE X T (fun _ _ _ _ => False) i mi)
    (ha : ∀ v, assign (.Subscript o i pos) X.env v = (do
      let ov ← holding [v] (eval o X.env)
      let iv ← holding [v, ov] (eval i X.env)
      standAt pos
      holding [v, ov, iv] (setItem ov iv v)
      release [v, ov, iv] []) := by intro _; rfl) : IG X T (.Subscript o i pos) (gSubL mo mi) := PGw (pg_sub ho hi set_list ha) fun v σ H Q ⟨f, env, st, d, re, rh, rv, p⟩ => by
  unfold gSubL at p
  cases h1 : mo env st with
  | ok o1 st1 =>
    rw [h1] at p
    simp only at p
    refine IE.at (o := o) re rh h1 fun f1 H1 vo hp s rh1 ro => ?_
    cases h2 : mi env st1 with
    | ok i1 st2 =>
      rw [h2] at p
      simp only at p
      refine IE.at (o := i) (re.mono hp s) rh1 h2 fun f2 H2 vi hp2 s2 rh2 ri => ?_
      cases h3 : setL o1 i1 d st2 with
      | none => rw [h3] at p; exact p.elim
      | some st3 =>
        rw [h3] at p
        exact setL_ok rh2 (ro.mono hp2 s2) ri ((rv.mono hp s).mono hp2 s2) h3 fun H3 s3 rh3 => p f2 H3 σ (hp.trans hp2) ((s.trans s2).trans s3) rh3 (((re.mono hp s).mono hp2 s2).mono (List.prefix_refl _) s3)
    | _ => rw [h2] at p; exact p.elim
  | _ => rw [h1] at p; exact p.elim
/-! ### loops -/
inductive Tn where
  | stop | item (d : Dt) | stuck
structure Wk where
  turn : Nat → Sto → Tn
  fuel : Nat
def RW (K : PySem.W.Frag) (T : Tb) : Rel Wk It := fun H0 f w J => ∀ (rs : List Addr) (i : Nat) (f' : List Addr) (H : Hp) (st : Sto), (∀ a, a ∈ rs → a ∈ T.rs ∨ H0 a = none) → f <+: f' → Stay K T f H0 f' H → RH K ⟨T.b, rs⟩ f' H st → match w.turn i st with
  | .stop => J.stop i H
  | .item d => J.go i H ∧ ∀ x H', J.yld i H x H' → Stay K ⟨T.b, rs⟩ f' H f' H' ∧ RH K ⟨T.b, rs⟩ f' H' st ∧ RV K ⟨T.b, rs⟩ H' f' d x
  | .stuck => True
abbrev MW := M Wk
abbrev II (X : Cx) (T : Tb) (W : WX) (tg iter : Expr) (m : MW) : Prop := L2.PI X tg iter (tG X.K T (RW X.K T) W m)
theorem PIw {X : Cx} {tg e : Expr} {t t' : TI} (h : L2.PI X tg e t) (w : ∀ σ H Q, t' σ H Q → t σ H Q) : L2.PI X tg e t' := ⟨fun pins s σ H Q I q => h.run pins s σ H Q I (w σ H Q q)⟩
def forL (w : Wk) (g : MG) (body : MS) : Nat → Nat → Lo → Sto → Rs
  | 0, _, _, _ => .stuck
  | n + 1, i, env, st => match w.turn i st with
    | .stop => .nx env st
    | .stuck => .stuck
    | .item d => match g d env st with
      | .nx env1 st1 => match body env1 st1 with
        | .nx env2 st2 => forL w g body n (i + 1) env2 st2
        | .ct env2 st2 => forL w g body n (i + 1) env2 st2
        | .bk env2 st2 => .nx env2 st2
        | r => r
      | _ => .stuck
def sFor (m : MW) (g : MG) (body : MS) : MS := fun env st => (m env st).on env fun w st1 => forL w g body w.fuel 0 env st1
theorem is_for {tg iter : Expr} {body : List Stmt} {mw : MW} {g : MG} {mb : MS} (hp : PassesOwn (model X.prog X.w) X.A X.env X.xe) (hc : X.calm = true) (hi : II X T W tg iter mw) (hg : IG X T tg g) (hb : ISs X T W body mb)
    (hs : ∀ x, foldedSetIterable iter X.env x = pure x := by intro _; rfl) : IS X T W (.For tg iter body [] pos) (sFor mw g mb) := PSw (ps_for hp hc hi hg hb hs) fun E σ H ⟨f, env, st, re, rh, p⟩ =>
  ⟨f, env, st, re, rh, PostS.on (rel := RW X.K T) re p fun w st1 f1 H1 J hp1 s1 rh1 rw1 re1 p1 => by
    refine ⟨fun i m σ2 H2 => ∃ f2 env2 st2, f1 <+: f2 ∧ Stay X.K T f1 H1 f2 H2 ∧ REn X.K T H2 f2 env2 σ2 ∧ RH X.K T f2 H2 st2 ∧ PostS X.K T W f2 H2 (forL w g mb m i env2 st2) E, ⟨w.fuel, f1, env, st1, List.prefix_refl _, Stay.refl, re1, rh1, p1⟩, ?_⟩
    rintro i m σ2 H2 ⟨f2, env2, st2, hp2, s2, re2, rh2, p2⟩
    cases m with
    | zero => exact p2.elim
    | succ n =>
      have tw := rw1 T.rs i f2 H2 st2 (fun a h => .inl h) hp2 s2 rh2
      unfold forL at p2
      cases ht : w.turn i st2 with
      | stop =>
        rw [ht] at p2 tw
        exact .inl ⟨tw, p2.nx_now rh2 re2⟩
      | stuck => rw [ht] at p2; exact p2.elim
      | item d =>
        rw [ht] at p2 tw
        simp only at p2 tw
        refine .inr ⟨tw.1, fun σ4 H4 => ∃ f4 env4 st4, f1 <+: f4 ∧ Stay X.K T f1 H1 f4 H4 ∧ REn X.K T H4 f4 env4 σ4 ∧ RH X.K T f4 H4 st4 ∧ PostS X.K T W f4 H4 (forL w g mb n (i + 1) env4 st4) E, fun σ4 H4 h => ⟨n, Nat.lt_succ_self n, h⟩, fun x H3 hy => ?_⟩
        obtain ⟨s3, rh3, rx⟩ := tw.2 x H3 hy
        refine ⟨f2, env2, st2, d, re2.mono (List.prefix_refl _) s3, rh3, rx, ?_⟩
        cases hg2 : g d env2 st2 with
        | nx env3 st3 =>
          rw [hg2] at p2
          simp only at p2
          intro f4 H4 σ4 hp4 s4 rh4 re4
          refine ⟨f4, env3, st3, re4, rh4, ?_⟩
          have hp14 := hp2.trans hp4
          have s14 := (s2.trans s3).trans s4
          have p3 := p2.mono hp4 (s3.trans s4)
          cases hb2 : mb env3 st3 with
          | nx env5 st5 =>
            rw [hb2] at p3
            exact fun f6 H6 σ6 hp6 s6 rh6 re6 => ⟨f6, env5, st5, hp14.trans hp6, s14.trans s6, re6, rh6, p3.mono hp6 s6⟩
          | ct env5 st5 =>
            rw [hb2] at p3
            exact fun f6 H6 σ6 hp6 s6 rh6 re6 => ⟨f6, env5, st5, hp14.trans hp6, s14.trans s6, re6, rh6, p3.mono hp6 s6⟩
          | bk env5 st5 => rw [hb2] at p3; exact p3
          | rt d5 st5 => rw [hb2] at p3; exact p3
          | ex env5 c5 fs5 st5 => rw [hb2] at p3; exact p3
          | stuck => rw [hb2] at p3; exact p3
        | _ => rw [hg2] at p2; exact p2.elim⟩
def whileL (t : MT) (body : MS) : Nat → Lo → Sto → Rs
  | 0, _, _ => .stuck
  | n + 1, env, st => (t env st).on env fun b st1 => if b then (match body env st1 with
        | .nx env2 st2 => whileL t body n env2 st2
        | .ct env2 st2 => whileL t body n env2 st2
        | .bk env2 st2 => .nx env2 st2
        | r => r) else .nx env st1
def sWhile (fuel : Nat) (t : MT) (body : MS) : MS := fun env st => whileL t body fuel env st
theorem is_while {c : Expr} {body : List Stmt} {mt : MT} {mb : MS} (fuel : Nat) (hp : PassesOwn (model X.prog X.w) X.A X.env X.xe) (hc : IT X T W c mt) (hb : ISs X T W body mb) : IS X T W (.While c body [] pos) (sWhile fuel mt mb) := PSw (ps_while hp hc hb) fun E σ H ⟨f, env, st, re, rh, p⟩ => by
  refine ⟨fun m σ2 H2 => ∃ f2 env2 st2, REn X.K T H2 f2 env2 σ2 ∧ RH X.K T f2 H2 st2 ∧ PostS X.K T W f2 H2 (whileL mt mb m env2 st2) E, ⟨fuel, f, env, st, re, rh, p⟩, ?_⟩
  rintro m σ2 H2 ⟨f2, env2, st2, re2, rh2, p2⟩
  cases m with
  | zero => exact p2.elim
  | succ n =>
    unfold whileL at p2
    refine ⟨f2, env2, st2, re2, rh2, PostS.on re2 p2 fun b st3 f3 H3 v hp3 s3 rh3 rv re3 p3 => ?_⟩
    cases rv
    cases b with
    | false => exact iteF (p3.nx_now rh3 re3)
    | true =>
      refine iteT ⟨fun σ4 H4 => ∃ f4 env4 st4, REn X.K T H4 f4 env4 σ4 ∧ RH X.K T f4 H4 st4 ∧ PostS X.K T W f4 H4 (whileL mt mb n env4 st4) E, fun σ4 H4 h => ⟨n, Nat.lt_succ_self n, h⟩, f3, env2, st3, re3, rh3, ?_⟩
      rw [if_pos rfl] at p3
      cases hb2 : mb env2 st3 with
      | nx env5 st5 =>
        rw [hb2] at p3
        exact fun f6 H6 σ6 hp6 s6 rh6 re6 => ⟨f6, env5, st5, re6, rh6, p3.mono hp6 s6⟩
      | ct env5 st5 =>
        rw [hb2] at p3
        exact fun f6 H6 σ6 hp6 s6 rh6 re6 => ⟨f6, env5, st5, re6, rh6, p3.mono hp6 s6⟩
      | bk env5 st5 => rw [hb2] at p3; exact p3
      | rt d5 st5 => rw [hb2] at p3; exact p3
      | ex env5 c5 fs5 st5 => rw [hb2] at p3; exact p3
      | stuck => rw [hb2] at p3; exact p3
end
end LT
set_option Elab.async false
set_option linter.all false
set_option maxRecDepth 100000
namespace LT
open PySem PySem.Spec PyProof.Rows L2
section
variable {X : Cx} {T : Tb} {W : WX} {e tg : Expr} {me : ME} {pos : Pos} {K : PySem.W.Frag}
/-! ### what is walked -/
def wTup (ds : List Dt) : Wk := ⟨fun i _ => match ds[i]? with
  | some d => .item d
  | none => .stop, ds.length + 1⟩
def wLst (a n : Nat) : Wk := ⟨fun i st => match st[a]? with
  | some (.lst xs) => match xs[i]? with
    | some d => .item d
    | none => .stop
  | _ => .stuck, n + 1⟩
def wStr (s : List Nat) : Wk := ⟨fun i _ => match s[i]? with
  | some c => .item (.str [c])
  | none => .stop, s.length + 1⟩
def wRng (lo : Int) (n : Nat) : Wk := ⟨fun i _ => if i < n then .item (.int (lo + i)) else .stop, n + 1⟩
def itD : Dt → Sto → Re Wk
  | .tup ds, st => .ok (wTup ds) st
  | .rl ds, st => .ok (wTup ds) st
  | .li ds, st => .ok (wTup ds) st
  | .str s, st => .ok (wStr s) st
  | .ref i, st => match st[i]? with
    | some (.lst xs) => .ok (wLst i xs.length) st
    | _ => .stuck
  | _, _ => .stuck
def mIt (a : ME) : MW := fun env st => (a env st).bind itD
/-- any of the three is walked -/
def iAny (K : PySem.W.Frag) (te : TE) : TI := fun σ H R => te σ H fun x H1 => (∃ a, x = .ref a ∧ (∃ xs, SqL K H1 a xs) ∧ R (Itl K a) H1) ∨ (∃ a, x = .ref a ∧ (∃ xs, SqT K H1 a xs) ∧ R (Itt K a) H1) ∨ ∃ z, x = .str z ∧ R (Its z) H1
theorem pi_any {te : TE} (he : PE X e te) : L2.PI X tg e (iAny X.K te) := ⟨fun pins s σ H R I h => thn (he.run pins s σ H _ I h) fun v s1 hv => by
  obtain ⟨x, H1, J, rx, hq⟩ := hv
  rcases hq with ⟨a, rfl, ⟨xs, hs⟩, q⟩ | ⟨a, rfl, ⟨xs, hs⟩, q⟩ | ⟨z, rfl, q⟩
  · obtain ⟨its, _, pl, _⟩ := J.list hs
    cases rx
    exact wpAny_pyIter_list pl.isList (pi_one (tk := s1.toks) J _ (turn_list a _) ⟨_, Heap.get?_push_size _ rfl, rfl, rfl⟩ q)
  · obtain ⟨its, _, pl, _⟩ := J.tuple hs
    cases rx
    exact wpAny_pyIter_tuple (show s1.heap.IsTuple a its.toArray from pl) (pi_one (tk := s1.toks) J _ (turn_tuple a _) ⟨_, Heap.get?_push_size _ rfl, rfl, rfl⟩ q)
  · obtain ⟨t, rfl⟩ := rx
    cases hw : z.cps.all (· < 128) with
    | false => exact wpAny_pyIter_wide hw (pi_one (tk := s1.toks) J _ (turn_str _ z t "str_iterator" (.inr rfl)) ⟨_, Heap.get?_push_size _ rfl, rfl, rfl⟩ q)
    | true => exact wpAny_pyIter_ascii hw (pi_one (tk := s1.toks) J _ (turn_str _ z t "str_ascii_iterator" (.inl rfl)) ⟨_, Heap.get?_push_size _ rfl, rfl, rfl⟩ q)⟩
theorem rw_tup {f : List Addr} {H : Hp} {ds : List Dt} {vs : List V} {a : Addr} (hs : SqT K H a vs) (r : RVs K T H f ds vs) : RW K T H f (wTup ds) (Itt K a) := fun rs i f' H' st hr hp s rh => by
  show match (match ds[i]? with | some d => Tn.item d | none => Tn.stop) with | .stop => _ | .item d => _ | .stuck => True
  cases hi : ds[i]? with
  | none => exact ⟨vs, s.t _ _ hs, by rw [← r.len]; exact List.getElem?_eq_none_iff.mp hi⟩
  | some d =>
    obtain ⟨v, h1, h2⟩ := r.get hi
    exact ⟨⟨vs, v, s.t _ _ hs, h1⟩, fun x H2 hy => by
      obtain ⟨rfl, hx⟩ := hy
      have e := (hx vs (s.t _ _ hs)).symm.trans h1
      cases e
      exact ⟨Stay.refl, rh, h2.view (view_of hp s.toStay0 hr) h2.closed⟩⟩
theorem rw_rl {f : List Addr} {H : Hp} {ds : List Dt} {vs : List V} {a : Addr} (hs : SqF K H a vs) (r : RVs K T H f ds vs) : RW K T H f (wTup ds) (Itl K a) := fun rs i f' H' st hr hp s rh => by
  show match (match ds[i]? with | some d => Tn.item d | none => Tn.stop) with | .stop => _ | .item d => _ | .stuck => True
  have hs' := (s.l _ _ hs).sq
  cases hi : ds[i]? with
  | none => exact ⟨vs, hs', by rw [← r.len]; exact List.getElem?_eq_none_iff.mp hi⟩
  | some d =>
    obtain ⟨v, h1, h2⟩ := r.get hi
    exact ⟨⟨vs, v, hs', h1⟩, fun x H2 hy => by
      obtain ⟨rfl, hx⟩ := hy
      have e := (hx vs hs').symm.trans h1
      cases e
      exact ⟨Stay.refl, rh, h2.view (view_of hp s.toStay0 hr) h2.closed⟩⟩
theorem rw_li {f : List Addr} {H : Hp} {ds : List Dt} {vs : List V} {a : Addr} (hf : a ∉ f ∧ a ∉ T.rs) (hs : H a = some (.lst vs)) (r : RVs K T H f ds vs) : RW K T H f (wTup ds) (Itl K a) := fun rs i f' H' st hr hp s rh => by
  have hs' : SqL K H' a vs := .inl (.inl (s.o _ _ hf.1 hf.2 hs))
  show match (match ds[i]? with | some d => Tn.item d | none => Tn.stop) with | .stop => _ | .item d => _ | .stuck => True
  cases hi : ds[i]? with
  | none => exact ⟨vs, hs', by rw [← r.len]; exact List.getElem?_eq_none_iff.mp hi⟩
  | some d =>
    obtain ⟨v, h1, h2⟩ := r.get hi
    exact ⟨⟨vs, v, hs', h1⟩, fun x H2 hy => by
      obtain ⟨rfl, hx⟩ := hy
      have e := (hx vs hs').symm.trans h1
      cases e
      exact ⟨Stay.refl, rh, h2.view (view_of hp s.toStay0 hr) h2.closed⟩⟩
theorem rw_lst {f : List Addr} {H : Hp} {j n : Nat} {a : Addr} (hj : f[j]? = some a) : RW K T H f (wLst j n) (Itl K a) := fun rs i f' H' st hr hp s rh => by
  have hj' := get_pre hp hj
  obtain ⟨o, ho⟩ := rh.lt hj'
  show match (match st[j]? with
    | some (.lst xs) => match xs[i]? with
      | some d => Tn.item d
      | none => Tn.stop
    | _ => Tn.stuck) with | .stop => _ | .item d => _ | .stuck => True
  rw [ho]
  cases o with
  | lst xs =>
    obtain ⟨vs, h1, r⟩ := rh.lst hj' ho
    have hs' : SqL K H' a vs := .inl (.inl h1)
    simp only
    cases hi : xs[i]? with
    | none => exact ⟨vs, hs', by rw [← r.len]; exact List.getElem?_eq_none_iff.mp hi⟩
    | some d =>
      obtain ⟨v, h2, h3⟩ := r.get hi
      exact ⟨⟨vs, v, hs', h2⟩, fun x H2 hy => by
        obtain ⟨rfl, hx⟩ := hy
        have e := (hx vs hs').symm.trans h2
        cases e
        exact ⟨Stay.refl, rh, h3⟩⟩
  | _ => trivial
theorem rw_str {f : List Addr} {H : Hp} (z : Str) : RW K T H f (wStr z.cps.toList) (Its z) := fun rs i f' H' st hr hp s rh => by
  show match (match z.cps.toList[i]? with | some c => Tn.item (.str [c]) | none => Tn.stop) with | .stop => _ | .item d => _ | .stuck => True
  cases hi : z.cps.toList[i]? with
  | none => exact (by rw [← Array.length_toList]; exact List.getElem?_eq_none_iff.mp hi : z.cps.size ≤ i)
  | some c =>
    have hl : i < z.cps.size := by
      rw [← Array.length_toList]
      exact (List.getElem?_eq_some_iff.mp hi).1
    refine ⟨hl, fun x H2 hy => ?_⟩
    obtain ⟨rfl, c', h1, rfl⟩ := hy
    rw [Array.getElem?_toList] at hi
    have e := h1.symm.trans hi
    cases e
    exact ⟨Stay.refl, rh, .str' rfl⟩
theorem rw_rng {f : List Addr} {H : Hp} (lo : Int) (n : Nat) : RW K T H f (wRng lo n) (Itr lo n) := fun rs i f' H' st hr hp s rh => by
  show match (if i < n then Tn.item (.int (lo + i)) else Tn.stop) with | .stop => _ | .item d => _ | .stuck => True
  by_cases h : i < n
  · rw [if_pos h]
    exact ⟨h, fun x H2 hy => by
      obtain ⟨rfl, rfl⟩ := hy
      exact ⟨Stay.refl, rh, .int _⟩⟩
  · rw [if_neg h]
    exact Nat.le_of_not_lt h
theorem ii_any (h : IE X T W e me) : II X T W tg e (mIt me) := PIw (pi_any h) fun σ H Q ⟨f, env, st, re, rh, p⟩ =>
  ⟨f, env, st, re, rh, p.bind fun x st1 f1 H1 vx hp s rh1 rx p1 => by
    cases rx with
    | @tup ds vs a hs r => exact .inr (.inl ⟨a, rfl, ⟨_, hs⟩, Post.now (rel := RW X.K T) p1 rh1 (rw_tup hs r)⟩)
    | @rl ds vs a hs r => exact .inl ⟨a, rfl, ⟨_, hs.sq⟩, Post.now (rel := RW X.K T) p1 rh1 (rw_rl hs r)⟩
    | @li ds vs a hf hs r => exact .inl ⟨a, rfl, ⟨_, .inl (.inl hs)⟩, Post.now (rel := RW X.K T) p1 rh1 (rw_li hf hs r)⟩
    | str z => exact .inr (.inr ⟨z, rfl, Post.now (rel := RW X.K T) p1 rh1 (rw_str z)⟩)
    | @ref i a hi =>
      obtain ⟨o, ho⟩ := rh1.lt hi
      simp only [itD, ho] at p1
      cases o with
      | lst xs =>
        obtain ⟨vs, h1, r⟩ := rh1.lst hi ho
        exact .inl ⟨a, rfl, ⟨_, .inl (.inl h1)⟩, Post.now (rel := RW X.K T) p1 rh1 (rw_lst hi)⟩
      | _ => exact p1.elim
    | _ => exact p1.elim⟩
def rngD (xs : List Dt) (st : Sto) : Re Wk := match xs with
  | [.int n] => if -1000000 ≤ n ∧ n ≤ 1000000 then .ok (wRng 0 n.toNat) st else .stuck
  | _ => .stuck
def mRng (a : MA) : MW := fun env st => (a env st).bind rngD
theorem ii_range {ms : MA} {p : Pos} (hg : Gl X "range") (hm : X.mg "range" = none) (ha : IA X T W [e] ms) (hs : starEach [e] X.env = [(false, eval e X.env)] := by rfl) : II X T W tg (.Call (.Name "range" p) [e] [] pos) (mRng ms) := PIw (pi_range1 hg hm ha hs) fun σ H Q ⟨f, env, st, re, rh, p⟩ =>
  ⟨f, env, st, re, rh, p.bind fun x st1 f1 H1 vx hp s rh1 rx p1 => by
    cases rx with
    | nil => exact p1.elim
    | cons r1 t =>
      cases t with
      | cons _ _ => cases r1 <;> exact p1.elim
      | nil =>
        cases r1 <;> first | exact p1.elim | skip
        rename_i n
        have p' : Post X.K T (RW X.K T) _ f1 H1 (if -1000000 ≤ n ∧ n ≤ 1000000 then .ok (wRng 0 n.toNat) st1 else .stuck) Q := p1
        split at p'
        · rename_i hn
          exact ⟨n, rfl, by omega, by omega, Post.now (rel := RW X.K T) p' rh1 (rw_rng 0 _)⟩
        · exact p'.elim⟩
/-! ### comprehensions -/
def wipeE (env : Lo) : List Nat → Lo
  | [] => env
  | v :: vs => (wipeE env vs).set v none
theorem REn.wipes {f : List Addr} {H : Hp} {env : Lo} {σ : L2.St} (r : REn K T H f env σ) : ∀ vs : List Nat, REn K T H f (wipeE env vs) (wipe σ vs)
  | [] => r
  | v :: vs => (REn.wipes r vs).wipe1
def lcL (w : Wk) (g : MG) (tt : MT) (te : ME) (env : Lo) (d : Nat) : Nat → Nat → Sto → Re Dt
  | 0, _, _ => .stuck
  | n + 1, i, st => match w.turn i st with
    | .stop => .ok (.ref d) st
    | .stuck => .stuck
    | .item x => match g x env st with
      | .nx env1 st1 => match tt env1 st1 with
        | .ok b st2 => if b then (match te env1 st2 with
          | .ok y st3 => match st3[d]? with
            | some (.lst acc) => if acc.length < lim then lcL w g tt te env d n (i + 1) (st3.set d (.lst (acc ++ [y]))) else .stuck
            | _ => .stuck
          | _ => .stuck) else lcL w g tt te env d n (i + 1) st2
        | _ => .stuck
      | _ => .stuck
def mLc (m : MW) (g : MG) (tt : MT) (te : ME) (vs : List Nat) : ME := fun env st => (m env st).bind fun w st1 => lcL w g tt te (wipeE env vs) st1.length w.fuel 0 (st1 ++ [.lst []])
def mYes : MT := fun _ st => .ok true st
abbrev W0 : WX := fun _ _ _ _ => False
/-- how a target of a comprehension stores: its slots alone -/
structure GOk (K : PySem.W.Frag) (B : Tz) (g : MG) (t : TG) (vs : List Nat) : Prop where
  pur : ∀ d env st env1 st1, g d env st = .nx env1 st1 → st1 = st
  run : ∀ (T : Tb) (f : List Addr) (H : Hp) (env : Lo) (σ : L2.St) (st : Sto) (d : Dt) (v : V) (Q : L2.St → Hp → Prop), T.b = B → REn K T H f env (wipe σ vs) → RV K T H f d v →
    (match g d env st with
      | .nx env1 _ => ∀ σ2, REn K T H f env1 σ2 → wipe σ2 vs = wipe σ vs → Q σ2 H
      | _ => False) → t v (wipe σ vs) H Q
theorem gok_name {B : Tz} (i : Nat) : GOk K B (gNm i) (gName i) [i] := ⟨fun d env st env1 st1 h => by cases h; rfl, fun T f H env σ st d v Q _ re rv h => by
  refine h _ (re.set rv) ?_
  show ((σ.set i none).set i (some v)).set i none = σ.set i none
  rw [List.set_set, List.set_set]⟩
theorem wipe_foldl : ∀ (is : List Nat) (vs : List V) (js : List Nat) (σ : L2.St), (∀ i ∈ is, i ∈ js) → wipe ((is.zip vs).foldl (fun en p => en.set p.1 (some p.2)) σ) js = wipe σ js
  | [], _, _, _, _ => rfl
  | _ :: _, [], _, _, _ => rfl
  | i :: is, v :: vs, js, σ, h => by
    show wipe ((is.zip vs).foldl _ (σ.set i (some v))) js = wipe σ js
    rw [wipe_foldl is vs js _ fun j hj => h j (List.mem_cons_of_mem _ hj)]
    exact wipe_set_mem js (h i List.mem_cons_self)
where
  wipe_set_mem {σ : L2.St} {i : Nat} {x : Option V} : ∀ (js : List Nat), i ∈ js → wipe (σ.set i x) js = wipe σ js
    | [], h => by cases h
    | j :: js, h => by
      show (wipe (σ.set i x) js).set j none = (wipe σ js).set j none
      by_cases e : i ∈ js
      · rw [wipe_set_mem js e]
      · have hj : i = j := by
          rcases List.mem_cons.mp h with q | q
          · exact q
          · exact absurd q e
        subst hj
        rw [wipe_out js e, List.set_set]
  wipe_out {σ : L2.St} {i : Nat} {x : Option V} : ∀ (js : List Nat), i ∉ js → wipe (σ.set i x) js = (wipe σ js).set i x
    | [], _ => rfl
    | j :: js, h => by
      show (wipe (σ.set i x) js).set j none = ((wipe σ js).set j none).set i x
      rw [wipe_out js fun q => h (List.mem_cons_of_mem _ q), List.set_comm _ _ fun q => h (by rw [q]; exact List.mem_cons_self)]
theorem wipe_wipe {σ : L2.St} : ∀ (js : List Nat) (ks : List Nat), (∀ j ∈ js, j ∈ ks) → wipe (wipe σ js) ks = wipe σ ks
  | [], _, _ => rfl
  | j :: js, ks, h => by
    show wipe ((wipe σ js).set j none) ks = wipe σ ks
    rw [wipe_foldl.wipe_set_mem ks (h j List.mem_cons_self)]
    exact wipe_wipe js ks fun q hq => h q (List.mem_cons_of_mem _ hq)
theorem gTp_tup (is : List Nat) (ds : List Dt) (env : Lo) (st : Sto) : gTp is (.tup ds) env st = if is.length = ds.length then .nx ((is.zip ds).foldl (fun en p => en.set p.1 (some p.2)) env) st else .stuck := by
  cases is <;> rfl
theorem gok_tup {B : Tz} (is : List Nat) (n : Nat) (hl : is.length = n) : GOk K B (gTp is) (gTup K n (gNs is)) is := by
  refine ⟨fun d env st env1 st1 h => ?_, fun T f H env σ st d v Q _ re rv h => ?_⟩
  · cases d with
    | tup ds =>
      rw [gTp_tup] at h
      split at h
      · cases h; rfl
      · cases h
    | _ => cases is <;> cases h
  · cases rv with
    | @tup ds vs a hs r =>
      rw [gTp_tup] at h
      split at h
      · rename_i env1 st1 he
        split at he
        · rename_i hl2
          cases he
          refine ⟨a, vs, rfl, hs, by rw [← r.len, ← hl2]; exact hl, gNs_ok is ds vs env _ hl2 r re fun σ' re' e' => h σ' re' ?_⟩
          rw [e', wipe_foldl is vs is _ fun _ q => q, wipe_wipe is is fun _ q => q]
        · cases he
      · exact h.elim
    | _ => cases is <;> exact h.elim
end
section
variable {X : Cx} {T : Tb} {W : WX} {elt tg iter : Expr} {ifs : List Expr} {scope : Scope} {own : List (Str × Nat)} {pos : Pos} {mw : MW} {g : MG} {tg' : TG} {tt : MT} {te : ME}
theorem ev_lc {σ : L2.St} {H : Hp} {Q : VK} {vs : List Nat} (gok : GOk X.K T.b g tg' vs) (h : tG X.K T (rV X.K T) W (mLc mw g tt te vs) σ H Q) :
    tLc (tG X.K T (RW X.K T) W mw) tg' (tG X.K T rB W0 tt) (tG X.K T (rV X.K T) W0 te) vs σ H Q := by
  obtain ⟨f, env, st, re, rh, p⟩ := h
  refine ⟨f, env, st, re, rh, Post.bind (rel := RW X.K T) p fun w st1 f1 H1 J hp1 s1 rh1 rw1 p1 => fun D hD => ?_⟩
  have rn := rh1.new (u := .lst []) (o := .lst []) hD ⟨[], upd_same, .nil⟩
  refine ⟨fun i m H2 => ∃ f2 st2, f1 ++ [D] <+: f2 ∧ Stay X.K T f1 H1 f2 H2 ∧ RH X.K T f2 H2 st2 ∧ Post X.K T (rV X.K T) (fun c d H' => W c d σ H') f2 H2 (lcL w g tt te (wipeE env vs) st1.length m i st2) Q,
    ⟨w.fuel, f1 ++ [D], _, List.prefix_refl _, Stay.newA hD, rn, p1.mono (List.prefix_append _ _) (Stay.newA hD)⟩, ?_⟩
  rintro i m H2 ⟨f2, st2, hp2, s2, rh2, p2⟩
  have hD2 : f2[st1.length]? = some D := get_pre hp2 (ref_new rh1)
  cases m with
  | zero => exact p2.elim
  | succ n =>
    have hp12 : f1 <+: f2 := (List.prefix_append _ _).trans hp2
    have tw := rw1 T.rs i f2 H2 st2 (fun a h => .inl h) hp12 s2 rh2
    unfold lcL at p2
    cases ht : w.turn i st2 with
    | stop =>
      rw [ht] at p2 tw
      exact .inl ⟨tw, p2.now rh2 (.ref hD2)⟩
    | stuck => rw [ht] at p2; exact p2.elim
    | item d =>
      rw [ht] at p2 tw
      simp only at p2 tw
      refine .inr ⟨tw.1, fun H4 => ∃ f4 st4, f1 ++ [D] <+: f4 ∧ Stay X.K T f1 H1 f4 H4 ∧ RH X.K T f4 H4 st4 ∧ Post X.K T (rV X.K T) (fun c d H' => W c d σ H') f4 H4 (lcL w g tt te (wipeE env vs) st1.length n (i + 1) st4) Q, fun H4 h => ⟨n, Nat.lt_succ_self n, h⟩, fun x H3 hy => ?_⟩
      obtain ⟨s3, rh3, rx⟩ := tw.2 x H3 hy
      have re3 : REn X.K T H3 f2 (wipeE env vs) (wipe σ vs) := (((re.mono hp1 s1).mono hp12 (s2.trans s3)).wipes vs)
      refine gok.run T f2 H3 (wipeE env vs) σ st2 d x _ rfl re3 rx ?_
      cases hg2 : g d (wipeE env vs) st2 with
      | nx env3 st3 =>
        rw [hg2] at p2
        simp only at p2 ⊢
        have key : st3 = st2 → ∀ σ2, REn X.K T H3 f2 env3 σ2 → wipe σ2 vs = wipe σ vs → (wipe σ2 vs = wipe σ vs ∧ tG X.K T rB W0 tt σ2 H3 fun b H5 => if b = true then tG X.K T (rV X.K T) W0 te σ2 H5 fun y H6 => ∃ acc, H6 D = some (.lst acc) ∧ acc.length < sizeLine ∧
            ∃ f4 st4, f1 ++ [D] <+: f4 ∧ Stay X.K T f1 H1 f4 (upd H6 D (.lst (acc ++ [y]))) ∧ RH X.K T f4 (upd H6 D (.lst (acc ++ [y]))) st4 ∧ Post X.K T (rV X.K T) (fun c d H' => W c d σ H') f4 (upd H6 D (.lst (acc ++ [y]))) (lcL w g tt te (wipeE env vs) st1.length n (i + 1) st4) Q
            else ∃ f4 st4, f1 ++ [D] <+: f4 ∧ Stay X.K T f1 H1 f4 H5 ∧ RH X.K T f4 H5 st4 ∧ Post X.K T (rV X.K T) (fun c d H' => W c d σ H') f4 H5 (lcL w g tt te (wipeE env vs) st1.length n (i + 1) st4) Q) := by
          intro hst σ2 re4 hw
          subst hst
          refine ⟨hw, f2, env3, st3, re4, rh3, ?_⟩
          have p3 := p2.mono (List.prefix_refl _) s3
          cases ht2 : tt env3 st3 with
          | ok b st5 =>
            rw [ht2] at p3
            simp only at p3
            intro f5 H5 b' hp5 s5 rh5 rb
            cases rb
            have p5 := p3.mono hp5 s5
            cases b with
            | false =>
              rw [if_neg Bool.false_ne_true] at p5 ⊢
              exact ⟨f5, st5, hp2.trans hp5, (s2.trans s3).trans s5, rh5, p5⟩
            | true =>
              rw [if_pos rfl] at p5 ⊢
              refine ⟨f5, env3, st5, re4.mono hp5 s5, rh5, ?_⟩
              cases he2 : te env3 st5 with
              | ok y st6 =>
                rw [he2] at p5
                simp only at p5
                intro f6 H6 vy hp6 s6 rh6 ry
                have hD6 : f6[st1.length]? = some D := get_pre (hp5.trans hp6) hD2
                have p6 := p5.mono hp6 s6
                obtain ⟨o, ho⟩ := rh6.lt hD6
                rw [ho] at p6
                cases o with
                | lst acc =>
                  simp only at p6
                  obtain ⟨va, h1, h2⟩ := rh6.lst hD6 ho
                  split at p6
                  · rename_i hl
                    have stay := (rh6.obj _ _ _ ho hD6).stay (mem_of hD6) (.lst (va ++ [vy]))
                    refine ⟨va, h1, by rw [← h2.len]; exact lim_lt hl, f6, _, (hp2.trans hp5).trans hp6, (((s2.trans s3).trans s5).trans s6).trans stay, rh6.put (o := .lst (acc ++ [y])) hD6 ⟨_, upd_same, (h2.app (.one ry)).mono (List.prefix_refl _) stay⟩, p6.mono (List.prefix_refl _) stay⟩
                  · exact p6.elim
                | _ => exact p6.elim
              | _ => rw [he2] at p5; exact p5.elim
          | _ => rw [ht2] at p3; exact p3.elim
        exact fun σ2 re4 hw => key (gok.pur _ _ _ _ _ hg2) σ2 re4 hw
      | _ => rw [hg2] at p2; exact p2.elim
/-- the tests of a comprehension -/
theorem its_nil {X : Cx} {W : WX} : PTs X [] (tG X.K T rB W mYes) := ⟨fun pins s σ H Q I ⟨f, env, st, re, rh, p⟩ => (pts_nil (X := X)).run pins s σ H Q I (p.now rh rfl)⟩
theorem its_one {X : Cx} {W : WX} {c : Expr} {m : MT} (h : IT X T W c m) : PTs X [c] (tG X.K T rB W m) := pts_one h
theorem ie_lc (hc : X.calm = true) (hN : X.N.Nodup) (vs : List Nat) (hv : own.map (·.2) = vs) (gok : GOk X.K T.b g tg' vs) (hi : II X T W tg iter mw) (ok : BlkOk X.N X.env.scope scope own)
    (hg : ∀ (s : Shared) (H : Hp) (C : Addr) (cl : List (Str × Addr)) (fp : List Addr), PG (X.blk s H scope (compEnvC scope cl C X.env) fp) tg tg')
    (ht : ∀ (s : Shared) (H : Hp) (C : Addr) (cl : List (Str × Addr)) (fp : List Addr), PTs (X.blk s H scope (compEnvC scope cl C X.env) fp) ifs (tG X.K T rB W0 tt))
    (he : ∀ (s : Shared) (H : Hp) (C : Addr) (cl : List (Str × Addr)) (fp : List Addr), IE (X.blk s H scope (compEnvC scope cl C X.env) fp) T W0 elt te) (hs : ∀ x, foldedSetIterable iter X.env x = pure x := by intro _; rfl) :
    IE X T W (.ListComp elt [⟨tg, iter, ifs, 0⟩] scope pos) (mLc mw g tt te vs) := by
  subst hv
  exact PEw (pe_lc hc hN hi ok hg ht he hs) fun _ _ _ => ev_lc gok
theorem is_setLc (i : Nat) {y : Str} {py spos : Pos} (hc : X.calm = true) (hN : X.N.Nodup) (vs : List Nat) (hv : own.map (·.2) = vs) (gok : GOk X.K T.b g tg' vs) (hi : II X T W tg iter mw) (ok : BlkOk X.N X.env.scope scope own)
    (hg : ∀ (s : Shared) (H : Hp) (C : Addr) (cl : List (Str × Addr)) (fp : List Addr), PG (X.blk s H scope (compEnvC scope cl C X.env) fp) tg tg')
    (ht : ∀ (s : Shared) (H : Hp) (C : Addr) (cl : List (Str × Addr)) (fp : List Addr), PTs (X.blk s H scope (compEnvC scope cl C X.env) fp) ifs (tG X.K T rB W0 tt))
    (he : ∀ (s : Shared) (H : Hp) (C : Addr) (cl : List (Str × Addr)) (fp : List Addr), IE (X.blk s H scope (compEnvC scope cl C X.env) fp) T W0 elt te)
    (hy : X.N[i]? = some y := by rfl) (hyl : X.env.scope.names.lookup y = some .local := by rfl)
    (hsw : swapsWith (.ListComp elt [⟨tg, iter, ifs, 0⟩] scope pos) (some (.Name y py)) spos.line X.env = pure true := by exact sw_true rfl rfl rfl (by decide +kernel)) (hs : ∀ x, foldedSetIterable iter X.env x = pure x := by intro _; rfl) :
    IS X T W (.Assign [.Name y py] (.ListComp elt [⟨tg, iter, ifs, 0⟩] scope pos) spos) (sSet i (mLc mw g tt te vs)) := by
  subst hv
  exact PSw (ps_setLc hc hN hy hyl hsw hi ok hg ht he hs) fun E σ H ⟨f, env, st, re, rh, p⟩ =>
    ev_lc (W := W) gok ⟨f, env, st, re, rh, PostS.on re p fun d st1 f1 H1 v hp s rh1 rv re1 p1 => p1.nx_now rh1 (re1.set rv)⟩
end
end LT
set_option Elab.async false
set_option linter.all false
set_option maxRecDepth 100000
namespace LT
open PySem PySem.Spec PyProof.Rows L2
/-! ### comprehensions whose list is never changed -/
def lcV (w : Wk) (g : MG) (tt : MT) (te : ME) (env : Lo) : Nat → Nat → List Dt → Sto → Re Dt
  | 0, _, _, _ => .stuck
  | n + 1, i, acc, st => match w.turn i st with
    | .stop => .ok (.li acc) st
    | .stuck => .stuck
    | .item x => match g x env st with
      | .nx env1 st1 => match tt env1 st1 with
        | .ok b st2 => if b then (match te env1 st2 with
          | .ok y st3 => if acc.length < lim then lcV w g tt te env n (i + 1) (acc ++ [y]) st3 else .stuck
          | _ => .stuck) else lcV w g tt te env n (i + 1) acc st2
        | _ => .stuck
      | _ => .stuck
def mLcV (m : MW) (g : MG) (tt : MT) (te : ME) (vs : List Nat) : ME := fun env st => (m env st).bind fun w st1 => lcV w g tt te (wipeE env vs) w.fuel 0 [] st1
/-- read under any set of addresses that are set aside -/
def tX {α β : Type} (K : PySem.W.Frag) (B : Tz) (rel : Tb → Rel α β) (W : WX) (m : M α) : L2.St → Hp → (β → Hp → Prop) → Prop := fun σ H Q => ∃ rs, tG K ⟨B, rs⟩ (rel ⟨B, rs⟩) W m σ H Q
abbrev aside (T : Tb) (D : Addr) : Tb := ⟨T.b, D :: T.rs⟩
section
variable {K : PySem.W.Frag} {T : Tb} {f : List Addr} {H : Hp} {st : Sto} {D : Addr}
theorem view_aside {u : HO} {n : Nat} (hD : H D = none) : View K T f H (aside T D) f (upd H D u) n :=
  ⟨rfl, fun _ _ _ h => h, (Stay.new (T := T) (f := f) hD).t, (Stay.new (T := T) (f := f) hD).l, fun a v h1 h2 e => ⟨(Stay.new (K := K) hD).o a v h1 h2 e, h1, fun z => by
    rcases List.mem_cons.mp z with z | z
    · rw [z, hD] at e; cases e
    · exact h2 z⟩⟩
theorem view_back {n : Nat} : View K (aside T D) f H T f H n :=
  ⟨rfl, fun _ _ _ h => h, fun _ _ h => h, fun _ _ h => h, fun a v h1 h2 e => ⟨e, h1, fun z => h2 (List.mem_cons_of_mem _ z)⟩⟩
theorem RH.aside {u : HO} (rh : RH K T f H st) (hD : H D = none) : RH K (aside T D) f (upd H D u) st :=
  rh.view (view_aside hD) (fun a ha => upd_ne fun e => rh.fresh hD (by rw [← e]; exact ha)) fun a ha => by
    rcases List.mem_cons.mp ha with z | z
    · rw [z]; exact ⟨rh.fresh hD, _, upd_same⟩
    · obtain ⟨h1, w, h2⟩ := rh.rsv a z
      exact ⟨h1, w, by rw [upd_ne (fun e => by rw [e, hD] at h2; cases h2)]; exact h2⟩
theorem RH.back (rh : RH K (LT.aside T D) f H st) : RH K T f H st :=
  rh.view view_back (fun _ _ => rfl) fun a ha => rh.rsv a (List.mem_cons_of_mem _ ha)
theorem RVs.back {xs : List Dt} {vs : List V} (r : RVs K (LT.aside T D) H f xs vs) : RVs K T H f xs vs := r.view view_back r.closed
theorem RV.back {x : Dt} {v : V} (r : RV K (LT.aside T D) H f x v) : RV K T H f x v := r.view view_back r.closed
theorem REn.view {T' : Tb} {f' : List Addr} {H' : Hp} {env : Lo} {σ : L2.St} (re : REn K T H f env σ) (s : View K T f H T' f' H' f.length) : REn K T' H' f' env σ := ⟨re.len, fun i d e => by
  obtain ⟨v, h1, h2⟩ := re.get i d e
  exact ⟨v, h1, h2.view s h2.closed⟩⟩
/-- what is kept under more that is set aside, is kept -/
theorem Stay.back {f' : List Addr} {H' : Hp} (s : Stay K (LT.aside T D) f H f' H') (hD : D ∉ f) : Stay K T f H f' H' :=
  ⟨⟨s.t, s.l, fun a u h1 h2 e => s.any h1 e, s.n⟩, fun a u h1 h2 e => s.any h1 e⟩
/-- the list that is being made grows -/
theorem Stay.grow {f1 f' : List Addr} {H1 H' : Hp} {u : HO} (s : Stay K T f1 H1 f' H') (hD : H1 D = none) (hD' : ∃ xs, H' D = some (.lst xs)) : Stay K T f1 H1 f' (upd H' D u) := by
  obtain ⟨xs, e⟩ := hD'
  have q := Stay.tl (K := K) (H := H') (p := D) (o := u) (fun xs z => by rw [e] at z; cases z) (fun q u z => by rw [e] at z; cases z)
  exact ⟨⟨fun a xs h => q.1 a xs (s.t a xs h), fun a xs h => q.2 a xs (s.l a xs h), fun a v h1 h2 h => by rw [upd_ne (fun z => by rw [z, hD] at h; cases h)]; exact s.o a v h1 h2 h, s.n⟩, fun a v h1 h2 h => by rw [upd_ne (fun z => by rw [z, hD] at h; cases h)]; exact s.r a v h1 h2 h⟩
theorem Stay.growAny {f1 f' : List Addr} {H1 H' : Hp} {u : HO} (s : Stay K T f1 H1 f' H') (hD : H1 D = none) (ht : ∀ xs, H' D ≠ some (.tup xs)) (hf : ∀ q u, H' D ≠ some (.frz q u)) : Stay K T f1 H1 f' (upd H' D u) := by
  have q := Stay.tl (K := K) (H := H') (p := D) (o := u) ht hf
  exact ⟨⟨fun a xs h => q.1 a xs (s.t a xs h), fun a xs h => q.2 a xs (s.l a xs h), fun a v h1 h2 h => by rw [upd_ne (fun z => by rw [z, hD] at h; cases h)]; exact s.o a v h1 h2 h, s.n⟩, fun a v h1 h2 h => by rw [upd_ne (fun z => by rw [z, hD] at h; cases h)]; exact s.r a v h1 h2 h⟩
theorem RH.growAny {u0 u : HO} (rh : RH K (LT.aside T D) f H st) (e : H D = some u0) (ht : ∀ xs, H D ≠ some (.tup xs)) (hf : ∀ q u, H D ≠ some (.frz q u)) : RH K (LT.aside T D) f (upd H D u) st := by
  have hD : D ∉ f := (rh.rsv D List.mem_cons_self).1
  have s : Stay0 K (LT.aside T D) f H f (upd H D u) := Stay0.aside List.mem_cons_self ht hf
  exact ⟨rh.len, rh.nd, fun i o a ho ha => (rh.obj i o a ho ha).keep0 (List.prefix_refl _) s (upd_ne fun z => hD (by rw [← z]; exact mem_of ha)), fun a ha => by
    obtain ⟨h1, w, h2⟩ := rh.rsv a ha
    refine ⟨h1, ?_⟩
    by_cases z : a = D
    · rw [z]; exact ⟨_, upd_same⟩
    · exact ⟨w, by rw [upd_ne z]; exact h2⟩⟩
theorem RH.grow {xs : List V} {u : HO} (rh : RH K (LT.aside T D) f H st) (e : H D = some (.lst xs)) : RH K (LT.aside T D) f (upd H D u) st := by
  have hD : D ∉ f := (rh.rsv D List.mem_cons_self).1
  have s : Stay0 K (LT.aside T D) f H f (upd H D u) := Stay0.aside List.mem_cons_self (fun xs z => by rw [e] at z; cases z) (fun q u z => by rw [e] at z; cases z)
  exact ⟨rh.len, rh.nd, fun i o a ho ha => (rh.obj i o a ho ha).keep0 (List.prefix_refl _) s (upd_ne fun z => hD (by rw [← z]; exact mem_of ha)), fun a ha => by
    obtain ⟨h1, w, h2⟩ := rh.rsv a ha
    refine ⟨h1, ?_⟩
    by_cases z : a = D
    · rw [z]; exact ⟨_, upd_same⟩
    · exact ⟨w, by rw [upd_ne z]; exact h2⟩⟩
end
section
variable {X : Cx} {T : Tb} {W : WX} {elt tg iter : Expr} {ifs : List Expr} {scope : Scope} {own : List (Str × Nat)} {pos : Pos} {mw : MW} {g : MG} {tg' : TG} {tt : MT} {te : ME}
theorem ev_lcV {σ : L2.St} {H : Hp} {Q : VK} {vs : List Nat} (gok : GOk X.K T.b g tg' vs) (h : tG X.K T (rV X.K T) W (mLcV mw g tt te vs) σ H Q) :
    tLc (tG X.K T (RW X.K T) W mw) tg' (tX X.K T.b (fun _ => rB) W0 tt) (tX X.K T.b (rV X.K) W0 te) vs σ H Q := by
  obtain ⟨f, env, st, re, rh, p⟩ := h
  refine ⟨f, env, st, re, rh, Post.bind (rel := RW X.K T) p fun w st1 f1 H1 J hp1 s1 rh1 rw1 p1 => fun D hD => ?_⟩
  have re1 : REn X.K T H1 f1 env σ := re.mono hp1 s1
  have st0 : Stay X.K T f1 H1 f1 (upd H1 D (.lst [])) := Stay.new hD
  refine ⟨fun i m H2 => ∃ f2 st2 acc va, f1 <+: f2 ∧ H2 D = some (.lst va) ∧ RVs X.K (aside T D) H2 f2 acc va ∧ Stay X.K T f1 H1 f2 H2 ∧ RH X.K (aside T D) f2 H2 st2 ∧ Post X.K T (rV X.K T) (fun c d H' => W c d σ H') f1 H1 (lcV w g tt te (wipeE env vs) m i acc st2) Q,
    ⟨w.fuel, f1, st1, [], [], List.prefix_refl _, upd_same, .nil, st0, rh1.aside hD, p1⟩, ?_⟩
  rintro i m H2 ⟨f2, st2, acc, va, hp2, hD2, ra, s2, rh2, p2⟩
  have hDf : D ∉ f2 := (rh2.rsv D List.mem_cons_self).1
  cases m with
  | zero => exact p2.elim
  | succ n =>
    have tw := rw1 (D :: T.rs) i f2 H2 st2 (fun a h => by
      rcases List.mem_cons.mp h with z | z
      · rw [z]; exact .inr hD
      · exact .inl z) hp2 s2 rh2
    unfold lcV at p2
    cases ht : w.turn i st2 with
    | stop =>
      rw [ht] at p2 tw
      exact .inl ⟨tw, p2 f2 H2 _ hp2 s2 rh2.back (.li ⟨hDf, fun z => by
        obtain ⟨_, u, e⟩ := rh1.rsv D z
        rw [hD] at e; cases e⟩ hD2 ra.back)⟩
    | stuck => rw [ht] at p2; exact p2.elim
    | item d =>
      rw [ht] at p2 tw
      simp only at p2 tw
      refine .inr ⟨tw.1, fun H4 => ∃ f4 st4 acc va, f1 <+: f4 ∧ H4 D = some (.lst va) ∧ RVs X.K (aside T D) H4 f4 acc va ∧ Stay X.K T f1 H1 f4 H4 ∧ RH X.K (aside T D) f4 H4 st4 ∧ Post X.K T (rV X.K T) (fun c d H' => W c d σ H') f1 H1 (lcV w g tt te (wipeE env vs) n (i + 1) acc st4) Q, fun H4 h => ⟨n, Nat.lt_succ_self n, h⟩, fun x H3 hy => ?_⟩
      obtain ⟨s3, rh3, rx⟩ := tw.2 x H3 hy
      have s23 : Stay X.K T f1 H1 f2 H3 := s2.trans (s3.back hDf)
      have re3 : REn X.K (aside T D) H3 f2 (wipeE env vs) (wipe σ vs) := (re1.view (view_of hp2 s23.toStay0 (fun a h => by
        rcases List.mem_cons.mp h with z | z
        · rw [z]; exact .inr hD
        · exact .inl z))).wipes vs
      have hD3 : H3 D = some (.lst va) := s3.any hDf hD2
      have ra3 : RVs X.K (aside T D) H3 f2 acc va := ra.mono (List.prefix_refl _) s3
      refine gok.run (aside T D) f2 H3 (wipeE env vs) σ st2 d x _ rfl re3 rx ?_
      cases hg2 : g d (wipeE env vs) st2 with
      | nx env3 st3 =>
        rw [hg2] at p2
        simp only at p2 ⊢
        have hst := gok.pur _ _ _ _ _ hg2
        subst hst
        intro σ2 re4 hw
        refine ⟨hw, D :: T.rs, f2, env3, st3, re4, rh3, ?_⟩
        have p3 := p2
        cases ht2 : tt env3 st3 with
        | ok b st5 =>
          rw [ht2] at p3
          simp only at p3
          intro f5 H5 b' hp5 s5 rh5 rb
          cases rb
          have p5 := p3
          have hD5 := s5.any hDf hD3
          have ra5 := ra3.mono hp5 s5
          have s25 := s23.trans (s5.back hDf)
          have hDf5 : D ∉ f5 := (rh5.rsv D List.mem_cons_self).1
          cases b with
          | false =>
            rw [if_neg Bool.false_ne_true] at p5 ⊢
            exact ⟨f5, st5, acc, va, hp2.trans hp5, hD5, ra5, s25, rh5, p5⟩
          | true =>
            rw [if_pos rfl] at p5 ⊢
            refine ⟨D :: T.rs, f5, env3, st5, re4.mono hp5 s5, rh5, ?_⟩
            cases he2 : te env3 st5 with
            | ok y st6 =>
              rw [he2] at p5
              simp only at p5
              intro f6 H6 vy hp6 s6 rh6 ry
              have p6 := p5
              have hD6 := s6.any hDf5 hD5
              have ra6 := ra5.mono hp6 s6
              have s26 := s25.trans (s6.back hDf5)
              split at p6
              · rename_i hl
                have gr : Stay0 X.K (aside T D) f6 H6 f6 (upd H6 D (.lst (va ++ [vy]))) := Stay0.aside List.mem_cons_self (fun xs z => by rw [hD6] at z; cases z) (fun q u z => by rw [hD6] at z; cases z)
                have s27 : Stay X.K T f1 H1 f6 (upd H6 D (.lst (va ++ [vy]))) := s26.grow hD ⟨_, hD6⟩
                refine ⟨va, hD6, by rw [← ra6.len]; exact lim_lt hl, f6, st6, acc ++ [y], va ++ [vy], (hp2.trans hp5).trans hp6, upd_same, (ra6.app (.one ry)).mono0 (List.prefix_refl _) gr, s27, rh6.grow hD6, p6⟩
              · exact p6.elim
            | _ => rw [he2] at p5; exact p5.elim
        | _ => rw [ht2] at p3; exact p3.elim
      | _ => rw [hg2] at p2; exact p2.elim
/-- a reading under any set -/
theorem pe_X {X : Cx} {e : Expr} {m : ME} {B : Tz} {W : WX} (h : ∀ rs, IE X ⟨B, rs⟩ W e m) : PE X e (tX X.K B (rV X.K) W m) := ⟨fun pins s σ H Q I ⟨rs, q⟩ => (h rs).run pins s σ H Q I q⟩
theorem pts_X {X : Cx} {e : List Expr} {m : MT} {B : Tz} {W : WX} (h : ∀ rs, PTs X e (tG X.K ⟨B, rs⟩ rB W m)) : PTs X e (tX X.K B (fun _ => rB) W m) := ⟨fun pins s σ H Q I ⟨rs, q⟩ => (h rs).run pins s σ H Q I q⟩
theorem ie_lcV (hc : X.calm = true) (hN : X.N.Nodup) (vs : List Nat) (hv : own.map (·.2) = vs) (gok : GOk X.K T.b g tg' vs) (hi : II X T W tg iter mw) (ok : BlkOk X.N X.env.scope scope own)
    (hg : ∀ (s : Shared) (H : Hp) (C : Addr) (cl : List (Str × Addr)) (fp : List Addr), PG (X.blk s H scope (compEnvC scope cl C X.env) fp) tg tg')
    (ht : ∀ (s : Shared) (H : Hp) (C : Addr) (cl : List (Str × Addr)) (fp : List Addr) (rs : List Addr), PTs (X.blk s H scope (compEnvC scope cl C X.env) fp) ifs (tG X.K ⟨T.b, rs⟩ rB W0 tt))
    (he : ∀ (s : Shared) (H : Hp) (C : Addr) (cl : List (Str × Addr)) (fp : List Addr) (rs : List Addr), IE (X.blk s H scope (compEnvC scope cl C X.env) fp) ⟨T.b, rs⟩ W0 elt te) (hs : ∀ x, foldedSetIterable iter X.env x = pure x := by intro _; rfl) :
    IE X T W (.ListComp elt [⟨tg, iter, ifs, 0⟩] scope pos) (mLcV mw g tt te vs) := by
  subst hv
  exact PEw (pe_lc hc hN hi ok hg (fun s H C cl fp => pts_X (ht s H C cl fp)) (fun s H C cl fp => pe_X (he s H C cl fp)) hs) fun _ _ _ => ev_lcV gok
theorem is_setLcV (i : Nat) {y : Str} {py spos : Pos} (hc : X.calm = true) (hN : X.N.Nodup) (vs : List Nat) (hv : own.map (·.2) = vs) (gok : GOk X.K T.b g tg' vs) (hi : II X T W tg iter mw) (ok : BlkOk X.N X.env.scope scope own)
    (hg : ∀ (s : Shared) (H : Hp) (C : Addr) (cl : List (Str × Addr)) (fp : List Addr), PG (X.blk s H scope (compEnvC scope cl C X.env) fp) tg tg')
    (ht : ∀ (s : Shared) (H : Hp) (C : Addr) (cl : List (Str × Addr)) (fp : List Addr) (rs : List Addr), PTs (X.blk s H scope (compEnvC scope cl C X.env) fp) ifs (tG X.K ⟨T.b, rs⟩ rB W0 tt))
    (he : ∀ (s : Shared) (H : Hp) (C : Addr) (cl : List (Str × Addr)) (fp : List Addr) (rs : List Addr), IE (X.blk s H scope (compEnvC scope cl C X.env) fp) ⟨T.b, rs⟩ W0 elt te)
    (hy : X.N[i]? = some y := by rfl) (hyl : X.env.scope.names.lookup y = some .local := by rfl)
    (hsw : swapsWith (.ListComp elt [⟨tg, iter, ifs, 0⟩] scope pos) (some (.Name y py)) spos.line X.env = pure true := by exact sw_true rfl rfl rfl (by decide +kernel)) (hs : ∀ x, foldedSetIterable iter X.env x = pure x := by intro _; rfl) :
    IS X T W (.Assign [.Name y py] (.ListComp elt [⟨tg, iter, ifs, 0⟩] scope pos) spos) (sSet i (mLcV mw g tt te vs)) := by
  subst hv
  exact PSw (ps_setLc hc hN hy hyl hsw hi ok hg (fun s H C cl fp => pts_X (ht s H C cl fp)) (fun s H C cl fp => pe_X (he s H C cl fp)) hs) fun E σ H ⟨f, env, st, re, rh, p⟩ =>
    ev_lcV (W := W) gok ⟨f, env, st, re, rh, PostS.on re p fun d st1 f1 H1 v hp s rh1 rv re1 p1 => p1.nx_now rh1 (re1.set rv)⟩
end
end LT
set_option Elab.async false
set_option linter.all false
set_option maxRecDepth 100000
namespace LT
open PySem PySem.Spec PyProof.Rows L2
/-! ### defs -/
def startE (n : Nat) (ds : List Dt) : Lo := ds.map some ++ List.replicate (n - ds.length) none
def runF (n : Nat) (m : MS) : MF := fun ds st => match m (startE n ds) st with
  | .nx _ st' => .ok .non st'
  | .rt d st' => .ok d st'
  | .ex _ c fs st' => .exc c fs st'
  | _ => .stuck
def spF (K : PySem.W.Frag) (B : Tz) (n : Nat) (F : MF) : Sp := fun vs H Q E => vs.length = n ∧ ∃ rs f ds st, RVs K ⟨B, rs⟩ H f ds vs ∧ RH K ⟨B, rs⟩ f H st ∧ Post K ⟨B, rs⟩ (rV K ⟨B, rs⟩) E f H (F ds st) Q
theorem REn.start {K : PySem.W.Frag} {T : Tb} {H : Hp} {f : List Addr} {N : List Str} {ds : List Dt} {vs : List V} (r : RVs K T H f ds vs) : REn K T H f (startE N.length ds) (L2.start N vs) := by
  refine ⟨?_, fun i d hi => ?_⟩
  · unfold startE L2.start
    rw [List.length_append, List.length_append, List.length_map, List.length_map, List.length_replicate, List.length_replicate, r.len]
  · unfold startE at hi
    unfold L2.start
    by_cases h : i < ds.length
    · rw [List.getElem?_append_left (by rw [List.length_map]; exact h), List.getElem?_map] at hi
      cases hd : ds[i]? with
      | none => rw [hd] at hi; cases hi
      | some d' =>
        rw [hd] at hi
        have e : d' = d := by simpa using hi
        subst e
        obtain ⟨v, h1, h2⟩ := r.get hd
        refine ⟨v, ?_, h2⟩
        rw [List.getElem?_append_left (by rw [List.length_map, ← r.len]; exact h), List.getElem?_map, h1]
        rfl
    · rw [List.getElem?_append_right (by rw [List.length_map]; omega)] at hi
      rw [List.getElem?_replicate] at hi
      split at hi <;> simp at hi
section
variable {P : Program} {w : World} {K : PySem.W.Frag} {mg : Str → Option Value} {base : Heap} {B : Tz}
/-- THE RULE for a def -/
theorem fn_ok {x qual : Str} {st : Stmt} {f : Addr} {fd : FuncData} {N ps : List Str} {k : Nat} {m : MS} (F : Fun K x qual st f fd) (S : FnScope N ps (defScope st))
    (hb : ∀ (cdv : Value) (A : Around) (outer : List Env) (s : Shared) (H : Hp) (E : XK) (rs : List Addr), Room k (A.deeper (envOfC qual (defScope st) s.heap.objs.size f cdv)) →
      ISs (cxOf (L2.CX P w) P w K mg base N qual (defScope st) f cdv A outer s H E) ⟨B, rs⟩ (fun cls d _ H => E cls d H) (defBody st) m) : FnOk P w K mg base (L2.CX P w) (k + 1) f fd ps (spF K B ps.length (runF N.length m)) := by
  refine F.okX S (fun vs H Q E h => h.1) fun cdv A outer s H vs Q E hr h => ?_
  obtain ⟨_, rs, f0, ds, st0, rvs, rh, p⟩ := h
  refine ⟨_, hb cdv A outer s H E rs hr, f0, startE N.length ds, st0, REn.start rvs, rh, ?_⟩
  unfold runF at p
  show PostS K ⟨B, rs⟩ (fun cls d _ H => E cls d H) f0 H (m (startE N.length ds) st0) _
  cases hm : m (startE N.length ds) st0 with
  | nx e1 s1 => rw [hm] at p; exact fun f' H' σ' hp s rh' _ => p f' H' .non hp s rh' .non
  | rt d s1 => rw [hm] at p; exact p
  | ex e1 c fs s1 => rw [hm] at p; exact fun f' H' σ' cls d hp s rh' _ xr => p f' H' cls d hp s rh' xr
  | bk e1 s1 => rw [hm] at p; exact p.elim
  | ct e1 s1 => rw [hm] at p; exact p.elim
  | stuck => rw [hm] at p; exact p.elim
end
def mCall (n : Nat) (F : MF) (a : MA) (dv : List Dt) : ME := fun env st => (a env st).bind fun ds st1 => if ds.length + dv.length = n then F (ds ++ dv) st1 else .stuck
section
variable {X : Cx} {T : Tb} {W : WX} {e : Expr} {es : List Expr} {ms : MA} {me : ME} {pos p : Pos} {k n : Nat} {f : Addr} {fd : FuncData} {ps : List Str} {F : MF} {dv : List Dt} {dvs : List V} {dfs : List Value} {x : Str}
theorem ie_call (G : FnOk X.prog X.w X.K X.mg X.base (L2.CX X.prog X.w) k f fd ps (spF X.K T.b n F)) (hr : Room k X.A) (hm : X.mg x = some (.ref f)) (hk : PySem.W.keepIn X.K (.ref f) = true) (hb : Binds X.K fd ps dfs) (hd : Vals dvs dfs) (hdv : ∀ H f, RVs X.K T H f dv dvs)
    (tk : Takes X W) (ha : IA X T W (e :: es) ms) (hg : Gl X x := by rfl) (hdb : (x == ("__debug__" : Str)) = false := by decide) (he : starEach (e :: es) X.env = (false, eval e X.env) :: starEach es X.env := by rfl) (hpl : (backTo pos (starEach es X.env)).any (·.1) = false := by rfl) :
    IE X T W (.Call (.Name x p) (e :: es) [] pos) (mCall n F ms dv) := PEw (pe_callSD G hr hg hm hk hb hd (E := fun σ c d H => W c d σ H) (fun σ => passAt tk σ) ha hdb he hpl) fun σ H Q ⟨f, env, st, re, rh, p⟩ =>
  ⟨f, env, st, re, rh, p.bind fun x st1 f1 H1 vx hp s rh1 rx p1 => by
    split at p1
    · rename_i hl
      exact ⟨by rw [List.length_append, ← rx.len, ← (hdv H1 f1).len]; exact hl, T.rs, f1, _, st1, rx.app (hdv H1 f1), rh1, p1⟩
    · exact p1.elim⟩
/-! ### instances -/
def putN (k : Nat) (d : Dt) : List (Nat × Dt) → List (Nat × Dt)
  | [] => [(k, d)]
  | (g, x) :: r => if g = k then (g, d) :: r else (g, x) :: putN k d r
theorem FR.lookup {K : PySem.W.Frag} {H : Hp} {f : List Addr} {k : Nat} {d : Dt} : ∀ {fs : List (Nat × Dt)} {vs : List (Str × V)}, FR K T H f fs vs → fs.lookup k = some d → ∃ v, vs.lookup (T.fld k) = some v ∧ RV K T H f d v
  | _, _, .nil, h => by cases h
  | _, _, @FR.cons _ _ _ _ i d' v fs vs r t, h => by
    rw [List.lookup_cons] at h
    by_cases e : k = i
    · subst e
      rw [beq_self_eq_true] at h
      have e2 : d' = d := by simpa using h
      subst e2
      exact ⟨v, by rw [List.lookup_cons, beq_self_eq_true], r⟩
    · rw [beq_eq_false_iff_ne.mpr e] at h
      obtain ⟨v', h1, h2⟩ := FR.lookup t h
      refine ⟨v', ?_, h2⟩
      rw [List.lookup_cons, beq_eq_false_iff_ne.mpr (fun q => e (T.inj _ _ q))]
      exact h1
theorem FR.lookup_none {K : PySem.W.Frag} {H : Hp} {f : List Addr} {k : Nat} : ∀ {fs : List (Nat × Dt)} {vs : List (Str × V)}, FR K T H f fs vs → fs.lookup k = none → vs.lookup (T.fld k) = none
  | _, _, .nil, _ => rfl
  | _, _, @FR.cons _ _ _ _ i d' v fs vs r t, h => by
    rw [List.lookup_cons] at h
    by_cases e : k = i
    · subst e
      rw [beq_self_eq_true] at h
      cases h
    · rw [beq_eq_false_iff_ne.mpr e] at h
      rw [List.lookup_cons, beq_eq_false_iff_ne.mpr (fun q => e (T.inj _ _ q))]
      exact FR.lookup_none t h
theorem FR.put {K : PySem.W.Frag} {H : Hp} {f : List Addr} {k : Nat} {d : Dt} {v : V} (r : RV K T H f d v) : ∀ {fs : List (Nat × Dt)} {vs : List (Str × V)}, FR K T H f fs vs → FR K T H f (putN k d fs) (putF (T.fld k) v vs)
  | _, _, .nil => .cons r .nil
  | _, _, @FR.cons _ _ _ _ i d' v' fs vs r' t => by
    unfold putN putF
    by_cases e : i = k
    · subst e
      rw [if_pos rfl, if_pos rfl]
      exact .cons r t
    · rw [if_neg e, if_neg (fun q => e (T.inj _ _ q))]
      exact .cons r' (FR.put r t)
theorem FR.len {K : PySem.W.Frag} {H : Hp} {f : List Addr} : ∀ {fs : List (Nat × Dt)} {vs : List (Str × V)}, FR K T H f fs vs → fs.length = vs.length
  | _, _, .nil => rfl
  | _, _, .cons _ t => by rw [List.length_cons, List.length_cons, FR.len t]
def insD (x : Dt) (st : Sto) : Option (Nat × List (Nat × Dt)) := match x with
  | .ref i => match st[i]? with
    | some (.ins c fs) => some (c, fs)
    | _ => none
  | _ => none
theorem insD_ok {K : PySem.W.Frag} {f : List Addr} {H : Hp} {st : Sto} {d : Dt} {v : V} {c : Nat} {fs : List (Nat × Dt)} (rh : RH K T f H st) (r : RV K T H f d v) (h : insD d st = some (c, fs)) : ∃ i a dx vs, d = .ref i ∧ f[i]? = some a ∧ st[i]? = some (.ins c fs) ∧ v = .ref a ∧ H a = some (.ins (T.cls c) dx vs) ∧ FR K T H f fs vs := by
  cases r with
  | @ref i a hi =>
    obtain ⟨o, ho⟩ := rh.lt hi
    simp only [insD, ho] at h
    cases o with
    | ins c' fs' =>
      cases h
      obtain ⟨dx, vs, h1, h2⟩ := rh.obj _ _ _ ho hi
      exact ⟨i, a, dx, vs, rfl, hi, ho, rfl, h1, h2⟩
    | _ => cases h
  | _ => cases h
/-- an instance, tracked or not -/
def objD (x : Dt) (st : Sto) : Option (Nat × List (Nat × Dt)) := match x with
  | .ob c fs => some (c, fs)
  | .ref i => match st[i]? with
    | some (.ins c fs) => some (c, fs)
    | _ => none
  | _ => none
theorem objD_ok {K : PySem.W.Frag} {f : List Addr} {H : Hp} {st : Sto} {d : Dt} {v : V} {c : Nat} {fs : List (Nat × Dt)} (rh : RH K T f H st) (r : RV K T H f d v) (h : objD d st = some (c, fs)) : ∃ a dx vs, v = .ref a ∧ H a = some (.ins (T.cls c) dx vs) ∧ FR K T H f fs vs := by
  cases r with
  | @ob c fs vs a dx hf hs r => cases h; exact ⟨a, dx, vs, rfl, hs, r⟩
  | @ref i a hi =>
    obtain ⟨o, ho⟩ := rh.lt hi
    simp only [objD, ho] at h
    cases o with
    | ins c' fs' =>
      cases h
      obtain ⟨dx, vs, h1, h2⟩ := rh.obj _ _ _ ho hi
      exact ⟨a, dx, vs, rfl, h1, h2⟩
    | _ => cases h
  | _ => cases h
/-- fields of the classes cs -/
def mFld (cs : List Nat) (k : Nat) (a : ME) : ME := fun env st => (a env st).bind fun x st1 => match objD x st1 with
  | some (c, fs) => if cs.contains c then (match fs.lookup k with
    | some d => .ok d st1
    | none => .stuck) else .stuck
  | none => .stuck
theorem ie_fld {f : Str} (cs : List Nat) (k : Nat) (hf : T.fld k = f) (hC : ∀ c, cs.contains c = true → Cls X.K (T.cls c) ∧ NoAttr X.K (T.cls c) f) (he : IE X T W e me) (hb : attributeBase e f X.env (eval e X.env) = eval e X.env := by rfl) :
    IE X T W (.Attribute e f pos) (mFld cs k me) := by
  subst hf
  exact PEw (pe_fld he hb) fun σ H Q ⟨f, env, st, re, rh, p⟩ => ⟨f, env, st, re, rh, p.bind fun x st1 f1 H1 vx hp s rh1 rx p1 => by
    cases hi : objD x st1 with
    | none => rw [hi] at p1; exact p1.elim
    | some cf =>
      obtain ⟨c, fs⟩ := cf
      rw [hi] at p1
      simp only at p1
      obtain ⟨a, dx, vs, rfl, h3, h4⟩ := objD_ok rh1 rx hi
      split at p1
      · rename_i hc
        cases hl : fs.lookup k with
        | none => rw [hl] at p1; exact p1.elim
        | some d =>
          rw [hl] at p1
          obtain ⟨v, hv, rv⟩ := h4.lookup hl
          exact ⟨a, _, dx, vs, v, rfl, h3, (hC c hc).1, (hC c hc).2, hv, p1.now rh1 rv⟩
      · exact p1.elim⟩
def sFldSet (cs : List Nat) (k : Nat) (o v : ME) : MS := fun env st => (v env st).on env fun d st1 => (o env st1).on env fun x st2 => match insD x st2, x with
  | some (c, fs), .ref i => if cs.contains c && decide (fs.length < 900) then .nx env (st2.set i (.ins c (putN k d fs))) else .stuck
  | _, _ => .stuck
theorem is_fld {o : Expr} {mo : ME} {f : Str} {p' : Pos} (cs : List Nat) (k : Nat) (hf : T.fld k = f) (hC : ∀ c, cs.contains c = true → Cls X.K (T.cls c) ∧ NoAttr X.K (T.cls c) f) (ho : IE X T W o mo) (he : IE X T W e me) (hs : swapsWith e (some (.Attribute o f p')) pos.line X.env = pure false := by rfl) :
    IS X T W (.Assign [.Attribute o f p'] e pos) (sFldSet cs k mo me) := by
  subst hf
  exact PSw (ps_fld ho he hs) fun E σ H ⟨f, env, st, re, rh, p⟩ => ⟨f, env, st, re, rh, PostS.on re p fun d st1 f1 H1 v hp s rh1 rv re1 p1 => ⟨f1, env, st1, re1, rh1, PostS.on re1 p1 fun x st2 f2 H2 vx hp2 s2 rh2 rx re2 p2 => by
    cases hi : insD x st2 with
    | none => rw [hi] at p2; exact p2.elim
    | some cf =>
      obtain ⟨c, fs⟩ := cf
      obtain ⟨i, a, dx, vs, rfl, h1, h2, rfl, h3, h4⟩ := insD_ok rh2 rx hi
      rw [hi] at p2
      simp only at p2
      split at p2
      · rename_i hc
        rw [Bool.and_eq_true] at hc
        have stay := (rh2.obj _ _ _ h2 h1).stay (mem_of h1) (.ins (T.cls c) dx (putF (T.fld k) v vs))
        refine ⟨a, _, dx, vs, rfl, h3, (hC c hc.1).1, (hC c hc.1).2, by rw [← h4.len]; have := of_decide_eq_true hc.2; omega, ?_⟩
        exact p2 f2 _ σ (List.prefix_refl _) stay (rh2.put h1 ⟨dx, _, upd_same, (h4.put (rv.mono hp2 s2)).mono (List.prefix_refl _) stay⟩) (re2.mono (List.prefix_refl _) stay)
      · exact p2.elim⟩⟩
/-! methods -/
def mMeth (c mk n : Nat) (F : MF) (o : ME) (a : MA) (dv : List Dt) : ME := fun env st => (o env st).bind fun x st1 => match objD x st1 with
  | some (c', fs) => if c' = c ∧ fs.lookup mk = none then (a env st1).bind fun ds st2 => if ds.length + dv.length + 1 = n then F (x :: (ds ++ dv)) st2 else .stuck else .stuck
  | none => .stuck
end
/-- o.m(e, ..), the raised wished for at the slots -/
def tMethS (C : Addr) (m : Str) (sp : Sp) (dvs : List V) (W : WX) (ta : TE) (t : TA) : TE := fun σ H Q => ta σ H fun x H1 => ∃ a dx fs, x = .ref a ∧ H1 a = some (.ins C dx fs) ∧ fs.lookup m = none ∧ t σ H1 fun vs H2 => sp (.ref a :: (vs ++ dvs)) H2 Q (fun c d H' => W c d σ H')
def tMakeS (C : Addr) (sp : Sp) (dvs : List V) (W : WX) (t : TA) : TE := fun σ H Q => t σ H fun vs H1 => ∀ x dx, H1 x = none → H1 dx = none → dx ≠ x → sp (.ref x :: (vs ++ dvs)) (upd (upd H1 dx (.own x)) x (.ins C dx [])) (fun v H2 => v = .non ∧ Q (.ref x) H2) (fun c d H' => W c d σ H')
section
variable {X : Cx} {W : WX} {C f : Addr} {k : Nat} {fd : FuncData} {ps : List Str} {sp : Sp} {ds : List Value} {dvs : List V} {m x : Str} {o e : Expr} {es : List Expr} {ta : TE} {t : TA} {apos pos p : Pos}
theorem pe_methW {pl : Sem Bool} (he : PE X o ta) (c : Cls X.K C) (hm : Meth X.K C m f) (F : FnOk X.prog X.w X.K X.mg X.base (L2.CX X.prog X.w) k f fd ps sp) (hr : Room k X.A) (hb : Binds X.K fd ps ds) (hd : Vals dvs ds) (tk : Takes X W) (ha : PA X (e :: es) t)
    (hst : starEach (e :: es) X.env = (false, eval e X.env) :: starEach es X.env := by rfl) (hpl : (backTo pos (starEach es X.env)).any (·.1) = false := by rfl)
    (ht : eval (.Call (.Attribute o m apos) (e :: es) [] pos) X.env = (do
      let ov ← eval o X.env
      standAt apos.atName
      let (f, first) ← holding [ov] (getMethod ov m pl)
      callWith pos f first (backTo pos (starEach (e :: es) X.env)) (backToKw pos (keywordEach [] X.env))) := by rfl) :
    PE X (.Call (.Attribute o m apos) (e :: es) [] pos) (tMethS C m sp dvs W ta t) := ⟨fun pins s σ H Q I h => by
  refine PySem.W.methodCall_KW (pl := pl) (thn (he.run pins s σ H _ I h) fun u s1 hu => ?_) ht
  obtain ⟨y, H1, J, ry, a, dx, fs, rfl, ea, l, q⟩ := hu
  cases ry
  refine getmeth_ok J ea c hm l (PySem.W.callWith_K (first := [.ref a]) (h₀ := X.base) I.ok.mod.kin hm.kp (thn (ha.run pos pins s1 σ H1 _ J q) fun us s2 h2 => ?_) hst hpl)
  obtain ⟨vs, H2, J2, r, q2⟩ := h2
  exact ⟨J2.kIn, run_fnSD (E := fun σ c d H' => W c d σ H') (us := .ref a :: us) (vs := .ref a :: vs) F hr hb hd (passAt tk σ) J2 (.cons rfl r) q2⟩⟩
theorem pe_methW0 {pl : Sem Bool} (he : PE X o ta) (c : Cls X.K C) (hm : Meth X.K C m f) (F : FnOk X.prog X.w X.K X.mg X.base (L2.CX X.prog X.w) k f fd ps sp) (hr : Room k X.A) (hb : Binds X.K fd ps ds) (hd : Vals dvs ds) (tk : Takes X W)
    (ht : eval (.Call (.Attribute o m apos) [] [] pos) X.env = (do
      let ov ← eval o X.env
      standAt apos.atName
      let (f, first) ← holding [ov] (getMethod ov m pl)
      callWith pos f first (backTo pos (starEach [] X.env)) (backToKw pos (keywordEach [] X.env))) := by rfl) :
    PE X (.Call (.Attribute o m apos) [] [] pos) (tMethS C m sp dvs W ta tNil) := ⟨fun pins s σ H Q I h => by
  refine PySem.W.methodCall_KW (pl := pl) (thn (he.run pins s σ H _ I h) fun u s1 hu => ?_) ht
  obtain ⟨y, H1, J, ry, a, dx, fs, rfl, ea, l, q⟩ := hu
  cases ry
  exact getmeth_ok J ea c hm l (PySem.W.callWith_K0 (first := [.ref a]) J.kIn hm.kp (run_fnSD (E := fun σ c d H' => W c d σ H') (us := [.ref a]) (vs := [.ref a]) F hr hb hd (passAt tk σ) J (.cons rfl .nil) q))⟩
theorem run_makeW {pins : List (Addr × Obj)} {σ : L2.St} {H : Hp} {s : Shared} {Q : VK} {us : List Value} {vs : List V} (M : Mk X.K C f) (F : FnOk X.prog X.w X.K X.mg X.base (L2.CX X.prog X.w) k f fd ps sp) (hr : Room (k + 1) X.A) (hb : Binds X.K fd ps ds) (hd : Vals dvs ds) (tk : Takes X W)
    (I : Inv X pins σ H s) (r : Vals vs us)
    (h : ∀ y dx, H y = none → H dx = none → dx ≠ y → sp (.ref y :: (vs ++ dvs)) (upd (upd H dx (.own y)) y (.ins C dx [])) (fun v H2 => v = .non ∧ Q (.ref y) H2) (fun c d H' => W c d σ H')) :
    wpAny (model X.prog X.w) X.A (call (.ref C) us) (EP X pins σ Q) X.xe s := by
  generalize hn : s.heap.objs.size = n at *
  have f1 : H (n + 1) = none := I.hok.fresh (by rw [hn]; exact Nat.le_succ _)
  have f0 : H n = none := I.hok.fresh (by rw [hn]; exact Nat.le_refl _)
  have hq := h (n + 1) n f1 f0 (Nat.ne_of_lt (Nat.lt_succ_self n))
  have J := Inv.made (C := C) I
  rw [hn] at J
  have r2 : Vals (V.ref (n + 1) :: (vs ++ dvs)) (Value.ref (n + 1) :: (us ++ ds)) := .cons rfl (r.append hd)
  have hl : (Value.ref (n + 1) :: us ++ ds).length = ps.length := (r2.length.symm.trans (F.len _ _ _ _ hq) : _)
  have run := F.run _ X.stack _ _ ⟨Value.ref (n + 1) :: us, []⟩ (Value.ref (n + 1) :: (us ++ ds)) _ _ (fun c d H' => W c d σ H') (hr.make C us []) (J.env0.make C us []) (hb _ (Value.ref (n + 1) :: us) J.kIn hl) r2 hq
  subst hn
  refine wpAny_call (make_map (f := f) I.kIn M.makes M.init (beq_iff_eq.mp M.fn) (codeAny_mono run fun rr s' hq' => ?_))
  cases rr with
  | error er => exact passAt tk σ pins _ _ er s' J hq'
  | ok fl =>
    cases fl with
    | ret u =>
      obtain ⟨v, H', J3, rv, ev, q3⟩ := J.after hq'
      subst ev
      exact ⟨rv, ⟨V.ref (s.heap.objs.size + 1), H', J3, rfl, q3⟩⟩
    | next => exact hq'.elim
    | brk => exact hq'.elim
    | cont => exact hq'.elim
theorem pe_makeW (M : Mk X.K C f) (F : FnOk X.prog X.w X.K X.mg X.base (L2.CX X.prog X.w) k f fd ps sp) (hr : Room (k + 1) X.A) (hg : Gl X x) (hm : X.mg x = some (.ref C)) (hb : Binds X.K fd ps ds) (hd : Vals dvs ds) (tk : Takes X W)
    (ha : PA X (e :: es) t) (hdb : (x == ("__debug__" : Str)) = false := by decide) (he : starEach (e :: es) X.env = (false, eval e X.env) :: starEach es X.env := by rfl) (hpl : (backTo pos (starEach es X.env)).any (·.1) = false := by rfl) :
    PE X (.Call (.Name x p) (e :: es) [] pos) (tMakeS C sp dvs W t) := ⟨fun pins s σ H Q I h => by
  refine wpAny_Call_Name_kw (ld_glob I hg hm (PySem.W.callWith_K (h₀ := X.base) I.ok.mod.kin M.kp (thn (ha.run pos pins s σ H _ I h) fun us s1 h1 => ?_) he hpl) hdb)
  obtain ⟨vs, H1, J, r, q⟩ := h1
  exact ⟨J.kIn, run_makeW M F hr hb hd tk J r q⟩⟩
theorem pe_makeW0 (M : Mk X.K C f) (F : FnOk X.prog X.w X.K X.mg X.base (L2.CX X.prog X.w) k f fd ps sp) (hr : Room (k + 1) X.A) (hg : Gl X x) (hm : X.mg x = some (.ref C)) (hb : Binds X.K fd ps ds) (hd : Vals dvs ds) (tk : Takes X W)
    (hdb : (x == ("__debug__" : Str)) = false := by decide) : PE X (.Call (.Name x p) [] [] pos) (tMakeS C sp dvs W tNil) := ⟨fun pins s σ H Q I h =>
  wpAny_Call_Name_kw (ld_glob I hg hm (PySem.W.callWith_K0 I.kIn M.kp (run_makeW (us := []) M F hr hb hd tk I .nil h)) hdb)⟩
end
section
variable {X : Cx} {T : Tb} {W : WX} {C f : Addr} {k n c mk : Nat} {fd : FuncData} {ps : List Str} {F : MF} {dfs : List Value} {dv : List Dt} {dvs : List V} {m x : Str} {o e : Expr} {es : List Expr} {mo : ME} {ms : MA} {apos pos p : Pos}
theorem ev_meth {σ : L2.St} {H : Hp} {Q : VK} (hmk : T.fld mk = m) (hdv : ∀ H f, RVs X.K T H f dv dvs) (h : tG X.K T (rV X.K T) W (mMeth c mk n F mo ms dv) σ H Q) :
    tMethS (T.cls c) m (spF X.K T.b n F) dvs W (tG X.K T (rV X.K T) W mo) (tG X.K T (rVs X.K T) W ms) σ H Q := by
  subst hmk
  obtain ⟨f, env, st, re, rh, p⟩ := h
  refine ⟨f, env, st, re, rh, p.bind fun x st1 f1 H1 vx hp s rh1 rx p1 => ?_⟩
  cases hi : objD x st1 with
  | none => rw [hi] at p1; exact p1.elim
  | some cf =>
    obtain ⟨c', fs⟩ := cf
    obtain ⟨a, dx, vs, rfl, h3, h4⟩ := objD_ok rh1 rx hi
    rw [hi] at p1
    simp only at p1
    split at p1
    · rename_i hc
      obtain ⟨rfl, hl⟩ := hc
      refine ⟨a, dx, vs, rfl, h3, h4.lookup_none hl, f1, env, st1, re.mono hp s, rh1, p1.bind fun ds st2 f2 H2 vs2 hp2 s2 rh2 rv2 p2 => ?_⟩
      split at p2
      · rename_i hn
        exact ⟨by rw [List.length_cons, List.length_append, ← rv2.len, ← (hdv H2 f2).len]; omega, T.rs, f2, _, st2, .cons (rx.mono hp2 s2) (rv2.app (hdv H2 f2)), rh2, p2⟩
      · exact p2.elim
    · exact p1.elim
theorem ie_meth {pl : Sem Bool} (hmk : T.fld mk = m) (he : IE X T W o mo) (cl : Cls X.K (T.cls c)) (hm : Meth X.K (T.cls c) m f) (G : FnOk X.prog X.w X.K X.mg X.base (L2.CX X.prog X.w) k f fd ps (spF X.K T.b n F)) (hr : Room k X.A) (hb : Binds X.K fd ps dfs) (hd : Vals dvs dfs) (hdv : ∀ H f, RVs X.K T H f dv dvs) (tk : Takes X W) (ha : IA X T W (e :: es) ms)
    (hst : starEach (e :: es) X.env = (false, eval e X.env) :: starEach es X.env := by rfl) (hpl : (backTo pos (starEach es X.env)).any (·.1) = false := by rfl)
    (ht : eval (.Call (.Attribute o m apos) (e :: es) [] pos) X.env = (do
      let ov ← eval o X.env
      standAt apos.atName
      let (f, first) ← holding [ov] (getMethod ov m pl)
      callWith pos f first (backTo pos (starEach (e :: es) X.env)) (backToKw pos (keywordEach [] X.env))) := by rfl) :
    IE X T W (.Call (.Attribute o m apos) (e :: es) [] pos) (mMeth c mk n F mo ms dv) := PEw (pe_methW (pl := pl) he cl hm G hr hb hd tk ha hst hpl ht) fun _ _ _ => ev_meth hmk hdv
theorem ie_meth0 {pl : Sem Bool} (hmk : T.fld mk = m) (he : IE X T W o mo) (cl : Cls X.K (T.cls c)) (hm : Meth X.K (T.cls c) m f) (G : FnOk X.prog X.w X.K X.mg X.base (L2.CX X.prog X.w) k f fd ps (spF X.K T.b n F)) (hr : Room k X.A) (hb : Binds X.K fd ps dfs) (hd : Vals dvs dfs) (hdv : ∀ H f, RVs X.K T H f dv dvs) (tk : Takes X W)
    (ht : eval (.Call (.Attribute o m apos) [] [] pos) X.env = (do
      let ov ← eval o X.env
      standAt apos.atName
      let (f, first) ← holding [ov] (getMethod ov m pl)
      callWith pos f first (backTo pos (starEach [] X.env)) (backToKw pos (keywordEach [] X.env))) := by rfl) :
    IE X T W (.Call (.Attribute o m apos) [] [] pos) (mMeth c mk n F mo mNil dv) := PEw (pe_methW0 (pl := pl) he cl hm G hr hb hd tk ht) fun σ H Q h => by
  have h' := ev_meth (X := X) (W := W) hmk hdv h
  obtain ⟨f, env, st, re, rh, p⟩ := h'
  refine ⟨f, env, st, re, rh, ?_⟩
  cases hx : mo env st with
  | ok y st1 =>
    rw [hx] at p
    intro f1 H1 b hp s rh1 rb
    obtain ⟨a, dx, fs, ea, ha, hl, f2, env2, st2, re2, rh2, p2⟩ := p f1 H1 b hp s rh1 rb
    exact ⟨a, dx, fs, ea, ha, hl, p2.now rh2 .nil⟩
  | exc c' fs' st1 => rw [hx] at p; exact p
  | stuck => rw [hx] at p; exact p
/-! making -/
def newF (c : Nat) (F : MF) : MF := fun ds st => (F (.ref st.length :: ds) (st ++ [.ins c []])).bind fun r st2 => (match r with
  | .non => .ok (.ref st.length) st2
  | _ => .stuck)
def mMake (c n : Nat) (F : MF) (a : MA) (dv : List Dt) : ME := fun env st => (a env st).bind fun ds st1 => if ds.length + dv.length + 1 = n then newF c F (ds ++ dv) st1 else .stuck
theorem make_core {H1 : Hp} {Q : VK} {E : Value → Option Addr → Hp → Prop} {ds : List Dt} {vs : List V} {f1 : List Addr} {st1 : Sto} (hn : ds.length + 1 = n) (rx : RVs X.K T H1 f1 ds vs) (rh1 : RH X.K T f1 H1 st1) (p1 : Post X.K T (rV X.K T) E f1 H1 (newF c F ds st1) Q) (x dx : Addr) (nx : H1 x = none) (ndx : H1 dx = none) (ne : dx ≠ x) :
    spF X.K T.b n F (.ref x :: vs) (upd (upd H1 dx (.own x)) x (.ins (T.cls c) dx [])) (fun v H2 => v = .non ∧ Q (.ref x) H2) E := by
  have rs := rh1.side (u := .own x) ndx
  have nx' : upd H1 dx (.own x) x = none := by rw [upd_ne (Ne.symm ne)]; exact nx
  have s2 : Stay X.K T f1 H1 (f1 ++ [x]) (upd (upd H1 dx (.own x)) x (.ins (T.cls c) dx [])) := (Stay.new ndx).trans (Stay.newA nx')
  have rn := rs.new (u := .ins (T.cls c) dx []) (o := .ins c []) nx' ⟨dx, [], upd_same, .nil⟩
  refine ⟨by rw [List.length_cons, ← rx.len]; omega, T.rs, f1 ++ [x], _, _, .cons (.ref (ref_new rh1)) (rx.mono (List.prefix_append _ _) s2), rn, ?_⟩
  have p2 := p1.mono (List.prefix_append f1 [x]) s2
  refine p2.bind fun r st3 f3 H3 v hp3 s3 rh3 rv p3 => ?_
  cases rv with
  | non => exact ⟨rfl, p3.now rh3 (.ref (get_pre hp3 (ref_new rh1)))⟩
  | _ => exact p3.elim
theorem ev_make {σ : L2.St} {H : Hp} {Q : VK} (hdv : ∀ H f, RVs X.K T H f dv dvs) (h : tG X.K T (rV X.K T) W (mMake c n F ms dv) σ H Q) : tMakeS (T.cls c) (spF X.K T.b n F) dvs W (tG X.K T (rVs X.K T) W ms) σ H Q := by
  obtain ⟨f, env, st, re, rh, p⟩ := h
  refine ⟨f, env, st, re, rh, p.bind fun ds st1 f1 H1 vs hp s rh1 rx p1 => fun x dx nx ndx ne => ?_⟩
  split at p1
  · rename_i hn
    exact make_core (by rw [List.length_append]; exact hn) (rx.app (hdv H1 f1)) rh1 p1 x dx nx ndx ne
  · exact p1.elim
theorem ie_make (M : Mk X.K (T.cls c) f) (G : FnOk X.prog X.w X.K X.mg X.base (L2.CX X.prog X.w) k f fd ps (spF X.K T.b n F)) (hr : Room (k + 1) X.A) (hm : X.mg x = some (.ref (T.cls c))) (hb : Binds X.K fd ps dfs) (hd : Vals dvs dfs) (hdv : ∀ H f, RVs X.K T H f dv dvs) (tk : Takes X W) (ha : IA X T W (e :: es) ms)
    (hg : Gl X x := by rfl) (hdb : (x == ("__debug__" : Str)) = false := by decide) (he : starEach (e :: es) X.env = (false, eval e X.env) :: starEach es X.env := by rfl) (hpl : (backTo pos (starEach es X.env)).any (·.1) = false := by rfl) :
    IE X T W (.Call (.Name x p) (e :: es) [] pos) (mMake c n F ms dv) := PEw (pe_makeW M G hr hg hm hb hd tk ha hdb he hpl) fun _ _ _ => ev_make hdv
theorem ie_make0 (M : Mk X.K (T.cls c) f) (G : FnOk X.prog X.w X.K X.mg X.base (L2.CX X.prog X.w) k f fd ps (spF X.K T.b n F)) (hr : Room (k + 1) X.A) (hm : X.mg x = some (.ref (T.cls c))) (hb : Binds X.K fd ps dfs) (hd : Vals dvs dfs) (hdv : ∀ H f, RVs X.K T H f dv dvs) (tk : Takes X W)
    (hg : Gl X x := by rfl) (hdb : (x == ("__debug__" : Str)) = false := by decide) :
    IE X T W (.Call (.Name x p) [] [] pos) (mMake c n F mNil dv) := PEw (pe_makeW0 M G hr hg hm hb hd tk hdb) fun σ H Q h => by
  obtain ⟨f, env, st, re, rh, p⟩ := ev_make (X := X) (W := W) hdv h
  exact p.now rh .nil
end
end LT
set_option Elab.async false
set_option linter.all false
set_option maxRecDepth 100000
namespace LT
open PySem PySem.Spec PyProof.Rows L2
/-! ### what a def leaves, read off the store -/
mutual
def rei (st : Sto) (n : Nat) : Nat → Dt → Option Dt
  | 0, d => if clD n d then some d else none
  | k + 1, d => if clD n d then some d else match d with
    | .ref i => match st[i]? with
      | some (.lst xs) => if clL n xs then some (.li xs) else (reiL st n k xs).map .li
      | some (.ins c fs) => if clF n fs then some (.ob c fs) else (reiF st n k fs).map (.ob c)
      | some (.dk kvs) => if clK n kvs then some (.dv kvs) else none
      | none => none
    | .tup ds => (reiL st n k ds).map .tup
    | _ => none
def reiL (st : Sto) (n : Nat) : Nat → List Dt → Option (List Dt)
  | _, [] => some []
  | k, d :: r => match rei st n k d, reiL st n k r with
    | some d', some r' => some (d' :: r')
    | _, _ => none
def reiF (st : Sto) (n : Nat) : Nat → List (Nat × Dt) → Option (List (Nat × Dt))
  | _, [] => some []
  | k, (i, d) :: r => match rei st n k d, reiF st n k r with
    | some d', some r' => some ((i, d') :: r')
    | _, _ => none
end
section
variable {K : PySem.W.Frag} {T T' : Tb} {H : Hp} {f f' : List Addr} {n : Nat} {st : Sto}
mutual
theorem rei_ok (V : View K T' f' H T f H n) (hN : ∀ i a, n ≤ i → f'[i]? = some a → a ∉ f ∧ a ∉ T.rs) (rh : RH K T' f' H st) : ∀ (k : Nat) (d : Dt) (v : L2.V) (d' : Dt), RV K T' H f' d v → rei st n k d = some d' → RV K T H f d' v
  | 0, d, v, d', r, h => by
    unfold rei at h
    split at h
    · rename_i hc; cases h; exact r.view V hc
    · cases h
  | k + 1, d, v, d', r, h => by
    unfold rei at h
    split at h
    · rename_i hc; cases h; exact r.view V hc
    · rename_i hc
      cases r with
      | @tup ds vs a hs r =>
        simp only at h
        cases h1 : reiL st n k ds with
        | none => rw [h1] at h; cases h
        | some ds' => rw [h1] at h; cases h; exact .tup hs (reiL_ok V hN rh k ds vs ds' r h1)
      | @ref i a hi =>
        simp only at h
        have hni : n ≤ i := by
          simp only [clD, decide_eq_true_eq, Nat.not_lt] at hc; exact hc
        obtain ⟨o, ho⟩ := rh.lt hi
        rw [ho] at h
        cases o with
        | lst xs =>
          simp only at h
          obtain ⟨vs, h1, h2⟩ := rh.lst hi ho
          split at h
          · rename_i hq; cases h; exact .li (hN i a hni hi) h1 (h2.view V hq)
          · cases h3 : reiL st n k xs with
            | none => rw [h3] at h; cases h
            | some ds' => rw [h3] at h; cases h; exact .li (hN i a hni hi) h1 (reiL_ok V hN rh k xs vs ds' h2 h3)
        | dk kvs =>
          simp only at h
          obtain ⟨vs, h1, h2⟩ := rh.obj _ _ _ ho hi
          split at h
          · rename_i hq; cases h; exact .dv (hN i a hni hi) h1 (h2.view V hq)
          · cases h
        | ins c fs =>
          simp only at h
          obtain ⟨dx, vs, h1, h2⟩ := rh.obj _ _ _ ho hi
          have hb : T.cls c = T'.cls c := by rw [Tb.cls, Tb.cls, V.b]
          rw [← hb] at h1
          split at h
          · rename_i hq; cases h; exact .ob (hN i a hni hi) h1 (h2.view V hq)
          · cases h3 : reiF st n k fs with
            | none => rw [h3] at h; cases h
            | some fs' => rw [h3] at h; cases h; exact .ob (hN i a hni hi) h1 (reiF_ok V hN rh k fs vs fs' h2 h3)
      | _ => cases h
theorem reiL_ok (V : View K T' f' H T f H n) (hN : ∀ i a, n ≤ i → f'[i]? = some a → a ∉ f ∧ a ∉ T.rs) (rh : RH K T' f' H st) : ∀ (k : Nat) (ds : List Dt) (vs : List L2.V) (ds' : List Dt), RVs K T' H f' ds vs → reiL st n k ds = some ds' → RVs K T H f ds' vs
  | k, [], _, ds', .nil, h => by unfold reiL at h; cases h; exact .nil
  | k, d :: r, _, ds', .cons q t, h => by
    unfold reiL at h
    cases h1 : rei st n k d with
    | none => rw [h1] at h; cases h
    | some e =>
      cases h2 : reiL st n k r with
      | none => rw [h1, h2] at h; cases h
      | some es => rw [h1, h2] at h; cases h; exact .cons (rei_ok V hN rh k d _ e q h1) (reiL_ok V hN rh k r _ es t h2)
theorem reiF_ok (V : View K T' f' H T f H n) (hN : ∀ i a, n ≤ i → f'[i]? = some a → a ∉ f ∧ a ∉ T.rs) (rh : RH K T' f' H st) : ∀ (k : Nat) (ds : List (Nat × Dt)) (vs : List (Str × L2.V)) (ds' : List (Nat × Dt)), FR K T' H f' ds vs → reiF st n k ds = some ds' → FR K T H f ds' vs
  | k, [], _, ds', .nil, h => by unfold reiF at h; cases h; exact .nil
  | k, (i, d) :: r, _, ds', .cons q t, h => by
    unfold reiF at h
    cases h1 : rei st n k d with
    | none => rw [h1] at h; cases h
    | some e =>
      cases h2 : reiF st n k r with
      | none => rw [h1, h2] at h; cases h
      | some es => rw [h1, h2] at h; cases h; exact FR.cons' (by rw [Tb.fld, Tb.fld, V.b]) (rei_ok V hN rh k d _ e q h1) (reiF_ok V hN rh k r _ es t h2)
end
end
/-- run by itself in an empty store -/
def puR (st : Sto) (r : Re Dt) : Re Dt := match r with
  | .ok d st2 => match rei st2 0 3 d with
    | some d' => .ok d' st
    | none => .stuck
  | .exc c fs st2 => match reiF st2 0 3 fs with
    | some fs' => .exc c fs' st
    | none => .stuck
  | .stuck => .stuck
def OldOk (st st2 : Sto) : Prop := st.length ≤ st2.length ∧ ∀ i o, i < st.length → st2[i]? = some o → st[i]? = some o ∨ clO st.length o = true
open Classical in
/-- run in the store, what is new is taken off -/
noncomputable def trR (st : Sto) (r : Re Dt) : Re Dt := match r with
  | .ok d st2 => if OldOk st st2 then (match rei st2 st.length 3 d with
    | some d' => .ok d' (st2.take st.length)
    | none => .stuck) else .stuck
  | .exc c fs st2 => if OldOk st st2 then (match reiF st2 st.length 3 fs with
    | some fs' => .exc c fs' (st2.take st.length)
    | none => .stuck) else .stuck
  | .stuck => .stuck
noncomputable def pt (F : MF) : MF := fun ds st => if clL 0 ds then puR st (F ds []) else trR st (F ds st)
section
variable {K : PySem.W.Frag} {T : Tb} {H : Hp} {f : List Addr} {st : Sto} {E : Value → Option Addr → Hp → Prop} {Q : VK} {ds : List Dt} {vs : List V}
abbrev own (T : Tb) (f : List Addr) : Tb := ⟨T.b, f ++ T.rs⟩
theorem view_own (n : Nat) : View K T f H (own T f) [] H 0 := ⟨rfl, fun i a h => absurd h (Nat.not_lt_zero _), fun _ _ h => h, fun _ _ h => h, fun a u h1 h2 e => ⟨e, List.not_mem_nil, fun z => (List.mem_append.mp z).elim h1 h2⟩⟩
theorem RH.own (rh : RH K T f H st) : RH K (LT.own T f) [] H [] := ⟨rfl, List.nodup_nil, fun i o a h => by simp at h, fun a ha => ⟨List.not_mem_nil, by
  rcases List.mem_append.mp ha with z | z
  · obtain ⟨i, hi⟩ := List.mem_iff_getElem?.mp z
    obtain ⟨o, ho⟩ := rh.lt hi
    obtain ⟨u, hu, _⟩ := (rh.obj i o a ho hi).some
    exact ⟨u, hu⟩
  · exact (rh.rsv a z).2⟩⟩
theorem view_home {f' : List Addr} {H' : Hp} : View K (own T f) f' H' T f H' 0 :=
  ⟨rfl, fun i a h => absurd h (Nat.not_lt_zero _), fun _ _ h => h, fun _ _ h => h, fun a u h1 h2 e => ⟨e, fun z => h2 (List.mem_append_left _ z), fun z => h2 (List.mem_append_right _ z)⟩⟩
theorem own_kept {f' : List Addr} {H' : Hp} (rh : RH K T f H st) (s : Stay K (own T f) [] H f' H') {a : Addr} {u : HO} (e : H a = some u) : H' a = some u := s.any List.not_mem_nil e
theorem own_stay {f' : List Addr} {H' : Hp} (s : Stay K (own T f) [] H f' H') : Stay K T f H f H' :=
  ⟨⟨s.t, s.l, fun a u _ _ e => s.any List.not_mem_nil e, fun a h => .inl h⟩, fun a u _ _ e => s.any List.not_mem_nil e⟩
theorem own_rh {f' : List Addr} {H' : Hp} (rh : RH K T f H st) (s : Stay K (own T f) [] H f' H') : RH K T f H' st :=
  ⟨rh.len, rh.nd, fun i o a ho ha => (rh.obj i o a ho ha).keep (List.prefix_refl _) (own_stay s) (by
    obtain ⟨u, hu, _⟩ := (rh.obj i o a ho ha).some
    rw [hu]; exact s.any List.not_mem_nil hu), fun a ha => ⟨(rh.rsv a ha).1, by
    obtain ⟨_, u, hu⟩ := rh.rsv a ha
    exact ⟨u, s.any List.not_mem_nil hu⟩⟩⟩
theorem own_new {f' : List Addr} {H' : Hp} (rh : RH K T f H st) (s : Stay K (own T f) [] H f' H') : ∀ i a, 0 ≤ i → f'[i]? = some a → a ∉ f ∧ a ∉ T.rs := fun i a _ hi => by
  have hn : H a = none := by
    rcases s.n a (mem_of hi) with z | z
    · cases z
    · exact z
  exact rh.free hn
/-- A: from what is wanted of the def to what is wanted of it by itself -/
theorem puR_post {r : Re Dt} (rh : RH K T f H st) (p : Post K T (rV K T) E f H (puR st r) Q) : Post K (own T f) (rV K (own T f)) E [] H r Q := by
  cases r with
  | ok d st2 =>
    intro f' H' b hp s rh' rb
    unfold puR at p
    simp only at p
    cases h1 : rei st2 0 3 d with
    | none => rw [h1] at p; exact p.elim
    | some d' =>
      rw [h1] at p
      exact p f H' b (List.prefix_refl _) (own_stay s) (own_rh rh s) (rei_ok view_home (own_new rh s) rh' 3 d b d' rb h1)
  | exc c fs st2 =>
    intro f' H' cls dd hp s rh' xr
    unfold puR at p
    simp only at p
    cases h1 : reiF st2 0 3 fs with
    | none => rw [h1] at p; exact p.elim
    | some fs' =>
      rw [h1] at p
      obtain ⟨e1, d2, vs, e2, h2, h3⟩ := xr
      exact p f H' cls dd (List.prefix_refl _) (own_stay s) (own_rh rh s) ⟨e1, d2, vs, e2, h2, reiF_ok view_home (own_new rh s) rh' 3 fs vs fs' h3 h1⟩
  | stuck => exact p
/-- the store of before, cut out of the one behind -/
theorem tr_view {f' : List Addr} {H' : Hp} (hp : f <+: f') : View K T f' H' T f H' f.length :=
  ⟨rfl, fun i a hi h => by
    obtain ⟨t, rfl⟩ := hp
    rwa [List.getElem?_append_left hi] at h, fun _ _ h => h, fun _ _ h => h, fun a u h1 h2 e => ⟨e, fun z => h1 (hp.subset z), h2⟩⟩
theorem tr_new {f' : List Addr} {H' : Hp} {st2 : Sto} (hp : f <+: f') (rh' : RH K T f' H' st2) : ∀ i a, f.length ≤ i → f'[i]? = some a → a ∉ f ∧ a ∉ T.rs := fun i a hi h => by
  refine ⟨fun z => ?_, fun z => (rh'.rsv a z).1 (mem_of h)⟩
  obtain ⟨j, hj⟩ := List.mem_iff_getElem?.mp z
  have hlt := (List.getElem?_eq_some_iff.mp hj).1
  exact rh'.ne h (get_pre hp hj) (by omega) rfl
theorem tr_rh {f' : List Addr} {H' : Hp} {st2 : Sto} (hp : f <+: f') (rh : RH K T f H st) (rh' : RH K T f' H' st2) (ok : OldOk st st2) : RH K T f H' (st2.take st.length) := by
  refine ⟨?_, rh.nd, fun i o a ho ha => ?_, fun a ha => ⟨fun z => (rh'.rsv a ha).1 (hp.subset z), (rh'.rsv a ha).2⟩⟩
  · rw [List.length_take, rh.len]; have := ok.1; omega
  · have hi : i < st.length := by rw [← rh.len]; exact (List.getElem?_eq_some_iff.mp ha).1
    rw [List.getElem?_take_of_lt hi] at ho
    have r := rh'.obj i o a ho (get_pre hp ha)
    refine r.view (tr_view hp) rfl ?_
    rcases ok.2 i o hi ho with q | q
    · exact (rh.obj i o a q ha).closed
    · rw [rh.len]; exact q
theorem tr_stay {f' : List Addr} {H' : Hp} (hp : f <+: f') (s : Stay K T f H f' H') : Stay K T f H f H' := ⟨⟨s.t, s.l, s.o, fun a h => .inl h⟩, s.r⟩
/-- B -/
theorem trR_post {r : Re Dt} (rh : RH K T f H st) (p : Post K T (rV K T) E f H (trR st r) Q) : Post K T (rV K T) E f H r Q := by
  cases r with
  | ok d st2 =>
    intro f' H' b hp s rh' rb
    unfold trR at p
    simp only at p
    split at p
    · rename_i ok
      cases h1 : rei st2 st.length 3 d with
      | none => rw [h1] at p; exact p.elim
      | some d' =>
        rw [h1] at p
        rw [← rh.len] at h1
        exact p f H' b (List.prefix_refl _) (tr_stay hp s) (tr_rh hp rh rh' ok) (rei_ok (tr_view hp) (tr_new hp rh') rh' 3 d b d' rb h1)
    · exact p.elim
  | exc c fs st2 =>
    intro f' H' cls dd hp s rh' xr
    unfold trR at p
    simp only at p
    split at p
    · rename_i ok
      cases h1 : reiF st2 st.length 3 fs with
      | none => rw [h1] at p; exact p.elim
      | some fs' =>
        rw [h1] at p
        rw [← rh.len] at h1
        obtain ⟨e1, d2, vs, e2, h2, h3⟩ := xr
        exact p f H' cls dd (List.prefix_refl _) (tr_stay hp s) (tr_rh hp rh rh' ok) ⟨e1, d2, vs, e2, h2, reiF_ok (tr_view hp) (tr_new hp rh') rh' 3 fs vs fs' h3 h1⟩
    · exact p.elim
  | stuck => exact p
/-- what is wanted of pt F gives what is wanted of F, somewhere -/
theorem pt_post {F : MF} (rv : RVs K T H f ds vs) (rh : RH K T f H st) (p : Post K T (rV K T) E f H (pt F ds st) Q) : ∃ rs f0 st0, RVs K ⟨T.b, rs⟩ H f0 ds vs ∧ RH K ⟨T.b, rs⟩ f0 H st0 ∧ Post K ⟨T.b, rs⟩ (rV K ⟨T.b, rs⟩) E f0 H (F ds st0) Q := by
  unfold pt at p
  split at p
  · rename_i hc
    exact ⟨f ++ T.rs, [], [], rv.view (view_own 0) hc, rh.own, puR_post rh p⟩
  · exact ⟨T.rs, f, st, rv, rh, trR_post rh p⟩
theorem spF_pt {B : Tz} {n : Nat} {F : MF} {vs : List V} {H : Hp} {Q : VK} {E : XK} (h : spF K B n (pt F) vs H Q E) : spF K B n F vs H Q E := by
  obtain ⟨hn, rs, f, ds, st, rv, rh, p⟩ := h
  obtain ⟨rs', f0, st0, h1, h2, h3⟩ := pt_post rv rh p
  exact ⟨hn, rs', f0, ds, st0, h1, h2, h3⟩
end
section
variable {P : Program} {w : World} {K : PySem.W.Frag} {mg : Str → Option Value} {base : Heap} {B : Tz}
theorem fn_pt {f : Addr} {fd : FuncData} {ps : List Str} {k n : Nat} {F : MF} (G : FnOk P w K mg base (L2.CX P w) k f fd ps (spF K B n F)) : FnOk P w K mg base (L2.CX P w) k f fd ps (spF K B n (pt F)) :=
  G.imp fun vs H Q E h => spF_pt h
end
/-! ### making a thing that is never changed -/
noncomputable def mMakeV (c n : Nat) (F : MF) (a : MA) (dv : List Dt) : ME := fun env st => (a env st).bind fun ds st1 => if ds.length + dv.length + 1 = n then pt (newF c F) (ds ++ dv) st1 else .stuck
section
variable {X : Cx} {T : Tb} {W : WX} {C f : Addr} {k n c mk : Nat} {fd : FuncData} {ps : List Str} {F : MF} {dfs : List Value} {dv : List Dt} {dvs : List V} {m x : Str} {o e : Expr} {es : List Expr} {mo : ME} {ms : MA} {apos pos p : Pos}
theorem ev_makeV {σ : L2.St} {H : Hp} {Q : VK} (hdv : ∀ H f, RVs X.K T H f dv dvs) (h : tG X.K T (rV X.K T) W (mMakeV c n F ms dv) σ H Q) : tMakeS (T.cls c) (spF X.K T.b n F) dvs W (tG X.K T (rVs X.K T) W ms) σ H Q := by
  obtain ⟨f, env, st, re, rh, p⟩ := h
  refine ⟨f, env, st, re, rh, p.bind fun ds st1 f1 H1 vs hp s rh1 rx p1 => fun x dx nx ndx ne => ?_⟩
  split at p1
  · rename_i hn
    obtain ⟨rs, f0, st0, h1, h2, h3⟩ := pt_post (rx.app (hdv H1 f1)) rh1 p1
    exact make_core (T := ⟨T.b, rs⟩) (by rw [List.length_append]; exact hn) h1 h2 h3 x dx nx ndx ne
  · exact p1.elim
theorem ie_makeV (M : Mk X.K (T.cls c) f) (G : FnOk X.prog X.w X.K X.mg X.base (L2.CX X.prog X.w) k f fd ps (spF X.K T.b n F)) (hr : Room (k + 1) X.A) (hm : X.mg x = some (.ref (T.cls c))) (hb : Binds X.K fd ps dfs) (hd : Vals dvs dfs) (hdv : ∀ H f, RVs X.K T H f dv dvs) (tk : Takes X W) (ha : IA X T W (e :: es) ms)
    (hg : Gl X x := by rfl) (hdb : (x == ("__debug__" : Str)) = false := by decide) (he : starEach (e :: es) X.env = (false, eval e X.env) :: starEach es X.env := by rfl) (hpl : (backTo pos (starEach es X.env)).any (·.1) = false := by rfl) :
    IE X T W (.Call (.Name x p) (e :: es) [] pos) (mMakeV c n F ms dv) := PEw (pe_makeW M G hr hg hm hb hd tk ha hdb he hpl) fun _ _ _ => ev_makeV hdv
theorem ie_makeV0 (M : Mk X.K (T.cls c) f) (G : FnOk X.prog X.w X.K X.mg X.base (L2.CX X.prog X.w) k f fd ps (spF X.K T.b n F)) (hr : Room (k + 1) X.A) (hm : X.mg x = some (.ref (T.cls c))) (hb : Binds X.K fd ps dfs) (hd : Vals dvs dfs) (hdv : ∀ H f, RVs X.K T H f dv dvs) (tk : Takes X W)
    (hg : Gl X x := by rfl) (hdb : (x == ("__debug__" : Str)) = false := by decide) :
    IE X T W (.Call (.Name x p) [] [] pos) (mMakeV c n F mNil dv) := PEw (pe_makeW0 M G hr hg hm hb hd tk hdb) fun σ H Q h => by
  obtain ⟨f, env, st, re, rh, p⟩ := ev_makeV (X := X) (W := W) hdv h
  exact p.now rh .nil
end
end LT
set_option Elab.async false
set_option linter.all false
set_option maxRecDepth 100000
namespace LT
open PySem PySem.Spec PyProof.Rows L2
/-! ### methods of what is built in -/
def mBM (chk : Dt → Sto → Bool) (g : Dt → List Dt → Sto → Re Dt) (o : ME) (a : MA) : ME := fun env st => (o env st).bind fun x st1 => if chk x st1 then (a env st1).bind fun ds st2 => g x ds st2 else .stuck
def mBM0 (chk : Dt → Sto → Bool) (g : Dt → List Dt → Sto → Re Dt) (o : ME) : ME := fun env st => (o env st).bind fun x st1 => if chk x st1 then g x [] st1 else .stuck
def isL (x : Dt) (st : Sto) : Bool := (lstD x st).isSome
def isS (x : Dt) (_ : Sto) : Bool := match x with
  | .str _ => true
  | _ => false
def isDk (x : Dt) (st : Sto) : Bool := match x with
  | .dv _ => true
  | .ref i => match st[i]? with
    | some (.dk _) => true
    | _ => false
  | _ => false
def Chk (K : PySem.W.Frag) (T : Tb) (Ty : String) (chk : Dt → Sto → Bool) : Prop := ∀ (f : List Addr) (H : Hp) (st : Sto) (x : Dt) (v : V), RH K T f H st → RV K T H f x v → chk x st = true → tyV K Ty v H
def SndM (K : PySem.W.Frag) (T : Tb) (r : V → List V → Hp → VK → Prop) (g : Dt → List Dt → Sto → Re Dt) : Prop := ∀ (f : List Addr) (H : Hp) (st : Sto) (x : Dt) (v : V) (xs : List Dt) (vs : List V) (Wx : Value → Option Addr → Hp → Prop) (Q : VK),
  RH K T f H st → RV K T H f x v → RVs K T H f xs vs → Post K T (rV K T) Wx f H (g x xs st) Q → r v vs H Q
section
variable {X : Cx} {T : Tb} {W : WX} {o e : Expr} {es : List Expr} {mo me : ME} {ms : MA} {name : Str} {apos cpos pos : Pos} {Ty id : String} {r : V → List V → Hp → VK → Prop} {chk : Dt → Sto → Bool} {g : Dt → List Dt → Sto → Re Dt} {K : PySem.W.Frag}
theorem chk_list : Chk K T "list" isL := fun f H st x v rh rx h => by
  unfold isL at h
  obtain ⟨xs, hx⟩ := Option.isSome_iff_exists.mp h
  obtain ⟨a, vs, rfl, hs, _⟩ := lstD_ok rh rx hx
  exact .inl ⟨rfl, _, hs⟩
theorem chk_str : Chk K T "str" isS := fun f H st x v rh rx h => by
  cases rx <;> first | rfl | cases h
theorem chk_dict : Chk K T "dict" isDk := fun f H st x v rh rx h => by
  cases rx with
  | dv hf hs r => exact .inr (.inr (.inl ⟨rfl, .inl ⟨_, hs⟩⟩))
  | @ref i a hi =>
    obtain ⟨o, ho⟩ := rh.lt hi
    simp only [isDk, ho] at h
    cases o with
    | dk kvs => obtain ⟨vs, h1, _⟩ := rh.obj _ _ _ ho hi; exact .inr (.inr (.inl ⟨rfl, .inl ⟨vs, h1⟩⟩))
    | _ => cases h
  | _ => cases h
theorem ie_bm (pa : PlainAttrs Ty) (slot : Slot Ty name id) (hty : typeOf (.builtin id) = pure (.type "method_descriptor")) (hm : MtR X id r) (hc : Chk X.K T Ty chk) (hg : SndM X.K T r g) (ho : IE X T W o mo) (ha : IA X T W (e :: es) ms)
    (hbase : attributeBase o name X.env (eval o X.env) = eval o X.env := by rfl)
    (hfew : ((backTo cpos (starEach (e :: es) X.env)).all (fun x => !x.1) && (backToKw cpos (keywordEach [] X.env)).all (fun x => x.1.isSome) && decide ((e :: es).length + ([] : List Keyword).length + (if ([] : List Keyword).isEmpty then 0 else 1) < 30)) = true := by rfl)
    (hline : (apos.endLine == cpos.line) = true := by rfl) (hs : starEach (e :: es) X.env = (false, eval e X.env) :: starEach es X.env := by rfl) (hplain : (backTo cpos (starEach es X.env)).any (·.1) = false := by rfl) :
    IE X T W (.Call (.Attribute o name apos) (e :: es) [] cpos) (mBM chk g mo ms) := PEw (pe_bm pa slot hty hm ho ha hbase hfew hline hs hplain) fun σ H Q ⟨f, env, st, re, rh, p⟩ =>
  ⟨f, env, st, re, rh, p.bind fun x st1 f1 H1 vx hp s rh1 rx p1 => by
    split at p1
    · rename_i hk
      exact ⟨hc _ _ _ _ _ rh1 rx hk, f1, env, st1, re.mono hp s, rh1, p1.bind fun ds st2 f2 H2 vs hp2 s2 rh2 rv p2 => hg f2 H2 st2 x vx ds vs _ _ rh2 (rx.mono hp2 s2) rv p2⟩
    · exact p1.elim⟩
theorem ie_bm0 (pa : PlainAttrs Ty) (slot : Slot Ty name id) (hty : typeOf (.builtin id) = pure (.type "method_descriptor")) (hm : MtR X id r) (hc : Chk X.K T Ty chk) (hg : SndM X.K T r g) (ho : IE X T W o mo)
    (hbase : attributeBase o name X.env (eval o X.env) = eval o X.env := by rfl) (hline : (apos.endLine == cpos.line) = true := by rfl) :
    IE X T W (.Call (.Attribute o name apos) [] [] cpos) (mBM0 chk g mo) := PEw (pe_bm0 pa slot hty hm ho hbase hline) fun σ H Q ⟨f, env, st, re, rh, p⟩ =>
  ⟨f, env, st, re, rh, p.bind fun x st1 f1 H1 vx hp s rh1 rx p1 => by
    split at p1
    · rename_i hk
      exact ⟨hc _ _ _ _ _ rh1 rx hk, hg f1 H1 st1 x vx [] [] _ _ rh1 rx .nil p1⟩
    · exact p1.elim⟩
def appendD (x : Dt) (ys : List Dt) (st : Sto) : Re Dt := match x, ys with
  | .ref i, [y] => match st[i]? with
    | some (.lst xs) => if xs.length < lim then .ok .non (st.set i (.lst (xs ++ [y]))) else .stuck
    | _ => .stuck
  | _, _ => .stuck
theorem snd_append : SndM K T rAppend appendD := fun f H st x v xs vs Wx Q rh rx r p => by
  cases rx with
  | @ref i a hi =>
    cases r with
    | nil => exact p.elim
    | cons ry t =>
      cases t with
      | cons _ _ => exact p.elim
      | nil =>
        obtain ⟨o, ho⟩ := rh.lt hi
        simp only [appendD, ho] at p
        cases o with
        | lst zs =>
          simp only at p
          split at p
          · rename_i hl
            obtain ⟨vs, h1, h2⟩ := rh.lst hi ho
            exact ⟨a, vs, _, rfl, rfl, h1, by rw [← h2.len]; exact lim_lt hl, put_ob p rh hi ho ⟨_, upd_same, (h2.app (.one ry)).mono (List.prefix_refl _) ((rh.obj _ _ _ ho hi).stay (mem_of hi) _)⟩ .non⟩
          · exact p.elim
        | _ => exact p.elim
  | _ => exact p.elim
def extendD (x : Dt) (ys : List Dt) (st : Sto) : Re Dt := match x, ys with
  | .ref i, [y] => match st[i]?, lsD y st with
    | some (.lst xs), some zs => if xs.length + zs.length ≤ lim then .ok .non (st.set i (.lst (xs ++ zs))) else .stuck
    | _, _ => .stuck
  | _, _ => .stuck
theorem snd_extend : SndM K T rExtend extendD := fun f H st x v xs vs Wx Q rh rx r p => by
  cases rx with
  | @ref i a hi =>
    cases r with
    | nil => exact p.elim
    | cons ry t =>
      cases t with
      | cons _ _ => exact p.elim
      | nil =>
        rename_i y vy
        obtain ⟨o, ho⟩ := rh.lt hi
        simp only [extendD, ho] at p
        cases o <;> first | exact p.elim | skip
        cases h5 : lsD y st with
        | none => rw [h5] at p; exact p.elim
        | some zs =>
          rw [h5] at p
          simp only at p
          obtain ⟨b, ws, rfl, h3, h4⟩ := lsD_ok rh ry h5
          split at p
          · rename_i hl
            obtain ⟨vs, h1, h2⟩ := rh.lst hi ho
            rw [h2.len, h4.len] at hl
            exact ⟨a, b, vs, ws, rfl, rfl, h1, h3, lim_le hl, put_ob p rh hi ho ⟨_, upd_same, (h2.app h4).mono (List.prefix_refl _) ((rh.obj _ _ _ ho hi).stay (mem_of hi) _)⟩ .non⟩
          · exact p.elim
  | _ => exact p.elim
theorem RVs.dropLast {f : List Addr} {H : Hp} {xs : List Dt} {vs : List V} (r : RVs K T H f xs vs) : RVs K T H f xs.dropLast vs.dropLast := by
  rw [List.dropLast_eq_take, List.dropLast_eq_take, r.len]
  exact r.take _
def popD (x : Dt) (ys : List Dt) (st : Sto) : Re Dt := match x, ys with
  | .ref i, [] => match st[i]? with
    | some (.lst xs) => match xs[xs.length - 1]? with
      | some d => .ok d (st.set i (.lst xs.dropLast))
      | none => .stuck
    | _ => .stuck
  | _, _ => .stuck
theorem snd_pop : SndM K T rPop popD := fun f H st x v xs vs Wx Q rh rx r p => by
  cases rx with
  | @ref i a hi =>
    cases r with
    | cons _ _ => exact p.elim
    | nil =>
      obtain ⟨o, ho⟩ := rh.lt hi
      simp only [popD, ho] at p
      cases o with
      | lst zs =>
        obtain ⟨vs, h1, h2⟩ := rh.lst hi ho
        simp only at p
        cases hz : zs[zs.length - 1]? with
        | none => rw [hz] at p; exact p.elim
        | some d =>
          rw [hz] at p
          obtain ⟨v, h3, h4⟩ := h2.get hz
          rw [h2.len] at h3
          exact ⟨a, vs, v, rfl, rfl, h1, h3, put_ob p rh hi ho ⟨_, upd_same, h2.dropLast.mono (List.prefix_refl _) ((rh.obj _ _ _ ho hi).stay (mem_of hi) _)⟩ (h4.mono (List.prefix_refl _) ((rh.obj _ _ _ ho hi).stay (mem_of hi) _))⟩
      | _ => exact p.elim
  | _ => exact p.elim
theorem RVs.erase {f : List Addr} {H : Hp} : ∀ {xs : List Dt} {vs : List V} (k : Nat), RVs K T H f xs vs → RVs K T H f (xs.eraseIdx k) (vs.eraseIdx k)
  | _, _, _, .nil => .nil
  | _, _, 0, .cons _ t => t
  | _, _, k + 1, .cons h t => .cons h (RVs.erase k t)
def popAtD (x : Dt) (ys : List Dt) (st : Sto) : Re Dt := match x, ys with
  | .ref i, [.int n] => match st[i]? with
    | some (.lst xs) => if 0 ≤ n ∧ n < 1000000 then (match xs[n.toNat]? with
      | some d => .ok d (st.set i (.lst (xs.eraseIdx n.toNat)))
      | none => .stuck) else .stuck
    | _ => .stuck
  | _, _ => .stuck
theorem snd_popAt : SndM K T rPopAt popAtD := fun f H st x v xs vs Wx Q rh rx r p => by
  cases rx with
  | @ref i a hi =>
    cases r with
    | nil => exact p.elim
    | cons ry t =>
      cases t with
      | cons _ _ => cases ry <;> exact p.elim
      | nil =>
        cases ry with
        | int n =>
          obtain ⟨o, ho⟩ := rh.lt hi
          simp only [popAtD, ho] at p
          cases o with
          | lst zs =>
            obtain ⟨vs, h1, h2⟩ := rh.lst hi ho
            simp only at p
            split at p
            · rename_i hn
              cases hz : zs[n.toNat]? with
              | none => rw [hz] at p; exact p.elim
              | some d =>
                rw [hz] at p
                obtain ⟨v, h3, h4⟩ := h2.get hz
                have hlt : n.toNat < vs.length := (List.getElem?_eq_some_iff.mp h3).1
                refine ⟨a, vs, n, n.toNat, v, rfl, rfl, h1, by omega, by omega, ?_, h3, put_ob p rh hi ho ⟨_, upd_same, (h2.erase _).mono (List.prefix_refl _) ((rh.obj _ _ _ ho hi).stay (mem_of hi) _)⟩ (h4.mono (List.prefix_refl _) ((rh.obj _ _ _ ho hi).stay (mem_of hi) _))⟩
                have hn0 : ¬ n < 0 := by omega
                unfold seqIndex?
                simp only [if_neg hn0]
                rw [if_pos (by simp; omega)]
            · exact p.elim
          | _ => exact p.elim
        | _ => exact p.elim
  | _ => exact p.elim
/-! ### dicts by written keys -/
def keyEq : Dt → Dt → Bool
  | .int i, .int j => decide (i = j)
  | .str a, .str b => decide (a = b)
  | _, _ => false
def lookD (k : Dt) : List (Dt × Dt) → Option Dt
  | [] => none
  | (q, d) :: r => if keyEq q k then some d else lookD k r
def putD (k d : Dt) (ks : List (Dt × Dt)) : List (Dt × Dt) := if ks.any (fun p => keyEq p.1 k) then ks.map (fun p => if keyEq p.1 k then (p.1, d) else p) else ks ++ [(k, d)]
theorem keyEq_ok : ∀ {a b : Dt} {p q : Key}, KR a p → KR b q → keyEq a b = decide (p = q)
  | .int i, .int j, .inl p, .inl q, h1, h2 => by
    cases (show i = p from h1)
    cases (show j = q from h2)
    rw [key_ll]
    exact (Bool.beq_eq_decide_eq (α := Int) i j).symm
  | .str a, .str b, .inr p, .inr q, h1, h2 => by
    rw [key_rr]
    show decide (a = b) = decide (p = q)
    rw [← (show p.cps.toList = a from h1), ← (show q.cps.toList = b from h2), ← dec_strL]
    by_cases e : p = q
    · subst e; simp
    · rw [decide_eq_false e, decide_eq_false (fun z => e (V.str.inj z))]
  | .int i, .str b, .inl p, .inr q, _, _ => (key_lr p q).symm
  | .str b, .int i, .inr p, .inl q, _, _ => (key_rl p q).symm
  | .int _, _, .inr _, _, h, _ => h.elim
  | .str _, _, .inl _, _, h, _ => h.elim
  | _, .int _, _, .inr _, _, h => h.elim
  | _, .str _, _, .inl _, _, h => h.elim
  | .non, _, _, _, h, _ => h.elim
  | .bl _, _, _, _, h, _ => h.elim
  | .tup _, _, _, _, h, _ => h.elim
  | .rl _, _, _, _, h, _ => h.elim
  | .ref _, _, _, _, h, _ => h.elim
  | .int _, .non, .inl _, _, _, h => h.elim
  | .int _, .bl _, .inl _, _, _, h => h.elim
  | .int _, .tup _, .inl _, _, _, h => h.elim
  | .int _, .rl _, .inl _, _, _, h => h.elim
  | .int _, .ref _, .inl _, _, _, h => h.elim
  | .str _, .non, .inr _, _, _, h => h.elim
  | .str _, .bl _, .inr _, _, _, h => h.elim
  | .str _, .tup _, .inr _, _, _, h => h.elim
  | .str _, .rl _, .inr _, _, _, h => h.elim
  | .str _, .ref _, .inr _, _, _, h => h.elim
theorem lookD_ok {f : List Addr} {H : Hp} {k : Dt} {q : Key} (hk : KR k q) : ∀ {ks : List (Dt × Dt)} {vs : List (Key × V)}, DR K T H f ks vs → ∀ {d : Dt}, lookD k ks = some d → ∃ v, valV vs q = some v ∧ RV K T H f d v
  | _, _, .nil, _, h => by cases h
  | _, _, @DR.cons _ _ _ _ k' d' q' v' fs vs hk' h' t, d, h => by
    unfold lookD at h
    rw [keyEq_ok hk' hk] at h
    by_cases e : q' = q
    · rw [decide_eq_true e, if_pos rfl] at h
      cases h
      exact ⟨v', valV_pos e, h'⟩
    · rw [decide_eq_false e, if_neg Bool.false_ne_true] at h
      obtain ⟨v, h1, h2⟩ := lookD_ok hk t h
      exact ⟨v, by rw [valV_neg e]; exact h1, h2⟩
/-- a dict, tracked or not -/
def dkD (x : Dt) (st : Sto) : Option (List (Dt × Dt)) := match x with
  | .dv kvs => some kvs
  | .ref n => match st[n]? with
    | some (.dk kvs) => some kvs
    | _ => none
  | _ => none
theorem dkD_ok {f : List Addr} {H : Hp} {st : Sto} {d : Dt} {v : V} {kvs : List (Dt × Dt)} (rh : RH K T f H st) (r : RV K T H f d v) (h : dkD d st = some kvs) : ∃ a vs, v = .ref a ∧ H a = some (.dK vs) ∧ DR K T H f kvs vs := by
  cases r with
  | dv hf hs r => cases h; exact ⟨_, _, rfl, hs, r⟩
  | ref hi =>
    obtain ⟨o, ho⟩ := rh.lt hi
    simp only [dkD, ho] at h
    cases o <;> first | cases h | skip
    obtain ⟨vs, h1, h2⟩ := rh.obj _ _ _ ho hi
    exact ⟨_, _, rfl, h1, h2⟩
  | _ => cases h
def mKey (o i : ME) : ME := fun env st => (o env st).bind fun x st1 => (i env st1).bind fun y st2 => match dkD x st2 with
  | some kvs => match lookD y kvs with
    | some d => .ok d st2
    | none => .stuck
  | none => .stuck
def isKey : Dt → Bool
  | .int _ => true
  | .str _ => true
  | _ => false
theorem kr_of {f : List Addr} {H : Hp} {y : Dt} {v : V} (r : RV K T H f y v) (h : isKey y = true) : ∃ q, KR y q ∧ v = kV q := by
  cases r with
  | int i => exact ⟨.inl i, rfl, rfl⟩
  | str x => exact ⟨.inr x, rfl, rfl⟩
  | _ => cases h
theorem look_key {k : Dt} : ∀ {ks : List (Dt × Dt)} {d : Dt}, lookD k ks = some d → isKey k = true
  | [], _, h => by cases h
  | (q, x) :: r, d, h => by
    unfold lookD at h
    split at h
    · rename_i e
      cases k with
      | int i => rfl
      | str s => rfl
      | _ => cases q <;> cases e
    · exact look_key h
theorem ie_key {i : Expr} {mi : ME} (hu : X.A.units + 1 < cLine) (ho : IE X T W o mo) (hi : IE X T W i mi) (hs : NoSl i := by intro _ _; rfl) : IE X T W (.Subscript o i pos) (mKey mo mi) := PEw (pe_dget hu ho hi hs) fun σ H Q ⟨f, env, st, re, rh, p⟩ =>
  ⟨f, env, st, re, rh, p.bind fun x st1 f1 H1 vx hp s rh1 rx p1 => ⟨f1, env, st1, re.mono hp s, rh1, p1.bind fun y st2 f2 H2 vy hp2 s2 rh2 ry p2 => by
    have rx2 := rx.mono hp2 s2
    cases hx : dkD x st2 with
    | none => rw [hx] at p2; exact p2.elim
    | some kvs =>
      rw [hx] at p2
      simp only at p2
      obtain ⟨a, vs, rfl, h1, h2⟩ := dkD_ok rh2 rx2 hx
      cases hl : lookD y kvs with
      | none => rw [hl] at p2; exact p2.elim
      | some d =>
        rw [hl] at p2
        obtain ⟨q, hq, rfl⟩ := kr_of ry (look_key hl)
        obtain ⟨v, h3, h4⟩ := lookD_ok hq h2 hl
        exact ⟨a, v, rfl, by rw [← h3]; exact DGet.k h1, p2.now rh2 h4⟩⟩⟩
theorem DR.any {f : List Addr} {H : Hp} {k : Dt} {q : Key} (hk : KR k q) : ∀ {ks : List (Dt × Dt)} {vs : List (Key × V)}, DR K T H f ks vs → (ks.any fun p => keyEq p.1 k) = vs.any fun kv => decide (kv.1 = q)
  | _, _, .nil => rfl
  | _, _, .cons hk' _ t => by
    rw [List.any_cons, List.any_cons, keyEq_ok hk' hk, DR.any hk t]
theorem DR.map {f : List Addr} {H : Hp} {k d : Dt} {q : Key} {v : V} (hk : KR k q) (hd : RV K T H f d v) : ∀ {ks : List (Dt × Dt)} {vs : List (Key × V)}, DR K T H f ks vs → DR K T H f (ks.map fun p => if keyEq p.1 k then (p.1, d) else p) (vs.map fun kv => if kv.1 = q then (kv.1, v) else kv)
  | _, _, .nil => .nil
  | _, _, @DR.cons _ _ _ _ k' d' q' v' fs vs hk' h' t => by
    rw [List.map_cons, List.map_cons, keyEq_ok hk' hk]
    by_cases e : q' = q
    · rw [decide_eq_true e, if_pos rfl, if_pos e]
      exact .cons hk' hd (DR.map hk hd t)
    · rw [decide_eq_false e, if_neg Bool.false_ne_true, if_neg e]
      exact .cons hk' h' (DR.map hk hd t)
theorem DR.app {f : List Addr} {H : Hp} : ∀ {ks ls : List (Dt × Dt)} {vs ws : List (Key × V)}, DR K T H f ks vs → DR K T H f ls ws → DR K T H f (ks ++ ls) (vs ++ ws)
  | _, _, _, _, .nil, s => s
  | _, _, _, _, .cons hk h t, s => .cons hk h (DR.app t s)
theorem putD_ok {f : List Addr} {H : Hp} {k d : Dt} {q : Key} {v : V} (hk : KR k q) (hd : RV K T H f d v) {ks : List (Dt × Dt)} {vs : List (Key × V)} (r : DR K T H f ks vs) : DR K T H f (putD k d ks) (putK vs q v) := by
  unfold putD putK
  rw [r.any hk]
  split
  · exact r.map hk hd
  · exact r.app (.cons hk hd .nil)
def sKeySet (o i v : ME) : MS := fun env st => (v env st).on env fun d st1 => (o env st1).on env fun x st2 => (i env st2).on env fun y st3 => match x with
  | .ref n => match st3[n]? with
    | some (.dk kvs) => if isKey y && decide (kvs.length < lim) then .nx env (st3.set n (.dk (putD y d kvs))) else .stuck
    | _ => .stuck
  | _ => .stuck
theorem is_key {i : Expr} {mi : ME} {pos' : Pos} (hu : X.A.units + 1 < cLine) (ho : IE X T W o mo) (hi : IE X T W i mi) (he : IE X T W e me) (hs : swapsWith e (some (.Subscript o i pos')) pos.line X.env = pure false := by rfl) :
    IS X T W (.Assign [.Subscript o i pos'] e pos) (sKeySet mo mi me) := PSw (ps_dput hu ho hi he hs) fun E σ H ⟨f, env, st, re, rh, p⟩ =>
  ⟨f, env, st, re, rh, PostS.on re p fun d st1 f1 H1 v hp s rh1 rv re1 p1 => ⟨f1, env, st1, re1, rh1, PostS.on re1 p1 fun x st2 f2 H2 vx hp2 s2 rh2 rx re2 p2 => ⟨f2, env, st2, re2, rh2, PostS.on re2 p2 fun y st3 f3 H3 vy hp3 s3 rh3 ry re3 p3 => by
    have rx3 := rx.mono hp3 s3
    have rv3 := (rv.mono hp2 s2).mono hp3 s3
    cases rx3 with
    | @ref n a hn =>
      obtain ⟨o, ho⟩ := rh3.lt hn
      simp only [ho] at p3
      cases o with
      | dk kvs =>
        simp only at p3
        obtain ⟨vs, h1, h2⟩ := rh3.obj _ _ _ ho hn
        split at p3
        · rename_i hk
          rw [Bool.and_eq_true] at hk
          obtain ⟨q, hq, rfl⟩ := kr_of ry hk.1
          have stay := (rh3.obj _ _ _ ho hn).stay (mem_of hn) (.dK (putK vs q v))
          refine ⟨a, _, rfl, DPut.k h1 (by rw [← h2.len]; exact lim_lt (of_decide_eq_true hk.2)), p3 f3 _ σ (List.prefix_refl _) stay (rh3.put hn ⟨_, upd_same, (putD_ok hq rv3 h2).mono (List.prefix_refl _) stay⟩) (re3.mono (List.prefix_refl _) stay)⟩
        · exact p3.elim
      | _ => exact p3.elim
    | _ => exact p3.elim⟩⟩⟩
end
end LT
set_option Elab.async false
set_option linter.all false
set_option maxRecDepth 100000
namespace LT
open PySem PySem.Spec PyProof.Rows L2
section
variable {X : Cx} {T : Tb} {W : WX} {e : Expr} {me : ME} {pos p : Pos} {K : PySem.W.Frag}
/-! ### a dict written out -/
inductive RPs (K : PySem.W.Frag) (T : Tb) (H : Hp) (f : List Addr) : List (Dt × Dt) → List (V × V) → Prop
  | nil : RPs K T H f [] []
  | cons {a b : Dt} {x y : V} {ds : List (Dt × Dt)} {vs : List (V × V)} (h1 : RV K T H f a x) (h2 : RV K T H f b y) (t : RPs K T H f ds vs) : RPs K T H f ((a, b) :: ds) ((x, y) :: vs)
def mPairs : List (ME × ME) → M (List (Dt × Dt))
  | [], _, st => .ok [] st
  | (a, b) :: r, env, st => (a env st).bind fun x st1 => (b env st1).bind fun y st2 => (mPairs r env st2).bind fun ps st3 => .ok ((x, y) :: ps) st3
theorem ev_pairs : ∀ (prs : List (ME × ME)) {σ : L2.St} {H : Hp} {Q : List (V × V) → Hp → Prop}, tG X.K T (RPs X.K T) W (mPairs prs) σ H Q → tPairs (prs.map fun q => (tG X.K T (rV X.K T) W q.1, tG X.K T (rV X.K T) W q.2)) σ H Q
  | [], σ, H, Q, ⟨f, env, st, re, rh, p⟩ => p.now rh .nil
  | (a, b) :: r, σ, H, Q, ⟨f, env, st, re, rh, p⟩ => ⟨f, env, st, re, rh, Post.bind (rel := rV X.K T) p fun x st1 f1 H1 vx hp s rh1 rx p1 => ⟨f1, env, st1, re.mono hp s, rh1, Post.bind (rel := rV X.K T) p1 fun y st2 f2 H2 vy hp2 s2 rh2 ry p2 =>
      ev_pairs r ⟨f2, env, st2, (re.mono hp s).mono hp2 s2, rh2, Post.bind (rel := RPs X.K T) p2 fun ps st3 f3 H3 vps hp3 s3 rh3 rps p3 => p3.now rh3 (.cons ((rx.mono hp2 s2).mono hp3 s3) (ry.mono hp3 s3) rps)⟩⟩⟩
abbrev IPs (X : Cx) (T : Tb) (W : WX) (pos : Pos) (ks : List (Option Expr)) (vs : List Expr) (prs : List (ME × ME)) : Prop := PPs X pos ks vs (prs.map fun q => (tG X.K T (rV X.K T) W q.1, tG X.K T (rV X.K T) W q.2))
theorem ips_nil : IPs X T W pos [] [] [] := pps_nil
theorem ips_cons {k v : Expr} {mk mv : ME} {ks : List (Option Expr)} {vs : List Expr} {prs : List (ME × ME)} (hk : IE X T W k mk) (hv : IE X T W v mv) (hr : IPs X T W pos ks vs prs) : IPs X T W pos (some k :: ks) (v :: vs) ((mk, mv) :: prs) := pps_cons hk hv hr
def mergeD (ps : List (Dt × Dt)) : List (Dt × Dt) := ps.foldl (fun acc q => putD q.1 q.2 acc) []
def mDisp (prs : List (ME × ME)) : ME := fun env st => (mPairs prs env (st ++ [.dk []])).bind fun ps st1 => match st1[st.length]? with
  | some (.dk []) => if ps.all (fun q => isKey q.1) && decide (ps.length ≤ 15) then .ok (.ref st.length) (st1.set st.length (.dk (mergeD ps))) else .stuck
  | _ => .stuck
theorem rps_kvs {f : List Addr} {H : Hp} : ∀ {ps : List (Dt × Dt)} {vs : List (V × V)}, RPs K T H f ps vs → ps.all (fun q => isKey q.1) = true → ∃ kvs : List (Key × V), vs = kvs.map (fun kv => (kV kv.1, kv.2)) ∧ DR K T H f ps kvs
  | _, _, .nil, _ => ⟨[], rfl, .nil⟩
  | _, _, .cons h1 h2 t, h => by
    rw [List.all_cons, Bool.and_eq_true] at h
    obtain ⟨kvs, e, r⟩ := rps_kvs t h.2
    obtain ⟨q, hq, ex⟩ := kr_of h1 h.1
    exact ⟨(q, _) :: kvs, by rw [List.map_cons, ← e, ex], .cons hq h2 r⟩
theorem merge_ok {f : List Addr} {H : Hp} : ∀ {ps : List (Dt × Dt)} {kvs : List (Key × V)}, DR K T H f ps kvs → ∀ {acc : List (Dt × Dt)} {avs : List (Key × V)}, DR K T H f acc avs → DR K T H f (ps.foldl (fun acc q => putD q.1 q.2 acc) acc) (mergeK avs kvs)
  | _, _, .nil, acc, avs, h => h
  | _, _, .cons hk h t, acc, avs, ha => merge_ok t (putD_ok hk h ha)
theorem ie_disp {keys : List (Option Expr)} {values : List Expr} {prs : List (ME × ME)} (h : IPs X T W pos keys values prs) (hall : keys.all (·.isSome) = true := by rfl) (hl : keys.length = values.length := by rfl) (h0 : keys ≠ [] := by intro z; cases z) (h15 : keys.length ≤ 15 := by decide) :
    IE X T W (.Dict keys values pos) (mDisp prs) := PEw (pe_disp h hall hl h0 h15) fun σ H Q ⟨f, env, st, re, rh, p⟩ => fun q hq => by
  have rn := rh.new (u := .dK []) (o := .dk []) hq ⟨[], upd_same, .nil⟩
  have s1 : Stay X.K T f H (f ++ [q]) (upd H q (.dK [])) := Stay.newA hq
  have hd : (f ++ [q])[st.length]? = some q := ref_new rh
  refine ev_pairs prs ⟨f ++ [q], env, _, re.mono (List.prefix_append _ _) s1, rn, Post.bind (rel := RPs X.K T) (p.mono (List.prefix_append f [q]) s1) fun ps st1 f1 H1 vps hp s rh1 rps p1 => ?_⟩
  have hd1 := get_pre hp hd
  obtain ⟨o, ho⟩ := rh1.lt hd1
  simp only [ho] at p1
  cases o with
  | dk kvs =>
    cases kvs with
    | nil =>
      simp only at p1
      split at p1
      · rename_i hk
        rw [Bool.and_eq_true] at hk
        obtain ⟨kvs, e, r⟩ := rps_kvs rps hk.1
        obtain ⟨vs0, h1, h2⟩ := rh1.obj _ _ _ ho hd1
        cases h2
        have stay := (rh1.obj _ _ _ ho hd1).stay (mem_of hd1) (.dK (mergeK [] kvs))
        refine ⟨h1, kvs, e, by rw [← r.len]; exact of_decide_eq_true hk.2, ?_⟩
        exact p1 f1 _ _ (List.prefix_refl _) stay (rh1.put hd1 ⟨_, upd_same, (merge_ok r .nil).mono (List.prefix_refl _) stay⟩) (.ref hd1)
      · exact p1.elim
    | cons _ _ => exact p1.elim
  | _ => exact p1.elim
/-! ### a dict written out that is never changed -/
def mDispV (prs : List (ME × ME)) : ME := fun env st => (mPairs prs env st).bind fun ps st1 => if ps.all (fun q => isKey q.1) && decide (ps.length ≤ 15) then .ok (.dv (mergeD ps)) st1 else .stuck
abbrev IPsV (X : Cx) (B : Tz) (W : WX) (pos : Pos) (ks : List (Option Expr)) (vs : List Expr) (prs : List (ME × ME)) : Prop := PPs X pos ks vs (prs.map fun q => (tX X.K B (rV X.K) W q.1, tX X.K B (rV X.K) W q.2))
theorem ipsV_nil {B : Tz} : IPsV X B W pos [] [] [] := pps_nil
theorem ipsV_cons {B : Tz} {k v : Expr} {mk mv : ME} {ks : List (Option Expr)} {vs : List Expr} {prs : List (ME × ME)} (hk : ∀ rs, IE X ⟨B, rs⟩ W k mk) (hv : ∀ rs, IE X ⟨B, rs⟩ W v mv) (hr : IPsV X B W pos ks vs prs) : IPsV X B W pos (some k :: ks) (v :: vs) ((mk, mv) :: prs) := pps_cons (pe_X hk) (pe_X hv) hr
theorem ev_pairsV : ∀ (prs : List (ME × ME)) {σ : L2.St} {H : Hp} {Q : List (V × V) → Hp → Prop}, tG X.K T (RPs X.K T) W (mPairs prs) σ H Q → tPairs (prs.map fun q => (tX X.K T.b (rV X.K) W q.1, tX X.K T.b (rV X.K) W q.2)) σ H Q
  | [], σ, H, Q, ⟨f, env, st, re, rh, p⟩ => p.now rh .nil
  | (a, b) :: r, σ, H, Q, ⟨f, env, st, re, rh, p⟩ => ⟨T.rs, f, env, st, re, rh, Post.bind (rel := rV X.K T) p fun x st1 f1 H1 vx hp s rh1 rx p1 => ⟨T.rs, f1, env, st1, re.mono hp s, rh1, Post.bind (rel := rV X.K T) p1 fun y st2 f2 H2 vy hp2 s2 rh2 ry p2 =>
      ev_pairsV r ⟨f2, env, st2, (re.mono hp s).mono hp2 s2, rh2, Post.bind (rel := RPs X.K T) p2 fun ps st3 f3 H3 vps hp3 s3 rh3 rps p3 => p3.now rh3 (.cons ((rx.mono hp2 s2).mono hp3 s3) (ry.mono hp3 s3) rps)⟩⟩⟩
theorem ie_dispV {keys : List (Option Expr)} {values : List Expr} {prs : List (ME × ME)} (h : IPsV X T.b W pos keys values prs) (hall : keys.all (·.isSome) = true := by rfl) (hl : keys.length = values.length := by rfl) (h0 : keys ≠ [] := by intro z; cases z) (h15 : keys.length ≤ 15 := by decide) :
    IE X T W (.Dict keys values pos) (mDispV prs) := PEw (pe_disp h hall hl h0 h15) fun σ H Q ⟨f, env, st, re, rh, p⟩ => fun q hq => by
  have rn : RH X.K (aside T q) f (upd H q (.dK [])) st := rh.aside hq
  have re1 : REn X.K (aside T q) (upd H q (.dK [])) f env σ := re.view (view_aside hq)
  refine ev_pairsV (T := aside T q) prs ⟨f, env, st, re1, rn, ?_⟩
  unfold mDispV at p
  cases hm : mPairs prs env st with
  | stuck => rw [hm] at p; exact p.elim
  | exc c fs st1 =>
    rw [hm] at p
    intro f1 H1 cls dd hp s rh1 xr
    have s1 : Stay X.K T f H f1 H1 := (Stay.new hq).trans (s.back (rh.fresh hq))
    obtain ⟨e1, d2, vs, e2, h2, h3⟩ := xr
    exact p f1 H1 cls dd hp s1 rh1.back ⟨e1, d2, vs, e2, h2, h3.view view_back h3.closed⟩
  | ok ps st1 =>
    rw [hm] at p
    intro f1 H1 vps hp s rh1 rps
    have hqf : q ∉ f := rh.fresh hq
    have s1 : Stay X.K T f H f1 H1 := (Stay.new hq).trans (s.back hqf)
    have h1 : H1 q = some (.dK []) := s.any hqf upd_same
    have hqf1 : q ∉ f1 := (rh1.rsv q List.mem_cons_self).1
    simp only [Re.bind] at p
    split at p
    · rename_i hk
      rw [Bool.and_eq_true] at hk
      obtain ⟨kvs, e, r⟩ := rps_kvs rps hk.1
      refine ⟨h1, kvs, e, by rw [← r.len]; exact of_decide_eq_true hk.2, ?_⟩
      have s2 : Stay0 X.K (aside T q) f1 H1 f1 (upd H1 q (.dK (mergeK [] kvs))) := Stay0.aside List.mem_cons_self (fun xs z => by rw [h1] at z; cases z) (fun q u z => by rw [h1] at z; cases z)
      have r2 := (merge_ok r (acc := []) (avs := []) .nil).mono0 (List.prefix_refl _) s2
      have rh2 : RH X.K (aside T q) f1 (upd H1 q (.dK (mergeK [] kvs))) st1 := rh1.growAny h1 (fun xs z => by rw [h1] at z; cases z) (fun q u z => by rw [h1] at z; cases z)
      refine p f1 _ _ hp (s1.growAny hq (fun xs z => by rw [h1] at z; cases z) (fun q u z => by rw [h1] at z; cases z)) rh2.back (.dv ⟨hqf1, fun z => ?_⟩ upd_same (r2.view view_back r2.closed))
      obtain ⟨_, u, e⟩ := rh.rsv q z
      rw [hq] at e; cases e
    · exact p.elim
/-! ### isinstance -/
inductive Tk where
  | non | bl | int | str | tup | lst | dk | ins (c : Nat)
def tkD : Dt → Sto → Option Tk
  | .non, _ => some .non
  | .bl _, _ => some .bl
  | .int _, _ => some .int
  | .str _, _ => some .str
  | .tup _, _ => some .tup
  | .rl _, _ => some .lst
  | .li _, _ => some .lst
  | .dv _, _ => some .dk
  | .ob c _, _ => some (.ins c)
  | .cl _, _ => none
  | .ref i, st => match st[i]? with
    | some (.lst _) => some .lst
    | some (.dk _) => some .dk
    | some (.ins c _) => some (.ins c)
    | none => none
def tkV (T : Tz) : Tk → Value
  | .non => .type "NoneType"
  | .bl => .type "bool"
  | .int => .type "int"
  | .str => .type "str"
  | .tup => .type "tuple"
  | .lst => .type "list"
  | .dk => .type "dict"
  | .ins c => .ref (T.cls c)
/-- what a class must have for isinstance -/
structure InsT (K : PySem.W.Frag) (C : Addr) : Prop where
  cl : Cls K C
  ha : PySem.W.findIn K (.ref C) "__class__" = some (some (.builtin "object.__class__"))
  hn : PySem.W.specialIn K (.builtin "object.__class__") "__get__" = some (some (.builtin "getset_descriptor.__get__"))
  ht : PySem.W.takesIn K (.builtin "object.__class__") = some true
  hm : PySem.W.mroIn K C (.type "object") = some true
theorem ty_ok {f : List Addr} {H : Hp} {st : Sto} {x : Dt} {v : V} {t : Tk} (rh : RH K T f H st) (rx : RV K T H f x v) (h : tkD x st = some t) (hI : ∀ c, t = .ins c → InsT K (T.cls c)) : TyX K H v (tkV T.b t) := by
  cases rx with
  | non => cases h; exact .base .non
  | bl b => cases h; exact .base (.bl b)
  | int i => cases h; exact .base (.int i)
  | str x => cases h; exact .base (.str x)
  | @tup ds vs a hs r =>
    cases h
    rcases hs with (h | ⟨o, h⟩) | ⟨o, its, n, h, c, _⟩
    · exact .base (.tup h)
    · exact .fTuple h
    · exact .kTuple h c
  | @rl ds vs a hs r =>
    cases h
    rcases hs with ⟨o, h⟩ | ⟨o, its, n, h, c, _⟩
    · exact .base (.frz h)
    · exact .kList h c
  | li hf hs r => cases h; exact .base (.lst hs)
  | dv hf hs r => cases h; exact .base (.dK hs)
  | @ob c fs vs a dx hf hs r =>
    cases h
    have I := hI c rfl
    exact .base (.ins hs I.cl I.ha I.hn I.ht I.hm)
  | cl c => first | exact p.elim | exact p1.elim | exact p2.elim | exact p3.elim | (cases h; done) | (cases hd; done) | (cases h1; done) | (simp at h; done) | (simp_all; done)
  | @ref i a hi =>
    obtain ⟨o, ho⟩ := rh.lt hi
    simp only [tkD, ho] at h
    cases o with
    | lst xs => cases h; obtain ⟨vs, h1, _⟩ := rh.lst hi ho; exact .base (.lst h1)
    | dk kvs => cases h; obtain ⟨vs, h1, _⟩ := rh.obj _ _ _ ho hi; exact .base (.dK h1)
    | ins c fs =>
      cases h
      obtain ⟨dx, vs, h1, _⟩ := rh.obj _ _ _ ho hi
      have I := hI c rfl
      exact .base (.ins h1 I.cl I.ha I.hn I.ht I.hm)
def mIsI (q : Tk → Option Bool) (a : ME) : ME := fun env st => (a env st).bind fun x st1 => match tkD x st1 with
  | some t => match q t with
    | some b => .ok (.bl b) st1
    | none => .stuck
  | none => .stuck
theorem ie_isi {c : Expr} {cv : V} {u : Value} (q : Tk → Option Bool) (hm : X.mg "isinstance" = none) (hI : ∀ c b, q (.ins c) = some b → InsT X.K (T.cls c)) (hq : ∀ t b, q t = some b → PySem.W.kitOne X.K (tkV T.b t) u = some b) (hu : ClsV cv u) (hc : PE X c (tC cv)) (he : IE X T W e me)
    (hg : Gl X "isinstance" := by rfl) (h1 : starEach [e, c] X.env = (false, eval e X.env) :: starEach [c] X.env := by rfl) (h2 : starEach [c] X.env = (false, eval c X.env) :: starEach [] X.env := by rfl) (hpl : (backTo pos (starEach [c] X.env)).any (·.1) = false := by rfl) :
    IE X T W (.Call (.Name "isinstance" p) [e, c] [] pos) (mIsI q me) := PEw (pe_callB call_isi hg hm (by decide +kernel) (pa_cons he (pa_cons hc pa_nil h2) h1) (by decide) (by decide) h1 hpl) fun σ H Q ⟨f, env, st, re, rh, p⟩ =>
  ⟨f, env, st, re, rh, p.bind fun x st1 f1 H1 vx hp s rh1 rx p1 => by
    cases ht : tkD x st1 with
    | none => rw [ht] at p1; exact p1.elim
    | some t =>
      rw [ht] at p1
      simp only at p1
      cases hb : q t with
      | none => rw [hb] at p1; exact p1.elim
      | some b =>
        rw [hb] at p1
        exact ⟨vx, cv, _, u, b, rfl, hu, ty_ok rh1 rx ht (fun c e => by subst e; exact hI c b hb), hq t b hb, p1.now rh1 (.bl b)⟩⟩
theorem ie_isi2 {c1 c2 : Expr} {v1 v2 : V} {u1 u2 : Value} {kt : Nat} {pt : Pos} (q : Tk → Option Bool) (hm : X.mg "isinstance" = none) (hI : ∀ c b, q (.ins c) = some b → InsT X.K (T.cls c)) (hq : ∀ t b, q t = some b → PySem.W.kitAny X.K (tkV T.b t) [u1, u2] = some b) (hu1 : ClsV v1 u1) (hu2 : ClsV v2 u2) (hc1 : PE X c1 (tC v1)) (hc2 : PE X c2 (tC v2)) (he : IE X T W e me)
    (hg : Gl X "isinstance" := by rfl) (h1 : starEach [e, .Tuple [c1, c2] kt pt] X.env = (false, eval e X.env) :: starEach [.Tuple [c1, c2] kt pt] X.env := by rfl) (h2 : starEach [.Tuple [c1, c2] kt pt] X.env = (false, eval (.Tuple [c1, c2] kt pt) X.env) :: starEach [] X.env := by rfl)
    (h3 : starEach [c1, c2] X.env = (false, eval c1 X.env) :: starEach [c2] X.env := by rfl) (h4 : starEach [c2] X.env = (false, eval c2 X.env) :: starEach [] X.env := by rfl) (hpl : (backTo pos (starEach [.Tuple [c1, c2] kt pt] X.env)).any (·.1) = false := by rfl) :
    IE X T W (.Call (.Name "isinstance" p) [e, .Tuple [c1, c2] kt pt] [] pos) (mIsI q me) := PEw (pe_callB call_isiT hg hm (by decide +kernel) (pa_cons he (pa_cons (pe_tup (pa_cons hc1 (pa_cons hc2 pa_nil h4) h3)) pa_nil h2) h1) (by decide) (by decide) h1 hpl) fun σ H Q ⟨f, env, st, re, rh, p⟩ =>
  ⟨f, env, st, re, rh, p.bind fun x st1 f1 H1 vx hp s rh1 rx p1 => by
    cases ht : tkD x st1 with
    | none => rw [ht] at p1; exact p1.elim
    | some t =>
      rw [ht] at p1
      simp only at p1
      cases hb : q t with
      | none => rw [hb] at p1; exact p1.elim
      | some b =>
        rw [hb] at p1
        refine ⟨by show 2 ≤ sizeLine; decide, fun tp htp => ?_⟩
        have s1 : Stay X.K T f1 H1 f1 (upd H1 tp (.tup [v1, v2])) := Stay.new htp
        have rh2 := rh1.side (u := .tup [v1, v2]) htp
        exact ⟨vx, tp, [v1, v2], _, [u1, u2], b, rfl, upd_same, .cons hu1 (.cons hu2 .nil), ty_ok rh2 (rx.mono (List.prefix_refl _) s1) ht (fun c e => by subst e; exact hI c b hb), hq t b hb, p1 f1 _ _ (List.prefix_refl _) s1 rh2 (.bl b)⟩⟩
/-! ### raise -/
/-- what an own error with one field must have: C its class, fI its __init__ -/
def spErr (K : PySem.W.Frag) (fn : Str) : Sp := fun vs H Q _ => ∃ a C v, vs = [.ref a, v] ∧ OexC K C ∧ PySem.W.findIn K (.ref C) fn = some none ∧ H a = some (exo a C none) ∧ ∀ dx, H dx = none → dx ≠ a → Q .non (upd (upd H dx (exd dx [(fn, v)])) a (exo a C (some dx)))
/-- LayError.__init__(self, ..): the base's __init__ by the name of an own class -/
theorem pe_binit {pl : Sem Bool} {x : Str} {C0 : Addr} {e : Expr} {es : List Expr} {ta : TA} {p1 p2 : Pos} (hg : Gl X x) (hm : X.mg x = some (.ref C0)) (hga : PySem.W.specialIn X.K (.ref C0) "__getattribute__" = some (some (.builtin "type.__getattribute__"))) (hr : PySem.W.readsIn X.K C0 (.type "type") = true)
    (hty : PySem.W.typeIn X.K (.ref C0) = some (.type "type"))
    (vV : PySem.W.findCls X.K (.ref C0) (.type "type") "__init__" = some (.val (.builtin "ValueError.__init__"))) (ha : PA X (e :: es) ta) (hdb : (x == ("__debug__" : Str)) = false := by decide)
    (hc : eval (.Call (.Attribute (.Name x p1) "__init__" p2) (e :: es) [] pos) X.env = (do
      let ov ← eval (.Name x p1) X.env
      standAt p2.atName
      let (f, first) ← holding [ov] (getMethod ov "__init__" pl)
      callWith pos f first (backTo pos (starEach (e :: es) X.env)) (backToKw pos (keywordEach [] X.env))) := by rfl)
    (he : starEach (e :: es) X.env = (false, eval e X.env) :: starEach es X.env := by rfl) (hpl : (backTo pos (starEach es X.env)).any (·.1) = false := by rfl) :
    PE X (.Call (.Attribute (.Name x p1) "__init__" p2) (e :: es) [] pos) (tVeI X.K ta) := ⟨fun pins s σ H Q I h => by
  refine PySem.W.methodCall_KW (ld_glob I hg hm ?_ hdb) hc
  refine PySem.W.method_cls I.kIn hga ?_
  refine PySem.W.cls_value I.kIn hr vV (by decide +kernel) ?_
  refine PyProof.Rows.callWith_method1 (thn (ha.run pos pins _ σ H _ (I.tok _) h) fun us s1 hu => ?_) he hpl
  obtain ⟨vs, H1, J, r1, a, C, ws, ev, hl, Tc, ea, q⟩ := hu
  subst ev
  cases r1 with
  | @cons _ u0 _ ur ra rw' =>
    obtain rfl : u0 = Value.ref a := ra
    exact oinit_ok Tc J ea (by rw [← Paired.length rw', sizeLine_eq]; omega) fun s' J' => ⟨.non, H1, J', rfl, q⟩⟩
end
end LT
set_option Elab.async false
set_option linter.all false
set_option maxRecDepth 100000
set_option maxHeartbeats 4000000
namespace PySem.W
open PySem.Calls PyProof.Rows
section
variable {K : Frag} {prog : Program} {w : World} {A : Around} {E : Value → Shared → Prop} {D x : Addr} {ox od : Obj} {s : Shared}
/-- the class of an own error that has a dict -/
theorem lt_classE {Q : Option Value → Shared → Prop} (g1 : findIn K (.ref D) "__getattribute__" = some (some (.builtin "BaseException.__getattribute__"))) (g2 : findIn K (.ref D) "__getattr__" = some none) (g3 : subIn K (.ref D) (.type "BaseException") = some true)
    (g4 : hasDictIn K D = true) (g5 : findIn K (.ref D) "__class__" = some (some (.builtin "object.__class__"))) (g6 : specialIn K (.builtin "object.__class__") "__get__" = some (some (.builtin "getset_descriptor.__get__"))) (g7 : takesIn K (.builtin "object.__class__") = some true)
    (g8 : mroIn K D (.type "object") = some true) (KX : K.In s.heap) (J : InstAt s.heap x ox D (some od)) (q : Q (some (.ref D)) { s with toks := s.toks + 1 }) : wpAny (model prog w) A (getAttr? (.ref x) "__class__") Q E s := by
  have hcl : (clsIn K D).isSome = true := by
    obtain ⟨cd, hc, _⟩ := any_some g4
    rw [hc]
    rfl
  have found : findObj K D (some od) "__class__" = some (.bind (.builtin "getset_descriptor.__get__") (.builtin "object.__class__")) := findObj_data hcl g5 g6 g7
  obtain ⟨hp, gs, dr, tk, os⟩ := s
  have T0 := J.type (M := model prog w)
  have T1 := looks_findIn (M := model prog w) KX g1
  have T2 := looks_findIn (M := model prog w) KX g2
  have T3 := looks_find (M := model prog w) KX J found
  have isB : Looks (model prog w) hp (isInstance (.ref x) (.type "BaseException")) true := T0.andThen (looks_subIn KX g3)
  have no0 : (false && onTheHeap (Value.builtin "BaseException.__getattribute__")) = false := rfl
  have no1 : (onTheHeap (Value.ref D) && Value.builtin "BaseException.__getattribute__" == Value.builtin "object.__getattribute__") = false := by
    rw [show (Value.builtin "BaseException.__getattribute__" == Value.builtin "object.__getattribute__") = false by decide +kernel, Bool.and_false]
  unfold getAttr? getAttrBy? getAttrBy
  refine wpAny_bind (wpAny_mkText (wpAny_bind (wpAny_attempt (wpAny_holding (wpAny_bind (T0.at (wpAny_bind (T1.at ?_))))))))
  change wpAny _ _ (if (onTheHeap (Value.ref D) && Value.builtin "BaseException.__getattribute__" == Value.builtin "object.__getattribute__") = true then _ else _) _ _ _
  rw [no1, if_neg Bool.false_ne_true]
  unfold getAttrByItsOwn hookBefore
  apply wpAny_bind
  rw [if_pos (show onTheHeap (Value.ref D) = true from rfl)]
  apply T2.at
  refine wpAny_bind (wpAny_attempt (wpAny_holding ?_))
  unfold callGetattribute
  rw [no0, if_neg Bool.false_ne_true]
  unfold boundAndCalled
  rw [PySem.F.excAttr_ValueError.ga.bind (.ref x)]
  refine wpAny_bind (wpAny_pure ?_)
  change wpAny _ _ (call (.builtin "BaseException.__getattribute__") [.ref x, .str "__class__" tk]) _ _ _
  refine wpAny_call (codeAny_call_builtin PySem.F.excAttr_ValueError.ga.plain PySem.F.entry_bexc_ga (@check_slot (model prog w) _ _ ⟨hp, gs, dr, tk + 1, os⟩ "BaseException.__getattribute__" "BaseException" "__getattribute__" (.ref x) [.str "__class__" tk] [] _ (by decide +kernel) (by decide +kernel) isB (PySem.F.args_bexc_ga (.ref x) (.str "__class__" tk)) ?_))
  unfold Builtin.«object.__getattribute__»
  refine wpAny_bind (wpAny_of_eq (a := ((Value.ref x : Value), [Value.str "__class__" tk])) (by first | rfl | (simp only [slotArgs]; rfl)) (wpAny_bind (wpAny_pure (wpAny_bind (T0.at (wpAny_bind (T3.at ?_)))))))
  change wpAny _ _ (holding [Value.builtin "object.__class__"] (call (.builtin "getset_descriptor.__get__") [.builtin "object.__class__", .ref x, .ref D]) >>= ret) _ _ _
  refine wpAny_bind (wpAny_holding (wpAny_call (class_get (s := ⟨hp, gs, dr, tk + 1, os⟩) (ox := ox) (od := some od) KX J g8 ?_)))
  apply wpAny_pure
  change wpAny _ _ (handedOut (.ref D)) _ _ _
  rw [handedOut_of (v := .ref D) rfl]
  first
    | exact wpAny_pure (wpAny_pure q)
    | exact wpAny_pure q
    | exact wpAny_pure (wpAny_bind (wpAny_pure (wpAny_pure q)))
theorem lt_kitE (C : L2.ExcC K D) : KitX K (.ref x) (.ref D) (fun h => InstAt h x ox D (some od)) where
  ty := fun _ _ _ I => I.type
  it := fun _ _ KX _ => by
    obtain ⟨cd, hc, _⟩ := any_some C.hd
    unfold clsIn at hc
    split at hc
    · rename_i ho
      intro A' Q' E' s' k q
      unfold isType loadHead
      exact wpAny_bind (wpAny_loadPart (k _ _ (KX _ _ ho)) (wpAny_pure q))
    · cases hc
  ne := fun h tp dd its n sl KX htp => by
    obtain ⟨cd, hc, _⟩ := any_some C.hd
    refine Bool.eq_false_iff.mpr fun q => ?_
    have e : D = tp := Value.ref.inj (beq_iff_eq.mp q)
    subst e
    unfold clsIn at hc
    split at hc
    · rename_i ho
      have z := (KX _ _ ho).symm.trans htp
      cases z
    · cases hc
  ca := fun KX I k => lt_classE C.hg C.hk C.hs C.hd C.ha C.hn C.ht C.hm KX I k
end
end PySem.W
namespace LT
open PySem PySem.Spec PyProof.Rows L2
section
variable {X : Cx} {T : Tb} {W : WX} {e : Expr} {me : ME} {pos p p' : Pos}
/-- isinstance(e, c), e the error that the suite holds, which has a dict -/
theorem call_isED {a D : Addr} {oe : Obj} {dd : Addr} {pn : List (Addr × Obj)} (C : ExcC X.K D) (hz : Zc (.ref D) (some dd) oe) (hf : ∃ vs, oe.data = .fields vs) :
    CallR (X.suite a ((a, oe) :: pn)) (.builtin "isinstance") (fun xs H Q => (∃ fs, H dd = some (.xd fs)) ∧ rIsE X.K D a xs H Q) := by
  intro pins s σ H xs us Q I r h
  obtain ⟨⟨fs, hx⟩, c, cv, b, rfl, hcv, ek, q⟩ := h
  cases r with
  | cons rx rr =>
    cases rr with
    | cons rt rr =>
      cases rr
      cases rx
      obtain rfl := hcv _ rt
      have pin := (I.pin (a, oe) (List.mem_append.mpr (.inl List.mem_cons_self))).1
      obtain ⟨vs, hv⟩ := hf
      have ob : ObjOk X.prog X.w H s.heap dd (.xd fs) := I.hok dd _ hx
      obtain ⟨mA, hns, _⟩ := ob
      obtain ⟨od, ho, _⟩ := lookIn_ns hns
      have J : PySem.W.InstAt s.heap a oe D (some od) := ⟨pin, hz.1, by unfold PySem.W.notCls; rw [hv] <;> rfl, by rw [hz.2]; exact ho⟩
      exact PySem.W.kia_one (PySem.W.lt_kitE C) I.kIn J ek (fun z => nomatch z) fun tk => ⟨.bl b, H, I.kept (t' := tk) fun _ _ z => z, rfl, q⟩
/-! ### raise -/
def sRaise (c k : Nat) (a : ME) : MS := fun env st => (a env st).on env fun d st1 => .ex env c [(k, d)] st1
theorem upd_xd {H1 : Hp} {a dx : Addr} {o1 o2 o3 u : HO} (ha : H1 a = none) (ne : dx ≠ a) : upd (del (upd (upd (upd H1 a o1) dx o2) a o3) a) dx u = upd H1 dx u := by
  funext b
  by_cases hb : b = dx
  · subst hb; rw [upd_same, upd_same]
  · rw [upd_ne hb, upd_ne hb]
    by_cases h2 : b = a
    · subst h2; rw [del_same, ha]
    · rw [del_ne h2, upd_ne h2, upd_ne hb, upd_ne h2]
theorem is_raise {x fn : Str} {C fI : Addr} {fd : FuncData} {j : Nat} (c k : Nat) (hcl : T.cls c = C) (hk : T.fld k = fn) (O : OexC X.K C) (iC : PySem.W.findIn X.K (.ref C) "__init__" = some (some (.ref fI))) (tI : PySem.W.typeIn X.K (.ref fI) = some (.type "function")) (hno : PySem.W.findIn X.K (.ref C) fn = some none)
    (F1 : FnOk X.prog X.w X.K X.mg X.base (L2.CX X.prog X.w) j fI fd ["self", fn] (spErr X.K fn)) (hr : Room (j + 1) X.A) (hb : Binds X.K fd ["self", fn] []) (hm : X.mg x = some (.ref C)) (hc : X.calm = true) (tk : Takes X W) (he : IE X T W e me)
    (hg : Gl X x := by rfl) (hdb : (x == ("__debug__" : Str)) = false := by decide) (h1 : starEach [e] X.env = (false, eval e X.env) :: starEach [] X.env := by rfl) (hpl : (backTo p' (starEach [] X.env)).any (·.1) = false := by rfl) :
    IS X T W (.Raise (some (.Call (.Name x p) [e] [] p')) none pos) (sRaise c k me) := by
  subst hk
  exact PSw (ps_raise hc tk (pmk_oex O iC tI F1 hr hb .nil passL hg hm (pa_cons he pa_nil h1) hdb h1 hpl)) fun E σ H ⟨f, env, st, re, rh, p⟩ =>
  ⟨f, env, st, re, rh, PostS.on re p fun d st1 f1 H1 v hp s rh1 rv re1 p1 => ⟨by show 1 ≤ 1000; decide, fun a ha => ⟨a, C, v, rfl, O, hno, upd_same, fun dx hdx ne => by
    rw [upd_ne ne] at hdx
    refine ⟨rfl, dx, [(T.fld k, v)], upd_same, by rw [upd_ne ne, upd_same], hdx, ?_⟩
    rw [upd_xd ha ne]
    have st1 : Stay X.K T f1 H1 f1 (upd H1 dx (.xd [(T.fld k, v)])) := Stay.new hdx
    refine p1 f1 _ σ _ _ (List.prefix_refl _) st1 (rh1.side hdx) (re1.mono (List.prefix_refl _) st1) ⟨by rw [hcl], dx, _, rfl, upd_same, ?_⟩
    exact .cons (rv.mono (List.prefix_refl _) st1) .nil⟩⟩⟩
/-! ### try -/
/-- h: what the suite leaves at slot j, by the error's class and fields; none within: another class -/
def sTry (mb : MS) (h : Nat → List (Nat × Dt) → Option (Option Dt)) (j i : Nat) : MS := fun env st => match mb env st with
  | .ex env1 c fs st1 => match h c fs with
    | some (some d) => if i < env1.length then .nx ((env1.set j (some d)).set i none) st1 else .stuck
    | some none => .ex env1 c fs st1
    | none => .stuck
  | r => r
/-- the suite's reading -/
def tSu (K : PySem.W.Frag) (T : Tb) (h : Nat → List (Nat × Dt) → Option (Option Dt)) (j i : Nat) (a : Addr) (cls : Value) (d : Option Addr) : TS := fun E σ H => ∃ c fs dd vs f env st dt, cls = .ref (T.cls c) ∧ d = some dd ∧ H dd = some (.xd vs) ∧ FR K T H f fs vs ∧ h c fs = some (some dt) ∧
  σ[i]? = some (some (.ref a)) ∧ σ.length = env.length ∧ REn K T H f env σ ∧ RH K T f H st ∧ ∀ v, RV K T H f dt v → E.nx (σ.set j (some v)) H
theorem is_try {x n : Str} {cv : Value} {body : List Stmt} {b0 : Stmt} {suite : List Stmt} {np pos' : Pos} {mb : MS} {h : Nat → List (Nat × Dt) → Option (Option Dt)} (j i : Nat) (hij : j ≠ i) (hN : X.N.Nodup) (hc : Names X x cv) (tk : Takes X W)
    (hx : ∀ c fs, h c fs = some none → PySem.W.exmOne X.K (.ref (T.cls c)) cv = some false) (hy : ∀ c fs d, h c fs = some (some d) → PySem.W.exmOne X.K (.ref (T.cls c)) cv = some true)
    (hb : ∀ (W' : WX) (pn : List (Addr × Obj)) (xe : Value → Shared → Prop), Takes (X.tr pn xe) W' → ISs (X.tr pn xe) T W' body mb)
    (hsu : ∀ (a : Addr) (oe : Obj) (cls : Value) (d : Option Addr) (pn : List (Addr × Obj)), Zc cls d oe → (∃ vs, oe.data = .fields vs) → PSs (X.suite a ((a, oe) :: pn)) (b0 :: suite) (tSu X.K T h j i a cls d))
    (hi : X.N[i]? = some n := by rfl) (hln : X.env.kindOf n = some .local := by rfl) (hs : X.stack = X.env :: X.outer := by rfl) (hf : X.env.frame = some X.env.locals := by rfl) :
    IS X T W (.Try body [.ExceptHandler (some (.Name x np)) (some n) (b0 :: suite) pos'] [] [] pos) (sTry mb h j i) := by
  refine ⟨fun pins s σ H E I hG => ?_⟩
  have main := ps_try_as (np := np) (pos := pos) (pos' := pos') (tb := fun W' => sG X.K T W' mb) hs hf hN hi hln hc tk (fun W' pn xe tk' _ => hb W' pn xe tk') hsu
  refine main.run pins s σ H E I ?_
  obtain ⟨f, env, st, re, rh, p⟩ := hG
  refine ⟨f, env, st, re, rh, ?_⟩
  unfold sTry at p
  cases hm : mb env st with
  | nx e1 s1 => rw [hm] at p; exact p
  | bk e1 s1 => rw [hm] at p; exact p
  | ct e1 s1 => rw [hm] at p; exact p
  | rt d1 s1 => rw [hm] at p; exact p
  | stuck => rw [hm] at p; exact p
  | ex e1 c fs s1 =>
    rw [hm] at p
    simp only at p
    intro f' H' σ' cls d hp sy rh' re' xr
    obtain ⟨ecl, dd, vs, ed, hd, fr⟩ := xr
    cases hh : h c fs with
    | none => rw [hh] at p; exact p.elim
    | some od =>
      rw [hh] at p
      cases od with
      | none =>
        refine ⟨false, by rw [ecl]; exact hx c fs hh, fun z => (Bool.false_ne_true z).elim, fun _ => ?_⟩
        exact p f' H' σ' cls d hp sy rh' re' ⟨ecl, dd, vs, ed, hd, fr⟩
      | some dt =>
        refine ⟨true, by rw [ecl]; exact hy c fs dt hh, fun _ a ha => ?_, fun z => (Bool.noConfusion z)⟩
        simp only at p
        split at p
        · rename_i hl
          have hl2 : i < σ'.length := by rw [← re'.len]; exact hl
          refine ⟨c, fs, dd, vs, f', e1.set i none, s1, dt, ecl, ed, hd, fr, hh, List.getElem?_set_self hl2, by rw [List.length_set, List.length_set]; exact re'.len.symm, re'.wipe1, rh', fun v rv => ?_⟩
          refine p f' H' _ hp sy rh' ?_
          have r1 := ((re'.set (i := j) rv).wipe1 (i := i) (x := none))
          rw [List.set_comm _ _ (Ne.symm hij), List.set_set]
          exact r1
        · exact p.elim
end
end LT
set_option Elab.async false
set_option linter.all false
set_option maxRecDepth 100000
namespace LT
open PySem PySem.Spec PyProof.Rows L2
section
variable {X : Cx} {T : Tb} {W : WX}
/-- the suite «found = e.F if isinstance(e, A) and not isinstance(e, B) else z»: m which classes are caught -/
def hA (m : Nat → Option Bool) (isA isB : Nat → Bool) (k : Nat) (z : List Nat) : Nat → List (Nat × Dt) → Option (Option Dt) := fun c fs => match m c with
  | none => none
  | some false => some none
  | some true => if isA c && !isB c then (match fs.lookup k with
    | some d => some (some d)
    | none => none) else some (some (.str z))
theorem su_A {m : Nat → Option Bool} {isA isB : Nat → Bool} {k j i : Nat} {z : List Nat} {zs n fn y xA xB : Str} {CA CB : Addr} {pA pB p1 p2 p3 p4 p5 p6 p7 p8 p9 p10 p11 p12 p13 p14 : Pos} {jj : Nat}
    (hk : T.fld k = fn) (hz : zs.cps.toList = z) (hN : X.N.Nodup) (hm : X.mg "isinstance" = none) (hmA : X.mg xA = some (.ref CA)) (hmB : X.mg xB = some (.ref CB))
    (hE : ∀ c, m c = some true → ExcC X.K (T.cls c) ∧ XfC X.K (T.cls c) ∧ PySem.W.findIn X.K (.ref (T.cls c)) fn = some none ∧ PySem.W.kitOne X.K (.ref (T.cls c)) (.ref CA) = some (isA c) ∧ PySem.W.kitOne X.K (.ref (T.cls c)) (.ref CB) = some (isB c))
    (hi : X.N[i]? = some n := by rfl) (hj : X.N[j]? = some y := by rfl) (hvi : Vis X.env.scope n := by exact Or.inl rfl) (hvj : X.env.scope.names.lookup y = some .local := by rfl) (hg : Gl X "isinstance" := by rfl) (hgA : Gl X xA := by rfl) (hgB : Gl X xB := by rfl)
    (d1 : (n == ("__debug__" : Str)) = false := by decide) (d2 : (n == ("__classdict__" : Str)) = false := by decide) (d3 : (xA == ("__debug__" : Str)) = false := by decide) (d4 : (xB == ("__debug__" : Str)) = false := by decide)
    (hb : attributeBase (.Name n p9) fn X.env (eval (.Name n p9) X.env) = eval (.Name n p9) X.env := by rfl)
    (a : Addr) (oe : Obj) (cls : Value) (d : Option Addr) (pn : List (Addr × Obj)) (zc : Zc cls d oe) (fl : ∃ vs, oe.data = .fields vs)
    (hs : swapsWith (.IfExp (.BoolOp .And [.Call (.Name "isinstance" p1) [.Name n p2, .Name xA p3] [] p4, .UnaryOp .Not (.Call (.Name "isinstance" p5) [.Name n p6, .Name xB p7] [] p8) p13] p14) (.Attribute (.Name n p9) fn p10) (.Constant (.str zs) jj p11) p12) (some (.Name y pA)) pB.line X.env = pure false := by rfl)
    (h1 : ∀ (q r : Pos) (xx : Str), starEach [.Name n q, .Name xx r] X.env = (false, eval (.Name n q) X.env) :: starEach [.Name xx r] X.env := by intro _ _ _; rfl) (h2 : ∀ (r : Pos) (xx : Str), starEach [.Name xx r] X.env = (false, eval (.Name xx r) X.env) :: starEach [] X.env := by intro _ _; rfl)
    (h3 : ∀ (r q : Pos) (xx : Str), (backTo q (starEach [.Name xx r] X.env)).any (·.1) = false := by intro _ _ _; rfl)
    (h4 : ∀ whole, isTrue (.Call (.Name "isinstance" p1) [.Name n p2, .Name xA p3] [] p4) X.env whole = (do let v ← whole; standAt (Expr.Call (.Name "isinstance" p1) [.Name n p2, .Name xA p3] [] p4).pos; holding [v] (truthy v)) := by intro _; rfl)
    (h5 : ∀ whole, isTrue (.Call (.Name "isinstance" p5) [.Name n p6, .Name xB p7] [] p8) X.env whole = (do let v ← whole; standAt (Expr.Call (.Name "isinstance" p5) [.Name n p6, .Name xB p7] [] p8).pos; holding [v] (truthy v)) := by intro _; rfl) :
    PSs (X.suite a ((a, oe) :: pn)) [.Assign [.Name y pA] (.IfExp (.BoolOp .And [.Call (.Name "isinstance" p1) [.Name n p2, .Name xA p3] [] p4, .UnaryOp .Not (.Call (.Name "isinstance" p5) [.Name n p6, .Name xB p7] [] p8) p13] p14) (.Attribute (.Name n p9) fn p10) (.Constant (.str zs) jj p11) p12) pB]
      (tSu X.K T (hA m isA isB k z) j i a cls d) := by
  refine ⟨fun pins s σ H E I hG => ?_⟩
  obtain ⟨c, fs, dd, vs, f, env, st, dt, rfl, rfl, hd, fr, hh, hsl, hlen, re, rh, q⟩ := hG
  subst hk
  have hmc : m c = some true := by
    unfold hA at hh
    cases h0 : m c with
    | none => rw [h0] at hh; cases hh
    | some b =>
      cases b with
      | true => rfl
      | false => rw [h0] at hh; cases hh
  obtain ⟨eC, xC, hno, kA, kB⟩ := hE c hmc
  have isA' := pe_callB (X := X.suite a ((a, oe) :: pn)) (p := p1) (pos := p4) (call_isED eC zc fl) hg hm (by decide +kernel) (pa_cons (pe_var (pos := p2) hi hvi d1 d2) (pa_cons (pe_glob (v := .ref CA) (pos := p3) hgA hmA rfl d3) pa_nil (h2 p3 xA)) (h1 p2 p3 xA)) (by decide) (by decide) (h1 p2 p3 xA) (h3 p3 p4 xA)
  have isB' := pe_callB (X := X.suite a ((a, oe) :: pn)) (p := p5) (pos := p8) (call_isED eC zc fl) hg hm (by decide +kernel) (pa_cons (pe_var (pos := p6) hi hvi d1 d2) (pa_cons (pe_glob (v := .ref CB) (pos := p7) hgB hmB rfl d4) pa_nil (h2 p7 xB)) (h1 p6 p7 xB)) (by decide) (by decide) (h1 p6 p7 xB) (h3 p7 p8 xB)
  have fld := pe_xf (X := X) (pos := p10) xC hno zc fl (pe_var (X := X.suite a ((a, oe) :: pn)) (pos := p9) hi hvi d1 d2) hb
  have der := pss_one (ps_set (X := X.suite a ((a, oe) :: pn)) (pos := pB) (pos' := pA) hN hj (.inl hvj) (pe_ifExp (pos := p12) (PW.pt (pw_and (pos := p14) (pt_val (X := X.suite a ((a, oe) :: pn)) isA' h4) (pw_and1 (pos := p14) (pt_not (pos := p13) (pt_val (X := X.suite a ((a, oe) :: pn)) isB' h5))))) fld (pe_str (X := X.suite a ((a, oe) :: pn)) (x := zs) (j := jj) (pos := p11))) hs (.inr hvj))
  refine der.run pins s σ H E I ?_
  unfold hA at hh
  rw [hmc] at hh
  simp only at hh
  refine ⟨.ref a, hsl, ⟨vs, hd⟩, .ref CA, .ref CA, isA c, rfl, fun u r => r, kA, isA c, rfl, ?_⟩
  cases hA' : isA c with
  | false =>
    rw [hA', Bool.false_and, if_neg Bool.false_ne_true] at hh
    cases hh
    exact iteF (iteF (q _ (.str' hz)))
  | true =>
    refine iteT ⟨.ref a, hsl, ⟨vs, hd⟩, .ref CB, .ref CB, isB c, rfl, fun u r => r, kB, isB c, rfl, ?_⟩
    cases hB' : isB c with
    | true =>
      rw [hA', hB', Bool.not_true, Bool.and_false, if_neg Bool.false_ne_true] at hh
      cases hh
      exact iteF (q _ (.str' hz))
    | false =>
      rw [hA', hB', Bool.not_false, Bool.and_true, if_pos rfl] at hh
      cases hl : fs.lookup k with
      | none => rw [hl] at hh; cases hh
      | some d' =>
        rw [hl] at hh
        cases hh
        obtain ⟨v, hv, rv⟩ := fr.lookup hl
        exact iteT ⟨.ref a, hsl, rfl, rfl, dd, vs, v, rfl, hd, hv, q v rv⟩
end
end LT
set_option Elab.async false
set_option linter.all false
set_option maxRecDepth 100000
namespace LT
open PySem PySem.Spec PyProof.Rows L2
/-! ### the facts of a text, bundled -/
structure DefOk (P : Program) (w : World) (K : PySem.W.Frag) (mg : Str → Option Value) (base : Heap) (B : Tz) (x : Str) (k n : Nat) (F : MF) (dv : List Dt) : Prop where
  ex : ∃ f fd ps dfs dvs, mg x = some (.ref f) ∧ PySem.W.keepIn K (.ref f) = true ∧ Binds K fd ps dfs ∧ Vals dvs dfs ∧ (∀ rs H f, RVs K ⟨B, rs⟩ H f dv dvs) ∧ FnOk P w K mg base (L2.CX P w) k f fd ps (spF K B n F)
structure MakeOk (P : Program) (w : World) (K : PySem.W.Frag) (mg : Str → Option Value) (base : Heap) (B : Tz) (x : Str) (c k n : Nat) (F : MF) (dv : List Dt) : Prop where
  ex : ∃ f fd ps dfs dvs, Mk K (B.cls c) f ∧ mg x = some (.ref (B.cls c)) ∧ Binds K fd ps dfs ∧ Vals dvs dfs ∧ (∀ rs H f, RVs K ⟨B, rs⟩ H f dv dvs) ∧ FnOk P w K mg base (L2.CX P w) k f fd ps (spF K B n F)
structure MethOk (P : Program) (w : World) (K : PySem.W.Frag) (mg : Str → Option Value) (base : Heap) (B : Tz) (m : Str) (c mk k n : Nat) (F : MF) (dv : List Dt) : Prop where
  nm : B.fld mk = m
  ex : ∃ f fd ps dfs dvs, Cls K (B.cls c) ∧ Meth K (B.cls c) m f ∧ Binds K fd ps dfs ∧ Vals dvs dfs ∧ (∀ rs H f, RVs K ⟨B, rs⟩ H f dv dvs) ∧ FnOk P w K mg base (L2.CX P w) k f fd ps (spF K B n F)
structure ErrOk (P : Program) (w : World) (K : PySem.W.Frag) (mg : Str → Option Value) (base : Heap) (B : Tz) (x fn : Str) (c k j : Nat) : Prop where
  nm : B.fld k = fn
  mgC : mg x = some (.ref (B.cls c))
  ox : OexC K (B.cls c)
  no : PySem.W.findIn K (.ref (B.cls c)) fn = some none
  ex : ∃ fI fd, PySem.W.findIn K (.ref (B.cls c)) "__init__" = some (some (.ref fI)) ∧ PySem.W.typeIn K (.ref fI) = some (.type "function") ∧ Binds K fd ["self", fn] [] ∧ FnOk P w K mg base (L2.CX P w) j fI fd ["self", fn] (spErr K fn)
structure FldOk (K : PySem.W.Frag) (B : Tz) (cs : List Nat) (k : Nat) (fn : Str) : Prop where
  nm : B.fld k = fn
  ok : ∀ c, cs.contains c = true → Cls K (B.cls c) ∧ NoAttr K (B.cls c) fn
structure ConstOk (K : PySem.W.Frag) (mg : Str → Option Value) (x : Str) (d : Dt) : Prop where
  ex : ∃ u v, mg x = some u ∧ RelV v u ∧ ∀ T H f, RV K T H f d v
section
variable {X : Cx} {T : Tb} {W : WX} {e o : Expr} {es : List Expr} {ms : MA} {me mo : ME} {pos p p' apos : Pos} {k n c mk : Nat} {F : MF} {dv : List Dt} {x m fn : Str}
theorem ie_callD (D : DefOk X.prog X.w X.K X.mg X.base T.b x k n F dv) (hr : Room k X.A) (tk : Takes X W) (ha : IA X T W (e :: es) ms) (hg : Gl X x := by rfl) (hdb : (x == ("__debug__" : Str)) = false := by decide)
    (he : starEach (e :: es) X.env = (false, eval e X.env) :: starEach es X.env := by rfl) (hpl : (backTo pos (starEach es X.env)).any (·.1) = false := by rfl) : IE X T W (.Call (.Name x p) (e :: es) [] pos) (mCall n F ms dv) := by
  obtain ⟨f, fd, ps, dfs, dvs, h1, h2, h3, h4, h5, h6⟩ := D.ex
  exact ie_call h6 hr h1 h2 h3 h4 (h5 T.rs) tk ha hg hdb he hpl
theorem ie_makeD (D : MakeOk X.prog X.w X.K X.mg X.base T.b x c k n F dv) (hr : Room (k + 1) X.A) (tk : Takes X W) (ha : IA X T W (e :: es) ms) (hg : Gl X x := by rfl) (hdb : (x == ("__debug__" : Str)) = false := by decide)
    (he : starEach (e :: es) X.env = (false, eval e X.env) :: starEach es X.env := by rfl) (hpl : (backTo pos (starEach es X.env)).any (·.1) = false := by rfl) : IE X T W (.Call (.Name x p) (e :: es) [] pos) (mMake c n F ms dv) := by
  obtain ⟨f, fd, ps, dfs, dvs, h1, h2, h3, h4, h5, h6⟩ := D.ex
  exact ie_make h1 h6 hr h2 h3 h4 (h5 T.rs) tk ha hg hdb he hpl
theorem ie_makeD0 (D : MakeOk X.prog X.w X.K X.mg X.base T.b x c k n F dv) (hr : Room (k + 1) X.A) (tk : Takes X W) (hg : Gl X x := by rfl) (hdb : (x == ("__debug__" : Str)) = false := by decide) : IE X T W (.Call (.Name x p) [] [] pos) (mMake c n F mNil dv) := by
  obtain ⟨f, fd, ps, dfs, dvs, h1, h2, h3, h4, h5, h6⟩ := D.ex
  exact ie_make0 h1 h6 hr h2 h3 h4 (h5 T.rs) tk hg hdb
theorem ie_makeDV (D : MakeOk X.prog X.w X.K X.mg X.base T.b x c k n F dv) (hr : Room (k + 1) X.A) (tk : Takes X W) (ha : IA X T W (e :: es) ms) (hg : Gl X x := by rfl) (hdb : (x == ("__debug__" : Str)) = false := by decide)
    (he : starEach (e :: es) X.env = (false, eval e X.env) :: starEach es X.env := by rfl) (hpl : (backTo pos (starEach es X.env)).any (·.1) = false := by rfl) : IE X T W (.Call (.Name x p) (e :: es) [] pos) (mMakeV c n F ms dv) := by
  obtain ⟨f, fd, ps, dfs, dvs, h1, h2, h3, h4, h5, h6⟩ := D.ex
  exact ie_makeV h1 h6 hr h2 h3 h4 (h5 T.rs) tk ha hg hdb he hpl
theorem ie_makeDV0 (D : MakeOk X.prog X.w X.K X.mg X.base T.b x c k n F dv) (hr : Room (k + 1) X.A) (tk : Takes X W) (hg : Gl X x := by rfl) (hdb : (x == ("__debug__" : Str)) = false := by decide) : IE X T W (.Call (.Name x p) [] [] pos) (mMakeV c n F mNil dv) := by
  obtain ⟨f, fd, ps, dfs, dvs, h1, h2, h3, h4, h5, h6⟩ := D.ex
  exact ie_makeV0 h1 h6 hr h2 h3 h4 (h5 T.rs) tk hg hdb
theorem ie_methD {pl : Sem Bool} (D : MethOk X.prog X.w X.K X.mg X.base T.b m c mk k n F dv) (hr : Room k X.A) (tk : Takes X W) (ho : IE X T W o mo) (ha : IA X T W (e :: es) ms)
    (hst : starEach (e :: es) X.env = (false, eval e X.env) :: starEach es X.env := by rfl) (hpl : (backTo pos (starEach es X.env)).any (·.1) = false := by rfl)
    (ht : eval (.Call (.Attribute o m apos) (e :: es) [] pos) X.env = (do
      let ov ← eval o X.env
      standAt apos.atName
      let (f, first) ← holding [ov] (getMethod ov m pl)
      callWith pos f first (backTo pos (starEach (e :: es) X.env)) (backToKw pos (keywordEach [] X.env))) := by rfl) : IE X T W (.Call (.Attribute o m apos) (e :: es) [] pos) (mMeth c mk n F mo ms dv) := by
  obtain ⟨f, fd, ps, dfs, dvs, h1, h2, h3, h4, h5, h6⟩ := D.ex
  exact ie_meth (pl := pl) D.nm ho h1 h2 h6 hr h3 h4 (h5 T.rs) tk ha hst hpl ht
theorem ie_methD0 {pl : Sem Bool} (D : MethOk X.prog X.w X.K X.mg X.base T.b m c mk k n F dv) (hr : Room k X.A) (tk : Takes X W) (ho : IE X T W o mo)
    (ht : eval (.Call (.Attribute o m apos) [] [] pos) X.env = (do
      let ov ← eval o X.env
      standAt apos.atName
      let (f, first) ← holding [ov] (getMethod ov m pl)
      callWith pos f first (backTo pos (starEach [] X.env)) (backToKw pos (keywordEach [] X.env))) := by rfl) : IE X T W (.Call (.Attribute o m apos) [] [] pos) (mMeth c mk n F mo mNil dv) := by
  obtain ⟨f, fd, ps, dfs, dvs, h1, h2, h3, h4, h5, h6⟩ := D.ex
  exact ie_meth0 (pl := pl) D.nm ho h1 h2 h6 hr h3 h4 (h5 T.rs) tk ht
theorem is_raiseD {j : Nat} (D : ErrOk X.prog X.w X.K X.mg X.base T.b x fn c k j) (hr : Room (j + 1) X.A) (hc : X.calm = true) (tk : Takes X W) (he : IE X T W e me) (hg : Gl X x := by rfl) (hdb : (x == ("__debug__" : Str)) = false := by decide)
    (h1 : starEach [e] X.env = (false, eval e X.env) :: starEach [] X.env := by rfl) (hpl : (backTo p' (starEach [] X.env)).any (·.1) = false := by rfl) : IS X T W (.Raise (some (.Call (.Name x p) [e] [] p')) none pos) (sRaise c k me) := by
  obtain ⟨fI, fd, a1, a2, a3, a4⟩ := D.ex
  exact is_raise c k rfl D.nm D.ox a1 a2 D.no a4 hr a3 D.mgC hc tk he hg hdb h1 hpl
theorem ie_fldD {cs : List Nat} (D : FldOk X.K T.b cs k fn) (he : IE X T W e me) (hb : attributeBase e fn X.env (eval e X.env) = eval e X.env := by rfl) : IE X T W (.Attribute e fn pos) (mFld cs k me) := ie_fld cs k D.nm D.ok he hb
theorem is_fldD {cs : List Nat} (D : FldOk X.K T.b cs k fn) (ho : IE X T W o mo) (he : IE X T W e me) (hs : swapsWith e (some (.Attribute o fn p')) pos.line X.env = pure false := by rfl) : IS X T W (.Assign [.Attribute o fn p'] e pos) (sFldSet cs k mo me) := is_fld cs k D.nm D.ok ho he hs
theorem ie_const {d : Dt} (D : ConstOk X.K X.mg x d) (hg : Gl X x := by rfl) (hdb : (x == ("__debug__" : Str)) = false := by decide) : IE X T W (.Name x pos) (mC d) := by
  obtain ⟨u, v, h1, h2, h3⟩ := D.ex
  exact PEw (pe_glob hg h1 h2 hdb) fun σ H Q ⟨f, env, st, re, rh, p⟩ => p.now rh (h3 T H f)
theorem pe_ty {n : String} (hm : X.mg x = none) (hv : bootBuiltins x = some (.type n) := by decide +kernel) (hg : Gl X x := by rfl) (h1 : x ≠ "__name__" := by decide) (hdb : (x == ("__debug__" : Str)) = false := by decide) : PE X (.Name x pos) (tC (.ty n)) := pe_bltn hg hm hv rfl h1 hdb
theorem pe_own {C : Addr} (hm : X.mg x = some (.ref C)) (hg : Gl X x := by rfl) (hdb : (x == ("__debug__" : Str)) = false := by decide) : PE X (.Name x pos) (tC (.ref C)) := pe_glob hg hm rfl hdb
end
section
variable {P : Program} {w : World} {K : PySem.W.Frag} {mg : Str → Option Value} {base : Heap} {B : Tz}
theorem fn_okD {x qual : Str} {params : Arguments} {body : List Stmt} {scope : Scope} {dvs : List V} {kws : List (Str × V)} {f : Addr} {fd : FuncData} {N ps : List Str} {k : Nat} {m : MS} (F : FunD K x qual params body scope dvs kws f fd) (S : FnScope N ps scope)
    (hb : ∀ (cdv : Value) (A : Around) (outer : List Env) (s : Shared) (H : Hp) (E : XK) (rs : List Addr), Room k (A.deeper (envOfC qual scope s.heap.objs.size f cdv)) →
      ISs (cxOf (L2.CX P w) P w K mg base N qual scope f cdv A outer s H E) ⟨B, rs⟩ (fun cls d _ H => E cls d H) body m) : FnOk P w K mg base (L2.CX P w) (k + 1) f fd ps (spF K B ps.length (runF N.length m)) := by
  refine F.ok S (fun vs H Q E h => h.1) fun cdv A outer s H vs Q E hr h => ?_
  obtain ⟨_, rs, f0, ds, st0, rvs, rh, p⟩ := h
  refine ⟨_, hb cdv A outer s H E rs hr, f0, startE N.length ds, st0, REn.start rvs, rh, ?_⟩
  unfold runF at p
  show PostS K ⟨B, rs⟩ (fun cls d _ H => E cls d H) f0 H (m (startE N.length ds) st0) _
  cases hm : m (startE N.length ds) st0 with
  | nx e1 s1 => rw [hm] at p; exact fun f' H' σ' hp s rh' _ => p f' H' .non hp s rh' .non
  | rt d s1 => rw [hm] at p; exact p
  | ex e1 c fs s1 => rw [hm] at p; exact fun f' H' σ' cls d hp s rh' _ xr => p f' H' cls d hp s rh' xr
  | bk e1 s1 => rw [hm] at p; exact p.elim
  | ct e1 s1 => rw [hm] at p; exact p.elim
  | stuck => rw [hm] at p; exact p.elim
theorem fn_stuck {f : Addr} {fd : FuncData} {ps : List Str} {k n : Nat} (hn : ps.length = n) : FnOk P w K mg base (L2.CX P w) k f fd ps (spF K B n (fun _ _ => .stuck)) :=
  ⟨fun vs H Q E h => h.1.trans hn.symm, fun A outer s H args us vs Q E hr e0 hb r h => by
    obtain ⟨_, _, _, _, _, _, _, p⟩ := h
    exact p.elim⟩
end
/-! ### fields by number -/
def mkFld (tbl : List Str) (i : Nat) : Str := match tbl[i]? with
  | some x => x
  | none => ⟨#[0, i]⟩
def tblOk (tbl : List Str) : Bool := decide tbl.Nodup && tbl.all fun x => decide (x.cps[0]? ≠ some 0)
theorem mkFld_inj {tbl : List Str} (h : tblOk tbl = true) (i j : Nat) (e : mkFld tbl i = mkFld tbl j) : i = j := by
  unfold tblOk at h
  rw [Bool.and_eq_true] at h
  have nd := of_decide_eq_true h.1
  have al := List.all_eq_true.mp h.2
  unfold mkFld at e
  cases hi : tbl[i]? with
  | some x =>
    rw [hi] at e
    cases hj : tbl[j]? with
    | some y =>
      rw [hj] at e
      have e' : x = y := e
      subst e'
      exact (List.getElem?_inj (List.getElem?_eq_some_iff.mp hi).1 nd).mp (hi.trans hj.symm)
    | none =>
      rw [hj] at e
      have e' : x = ⟨#[0, j]⟩ := e
      have := of_decide_eq_true (al x (List.mem_iff_getElem?.mpr ⟨i, hi⟩))
      rw [e'] at this
      exact absurd rfl this
  | none =>
    rw [hi] at e
    cases hj : tbl[j]? with
    | some y =>
      rw [hj] at e
      have e' : (⟨#[0, i]⟩ : Str) = y := e
      have := of_decide_eq_true (al y (List.mem_iff_getElem?.mpr ⟨j, hj⟩))
      rw [← e'] at this
      exact absurd rfl this
    | none =>
      rw [hj] at e
      have e' : (⟨#[0, i]⟩ : Str) = ⟨#[0, j]⟩ := e
      have e2 : #[0, i] = #[0, j] := Str.mk.inj e'
      simpa using e2
end LT
set_option Elab.async false
set_option linter.all false
set_option maxRecDepth 100000
namespace LT
open PySem PySem.Spec PyProof.Rows L2
/-! ### isinstance by names -/
def qB (g : Tk → Bool) (cs : List Nat) : Tk → Option Bool
  | .ins c => if cs.contains c then some false else none
  | t => some (g t)
def tStr : Tk → Bool
  | .str => true
  | _ => false
def tInt : Tk → Bool
  | .int => true
  | .bl => true
  | _ => false
def tBool : Tk → Bool
  | .bl => true
  | _ => false
def tTup : Tk → Bool
  | .tup => true
  | _ => false
def tSeqs : Tk → Bool
  | .tup => true
  | .lst => true
  | _ => false
def tNo : Tk → Bool := fun _ => false
structure IsB (K : PySem.W.Frag) (T : Tz) (us : List Value) (cs : List Nat) : Prop where
  ok : ∀ c, cs.contains c = true → InsT K (T.cls c) ∧ PySem.W.kitAny K (.ref (T.cls c)) us = some false
theorem kitAny1 {K : PySem.W.Frag} {t c : Value} {b : Bool} (h : PySem.W.kitAny K t [c] = some b) : PySem.W.kitOne K t c = some b := by
  unfold PySem.W.kitAny at h
  cases hk : PySem.W.kitOne K t c with
  | none => rw [hk] at h; cases h
  | some v =>
    rw [hk] at h
    cases v with
    | true => exact h
    | false => exact h
/-- the answers for what is built in -/
def KitOk (us : List Value) (g : Tk → Bool) : Prop := ∀ (K : PySem.W.Frag) (T : Tz) (t : Tk), (∀ c, t ≠ .ins c) → PySem.W.kitAny K (tkV T t) us = some (g t)
theorem kit_one_any {K : PySem.W.Frag} {t u : Value} {b : Bool} (h : PySem.W.kitOne K t u = some b) : PySem.W.kitAny K t [u] = some b := by
  unfold PySem.W.kitAny
  rw [h]
  cases b <;> rfl
theorem kitok_str : KitOk [.type "str"] tStr := fun K T t h => by
  cases t <;> first | exact kit_one_any (kit_ty (by decide +kernel)) | exact absurd rfl (h _)
theorem kitok_int : KitOk [.type "int"] tInt := fun K T t h => by
  cases t <;> first | exact kit_one_any (kit_ty (by decide +kernel)) | exact absurd rfl (h _)
theorem kitok_bool : KitOk [.type "bool"] tBool := fun K T t h => by
  cases t <;> first | exact kit_one_any (kit_ty (by decide +kernel)) | exact absurd rfl (h _)
theorem kitok_tuple : KitOk [.type "tuple"] tTup := fun K T t h => by
  cases t <;> first | exact kit_one_any (kit_ty (by decide +kernel)) | exact absurd rfl (h _)
theorem kit_two_any {K : PySem.W.Frag} {t u v : Value} {a b : Bool} (h : PySem.W.kitOne K t u = some a) (h2 : PySem.W.kitOne K t v = some b) : PySem.W.kitAny K t [u, v] = some (a || b) := by
  unfold PySem.W.kitAny
  rw [h]
  cases a with
  | true => rfl
  | false => exact kit_one_any h2
theorem kitok_seq : KitOk [.type "list", .type "tuple"] tSeqs := fun K T t h => by
  cases t <;> first
    | exact kit_two_any (a := false) (b := false) (kit_ty (by decide +kernel)) (kit_ty (by decide +kernel))
    | exact kit_two_any (a := true) (b := false) (kit_ty (by decide +kernel)) (kit_ty (by decide +kernel))
    | exact kit_two_any (a := false) (b := true) (kit_ty (by decide +kernel)) (kit_ty (by decide +kernel))
    | exact absurd rfl (h _)
section
variable {X : Cx} {T : Tb} {W : WX} {e : Expr} {me : ME} {pos p : Pos}
theorem qB_ins {g : Tk → Bool} {cs : List Nat} {c : Nat} {b : Bool} (h : qB g cs (.ins c) = some b) : cs.contains c = true ∧ b = false := by
  have h' : (if cs.contains c then some false else none) = some b := h
  split at h'
  · rename_i q; cases h'; exact ⟨q, rfl⟩
  · cases h'
theorem qB_any {K : PySem.W.Frag} {us : List Value} {g : Tk → Bool} {cs : List Nat} (B : IsB K T.b us cs) (ko : KitOk us g) (t : Tk) (b : Bool) (h : qB g cs t = some b) : PySem.W.kitAny K (tkV T.b t) us = some b := by
  cases t with
  | ins c => obtain ⟨q, rfl⟩ := qB_ins h; exact (B.ok c q).2
  | _ =>
    cases h
    exact ko K T.b _ fun c z => Tk.noConfusion z
theorem ie_isB {n : String} {x : Str} {pc : Pos} {g : Tk → Bool} {cs : List Nat} (ko : KitOk [.type n] g) (B : IsB X.K T.b [.type n] cs) (hm : X.mg "isinstance" = none) (hc : PE X (.Name x pc) (tC (.ty n))) (he : IE X T W e me)
    (hg : Gl X "isinstance" := by rfl) (h1 : starEach [e, .Name x pc] X.env = (false, eval e X.env) :: starEach [.Name x pc] X.env := by rfl) (h2 : starEach [.Name x pc] X.env = (false, eval (.Name x pc) X.env) :: starEach [] X.env := by rfl) (hpl : (backTo pos (starEach [.Name x pc] X.env)).any (·.1) = false := by rfl) :
    IE X T W (.Call (.Name "isinstance" p) [e, .Name x pc] [] pos) (mIsI (qB g cs) me) :=
  ie_isi _ hm (fun c b h => (B.ok c (qB_ins h).1).1) (fun t b h => kitAny1 (qB_any B ko t b h)) (.ty n) hc he hg h1 h2 hpl
theorem ie_isB2 {n1 n2 : String} {c1 c2 : Expr} {kt : Nat} {pt : Pos} {g : Tk → Bool} {cs : List Nat} (ko : KitOk [.type n1, .type n2] g) (B : IsB X.K T.b [.type n1, .type n2] cs) (hm : X.mg "isinstance" = none) (hc1 : PE X c1 (tC (.ty n1))) (hc2 : PE X c2 (tC (.ty n2))) (he : IE X T W e me)
    (hg : Gl X "isinstance" := by rfl) (h1 : starEach [e, .Tuple [c1, c2] kt pt] X.env = (false, eval e X.env) :: starEach [.Tuple [c1, c2] kt pt] X.env := by rfl) (h2 : starEach [.Tuple [c1, c2] kt pt] X.env = (false, eval (.Tuple [c1, c2] kt pt) X.env) :: starEach [] X.env := by rfl)
    (h3 : starEach [c1, c2] X.env = (false, eval c1 X.env) :: starEach [c2] X.env := by rfl) (h4 : starEach [c2] X.env = (false, eval c2 X.env) :: starEach [] X.env := by rfl) (hpl : (backTo pos (starEach [.Tuple [c1, c2] kt pt] X.env)).any (·.1) = false := by rfl) :
    IE X T W (.Call (.Name "isinstance" p) [e, .Tuple [c1, c2] kt pt] [] pos) (mIsI (qB g cs) me) :=
  ie_isi2 _ hm (fun c b h => (B.ok c (qB_ins h).1).1) (qB_any B ko) (.ty n1) (.ty n2) hc1 hc2 he hg h1 h2 h3 h4 hpl
/-- own classes: c0 the one asked for -/
def qO (c0 : Nat) (cs : List Nat) : Tk → Option Bool
  | .ins c => if c = c0 then some true else if cs.contains c then some false else none
  | _ => some false
structure IsO (K : PySem.W.Frag) (mg : Str → Option Value) (T : Tz) (x : Str) (c0 : Nat) (cs : List Nat) : Prop where
  mgC : mg x = some (.ref (T.cls c0))
  me : InsT K (T.cls c0) ∧ PySem.W.kitOne K (.ref (T.cls c0)) (.ref (T.cls c0)) = some true
  ok : ∀ c, c ≠ c0 → cs.contains c = true → InsT K (T.cls c) ∧ PySem.W.kitOne K (.ref (T.cls c)) (.ref (T.cls c0)) = some false
  bt : ∀ t : Tk, (∀ c, t ≠ .ins c) → PySem.W.kitOne K (tkV T t) (.ref (T.cls c0)) = some false
theorem ie_isO {x : Str} {pc : Pos} {c0 : Nat} {cs : List Nat} (B : IsO X.K X.mg T.b x c0 cs) (hm : X.mg "isinstance" = none) (he : IE X T W e me)
    (hgx : Gl X x := by rfl) (hdb : (x == ("__debug__" : Str)) = false := by decide) (hg : Gl X "isinstance" := by rfl) (h1 : starEach [e, .Name x pc] X.env = (false, eval e X.env) :: starEach [.Name x pc] X.env := by rfl) (h2 : starEach [.Name x pc] X.env = (false, eval (.Name x pc) X.env) :: starEach [] X.env := by rfl) (hpl : (backTo pos (starEach [.Name x pc] X.env)).any (·.1) = false := by rfl) :
    IE X T W (.Call (.Name "isinstance" p) [e, .Name x pc] [] pos) (mIsI (qO c0 cs) me) := by
  have ins : ∀ c b, qO c0 cs (.ins c) = some b → InsT X.K (T.cls c) ∧ PySem.W.kitOne X.K (.ref (T.cls c)) (.ref (T.cls c0)) = some b := fun c b h => by
    have h' : (if c = c0 then some true else if cs.contains c then some false else none) = some b := h
    split at h'
    · rename_i q; subst q; cases h'; exact B.me
    · rename_i q0
      split at h'
      · rename_i q; cases h'; exact B.ok c q0 q
      · cases h'
  exact ie_isi _ hm (fun c b h => (ins c b h).1) (fun t b h => by
    cases t with
    | ins c => exact (ins c b h).2
    | _ => cases h; exact B.bt _ fun c z => Tk.noConfusion z) (.own _) (pe_own (pos := pc) B.mgC hgx hdb) he hg h1 h2 hpl
end
end LT
set_option Elab.async false
set_option linter.all false
set_option maxRecDepth 100000
namespace LT
open PySem PySem.Spec PyProof.Rows L2
/-- what the suite «found = e.F if isinstance(e, A) and not isinstance(e, B) else z» leans on -/
structure SuOk (K : PySem.W.Frag) (mg : Str → Option Value) (T : Tz) (x xA xB fn : Str) (k : Nat) (m : Nat → Option Bool) (isA isB : Nat → Bool) : Prop where
  nm : T.fld k = fn
  ex : ∃ Cx CA CB, mg x = some (.ref Cx) ∧ mg xA = some (.ref CA) ∧ mg xB = some (.ref CB) ∧ (∀ c, m c = some false → PySem.W.exmOne K (.ref (T.cls c)) (.ref Cx) = some false) ∧
    ∀ c, m c = some true → PySem.W.exmOne K (.ref (T.cls c)) (.ref Cx) = some true ∧ ExcC K (T.cls c) ∧ XfC K (T.cls c) ∧ PySem.W.findIn K (.ref (T.cls c)) fn = some none ∧ PySem.W.kitOne K (.ref (T.cls c)) (.ref CA) = some (isA c) ∧ PySem.W.kitOne K (.ref (T.cls c)) (.ref CB) = some (isB c)
section
variable {X : Cx} {T : Tb} {W : WX}
theorem is_tryA {m : Nat → Option Bool} {isA isB : Nat → Bool} {k : Nat} {z : List Nat} {zs n fn y x xA xB : Str} {pA pB p1 p2 p3 p4 p5 p6 p7 p8 p9 p10 p11 p12 p13 p14 np pos pos' : Pos} {jj : Nat} {body : List Stmt} {mb : MS}
    (S : SuOk X.K X.mg T.b x xA xB fn k m isA isB) (j i : Nat) (hij : j ≠ i) (hN : X.N.Nodup) (hm : X.mg "isinstance" = none) (tk : Takes X W) (hz : zs.cps.toList = z)
    (hb : ∀ (W' : WX) (pn : List (Addr × Obj)) (xe : Value → Shared → Prop), Takes (X.tr pn xe) W' → ISs (X.tr pn xe) T W' body mb)
    (hi : X.N[i]? = some n := by rfl) (hj : X.N[j]? = some y := by rfl) (hvi : X.env.scope.names.lookup n = some .local := by rfl) (hvj : X.env.scope.names.lookup y = some .local := by rfl) (hg : Gl X "isinstance" := by rfl) (hgA : Gl X xA := by rfl) (hgB : Gl X xB := by rfl) (hgx : Gl X x := by rfl)
    (d1 : (n == ("__debug__" : Str)) = false := by decide) (d2 : (n == ("__classdict__" : Str)) = false := by decide) (d3 : (xA == ("__debug__" : Str)) = false := by decide) (d4 : (xB == ("__debug__" : Str)) = false := by decide) (d5 : (x == ("__debug__" : Str)) = false := by decide)
    (ha : attributeBase (.Name n p9) fn X.env (eval (.Name n p9) X.env) = eval (.Name n p9) X.env := by rfl)
    (hs : swapsWith (.IfExp (.BoolOp .And [.Call (.Name "isinstance" p1) [.Name n p2, .Name xA p3] [] p4, .UnaryOp .Not (.Call (.Name "isinstance" p5) [.Name n p6, .Name xB p7] [] p8) p13] p14) (.Attribute (.Name n p9) fn p10) (.Constant (.str zs) jj p11) p12) (some (.Name y pA)) pB.line X.env = pure false := by rfl)
    (h1 : ∀ (q r : Pos) (xx : Str), starEach [.Name n q, .Name xx r] X.env = (false, eval (.Name n q) X.env) :: starEach [.Name xx r] X.env := by intro _ _ _; rfl) (h2 : ∀ (r : Pos) (xx : Str), starEach [.Name xx r] X.env = (false, eval (.Name xx r) X.env) :: starEach [] X.env := by intro _ _; rfl)
    (h3 : ∀ (r q : Pos) (xx : Str), (backTo q (starEach [.Name xx r] X.env)).any (·.1) = false := by intro _ _ _; rfl)
    (h4 : ∀ whole, isTrue (.Call (.Name "isinstance" p1) [.Name n p2, .Name xA p3] [] p4) X.env whole = (do let v ← whole; standAt (Expr.Call (.Name "isinstance" p1) [.Name n p2, .Name xA p3] [] p4).pos; holding [v] (truthy v)) := by intro _; rfl)
    (h5 : ∀ whole, isTrue (.Call (.Name "isinstance" p5) [.Name n p6, .Name xB p7] [] p8) X.env whole = (do let v ← whole; standAt (Expr.Call (.Name "isinstance" p5) [.Name n p6, .Name xB p7] [] p8).pos; holding [v] (truthy v)) := by intro _; rfl)
    (hst : X.stack = X.env :: X.outer := by rfl) (hf : X.env.frame = some X.env.locals := by rfl) :
    IS X T W (.Try body [.ExceptHandler (some (.Name x np)) (some n) [.Assign [.Name y pA] (.IfExp (.BoolOp .And [.Call (.Name "isinstance" p1) [.Name n p2, .Name xA p3] [] p4, .UnaryOp .Not (.Call (.Name "isinstance" p5) [.Name n p6, .Name xB p7] [] p8) p13] p14) (.Attribute (.Name n p9) fn p10) (.Constant (.str zs) jj p11) p12) pB] pos'] [] [] pos)
      (sTry mb (hA m isA isB k z) j i) := by
  obtain ⟨Cx, CA, CB, e1, e2, e3, hno, hyes⟩ := S.ex
  have mtrue : ∀ c fs d, hA m isA isB k z c fs = some (some d) → m c = some true := fun c fs d h => by
    unfold hA at h
    cases h0 : m c with
    | none => rw [h0] at h; cases h
    | some b =>
      cases b with
      | true => rfl
      | false => rw [h0] at h; cases h
  have mfalse : ∀ c fs, hA m isA isB k z c fs = some none → m c = some false := fun c fs h => by
    unfold hA at h
    cases h0 : m c with
    | none => rw [h0] at h; cases h
    | some b =>
      cases b with
      | false => rfl
      | true =>
        rw [h0] at h
        simp only at h
        split at h
        · split at h <;> cases h
        · cases h
  exact is_try j i hij hN ⟨hgx, d5, .inl e1⟩ tk (fun c fs h => hno c (mfalse c fs h)) (fun c fs d h => (hyes c (mtrue c fs d h)).1) hb
    (fun a oe cls d pn zc fl => su_A S.nm hz hN hm e2 e3 (fun c h => (hyes c h).2) hi hj (.inl hvi) hvj hg hgA hgB d1 d2 d3 d4 ha a oe cls d pn zc fl hs h1 h2 h3 h4 h5) hi hvi hst hf
end
end LT
set_option Elab.async false
set_option linter.all false
set_option maxRecDepth 100000
namespace LT
open PySem PySem.Spec PyProof.Rows L2
/-! ### stores that grow: all stands but what M names -/
structure Xm (M : List Nat) (st st' : Sto) : Prop where
  len : st.length ≤ st'.length
  get : ∀ i, i < st.length → i ∉ M → st'[i]? = st[i]?
theorem Xm.refl {M : List Nat} {st : Sto} : Xm M st st := ⟨Nat.le_refl _, fun _ _ _ => rfl⟩
theorem Xm.trans {M : List Nat} {a b c : Sto} (h : Xm M a b) (k : Xm M b c) : Xm M a c := ⟨Nat.le_trans h.len k.len, fun i hi hm => (k.get i (Nat.lt_of_lt_of_le hi h.len) hm).trans (h.get i hi hm)⟩
theorem Xm.app {M : List Nat} {st g : Sto} : Xm M st (st ++ g) := ⟨by rw [List.length_append]; omega, fun i hi _ => List.getElem?_append_left hi⟩
theorem Xm.mono {M N : List Nat} {a b : Sto} (h : Xm M a b) (hs : ∀ i ∈ M, i ∈ N) : Xm N a b := ⟨h.len, fun i hi hm => h.get i hi fun z => hm (hs i z)⟩
theorem Xm.set {M : List Nat} {st : Sto} {i : Nat} {o : Ob} (h : i ∈ M) : Xm M st (st.set i o) := ⟨by rw [List.length_set]; exact Nat.le_refl _, fun j hj hm => List.getElem?_set_ne fun e => hm (by rw [← e]; exact h)⟩
theorem Xm.setN {M : List Nat} {a b : Sto} {i : Nat} {o : Ob} (h : Xm M a b) (hi : a.length ≤ i) : Xm M a (b.set i o) := ⟨by rw [List.length_set]; exact h.len, fun j hj hm => by rw [List.getElem?_set_ne (by omega)]; exact h.get j hj hm⟩
theorem Xm.at {M : List Nat} {a b : Sto} {i : Nat} {o : Ob} (h : Xm M a b) (ho : a[i]? = some o) (hm : i ∉ M) : b[i]? = some o := by
  rw [h.get i (List.getElem?_eq_some_iff.mp ho).1 hm]
  exact ho
/-- alone but the new -/
theorem Xm.pure {M : List Nat} {a b : Sto} (h : Xm [] a b) : Xm M a b := h.mono fun i hi => by cases hi
def outF : Rs → Re Dt
  | .nx _ st' => .ok .non st'
  | .rt d st' => .ok d st'
  | .ex _ c fs st' => .exc c fs st'
  | _ => .stuck
theorem runF_out (n : Nat) (m : MS) (ds : List Dt) (st : Sto) : runF n m ds st = outF (m (startE n ds) st) := by
  unfold runF outF
  cases m (startE n ds) st <;> rfl
/-! ### loops -/
/-- a for loop by an invariant: every turn goes on -/
theorem forL_go {w : Wk} {g : MG} {body : MS} (n : Nat) (J : Nat → Lo → Sto → Prop)
    (hstop : ∀ env st, J n env st → w.turn n st = .stop)
    (hgo : ∀ i env st, i < n → J i env st → ∃ d, w.turn i st = .item d ∧ ∃ env1 st1, g d env st = .nx env1 st1 ∧ ∃ env2 st2, (body env1 st1 = .nx env2 st2 ∨ body env1 st1 = .ct env2 st2) ∧ J (i + 1) env2 st2) :
    ∀ (m i : Nat) (env : Lo) (st : Sto), i + m = n → J i env st → ∃ env' st', forL w g body (m + 1) i env st = .nx env' st' ∧ J n env' st'
  | 0, i, env, st, e, h => by
    have e' : i = n := by omega
    subst e'
    exact ⟨env, st, by unfold forL; rw [hstop env st h], h⟩
  | m + 1, i, env, st, e, h => by
    obtain ⟨d, ht, env1, st1, hg, env2, st2, hb, hJ⟩ := hgo i env st (by omega) h
    obtain ⟨env', st', h1, h2⟩ := forL_go n J hstop hgo m (i + 1) env2 st2 (by omega) hJ
    refine ⟨env', st', ?_, h2⟩
    rw [← h1]
    conv => lhs; unfold forL
    rw [ht]
    simp only
    rw [hg]
    simp only
    rcases hb with hb | hb <;> rw [hb]
/-- a comprehension without a test, its items told one by one -/
theorem lcL_go {w : Wk} {g : MG} {te : ME} {env : Lo} {d : Nat} (n : Nat) (I : Sto → Prop) (P : Nat → Dt → Sto → Prop) (M : List Nat) (hd : d ∉ M) (hn : n < lim)
    (hI : ∀ st o, I st → I (st.set d o)) (hP : ∀ i y st o, P i y st → P i y (st.set d o)) (hPm : ∀ i y st st', P i y st → Xm M st st' → P i y st')
    (hstop : ∀ st, I st → w.turn n st = .stop)
    (hgo : ∀ i st, i < n → I st → d < st.length → ∃ x, w.turn i st = .item x ∧ ∃ env1, g x env st = .nx env1 st ∧ ∃ y st2, te env1 st = .ok y st2 ∧ Xm M st st2 ∧ I st2 ∧ P i y st2) :
    ∀ (m i : Nat) (st : Sto) (acc : List Dt), i + m = n → I st → st[d]? = some (.lst acc) → acc.length = i → (∀ j y, acc[j]? = some y → P j y st) →
      ∃ ys st', lcL w g mYes te env d (m + 1) i st = .ok (.ref d) st' ∧ Xm (d :: M) st st' ∧ I st' ∧ st'[d]? = some (.lst ys) ∧ ys.length = n ∧ ∀ j y, ys[j]? = some y → P j y st'
  | 0, i, st, acc, e, h, hacc, hl, hp => by
    have e' : i = n := by omega
    subst e'
    exact ⟨acc, st, by unfold lcL; rw [hstop st h], Xm.refl, h, hacc, hl, hp⟩
  | m + 1, i, st, acc, e, h, hacc, hl, hp => by
    have hdl : d < st.length := (List.getElem?_eq_some_iff.mp hacc).1
    obtain ⟨x, ht, env1, hg, y, st2, he, hx, hI2, hP2⟩ := hgo i st (by omega) h hdl
    have hacc2 : st2[d]? = some (.lst acc) := hx.at hacc hd
    have hdl2 : d < st2.length := (List.getElem?_eq_some_iff.mp hacc2).1
    obtain ⟨ys, st', h1, h2, h3, h4, h5, h6⟩ := lcL_go n I P M hd hn hI hP hPm hstop hgo m (i + 1) (st2.set d (.lst (acc ++ [y]))) (acc ++ [y]) (by omega) (hI _ _ hI2) (List.getElem?_set_self hdl2) (by rw [List.length_append, hl]; rfl) (fun j z hz => by
      refine hP _ _ _ _ ?_
      rcases Nat.lt_or_ge j acc.length with q | q
      · rw [List.getElem?_append_left q] at hz
        exact hPm _ _ _ _ (hp j z hz) hx
      · rw [List.getElem?_append_right q] at hz
        have : j - acc.length = 0 := by
          rcases Nat.eq_zero_or_pos (j - acc.length) with r | r
          · exact r
          · rw [List.getElem?_eq_none (by rw [List.length_singleton]; exact r)] at hz; cases hz
        rw [this] at hz
        have e1 : y = z := by simpa using hz
        subst e1
        have e2 : j = i := by omega
        subst e2
        exact hP2)
    refine ⟨ys, st', ?_, ((hx.mono fun i hi => List.mem_cons_of_mem _ hi).trans (Xm.set List.mem_cons_self)).trans h2, h3, h4, h5, h6⟩
    rw [← h1]
    conv => lhs; unfold lcL
    rw [ht]
    simp only
    rw [hg]
    simp only [mYes, if_true]
    rw [he]
    simp only
    rw [hacc2]
    simp only
    rw [if_pos (by omega)]
theorem wTup_item {ds : List Dt} {i : Nat} {d : Dt} {st : Sto} (h : ds[i]? = some d) : (wTup ds).turn i st = .item d := by
  show (match ds[i]? with | some d => Tn.item d | none => Tn.stop) = _
  rw [h]
theorem wTup_stop {ds : List Dt} {st : Sto} : (wTup ds).turn ds.length st = .stop := by
  show (match ds[ds.length]? with | some d => Tn.item d | none => Tn.stop) = _
  rw [List.getElem?_eq_none (Nat.le_refl _)]
theorem wLst_item {a n i : Nat} {xs : List Dt} {d : Dt} {st : Sto} (ha : st[a]? = some (.lst xs)) (h : xs[i]? = some d) : (wLst a n).turn i st = .item d := by
  show (match st[a]? with | some (.lst xs) => (match xs[i]? with | some d => Tn.item d | none => Tn.stop) | _ => Tn.stuck) = _
  rw [ha]
  simp only
  rw [h]
theorem wLst_stop {a n : Nat} {xs : List Dt} {st : Sto} (ha : st[a]? = some (.lst xs)) : (wLst a n).turn xs.length st = .stop := by
  show (match st[a]? with | some (.lst ys) => (match ys[xs.length]? with | some d => Tn.item d | none => Tn.stop) | _ => Tn.stuck) = _
  rw [ha]
  simp only
  rw [List.getElem?_eq_none (Nat.le_refl _)]
theorem wRng_item {lo : Int} {n i : Nat} {st : Sto} (h : i < n) : (wRng lo n).turn i st = .item (.int (lo + i)) := if_pos h
theorem wRng_stop {lo : Int} {n : Nat} {st : Sto} : (wRng lo n).turn n st = .stop := if_neg (Nat.lt_irrefl n)
/-- a comprehension over n turns, the list at the next place -/
theorem mLc_go {mw : MW} {g : MG} {te : ME} {vs : List Nat} {env : Lo} {st st1 : Sto} {w : Wk} (n : Nat) (I : Sto → Prop) (P : Nat → Dt → Sto → Prop) (M : List Nat) (hw : mw env st = .ok w st1) (hf : w.fuel = n + 1) (hM : ∀ i ∈ M, i < st1.length) (hn : n < lim)
    (hI : ∀ st o, I st → I (st.set st1.length o)) (hP : ∀ i y st o, P i y st → P i y (st.set st1.length o)) (hPm : ∀ i y st st', P i y st → Xm M st st' → P i y st') (h0 : I (st1 ++ [.lst []]))
    (hstop : ∀ st, I st → w.turn n st = .stop)
    (hgo : ∀ i st, i < n → I st → st1.length < st.length → ∃ x, w.turn i st = .item x ∧ ∃ env1, g x (wipeE env vs) st = .nx env1 st ∧ ∃ y st2, te env1 st = .ok y st2 ∧ Xm M st st2 ∧ I st2 ∧ P i y st2) :
    ∃ ys st', mLc mw g mYes te vs env st = .ok (.ref st1.length) st' ∧ Xm M st1 st' ∧ I st' ∧ st'[st1.length]? = some (.lst ys) ∧ ys.length = n ∧ ∀ j y, ys[j]? = some y → P j y st' := by
  have hd : st1.length ∉ M := fun z => Nat.lt_irrefl _ (hM _ z)
  obtain ⟨ys, st', h1, h2, h3, h4, h5, h6⟩ := lcL_go (env := wipeE env vs) n I P M hd hn hI hP hPm hstop hgo n 0 (st1 ++ [.lst []]) [] (by omega) h0 (by rw [List.getElem?_append_right (Nat.le_refl _), Nat.sub_self]; rfl) rfl (fun j y h => by simp at h)
  refine ⟨ys, st', ?_, ⟨Nat.le_trans (by rw [List.length_append]; omega) h2.len, fun i hi hm => ?_⟩, h3, h4, h5, h6⟩
  · unfold mLc
    rw [hw, Re.bind_ok, hf]
    exact h1
  · rw [h2.get i (by rw [List.length_append]; omega) (fun z => (List.mem_cons.mp z).elim (fun q => by omega) hm)]
    exact List.getElem?_append_left hi
/-- what a comprehension tells, turn by turn -/
def told (n : Nat) (p : Nat → Bool) (h : Nat → Dt) : List Dt := ((List.range n).filter p).map h
theorem told_yes {n : Nat} {p : Nat → Bool} {h : Nat → Dt} (e : p n = true) : told (n + 1) p h = told n p h ++ [h n] := by
  unfold told
  rw [List.range_succ, List.filter_append, List.map_append, List.filter_cons, if_pos e]
  rfl
theorem told_no {n : Nat} {p : Nat → Bool} {h : Nat → Dt} (e : p n = false) : told (n + 1) p h = told n p h := by
  unfold told
  rw [List.range_succ, List.filter_append, List.map_append, List.filter_cons, if_neg (by rw [e]; decide)]
  exact List.append_nil _
theorem told_len (n : Nat) (p : Nat → Bool) (h : Nat → Dt) : (told n p h).length ≤ n := by
  unfold told
  rw [List.length_map]
  exact Nat.le_trans (List.length_filter_le _ _) (by rw [List.length_range]; exact Nat.le_refl _)
theorem lcL_told {w : Wk} {g : MG} {tt : MT} {te : ME} {env : Lo} {d : Nat} (n : Nat) (I : Sto → Prop) (p : Nat → Bool) (h : Nat → Dt) (hn : n < lim)
    (hI : ∀ st o, I st → I (st.set d o)) (hstop : ∀ st, I st → w.turn n st = .stop)
    (hgo : ∀ i st, i < n → I st → d < st.length → ∃ x, w.turn i st = .item x ∧ ∃ env1, g x env st = .nx env1 st ∧ ∃ st2, tt env1 st = .ok (p i) st2 ∧ Xm [] st st2 ∧ I st2 ∧ (p i = true → ∃ st3, te env1 st2 = .ok (h i) st3 ∧ Xm [] st2 st3 ∧ I st3)) :
    ∀ (m i : Nat) (st : Sto), i + m = n → I st → st[d]? = some (.lst (told i p h)) →
      ∃ st', lcL w g tt te env d (m + 1) i st = .ok (.ref d) st' ∧ Xm [d] st st' ∧ I st' ∧ st'[d]? = some (.lst (told n p h))
  | 0, i, st, e, hi, hacc => by
    have e' : i = n := by omega
    subst e'
    exact ⟨st, by unfold lcL; rw [hstop st hi], Xm.refl, hi, hacc⟩
  | m + 1, i, st, e, hi, hacc => by
    have hdl : d < st.length := (List.getElem?_eq_some_iff.mp hacc).1
    obtain ⟨x, ht, env1, hg, st2, htt, hx2, hI2, hyes⟩ := hgo i st (by omega) hi hdl
    have hacc2 : st2[d]? = some (.lst (told i p h)) := hx2.at hacc (by simp)
    cases hp : p i with
    | false =>
      obtain ⟨st', h1, h2, h3, h4⟩ := lcL_told n I p h hn hI hstop hgo m (i + 1) st2 (by omega) hI2 (by rw [told_no hp]; exact hacc2)
      refine ⟨st', ?_, hx2.pure.trans h2, h3, h4⟩
      rw [← h1]
      conv => lhs; unfold lcL
      rw [ht]
      simp only
      rw [hg]
      simp only
      rw [htt, hp]
      rfl
    | true =>
      obtain ⟨st3, he, hx3, hI3⟩ := hyes hp
      have hacc3 : st3[d]? = some (.lst (told i p h)) := hx3.at hacc2 (by simp)
      have hdl3 : d < st3.length := (List.getElem?_eq_some_iff.mp hacc3).1
      obtain ⟨st', h1, h2, h3, h4⟩ := lcL_told n I p h hn hI hstop hgo m (i + 1) (st3.set d (.lst (told i p h ++ [h i]))) (by omega) (hI _ _ hI3) (by rw [told_yes hp]; exact List.getElem?_set_self hdl3)
      refine ⟨st', ?_, ((hx2.pure.trans hx3.pure).trans (Xm.set List.mem_cons_self)).trans h2, h3, h4⟩
      rw [← h1]
      conv => lhs; unfold lcL
      rw [ht]
      simp only
      rw [hg]
      simp only
      rw [htt, hp]
      simp only [if_true]
      rw [he]
      simp only
      rw [hacc3]
      simp only
      rw [if_pos (Nat.lt_of_le_of_lt (told_len i p h) (by omega))]
theorem mLc_told {mw : MW} {g : MG} {tt : MT} {te : ME} {vs : List Nat} {env : Lo} {st st1 : Sto} {w : Wk} (n : Nat) (I : Sto → Prop) (p : Nat → Bool) (h : Nat → Dt) (hw : mw env st = .ok w st1) (hf : w.fuel = n + 1) (hn : n < lim)
    (hI : ∀ st o, I st → I (st.set st1.length o)) (h0 : I (st1 ++ [.lst []])) (hstop : ∀ st, I st → w.turn n st = .stop)
    (hgo : ∀ i st, i < n → I st → st1.length < st.length → ∃ x, w.turn i st = .item x ∧ ∃ env1, g x (wipeE env vs) st = .nx env1 st ∧ ∃ st2, tt env1 st = .ok (p i) st2 ∧ Xm [] st st2 ∧ I st2 ∧ (p i = true → ∃ st3, te env1 st2 = .ok (h i) st3 ∧ Xm [] st2 st3 ∧ I st3)) :
    ∃ st', mLc mw g tt te vs env st = .ok (.ref st1.length) st' ∧ Xm [] st1 st' ∧ I st' ∧ st'[st1.length]? = some (.lst (told n p h)) := by
  obtain ⟨st', h1, h2, h3, h4⟩ := lcL_told (env := wipeE env vs) n I p h hn hI hstop hgo n 0 (st1 ++ [.lst []]) (by omega) h0 (by rw [List.getElem?_append_right (Nat.le_refl _), Nat.sub_self]; rfl)
  refine ⟨st', ?_, ⟨Nat.le_trans (by rw [List.length_append]; omega) h2.len, fun i hi hm => ?_⟩, h3, h4⟩
  · unfold mLc
    rw [hw, Re.bind_ok, hf]
    exact h1
  · rw [h2.get i (by rw [List.length_append]; omega) (fun z => Nat.ne_of_lt hi (List.mem_singleton.mp z))]
    exact List.getElem?_append_left hi
/-- over a list of known items: map and filter -/
theorem told_map {α : Type} (xs : List α) (f : α → Dt) (q : α → Bool) (p : Nat → Bool) (h : Nat → Dt) (hp : ∀ i x, xs[i]? = some x → p i = q x ∧ (q x = true → h i = f x)) : told xs.length p h = (xs.filter q).map f := by
  have gen : ∀ n, n ≤ xs.length → told n p h = ((xs.take n).filter q).map f := by
    intro n
    induction n with
    | zero => intro _; rfl
    | succ n ih =>
      intro hn
      have hx : xs[n]? = some xs[n] := List.getElem?_eq_getElem (by omega)
      obtain ⟨h1, h2⟩ := hp n _ hx
      have ht : xs.take (n + 1) = xs.take n ++ [xs[n]] := by rw [List.take_add_one, hx]; rfl
      rw [ht, List.filter_append, List.map_append, ← ih (by omega)]
      cases hq : q xs[n] with
      | true =>
        rw [told_yes (by rw [h1, hq]), List.filter_cons, if_pos hq, h2 hq]
        rfl
      | false =>
        rw [told_no (by rw [h1, hq]), List.filter_cons, if_neg (by rw [hq]; decide)]
        exact (List.append_nil _).symm
  rw [gen xs.length (Nat.le_refl _), List.take_length]
end LT
set_option Elab.async false
set_option linter.all false
set_option maxRecDepth 100000
namespace LT
open PySem PySem.Spec PyProof.Rows L2
/-! ### plain laws of the words -/
theorem eqB_nil {st : Sto} {g n : Nat} {xs : List Dt} (hg : st[g]? = some (.lst xs)) (hn : st[n]? = some (.lst [])) : eqB (.ref g) (.ref n) st = some xs.isEmpty := by
  unfold eqB
  simp only [lenL, hg, hn, List.length_nil]
  cases xs with
  | nil =>
    simp only [List.length_nil, if_true]
    unfold eqB.eqP
    simp only [toP, hg, hn, List.mapM_nil]
    rfl
  | cons x r => rfl
theorem neD_nil {st : Sto} {g n : Nat} {xs : List Dt} (hg : st[g]? = some (.lst xs)) (hn : st[n]? = some (.lst [])) : neD (.ref g) (.ref n) st = .ok (.bl (!xs.isEmpty)) st := by
  unfold neD
  rw [eqB_nil hg hn]
theorem eqD_nil {st : Sto} {g n : Nat} {xs : List Dt} (hg : st[g]? = some (.lst xs)) (hn : st[n]? = some (.lst [])) : eqD (.ref g) (.ref n) st = .ok (.bl xs.isEmpty) st := by
  unfold eqD
  rw [eqB_nil hg hn]
theorem eqD_int (i j : Int) (st : Sto) : eqD (.int i) (.int j) st = .ok (.bl (decide (i = j))) st := rfl
theorem eqD_str (a b : List Nat) (st : Sto) : eqD (.str a) (.str b) st = .ok (.bl (decide (a = b))) st := rfl
theorem neD_str (a b : List Nat) (st : Sto) : neD (.str a) (.str b) st = .ok (.bl (!decide (a = b))) st := rfl
theorem neD_int (i j : Int) (st : Sto) : neD (.int i) (.int j) st = .ok (.bl (!decide (i = j))) st := rfl
theorem app_last {st : Sto} {o : Ob} : (st ++ [o])[st.length]? = some o := by
  rw [List.getElem?_append_right (Nat.le_refl _), Nat.sub_self]
  rfl
theorem app_old {st g : Sto} {i : Nat} {o : Ob} (h : st[i]? = some o) : (st ++ g)[i]? = some o := by
  rw [List.getElem?_append_left (List.getElem?_eq_some_iff.mp h).1]
  exact h
theorem atI_neg1 {α : Type} (xs : List α) (x : α) : atI (xs ++ [x]) (-1) = some x := by
  unfold atI ixN
  rw [if_neg (by omega), if_pos (by rw [List.length_append, List.length_singleton]; omega)]
  have e : ((-1 : Int) + ((xs ++ [x]).length : Int)).toNat = xs.length := by
    rw [List.length_append, List.length_singleton]
    omega
  show (xs ++ [x])[((-1 : Int) + ((xs ++ [x]).length : Int)).toNat]? = some x
  rw [e, List.getElem?_append_right (Nat.le_refl _), Nat.sub_self]
  rfl
theorem atI_natC {α : Type} {xs : List α} {j : Nat} {x : α} (h : xs[j]? = some x) : atI xs (j : Int) = some x := by
  have hl := (List.getElem?_eq_some_iff.mp h).1
  unfold atI ixN
  rw [if_pos (by omega), if_pos (by omega)]
  simpa using h
theorem dropLast_concat' {α : Type} (xs : List α) (x : α) : (xs ++ [x]).dropLast = xs := List.dropLast_concat
end LT
set_option Elab.async false
set_option linter.all false
set_option maxRecDepth 100000
namespace LT
open PySem PySem.Spec PyProof.Rows L2
theorem seqD_keep {M : List Nat} {st st' : Sto} {d : Dt} {xs : List Dt} (h : seqD d st = some xs) (x : Xm M st st') (hm : ∀ i, d = .ref i → i ∉ M) : seqD d st' = some xs := by
  cases d with
  | ref i =>
    simp only [seqD] at h ⊢
    cases ho : st[i]? with
    | none => rw [ho] at h; cases h
    | some o => rw [ho] at h; rw [x.at ho (hm i rfl)]; exact h
  | _ => exact h
/-- a sequence is walked -/
theorem it_seq {d : Dt} {st : Sto} {xs : List Dt} (h : seqD d st = some xs) : ∃ w, itD d st = .ok w st ∧ w.fuel = xs.length + 1 ∧ (∀ st', seqD d st' = some xs → w.turn xs.length st' = .stop ∧ ∀ i x, xs[i]? = some x → w.turn i st' = .item x) := by
  cases d with
  | tup ys => cases h; exact ⟨wTup xs, rfl, rfl, fun st' _ => ⟨wTup_stop, fun i x hx => wTup_item hx⟩⟩
  | rl ys => cases h; exact ⟨wTup xs, rfl, rfl, fun st' _ => ⟨wTup_stop, fun i x hx => wTup_item hx⟩⟩
  | li ys => cases h; exact ⟨wTup xs, rfl, rfl, fun st' _ => ⟨wTup_stop, fun i x hx => wTup_item hx⟩⟩
  | ref i =>
    simp only [seqD] at h
    split at h
    · rename_i ys ho
      cases h
      refine ⟨wLst i xs.length, by simp only [itD, ho], rfl, fun st' h' => ?_⟩
      simp only [seqD] at h'
      split at h'
      · rename_i zs ho'
        cases h'
        exact ⟨wLst_stop ho', fun j x hx => wLst_item ho' hx⟩
      · cases h'
    · cases h
  | _ => cases h
/-- a comprehension over a sequence, its items told by the walked ones -/
theorem mLc_seq {me : ME} {g : MG} {tt : MT} {te : ME} {vs : List Nat} {env : Lo} {st st1 : Sto} {d : Dt} {xs : List Dt} (he : me env st = .ok d st1) (hs : seqD d st1 = some xs) (hn : xs.length < lim) (p : Dt → Bool) (h : Dt → Dt)
    (hgo : ∀ x ∈ xs, ∀ s, Xm [] st1 s → ∃ env1, g x (wipeE env vs) s = .nx env1 s ∧ ∃ s2, tt env1 s = .ok (p x) s2 ∧ Xm [] s s2 ∧ (p x = true → ∃ s3, te env1 s2 = .ok (h x) s3 ∧ Xm [] s2 s3)) :
    ∃ st', mLc (mIt me) g tt te vs env st = .ok (.ref st1.length) st' ∧ Xm [] st1 st' ∧ st'[st1.length]? = some (.lst ((xs.filter p).map h)) := by
  obtain ⟨w, e1, e2, e3⟩ := it_seq hs
  have hw : mIt me env st = .ok w st1 := by
    unfold mIt
    rw [he]
    exact e1
  have ks : ∀ s, Xm [] st1 s → seqD d s = some xs := fun s x => seqD_keep hs x fun _ _ => by simp
  obtain ⟨st', r1, r2, r3, r4⟩ := mLc_told (g := g) (tt := tt) (te := te) (vs := vs) xs.length (fun s => Xm [] st1 s) (fun i => match xs[i]? with | some x => p x | none => false) (fun i => match xs[i]? with | some x => h x | none => .non)
    hw e2 hn (fun s o hx => hx.setN (Nat.le_refl _)) Xm.app (fun s hx => (e3 s (ks s hx)).1) (fun i s hi hx hd => by
      have hc : xs[i]? = some xs[i] := List.getElem?_eq_getElem hi
      obtain ⟨env1, g1, s2, g2, g3, g4⟩ := hgo xs[i] (List.getElem_mem hi) s hx
      refine ⟨xs[i], (e3 s (ks s hx)).2 i _ hc, env1, g1, s2, ?_, g3, hx.trans g3, fun hp => ?_⟩
      · rw [hc]
        exact g2
      · rw [hc] at hp ⊢
        obtain ⟨s3, g5, g6⟩ := g4 hp
        exact ⟨s3, g5, g6, (hx.trans g3).trans g6⟩)
  rw [told_map xs h p _ _ (fun i x hx => ⟨by rw [hx], fun _ => by rw [hx]⟩)] at r4
  exact ⟨st', r1, r2, r4⟩
theorem inB_seq {s : List Nat} {d : Dt} {st : Sto} {ys : List Dt} (h : seqD d st = some ys) (hf : ys.all flatD = true) : inB (.str s) d st = some (ys.any fun z => eqFl z (.str s)) := by
  have e : inB (.str s) d st = (match seqD d st with | some ys => if flatD (.str s) && ys.all flatD then some (ys.any fun z => eqFl z (.str s)) else none | none => none) := by
    unfold inB
    split
    · cases h
    · rfl
  rw [e, h]
  simp only [flatD, hf, Bool.and_self, if_true]
theorem any_strs (s : List Nat) : ∀ (ys : List (List Nat)), ((ys.map Dt.str).any fun z => eqFl z (.str s)) = decide (s ∈ ys)
  | [] => by simp
  | y :: ys => by
    rw [List.map_cons, List.any_cons, any_strs s ys]
    by_cases h : y = s
    · subst h
      simp [eqFl]
    · have h' : ¬ s = y := fun e => h e.symm
      simp [eqFl, h, h']
theorem flat_strs : ∀ (ys : List (List Nat)), (ys.map Dt.str).all flatD = true
  | [] => rfl
  | y :: ys => by rw [List.map_cons, List.all_cons, flat_strs ys]; rfl
theorem in_strs {s : List Nat} {d : Dt} {st : Sto} {ys : List (List Nat)} (h : seqD d st = some (ys.map Dt.str)) : inB (.str s) d st = some (decide (s ∈ ys)) := by
  rw [inB_seq h (flat_strs ys), any_strs]
theorem bools_map {α : Type} (f : α → Bool) : ∀ xs : List α, boolsD (xs.map fun x => Dt.bl (f x)) = some (xs.map f)
  | [] => rfl
  | x :: xs => by
    have := bools_map f xs
    simp only [List.map_cons, boolsD, this]
    rfl
/-- isinstance where the answer stands -/
theorem isI_ok {q : Tk → Option Bool} {a : ME} {env : Lo} {st st1 : Sto} {x : Dt} {t : Tk} {b : Bool} (ha : a env st = .ok x st1) (ht : tkD x st1 = some t) (hq : q t = some b) : mIsI q a env st = .ok (.bl b) st1 := by
  unfold mIsI
  rw [ha]
  simp only [Re.bind, ht, hq]
theorem Re.bind_exc {α β : Type} {c : Nat} {fs : List (Nat × Dt)} {st : Sto} {g : α → Sto → Re β} : (Re.exc c fs st : Re α).bind g = .exc c fs st := rfl
end LT
set_option Elab.async false
set_option linter.all false
set_option maxRecDepth 100000
namespace LT
open PySem PySem.Spec PyProof.Rows L2
/-! ### the head -/
/-- what the law answers -/
def spLaw (K : PySem.W.Frag) : Sp := fun vs H Q _ => ∃ (a : Addr) (ns : List Int), vs = [.ref a] ∧ SqL K H a (ns.map V.int) ∧ ns.length ≤ 63 ∧ Only H ∧ ∀ H', Q (.bl true) H'
theorem rvs_ints {K : PySem.W.Frag} {T : Tb} {H : Hp} {f : List Addr} : ∀ ns : List Int, RVs K T H f (ns.map Dt.int) (ns.map V.int)
  | [] => .nil
  | n :: ns => .cons (.int n) (rvs_ints ns)
theorem law_imp {K : PySem.W.Frag} {T : Tz} {F : MF} (h : ∀ ns : List Int, ns.length ≤ 63 → ∃ st', F [.rl (ns.map Dt.int)] [] = .ok (.bl true) st') : ∀ vs H Q E, spLaw K vs H Q E → spF K T 1 F vs H Q E := fun vs H Q E hs => by
  obtain ⟨a, ns, rfl, hS, hl, hO, k⟩ := hs
  obtain ⟨st', e⟩ := h ns hl
  have hF : SqF K H a (ns.map V.int) := by
    rcases hS with (z | z) | z
    · rcases hO a with q | ⟨o, xs, q⟩
      · rw [z] at q; cases q
      · rw [z] at q; cases q
    · exact .inl z
    · exact .inr z
  refine ⟨rfl, [], [], [.rl (ns.map Dt.int)], [], .cons (.rl hF (rvs_ints ns)) .nil, ⟨rfl, List.nodup_nil, (fun i o a hi => by cases hi), fun a ha => (List.not_mem_nil ha).elim⟩, ?_⟩
  rw [e]
  exact fun f' H' v hp s rh r => by
    cases r
    exact k _
theorem CX_no (w : World) (P : Program) (H : Hp) (s : Shared) (e : Value) (s' : Shared) (h : L2.CX P w [] H s (fun _ _ _ => False) e s') : False := by
  unfold L2.CX at h
  obtain ⟨_, _, _, _, _, _, _, _, _, _, _, _, h⟩ := h
  exact h
theorem walk_lt {l : PySem.W.OpenLaw} {q : Program} {loose : List Str} {XP : (Str → Option Value) → Heap → Prop} {YP : World → Heap → Prop} {d : DefRec} {K : Params → PySem.W.Frag} {k : Nat} {x : Str} (hn : l.most = some 63) (hdf : d.params.defaults = []) (hr : Room k callerA)
    (hY : ∀ (w : World) (h : Heap), YP w h → (K w.params).In h)
    (hF : ∀ (w : World) (mg : Str → Option Value) (fa : Addr) (h : Heap), (K w.params).In h → h.Ns mainGlobals mg → mg d.name = some (.ref fa) →
      ∃ fd : FuncData, (∀ (s : Shared) (u : Value), BindsTo s fd ⟨[u], []⟩ [(x, u)]) ∧ ∀ base : Heap, (K w.params).In base → base.Ns mainGlobals mg → FnOk l.prog w (K w.params) mg base (L2.CX l.prog w) k fa fd [x] (spLaw (K w.params))) :
    PySem.W.WalkO q loose XP YP l.row.toRowW d [] (fun f vs => PySem.call f vs) :=
  L2.walk_of (CX := fun w => L2.CX l.prog w) (sp := fun w => spLaw (K w.params)) hn (by decide) hdf hr hY hF (fun _ _ a ns hl hO hS => ⟨a, ns, rfl, hS, hl, hO, fun _ => rfl⟩) fun w H s e s2 z => CX_no w _ H s e s2 z
/-! constants -/
def strVs : List Value → Option (List Str)
  | [] => some []
  | .str x _ :: us => (strVs us).map (x :: ·)
  | _ :: _ => none
theorem strVs_ok : ∀ (us : List Value) (ss : List Str), strVs us = some ss → Vals (ss.map V.str) us
  | [], ss, h => by cases h; exact .nil
  | u :: us, ss, h => by
    cases u with
    | str x t =>
      simp only [strVs] at h
      cases hh : strVs us with
      | none => rw [hh] at h; cases h
      | some rs =>
        rw [hh] at h
        cases h
        exact .cons ⟨t, rfl⟩ (strVs_ok us rs hh)
    | _ => cases h
theorem rvs_strs {K : PySem.W.Frag} {T : Tb} {H : Hp} {f : List Addr} : ∀ ss : List Str, RVs K T H f (ss.map fun x => Dt.str x.cps.toList) (ss.map V.str)
  | [] => .nil
  | s :: ss => .cons (.str s) (rvs_strs ss)
theorem const_strs {K : PySem.W.Frag} {mg : Str → Option Value} {x : Str} {a : Addr} {od : Option Addr} {its : Array Value} {n : Nat} {sl : Array (Option Value)} {ss : List Str} {d : Dt} (hm : mg x = some (.ref a)) (l : K.lookup a = some ⟨.type "tuple", od, .seq its n, sl⟩) (hs : its.size ≤ sizeLine) (hv : strVs its.toList = some ss) (hd : d = .tup (ss.map fun x => Dt.str x.cps.toList)) : ConstOk K mg x d :=
  ⟨⟨.ref a, .ref a, hm, rfl, fun T H f => by
    rw [hd]
    exact .tup (.inr ⟨_, its, n, l, rfl, rfl, hs, strVs_ok _ _ hv⟩) (rvs_strs ss)⟩⟩
theorem const_str {K : PySem.W.Frag} {mg : Str → Option Value} {x s : Str} {t : Tok} {d : Dt} (hm : mg x = some (.str s t)) (hd : d = .str s.cps.toList) : ConstOk K mg x d :=
  ⟨⟨_, .str s, hm, ⟨_, rfl⟩, fun T H f => by rw [hd]; exact .str s⟩⟩
/-! isinstance and except: what the written part tells -/
theorem kitCls_own {K : PySem.W.Frag} {t C : Addr} (i : PySem.W.isClsIn K C = true) (ty : PySem.W.typeIn K (.ref C) = some (.type "type")) : PySem.W.kitCls K (.ref t) (.ref C) = PySem.W.subIn K (.ref t) (.ref C) := by
  have i' : (PySem.W.clsIn K C).isSome = true := i
  show (if ((PySem.W.clsIn K C).isSome && PySem.W.typeIn K (.ref C) == some (.type "type")) = true then PySem.W.subIn K (.ref t) (.ref C) else none) = _
  rw [i', ty]
  rfl
theorem kit_own {K : PySem.W.Frag} {t C : Addr} {b : Bool} (i : PySem.W.isClsIn K C = true) (ty : PySem.W.typeIn K (.ref C) = some (.type "type")) (s : PySem.W.subIn K (.ref t) (.ref C) = some b) (hb : t = C → b = true) : PySem.W.kitOne K (.ref t) (.ref C) = some b := by
  unfold PySem.W.kitOne
  split
  · rename_i e
    have e' : Value.ref t = Value.ref C := beq_iff_eq.mp e
    cases e'
    rw [hb rfl]
  · rw [kitCls_own i ty]
    exact s
theorem kit_bt {K : PySem.W.Frag} {t : Addr} {T : String} {b : Bool} (hm : PySem.W.kitMeta T = true) (s : PySem.W.subIn K (.ref t) (.type T) = some b) : PySem.W.kitOne K (.ref t) (.type T) = some b := by
  unfold PySem.W.kitOne
  split
  · rename_i e
    have e' : Value.ref t = Value.type T := beq_iff_eq.mp e
    cases e'
  · unfold PySem.W.kitCls
    simp only [hm, if_true]
    exact s
theorem kit_no {K : PySem.W.Frag} {t c : Value} {r : List Value} (h : PySem.W.kitOne K t c = some false) (h2 : PySem.W.kitAny K t r = some false) : PySem.W.kitAny K t (c :: r) = some false := by
  unfold PySem.W.kitAny
  rw [h]
  exact h2
theorem exm_own {K : PySem.W.Frag} {t C : Addr} {b : Bool} (h : PySem.W.subIn K (.ref C) (.type "BaseException") = some true) (i : PySem.W.isClsIn K C = true) (ty : PySem.W.typeIn K (.ref C) = some (.type "type")) (s : PySem.W.subIn K (.ref t) (.ref C) = some b) : PySem.W.exmOne K (.ref t) (.ref C) = some b := by
  unfold PySem.W.exmOne
  rw [h, kitCls_own i ty]
  exact s
theorem kit_bown {K : PySem.W.Frag} {n : String} {C : Addr} {b : Bool} (i : PySem.W.isClsIn K C = true) (ty : PySem.W.typeIn K (.ref C) = some (.type "type")) (s : PySem.W.subIn K (.type n) (.ref C) = some b) : PySem.W.kitOne K (.type n) (.ref C) = some b := by
  have i' : (PySem.W.clsIn K C).isSome = true := i
  unfold PySem.W.kitOne
  split
  · rename_i e
    have e' : Value.type n = Value.ref C := beq_iff_eq.mp e
    cases e'
  · show (if ((PySem.W.clsIn K C).isSome && PySem.W.typeIn K (.ref C) == some (.type "type")) = true then PySem.W.subIn K (.type n) (.ref C) else none) = _
    rw [i', ty]
    exact s
theorem kit_bts {K : PySem.W.Frag} {T : Tz} {C : Addr} (i : PySem.W.isClsIn K C = true) (ty : PySem.W.typeIn K (.ref C) = some (.type "type")) (h1 : PySem.W.subIn K (.type "NoneType") (.ref C) = some false) (h2 : PySem.W.subIn K (.type "bool") (.ref C) = some false) (h3 : PySem.W.subIn K (.type "int") (.ref C) = some false) (h4 : PySem.W.subIn K (.type "str") (.ref C) = some false)
    (h5 : PySem.W.subIn K (.type "tuple") (.ref C) = some false) (h6 : PySem.W.subIn K (.type "list") (.ref C) = some false) (h7 : PySem.W.subIn K (.type "dict") (.ref C) = some false) (t : Tk) (ht : ∀ c, t ≠ .ins c) : PySem.W.kitOne K (tkV T t) (.ref C) = some false := by
  cases t with
  | ins c => exact absurd rfl (ht c)
  | non => exact kit_bown i ty h1
  | bl => exact kit_bown i ty h2
  | int => exact kit_bown i ty h3
  | str => exact kit_bown i ty h4
  | tup => exact kit_bown i ty h5
  | lst => exact kit_bown i ty h6
  | dk => exact kit_bown i ty h7
theorem rv_nil {K : PySem.W.Frag} {T : Tb} {H : Hp} {f : List Addr} {a : Addr} {od : Option Addr} {n : Nat} {sl : Array (Option Value)} (l : K.lookup a = some ⟨.type "tuple", od, .seq #[] n, sl⟩) : RV K T H f (.tup []) (.ref a) := .tup (.inr ⟨_, #[], n, l, rfl, rfl, by decide, .nil⟩) .nil
theorem mem_of_contains {cs : List Nat} {c : Nat} (h : cs.contains c = true) : c ∈ cs := by
  simpa using h
/-! single classes by number -/
theorem contains_one {c k : Nat} (h : [k].contains c = true) : c = k := by
  simpa using h
end LT
set_option Elab.async false
set_option linter.all false
set_option maxRecDepth 100000
namespace LT
open PySem PySem.Spec PyProof.Rows L2
section
variable {X : Cx} {T : Tb} {W : WX} {a b c e o : Expr} {es : List Expr} {pos p : Pos} {ma mb mc me mo : ME} {ms : MA}
/-! ### a op b op c -/
def mChain (g h : Dt → Dt → Sto → Re Dt) (ma mb mc : ME) : ME := fun env st => (ma env st).bind fun x s1 => (mb env s1).bind fun y s2 => (g x y s2).bind fun z s3 => match z with
  | .bl true => (mc env s3).bind fun w s4 => h y w s4
  | .bl false => .ok (.bl false) s3
  | _ => .stuck
theorem ie_chain {op op' : CmpOp} {r r' : R2} {g h : Dt → Dt → Sto → Re Dt} (ho : OpR X (compareOp op) r) (hg : Snd2 X.K T r g) (ho' : OpR X (compareOp op') r') (hh : Snd2 X.K T r' h) (ha : IE X T W a ma) (hb : IE X T W b mb) (hc : IE X T W c mc)
    (hm : lastMarks [op, op'] [b, c] = false := by with_unfolding_all rfl) : IE X T W (.Compare a [op, op'] [b, c] pos) (mChain g h ma mb mc) := PEw (pe_chain ho ho' ha hb hc hm) fun σ H Q ⟨f, env, st, re, rh, p⟩ =>
  ⟨f, env, st, re, rh, p.bind fun x st1 f1 H1 vx hp s rh1 rx p1 => ⟨f1, env, st1, re.mono hp s, rh1, p1.bind fun y st2 f2 H2 vy hp2 s2 rh2 ry p2 =>
    hg f2 H2 st2 x y vx vy (fun c d H' => W c d σ H') _ rh2 (rx.mono hp2 s2) ry (p2.bind fun z st3 f3 H3 vz hp3 s3 rh3 rz p3 => by
      cases rz with
      | bl k =>
        refine ⟨k, rfl, ?_⟩
        cases k with
        | true =>
          rw [if_pos rfl]
          exact ⟨f3, env, st3, ((re.mono hp s).mono hp2 s2).mono hp3 s3, rh3, p3.bind fun w st4 f4 H4 vw hp4 s4 rh4 rw4 p4 => hh f4 H4 st4 y w vy vw (fun c d H' => W c d σ H') _ rh4 ((ry.mono hp3 s3).mono hp4 s4) rw4 p4⟩
        | false =>
          rw [if_neg Bool.false_ne_true]
          exact p3.now rh3 (.bl false)
      | _ => exact p3.elim)⟩⟩
theorem it_chain {op op' : CmpOp} {r r' : R2} {g h : Dt → Dt → Sto → Re Dt} (ho : OpR X (compareOp op) r) (hg : Snd2 X.K T r g) (ho' : OpR X (compareOp op') r') (hh : Snd2 X.K T r' h) (ha : IE X T W a ma) (hb : IE X T W b mb) (hc : IE X T W c mc)
    (hm : lastMarks [op, op'] [b, c] = false := by with_unfolding_all rfl) : IT X T W (.Compare a [op, op'] [b, c] pos) (mB (mChain g h ma mb mc)) := PTw (pt_chain ho ho' ha hb hc hm) fun σ H Q ⟨f, env, st, re, rh, p⟩ => by
  have p' : Post X.K T rB (fun c d H' => W c d σ H') f H ((ma env st).bind fun x s1 => (mb env s1).bind fun y s2 => (g x y s2).bind fun z s3 => (match z with
      | .bl true => (mc env s3).bind fun w s4 => h y w s4
      | .bl false => .ok (.bl false) s3
      | _ => .stuck : Re Dt).bind isB) Q := by
    unfold mB mChain at p
    simp only [Re.bind_assoc] at p
    exact p
  exact ⟨f, env, st, re, rh, p'.bind fun x st1 f1 H1 vx hp s rh1 rx p1 => ⟨f1, env, st1, re.mono hp s, rh1, p1.bind fun y st2 f2 H2 vy hp2 s2 rh2 ry p2 =>
    hg f2 H2 st2 x y vx vy (fun c d H' => W c d σ H') _ rh2 (rx.mono hp2 s2) ry (p2.bind fun z st3 f3 H3 vz hp3 s3 rh3 rz p3 => by
      cases rz with
      | bl k =>
        refine ⟨k, rfl, ?_⟩
        cases k with
        | true =>
          rw [if_pos rfl]
          have p3' : Post X.K T rB (fun c d H' => W c d σ H') f3 H3 ((mc env st3).bind fun w s4 => (h y w s4).bind isB) Q := by
            have q : Post X.K T rB (fun c d H' => W c d σ H') f3 H3 (((mc env st3).bind fun w s4 => h y w s4).bind isB) Q := p3
            simp only [Re.bind_assoc] at q
            exact q
          exact ⟨f3, env, st3, ((re.mono hp s).mono hp2 s2).mono hp3 s3, rh3, p3'.bind fun w st4 f4 H4 vw hp4 s4 rh4 rw4 p4 => hh f4 H4 st4 y w vy vw (fun c d H' => W c d σ H') _ rh4 ((ry.mono hp3 s3).mono hp4 s4) rw4 (p4.bind fun z st5 f5 H5 vz hp5 s5 rh5 rz p5 => by
            cases rz with
            | bl b => exact ⟨b, rfl, p5.now rh5 rfl⟩
            | _ => exact p5.elim)⟩
        | false =>
          rw [if_neg Bool.false_ne_true]
          exact ⟨false, rfl, p3.now rh3 rfl⟩
      | _ => exact p3.elim)⟩⟩
/-! ### [*xs, ..] -/
def mStar (a : ME) (as : MA) : MA := fun env st => (a env st).bind fun x s1 => match seqD x s1 with
  | some xs => (as env s1).bind fun ys s2 => .ok (xs ++ ys) s2
  | none => .stuck
theorem ia_star (he : IE X T W e me) (hr : IA X T W es ms) (hs : starEach (.Starred e p :: es) X.env = (true, eval e X.env) :: starEach es X.env := by rfl) : IA X T W (.Starred e p :: es) (mStar me ms) := PAw (StX.pa_star he hr hs) fun σ H Q ⟨f, env, st, re, rh, p⟩ =>
  ⟨f, env, st, re, rh, p.bind fun x st1 f1 H1 vx hp s rh1 rx p1 => by
    cases hq : seqD x st1 with
    | none => rw [hq] at p1; exact p1.elim
    | some xs =>
      rw [hq] at p1
      obtain ⟨a, vs, rfl, hsq, rvs⟩ := seqD_ok rh1 rx hq
      exact ⟨a, vs, rfl, hsq.symm, f1, env, st1, re.mono hp s, rh1, p1.bind fun y st2 f2 H2 vy hp2 s2 rh2 ry p2 => p2.now rh2 ((rvs.mono hp2 s2).app ry)⟩⟩
/-! ### f-strings of texts -/
def mFmt (a : ME) : ME := fun env st => (a env st).bind fun x s1 => match x with
  | .str s => if s.length ≤ lim then .ok (.str s) s1 else .stuck
  | _ => .stuck
theorem ie_fmt (he : IE X T W e me) : IE X T W (.FormattedValue e (-1) none pos) (mFmt me) := PEw (pe_fmt he) fun σ H Q ⟨f, env, st, re, rh, p⟩ =>
  ⟨f, env, st, re, rh, p.bind fun x st1 f1 H1 vx hp s rh1 rx p1 => by
    cases rx with
    | str y =>
      simp only at p1
      split at p1
      · rename_i hl
        rw [len_str] at hl
        exact .inl ⟨y, rfl, lim_le hl, p1.now rh1 (.str y)⟩
      · exact p1.elim
    | _ => exact p1.elim⟩
def mFs : List ME → List Nat → Lo → Sto → Re (List Nat)
  | [], acc, _, st => .ok acc st
  | a :: as, acc, env, st => (a env st).bind fun x s1 => match x with
    | .str s => if acc.length + s.length ≤ lim then mFs as (acc ++ s) env s1 else .stuck
    | _ => .stuck
def mJoined (as : List ME) : ME := fun env st => (mFs as [] env st).bind fun s s1 => .ok (.str s) s1
inductive IJ (X : Cx) (T : Tb) (W : WX) : List Expr → List ME → Prop
  | nil : IJ X T W [] []
  | cons {e : Expr} {m : ME} {es : List Expr} {ms : List ME} (h : IE X T W e m) (r : IJ X T W es ms) : IJ X T W (e :: es) (m :: ms)
theorem IJ.pj {es : List Expr} {as : List ME} (h : IJ X T W es as) : PJ X es (as.map fun m => tG X.K T (rV X.K T) W m) := by
  induction h with
  | nil => exact .nil
  | cons h r ih => exact .cons h ih
abbrev rStr : Rel (List Nat) Str := fun _ _ a b => b.cps.toList = a
theorem fs_ok {σ : L2.St} : ∀ (as : List ME) (acc : Str) (f : List Addr) (env : Lo) (st : Sto) (H : Hp) (Q : Str → Hp → Prop), REn X.K T H f env σ → RH X.K T f H st → Post X.K T rStr (fun c d H' => W c d σ H') f H (mFs as acc.cps.toList env st) Q → tJs (as.map fun m => tG X.K T (rV X.K T) W m) acc σ H Q
  | [], acc, f, env, st, H, Q, re, rh, p => p.now rh rfl
  | a :: as, acc, f, env, st, H, Q, re, rh, p => ⟨f, env, st, re, rh, p.bind fun x st1 f1 H1 vx hp s rh1 rx p1 => by
      cases rx with
      | str y =>
        simp only at p1
        split at p1
        · rename_i hl
          rw [len_str, len_str] at hl
          refine ⟨y, rfl, ?_, fs_ok as (acc ++ y) f1 env st1 H1 Q (re.mono hp s) rh1 (by rw [str_app]; exact p1)⟩
          rw [← len_str, str_app, List.length_append, len_str, len_str]
          exact lim_le hl
        · exact p1.elim
      | _ => exact p1.elim⟩
theorem ie_joined {v1 v2 : Expr} {as : List ME} (h : IJ X T W (v1 :: v2 :: es) as) : IE X T W (.JoinedStr (v1 :: v2 :: es) pos) (mJoined as) := PEw (pe_joined h.pj) fun σ H Q ⟨f, env, st, re, rh, p⟩ =>
  fs_ok as Str.empty f env st H _ re rh (Post.bind (rel := rStr) p fun s st1 f1 H1 y hp q rh1 ry p1 => by
    subst ry
    exact p1.now rh1 (.str y))
theorem ie_joined1 (h : IE X T W e me) : IE X T W (.JoinedStr [e] pos) me := pe_joined1 h
end
end LT
set_option Elab.async false
set_option linter.all false
set_option maxRecDepth 100000
namespace LT
open PySem PySem.Spec PyProof.Rows L2
section
variable {K : PySem.W.Frag} {T : Tb}
/-! ### sep.join(texts) -/
def strsD : List Dt → Option (List (List Nat))
  | [] => some []
  | .str s :: ds => (strsD ds).map (s :: ·)
  | _ :: _ => none
theorem strsD_ok {H : Hp} {f : List Addr} : ∀ (ds : List Dt) (vs : List V) (ss : List (List Nat)), RVs K T H f ds vs → strsD ds = some ss → ∃ zs : List Str, vs = zs.map V.str ∧ zs.map TL.tl = ss
  | [], _, ss, .nil, h => by cases h; exact ⟨[], rfl, rfl⟩
  | d :: ds, _, ss, .cons (v := v) (vs := vs) r t, h => by
    cases r with
    | str x =>
      simp only [strsD] at h
      cases hh : strsD ds with
      | none => rw [hh] at h; cases h
      | some rs =>
        rw [hh] at h
        cases h
        obtain ⟨zs, e1, e2⟩ := strsD_ok ds vs rs t hh
        exact ⟨x :: zs, by rw [e1]; rfl, by rw [List.map_cons, e2]⟩
    | _ => cases h
theorem strsD_map (ss : List (List Nat)) : strsD (ss.map Dt.str) = some ss := by
  induction ss with
  | nil => rfl
  | cons s ss ih => simp only [List.map_cons, strsD, ih]; rfl
def joinD (x : Dt) (ys : List Dt) (st : Sto) : Re Dt := match x, ys with
  | .str a, [y] => match seqD y st with
    | some ds => match strsD ds with
      | some ss => if (ss.map List.length).sum + ss.length * a.length ≤ 16777216 then .ok (.str (TL.joinL a ss)) st else .stuck
      | none => .stuck
    | none => .stuck
  | _, _ => .stuck
def rJoin (K : PySem.W.Frag) : V → List V → Hp → VK → Prop := fun x xs H Q => ∃ a p, ∃ ys : List Str, x = .str a ∧ xs = [.ref p] ∧ (SqL K H p (ys.map V.str) ∨ SqT K H p (ys.map V.str)) ∧ (ys.map Str.length).sum + ys.length * a.length ≤ 16777216 ∧ Q (.str (Txt.join a ys)) H
theorem mt_joinA {X : Cx} : MtR X "str.join" (rJoin X.K) := mt_join
theorem len_tl (zs : List Str) : (zs.map TL.tl).map List.length = zs.map Str.length := by
  rw [List.map_map]
  refine List.map_congr_left fun z _ => ?_
  exact len_str z
theorem snd_join : SndM K T (rJoin K) joinD := fun f H st x v xs vs Wx Q rh rx r p => by
  cases rx with
  | str a =>
    cases r with
    | nil => exact p.elim
    | cons ry t =>
      cases t with
      | cons _ _ => exact p.elim
      | nil =>
        rename_i d w
        have p' : Post K T (rV K T) Wx f H (match seqD d st with
          | some ds => match strsD ds with
            | some ss => if (ss.map List.length).sum + ss.length * a.cps.toList.length ≤ 16777216 then .ok (.str (TL.joinL a.cps.toList ss)) st else .stuck
            | none => .stuck
          | none => .stuck) Q := p
        cases hs : seqD d st with
        | none => rw [hs] at p'; exact p'.elim
        | some ds =>
          rw [hs] at p'
          simp only at p'
          cases h2 : strsD ds with
          | none => rw [h2] at p'; exact p'.elim
          | some ss =>
            rw [h2] at p'
            simp only at p'
            obtain ⟨q, us, rfl, hq, rus⟩ := seqD_ok rh ry hs
            obtain ⟨zs, e1, e2⟩ := strsD_ok ds us ss rus h2
            subst e1
            split at p'
            · rename_i hl
              rw [← e2, len_tl, List.length_map, len_str] at hl
              refine ⟨a, q, zs, rfl, rfl, hq, hl, p'.now rh (.str' ?_)⟩
              rw [TL.join_eq]
              show TL.tl (Str.join a zs) = _
              rw [TL.tl_join, e2]
            · exact p'.elim
  | _ => exact p.elim
/-! ### x += y -/
def sAug (i : Nat) (g : Dt → Dt → Sto → Re Dt) (a : ME) : MS := fun env st => match env[i]? with
  | some (some x) => (a env st).on env fun y st1 => (g x y st1).on env fun z st2 => .nx (env.set i (some z)) st2
  | _ => .stuck
end
section
variable {X : Cx} {T : Tb} {W : WX} {e : Expr} {me : ME} {pos pos' : Pos}
theorem is_aug {op : Operator} {r : R2} {g : Dt → Dt → Sto → Re Dt} (i : Nat) {x : Str} (ho : OpR X (inplaceOp op) r) (hg : Snd2 X.K T r g) (hN : X.N.Nodup) (he : IE X T W e me) (hi : X.N[i]? = some x := by rfl) (hx : Loc X.env.scope x := by first | exact Or.inl rfl | exact Or.inr rfl)
    (hf : X.fn x = true ∨ X.env.scope.names.lookup x = some .local := by first | exact .inl rfl | exact .inr rfl) : IS X T W (.AugAssign (.Name x pos') op e pos) (sAug i g me) := PSw (ps_aug hN hi hx he ho hf) fun E σ H ⟨f, env, st, re, rh, p⟩ => by
  unfold sAug at p
  cases hv : env[i]? with
  | none => rw [hv] at p; exact p.elim
  | some o =>
    cases o with
    | none => rw [hv] at p; exact p.elim
    | some d =>
      rw [hv] at p
      obtain ⟨v, h1, h2⟩ := re.get i d hv
      refine ⟨v, h1, f, env, st, re, rh, PostS.on re p fun y st1 f1 H1 vy hp s rh1 ry re1 p1 => ?_⟩
      exact hg f1 H1 st1 d y v vy (fun c d H' => W c d σ H') _ rh1 (h2.mono hp s) ry (PostS.on re1 p1 fun z st2 f2 H2 vz hp2 s2 rh2 rz re2 p2 => p2 f2 H2 _ (List.prefix_refl _) Stay.refl rh2 (re2.set rz))
end
end LT
set_option Elab.async false
set_option linter.all false
set_option maxRecDepth 100000
namespace LT
open PySem PySem.Spec PyProof.Rows L2
section
variable {X : Cx} {T : Tb}
theorem pass_no {P : Program} {w : World} (X : Cx) (σ : L2.St) : PassesAt (L2.CX P w) X σ (fun _ _ _ => False) := fun pins H s e s' I h => by
  unfold L2.CX at h
  obtain ⟨_, _, _, _, _, _, _, _, _, _, _, _, h⟩ := h
  exact h.elim
/-- an own == : instances of C, the other of a type that does not come first -/
def rOwnEq (K : PySem.W.Frag) (C : Addr) (sp : Sp) : R2 := fun x y H Q => ∃ a dx fs tb, x = .ref a ∧ H a = some (.ins C dx fs) ∧ TyX K H y tb ∧ PySem.W.notFirst K C tb = true ∧ sp [x, y] H (fun v H' => (∃ b, v = .bl b) ∧ Q v H') (fun _ _ _ => False)
theorem op_eqOwn {C f : Addr} {fd : FuncData} {ps : List Str} {sp : Sp} {k : Nat} (F : FnOk X.prog X.w X.K X.mg X.base (L2.CX X.prog X.w) k f fd ps sp) (hr : Room k X.A) (hs : PySem.W.findIn X.K (.ref C) "__eq__" = some (some (.ref f))) (hf : PySem.W.isFn X.K (.ref f) = true) (hb : Binds X.K fd ps []) :
    OpR X (compareOp .Eq) (rOwnEq X.K C sp) := by
  intro pins s σ H x y v u Q I rx ry h
  obtain ⟨a, dx, fs, tb, rfl, ha, ty, hn, hsp⟩ := h
  cases rx
  obtain ⟨mA, J, _⟩ := ins_get I.hok ha
  obtain ⟨od, J, _⟩ := J.look
  obtain ⟨m, hF⟩ := I.fr
  obtain ⟨P, kx, hP, _⟩ := kit_of I ry ty
  show wpAny (model X.prog X.w) X.A (richCompare .Eq (.ref a) u) (EP X pins σ Q) X.xe s
  refine PySem.W.cmp_K (op := .Eq) (tb := tb) hr.units0 hF I.ok.mod.kin J ?ty hn hs hf ?_
  case ty => exact kx.ty _ _ I.kIn hP
  refine wpAny_mono (run_fnSD (E := fun _ _ _ _ => False) (vs := [.ref a, y]) (us := [.ref a, u]) F hr hb .nil (pass_no X σ) I (.cons rfl (.cons ry .nil)) hsp) (fun r s' z => ?_) fun _ _ e => e
  obtain ⟨z, H', I', rz, ⟨b, hz⟩, q⟩ := z
  subst hz
  cases rz
  exact ⟨.bl b, H', I', rfl, q⟩
/-- an own def run under a few of the machine's own frames -/
theorem run_sub {A : Around} {f : Addr} {fd : FuncData} {ps : List Str} {sp : Sp} {k : Nat} {pins : List (Addr × Obj)} {σ : L2.St} {H : Hp} {s : Shared} {Q : VK} {us : List Value} {vs : List V} (F : FnOk X.prog X.w X.K X.mg X.base (L2.CX X.prog X.w) k f fd ps sp) (sb : Sub X k A) (hb : Binds X.K fd ps [])
    (I : Inv X pins σ H s) (r : Vals vs us) (h : sp vs H Q (fun _ _ _ => False)) : wpAny (model X.prog X.w) A (call (.ref f) us) (EP X pins σ Q) X.xe s := by
  have e0 : Env0 X.prog X.w X.K X.mg X.base A X.stack s H := ⟨by rw [sb.fr]; exact I.env0.frames, I.env0.mod, I.env0.bs, I.env0.bsz, I.env0.funs, I.env0.frf, I.env0.hok, I.env0.bare⟩
  have hl : us.length = ps.length := by rw [← r.length]; exact F.len _ _ _ _ h
  refine wpAny_call (codeAny_mono (F.run A X.stack s H ⟨us, []⟩ us vs Q (fun _ _ _ => False) sb.room e0 (by simpa using hb s us I.kIn (by simpa using hl)) r h) fun rr s' hq => ?_)
  cases rr with
  | error e =>
    unfold L2.CR at hq
    exact pass_no (P := X.prog) (w := X.w) X σ pins H s e s' I hq
  | ok fl =>
    cases fl with
    | ret w => exact I.after hq
    | next => exact hq.elim
    | brk => exact hq.elim
    | cont => exact hq.elim
theorem sub_self {k : Nat} (hr : Room k X.A) : Sub X k X.A := ⟨hr, rfl⟩
/-- str(x) by an own __str__ -/
def rStrOwn (C : Addr) (sp : Sp) : List V → Hp → VK → Prop := fun xs H Q => ∃ a dx fs, xs = [.ref a] ∧ H a = some (.ins C dx fs) ∧ sp [.ref a] H (fun v H' => (∃ y, v = .str y) ∧ Q v H') (fun _ _ _ => False)
theorem meets_strNew {v : Value} {P : Program} {w : World} : MeetsIn P w (Builtin.«str.__new__» ⟨[.type "str", v], []⟩) (fun A R s => wpAny (model P w) A.in1 (Builtin.Str.strOf v) (fun r s' => R (.ok (.ret r)) s') (fun e s' => R (.error e) s') s) :=
  MeetsIn.of_wp fun A R s h => by
    rw [str_new_tree v]; refine wpAny_bind (wpAny_pure (wpAny_bind (wpAny_of_eq isSubtype_str_str ?_)))
    exact wpAny_bind (wpAny_mono h (fun r s' q => wpAny_pure ⟨r, rfl, q⟩) fun _ _ e => e)
theorem call_strOwn {C f : Addr} {fd : FuncData} {ps : List Str} {sp : Sp} {k : Nat} (G : FnOk X.prog X.w X.K X.mg X.base (L2.CX X.prog X.w) k f fd ps sp) (hr : Room (k + 2) X.A) (hs : PySem.W.findIn X.K (.ref C) "__str__" = some (some (.ref f))) (hf : PySem.W.isFn X.K (.ref f) = true) (hb : Binds X.K fd ps []) :
    CallR X (.type "str") (rStrOwn C sp) := by
  intro pins s σ H xs us Q I r h
  obtain ⟨a, dx, fs, rfl, ha, hsp⟩ := h
  obtain ⟨u, rfl, hu⟩ := vals1 r
  cases hu
  obtain ⟨mA, J, _⟩ := ins_get I.hok ha
  obtain ⟨od, J, _⟩ := J.look
  obtain ⟨m, hF⟩ := I.fr
  have sb : Sub X k X.A.in1.in1 := Sub.in1 (Sub.in1 (sub_self hr))
  refine callType_newIn F.called_str (by decide) (F.typeCall_str_1 _) (F.newCall_str_1 _) (fun obj => F.args_object_init_2 obj _) F.entry_str_new meets_strNew ?_
  show wpAny (model X.prog X.w) X.A.in1.in1 (Builtin.Str.strOf (.ref a)) _ _ s
  unfold Builtin.Str.strOf
  rw [show Builtin.Str.isExactStr (.ref a) = false from rfl]
  simp only [Bool.false_eq_true, if_false]
  refine wpAny_bind (wpAny_cRoomFor sb.room.units0 ?_)
  refine wpAny_bind (m := callSpecial? (.ref a) (Str.ofString "__str__")) (PySem.W.special_fn (I.ok.mod.kin.keeps hF.keep) J hs (beq_iff_eq.mp hf) (wpAny_mono (run_sub (vs := [.ref a]) G sb hb I (.cons rfl .nil) hsp) (fun v s2 z => ?_) fun _ _ e => e))
  obtain ⟨z, H', I', rz, ⟨y, hz⟩, q⟩ := z
  subst hz
  obtain ⟨t, rfl⟩ := rz
  refine wpAny_bind (wpAny_pure ?_)
  exact wpAny_pure ⟨typeIs_str _ _ _, .str y, H', I', ⟨t, rfl⟩, q⟩
/-- len(x) by an own __len__ -/
def rLenOwn (C : Addr) (sp : Sp) : List V → Hp → VK → Prop := fun xs H Q => ∃ a dx fs, xs = [.ref a] ∧ H a = some (.ins C dx fs) ∧ sp [.ref a] H (fun v H' => (∃ n : Int, v = .int n ∧ 0 ≤ n ∧ n < 1000000000) ∧ Q v H') (fun _ _ _ => False)
theorem call_lenOwn {C f : Addr} {fd : FuncData} {ps : List Str} {sp : Sp} {k : Nat} (G : FnOk X.prog X.w X.K X.mg X.base (L2.CX X.prog X.w) k f fd ps sp) (hr : Room (k + 1) X.A) (hs : PySem.W.findIn X.K (.ref C) "__len__" = some (some (.ref f))) (hf : PySem.W.isFn X.K (.ref f) = true) (hb : Binds X.K fd ps []) :
    CallR X (.builtin "len") (rLenOwn C sp) := by
  intro pins s σ H xs us Q I r h
  obtain ⟨a, dx, fs, rfl, ha, hsp⟩ := h
  obtain ⟨u, rfl, hu⟩ := vals1 r
  cases hu
  obtain ⟨mA, J, _⟩ := ins_get I.hok ha
  obtain ⟨od, J, _⟩ := J.look
  obtain ⟨m, hF⟩ := I.fr
  refine PySem.W.len_K hF I.ok.mod.kin J hs hf (wpAny_mono (run_sub (vs := [.ref a]) G (Sub.in1 (sub_self hr)) hb I (.cons rfl .nil) hsp) (fun v s2 z => ?_) fun _ _ e => e)
  obtain ⟨z, H', I', rz, ⟨n, hz, n0, n1⟩, q⟩ := z
  subst hz
  obtain ⟨t, rfl⟩ := rz
  exact ⟨⟨n0, by omega⟩, .int n, H', I'.tok _, ⟨_, rfl⟩, q⟩
/-- x + y by an own __add__, both of one class -/
def rAddOwn (C : Addr) (sp : Sp) : R2 := fun x y H Q => ∃ a b dx dy fs gs, x = .ref a ∧ y = .ref b ∧ H a = some (.ins C dx fs) ∧ H b = some (.ins C dy gs) ∧ sp [.ref a, .ref b] H (fun v H' => (∃ p, v = .ref p) ∧ Q v H') (fun _ _ _ => False)
theorem op_addOwn {C f : Addr} {fd : FuncData} {ps : List Str} {sp : Sp} {k : Nat} (G : FnOk X.prog X.w X.K X.mg X.base (L2.CX X.prog X.w) k f fd ps sp) (hr : Room k X.A) (hc : PySem.W.selfFirst X.K C = true) (hs : PySem.W.findIn X.K (.ref C) "__add__" = some (some (.ref f))) (hf : PySem.W.isFn X.K (.ref f) = true) (hb : Binds X.K fd ps []) :
    OpR X (binaryOp .Add) (rAddOwn C sp) := by
  intro pins s σ H x y v u Q I rx ry h
  obtain ⟨a, b, dx, dy, fs, gs, rfl, rfl, ha, hbb, hsp⟩ := h
  cases rx
  cases ry
  obtain ⟨mA, J, _⟩ := ins_get I.hok ha
  obtain ⟨od, J, _⟩ := J.look
  obtain ⟨mB, J2, _⟩ := ins_get I.hok hbb
  obtain ⟨od2, J2, _⟩ := J2.look
  obtain ⟨m, hF⟩ := I.fr
  refine PySem.W.binop_K (op := .Add) hF I.ok.mod.kin J J2.type hc hs hf (wpAny_mono (run_sub (vs := [.ref a, .ref b]) G (sub_self hr) hb I (.cons rfl (.cons rfl .nil)) hsp) (fun v s2 z => ?_) fun _ _ e => e)
  obtain ⟨z, H', I', rz, ⟨p, hz⟩, q⟩ := z
  subst hz
  cases rz
  exact ⟨.ref p, H', I', rfl, q⟩
end
end LT
set_option Elab.async false
set_option linter.all false
set_option maxRecDepth 100000
namespace LT
open PySem PySem.Spec PyProof.Rows L2
section
variable {X : Cx} {T : Tb}
/-- an own != : the own == turned round -/
def rOwnNe (K : PySem.W.Frag) (C : Addr) (sp : Sp) : R2 := fun x y H Q => ∃ a dx fs tb, x = .ref a ∧ H a = some (.ins C dx fs) ∧ TyX K H y tb ∧ PySem.W.notFirst K C tb = true ∧ sp [x, y] H (fun v H' => ∃ b, v = .bl b ∧ Q (.bl (!b)) H') (fun _ _ _ => False)
theorem op_neOwn {C f : Addr} {fd : FuncData} {ps : List Str} {sp : Sp} {k : Nat} (G : FnOk X.prog X.w X.K X.mg X.base (L2.CX X.prog X.w) k f fd ps sp) (hr : Room (k + 1) X.A) (hs : PySem.W.findIn X.K (.ref C) "__eq__" = some (some (.ref f))) (hf : PySem.W.isFn X.K (.ref f) = true) (hb : Binds X.K fd ps [])
    (hne : PySem.W.findIn X.K (.ref C) "__ne__" = some (some (.builtin "object.__ne__"))) (hm : PySem.W.mroIn X.K C (.type "object") = some true) : OpR X (compareOp .NotEq) (rOwnNe X.K C sp) := by
  intro pins s σ H x y v u Q I rx ry h
  obtain ⟨a, dx, fs, tb, rfl, ha, ty, hn, hsp⟩ := h
  cases rx
  obtain ⟨mA, J, _⟩ := ins_get I.hok ha
  obtain ⟨od, J, _⟩ := J.look
  obtain ⟨m, hF⟩ := I.fr
  obtain ⟨P, kx, hP, _⟩ := kit_of I ry ty
  have KX := I.kIn
  have hy : PySem.W.Looks (model X.prog X.w) s.heap (typeOf u) tb := kx.ty _ _ KX hP
  have sb : Sub X k X.A.in1 := Sub.in1 (sub_self hr)
  have S : Slot "object" "__ne__" "object.__ne__" := F.slot_object_ne
  -- the builtin's own body
  have hcall : wpAny (model X.prog X.w) X.A (call (.builtin "object.__ne__") [.ref a, u]) (fun v s' => ∃ b, v = .bool b ∧ ∃ H', Inv X pins σ H' s' ∧ Q (.bl b) H') X.xe s := by
    have sub : PySem.W.Looks (model X.prog X.w) s.heap (isInstance (.ref a) (.type "object")) true := J.type.andThen (PySem.W.looks_mroIn KX hm)
    refine wpAny_call (codeAny_call_builtin S.plain F.cmpEntry_ne (@PySem.W.check_slot (model X.prog X.w) _ _ s "object.__ne__" "object" "__ne__" (.ref a) [u] [] _ F.cmpKind_ne F.cmpSplit_ne sub (F.cmpArgs_ne _ _) ?_))
    show wpAny (model X.prog X.w) X.A.in1 (Builtin.«object.__ne__» ⟨[.ref a, u], []⟩) _ _ s
    unfold Builtin.«object.__ne__»
    refine wpAny_bind (wpAny_pure ?_)
    dsimp only
    refine wpAny_bind (wpAny_cRoomFor sb.room.units0 (wpAny_bind (m := callSpecialIfBound? (.ref a) (Str.ofString "__eq__") [u]) (PySem.W.ifBound_K (I.ok.mod.kin.keeps hF.keep) J hs hf (wpAny_mono (run_sub (vs := [.ref a, y]) G sb hb I (.cons rfl (.cons ry .nil)) hsp) (fun v s2 z => ?_) fun _ _ e => e))))
    obtain ⟨z, H', I', rz, b, hz, q⟩ := z
    subst hz
    cases rz
    dsimp only
    refine wpAny_bind (wpAny_truthy_bool (wpAny_pure ?_))
    exact ⟨!b, rfl, H', I', q⟩
  have one : wpAny (model X.prog X.w) X.A (tryCompare (.ref a) "__ne__" u) (fun r s' => ∃ b, r = some (.bool b) ∧ ∃ H', Inv X pins σ H' s' ∧ Q (.bl b) H') X.xe s := by
    unfold tryCompare
    have bound : wpAny (model X.prog X.w) X.A (callSpecialIfBound? (.ref a) "__ne__" [u]) (fun r s' => ∃ b, r = some (.bool b) ∧ ∃ H', Inv X pins σ H' s' ∧ Q (.bl b) H') X.xe s := by
      simp only [callSpecialIfBound?, bindSpecialIfBound?]
      refine wpAny_holding (wpAny_bind (wpAny_bind (wpAny_bind (J.type.here ((PySem.W.looks_findIn KX hne).here ?_)))))
      simp only [S.bind]
      refine wpAny_bind (wpAny_askSetting (wpAny_ite ?_))
      have fin : wpAny (model X.prog X.w) X.A (call (.builtin "object.__ne__") ([.ref a] ++ [u]) >>= fun v => pure (some v)) (fun r s' => ∃ b, r = some (.bool b) ∧ ∃ H', Inv X pins σ H' s' ∧ Q (.bl b) H') X.xe s :=
        wpAny_bind (wpAny_mono hcall (fun v s' ⟨b, hv, z⟩ => wpAny_pure ⟨b, by rw [hv], z⟩) fun _ _ z => z)
      split
      · exact wpAny_bind (wpAny_pure (wpAny_pure fin))
      · exact wpAny_tryCatch (wpAny_bind (wpAny_pure (wpAny_pure fin)))
    refine wpAny_bind (wpAny_mono bound (fun r s' z => ?_) fun _ _ e => e)
    obtain ⟨b, rfl, z⟩ := z
    exact wpAny_pure ⟨b, rfl, z⟩
  show wpAny (model X.prog X.w) X.A (richCompare .NotEq (.ref a) u) (EP X pins σ Q) X.xe s
  unfold richCompare
  simp only [oneThing_ref]
  refine wpAny_holding (wpAny_bind (wpAny_cRoomFor hr.units0 (wpAny_bind (J.type.here (wpAny_bind (hy.here ?_))))))
  have back : ∀ (r : Option Value) (s' : Shared), (∃ b, r = some (.bool b) ∧ ∃ H', Inv X pins σ H' s' ∧ Q (.bl b) H') → ∃ w, r = some w ∧ EP X pins σ Q w s' := fun r s' ⟨b, hb, H', I', q⟩ => ⟨.bool b, hb, .bl b, H', I', rfl, q⟩
  split
  · rename_i q
    have e : PySem.W.subIn X.K tb (.ref C) = some false := by
      rcases Bool.or_eq_true_iff.mp hn with e | e
      · rw [beq_iff_eq.mp e] at q; simp at q
      · exact beq_iff_eq.mp e
    refine wpAny_bind ((PySem.W.looks_subIn KX e).here ?_)
    simp only [Bool.false_eq_true, if_false]
    refine wpAny_bind (wpAny_mono one (fun r s' z => ?_) fun _ _ e => e)
    obtain ⟨w, rfl, hq⟩ := back r s' z
    exact wpAny_pure hq
  · refine wpAny_bind (wpAny_pure ?_)
    simp only [Bool.false_eq_true, if_false]
    refine wpAny_bind (wpAny_mono one (fun r s' z => ?_) fun _ _ e => e)
    obtain ⟨w, rfl, hq⟩ := back r s' z
    exact wpAny_pure hq
end
end LT
set_option Elab.async false
set_option linter.all false
set_option maxRecDepth 100000
namespace LT
open PySem PySem.Spec PyProof.Rows L2
section
variable {K : PySem.W.Frag} {T : Tb}
/-- a def that answers: what else stops -/
def onlyD (q : Dt → Bool) (r : Re Dt) : Re Dt := match r with
  | .ok d st => if q d then .ok d st else .stuck
  | _ => .stuck
theorem only_ok {q : Dt → Bool} {f : List Addr} {H : Hp} {W : Value → Option Addr → Hp → Prop} {r : Re Dt} {Q : VK} (p : Post K T (rV K T) W f H (onlyD q r) Q) {Q' : VK} (h : ∀ d v (H' : Hp) (f' : List Addr), q d = true → RV K T H' f' d v → Q v H' → Q' v H') : Post K T (rV K T) (fun _ _ _ => False) f H r Q' := by
  cases r with
  | ok d st =>
    have p' : Post K T (rV K T) W f H (if q d then .ok d st else .stuck) Q := p
    cases hq : q d with
    | true =>
      rw [hq] at p'
      exact fun f' H' b hp s rh rb => h d b H' f' hq rb (p' f' H' b hp s rh rb)
    | false =>
      rw [hq] at p'
      exact p'.elim
  | exc c fs st => exact p.elim
  | stuck => exact p.elim
def isSt : Dt → Bool
  | .str _ => true
  | _ => false
def isBo : Dt → Bool
  | .bl _ => true
  | _ => false
def isRf : Dt → Bool
  | .ref _ => true
  | .ob _ _ => true
  | _ => false
def isLn : Dt → Bool
  | .int n => decide (0 ≤ n) && decide (n < 1000000000)
  | _ => false
def clsD (x : Dt) (st : Sto) : Option Nat := (objD x st).map (·.1)
theorem clsD_ok {f : List Addr} {H : Hp} {st : Sto} {d : Dt} {v : V} {c : Nat} (rh : RH K T f H st) (r : RV K T H f d v) (h : clsD d st = some c) : ∃ a dx vs, v = .ref a ∧ H a = some (.ins (T.cls c) dx vs) := by
  unfold clsD at h
  cases hi : objD d st with
  | none => rw [hi] at h; cases h
  | some cf =>
    obtain ⟨c', fs⟩ := cf
    rw [hi] at h
    cases h
    obtain ⟨a, dx, vs, e1, e2, _⟩ := objD_ok rh r hi
    exact ⟨a, dx, vs, e1, e2⟩
/-! ### str(x), len(x) -/
def strOwnD (c : Nat) (F : MF) (xs : List Dt) (st : Sto) : Re Dt := match xs with
  | [x] => if clsD x st = some c then onlyD isSt (F [x] st) else .stuck
  | _ => .stuck
theorem snd_strOwn {c : Nat} {F : MF} : SndC K T (rStrOwn (T.cls c) (spF K T.b 1 F)) (strOwnD c F) := fun f H st xs vs Wx Q rh r p => by
  cases r with
  | nil => exact p.elim
  | cons rx t =>
    cases t with
    | cons _ _ => exact p.elim
    | nil =>
      rename_i d v
      have p' : Post K T (rV K T) Wx f H (if clsD d st = some c then onlyD isSt (F [d] st) else .stuck) Q := p
      split at p'
      · rename_i hc
        obtain ⟨a, dx, us, rfl, ha⟩ := clsD_ok rh rx hc
        refine ⟨a, dx, us, rfl, ha, rfl, T.rs, f, [d], st, .cons rx .nil, rh, only_ok p' fun d v H' f' hq rv q => ⟨?_, q⟩⟩
        cases rv <;> first | exact ⟨_, rfl⟩ | cases hq
      · exact p'.elim
def lenOwnD (c : Nat) (F : MF) (xs : List Dt) (st : Sto) : Re Dt := match xs with
  | [x] => if clsD x st = some c then onlyD isLn (F [x] st) else .stuck
  | _ => .stuck
theorem snd_lenOwn {c : Nat} {F : MF} : SndC K T (rLenOwn (T.cls c) (spF K T.b 1 F)) (lenOwnD c F) := fun f H st xs vs Wx Q rh r p => by
  cases r with
  | nil => exact p.elim
  | cons rx t =>
    cases t with
    | cons _ _ => exact p.elim
    | nil =>
      rename_i d v
      have p' : Post K T (rV K T) Wx f H (if clsD d st = some c then onlyD isLn (F [d] st) else .stuck) Q := p
      split at p'
      · rename_i hc
        obtain ⟨a, dx, us, rfl, ha⟩ := clsD_ok rh rx hc
        refine ⟨a, dx, us, rfl, ha, rfl, T.rs, f, [d], st, .cons rx .nil, rh, only_ok p' fun d v H' f' hq rv q => ⟨?_, q⟩⟩
        cases rv with
        | int n =>
          have hq' : (decide (0 ≤ n) && decide (n < 1000000000)) = true := hq
          rw [Bool.and_eq_true] at hq'
          exact ⟨n, rfl, of_decide_eq_true hq'.1, of_decide_eq_true hq'.2⟩
        | _ => cases hq
      · exact p'.elim
/-! ### x + y -/
def addOwnD (c : Nat) (F : MF) (x y : Dt) (st : Sto) : Re Dt := if clsD x st = some c ∧ clsD y st = some c then onlyD isRf (F [x, y] st) else .stuck
theorem snd_addOwn {c : Nat} {F : MF} : Snd2 K T (rAddOwn (T.cls c) (spF K T.b 2 F)) (addOwnD c F) := fun f H st x y vx vy Wx Q rh rx ry p => by
  unfold addOwnD at p
  split at p
  · rename_i hc
    obtain ⟨a, dx, us, rfl, ha⟩ := clsD_ok rh rx hc.1
    obtain ⟨b, dy, ws, rfl, hb⟩ := clsD_ok rh ry hc.2
    refine ⟨a, b, dx, dy, us, ws, rfl, rfl, ha, hb, rfl, T.rs, f, [x, y], st, .cons rx (.cons ry .nil), rh, only_ok p fun d v H' f' hq rv q => ⟨?_, q⟩⟩
    cases rv <;> first | exact ⟨_, rfl⟩ | cases hq
  · exact p.elim
/-! ### x == y, x != y -/
/-- the other's kinds that an own == may meet: q -/
structure EqOk (K : PySem.W.Frag) (T : Tz) (c : Nat) (q : Tk → Bool) : Prop where
  ins : ∀ c', q (.ins c') = true → InsT K (T.cls c')
  nf : ∀ t, q t = true → PySem.W.notFirst K (T.cls c) (tkV T t) = true
def eqOwnD (c : Nat) (q : Tk → Bool) (F : MF) (x y : Dt) (st : Sto) : Re Dt := if clsD x st = some c then (match tkD y st with
  | some t => if q t then onlyD isBo (F [x, y] st) else .stuck
  | none => .stuck) else .stuck
theorem snd_eqOwn {c : Nat} {q : Tk → Bool} {F : MF} (E : EqOk K T.b c q) : Snd2 K T (rOwnEq K (T.cls c) (spF K T.b 2 F)) (eqOwnD c q F) := fun f H st x y vx vy Wx Q rh rx ry p => by
  unfold eqOwnD at p
  split at p
  · rename_i hc
    obtain ⟨a, dx, us, rfl, ha⟩ := clsD_ok rh rx hc
    cases ht : tkD y st with
    | none => rw [ht] at p; exact p.elim
    | some t =>
      rw [ht] at p
      simp only at p
      split at p
      · rename_i hq
        refine ⟨a, dx, us, tkV T.b t, rfl, ha, ty_ok rh ry ht (fun c' e => E.ins c' (by rw [← e]; exact hq)), E.nf t hq, rfl, T.rs, f, [x, y], st, .cons rx (.cons ry .nil), rh, only_ok p fun d v H' f' hq2 rv z => ⟨?_, z⟩⟩
        cases rv <;> first | exact ⟨_, rfl⟩ | cases hq2
      · exact p.elim
  · exact p.elim
def notRe : Re Dt → Re Dt
  | .ok (.bl b) st => .ok (.bl (!b)) st
  | _ => .stuck
def neOwnD (c : Nat) (q : Tk → Bool) (F : MF) (x y : Dt) (st : Sto) : Re Dt := if clsD x st = some c then (match tkD y st with
  | some t => if q t then notRe (F [x, y] st) else .stuck
  | none => .stuck) else .stuck
theorem snd_neOwn {c : Nat} {q : Tk → Bool} {F : MF} (E : EqOk K T.b c q) : Snd2 K T (rOwnNe K (T.cls c) (spF K T.b 2 F)) (neOwnD c q F) := fun f H st x y vx vy Wx Q rh rx ry p => by
  unfold neOwnD at p
  split at p
  · rename_i hc
    obtain ⟨a, dx, us, rfl, ha⟩ := clsD_ok rh rx hc
    cases ht : tkD y st with
    | none => rw [ht] at p; exact p.elim
    | some t =>
      rw [ht] at p
      simp only at p
      split at p
      · rename_i hq
        refine ⟨a, dx, us, tkV T.b t, rfl, ha, ty_ok rh ry ht (fun c' e => E.ins c' (by rw [← e]; exact hq)), E.nf t hq, rfl, T.rs, f, [x, y], st, .cons rx (.cons ry .nil), rh, ?_⟩
        cases hF : F [x, y] st with
        | ok d st' =>
          rw [hF] at p
          cases d with
          | bl b =>
            intro f' H' v hp s rh' rv
            cases rv
            exact ⟨b, rfl, p f' H' _ hp s rh' (.bl _)⟩
          | _ => exact p.elim
        | exc c fs st => rw [hF] at p; exact p.elim
        | stuck => rw [hF] at p; exact p.elim
      · exact p.elim
  · exact p.elim
/-! ### one or the other, by the first value -/
theorem snd_by {r r' : R2} {g h : Dt → Dt → Sto → Re Dt} (sel : Dt → Sto → Bool) (hg : Snd2 K T r g) (hh : Snd2 K T r' h) : Snd2 K T (fun x y H Q => r x y H Q ∨ r' x y H Q) (fun x y st => if sel x st then g x y st else h x y st) := fun f H st x y vx vy Wx Q rh rx ry p => by
  simp only at p
  split at p
  · exact .inl (hg f H st x y vx vy Wx Q rh rx ry p)
  · exact .inr (hh f H st x y vx vy Wx Q rh rx ry p)
def is1 (c : Nat) (xs : List Dt) (st : Sto) : Bool := match xs with
  | [x] => decide (clsD x st = some c)
  | _ => false
theorem sndC_by {r r' : List V → Hp → VK → Prop} {g h : List Dt → Sto → Re Dt} (sel : List Dt → Sto → Bool) (hg : SndC K T r g) (hh : SndC K T r' h) : SndC K T (fun xs H Q => r xs H Q ∨ r' xs H Q) (fun xs st => if sel xs st then g xs st else h xs st) := fun f H st xs vs Wx Q rh rx p => by
  simp only at p
  split at p
  · exact .inl (hg f H st xs vs Wx Q rh rx p)
  · exact .inr (hh f H st xs vs Wx Q rh rx p)
end
end LT
set_option Elab.async false
set_option linter.all false
set_option maxRecDepth 100000
namespace LT
open PySem PySem.Spec PyProof.Rows L2
/-! ### own operators, bundled -/
structure SpOk (P : Program) (w : World) (K : PySem.W.Frag) (mg : Str → Option Value) (base : Heap) (T : Tz) (m : Str) (c k n : Nat) (F : MF) : Prop where
  ex : ∃ f fd ps, PySem.W.findIn K (.ref (T.cls c)) m = some (some (.ref f)) ∧ PySem.W.isFn K (.ref f) = true ∧ Binds K fd ps [] ∧ FnOk P w K mg base (L2.CX P w) k f fd ps (spF K T n F)
structure NeOk (K : PySem.W.Frag) (T : Tz) (c : Nat) : Prop where
  ne : PySem.W.findIn K (.ref (T.cls c)) "__ne__" = some (some (.builtin "object.__ne__"))
  ob : PySem.W.mroIn K (T.cls c) (.type "object") = some true
section
variable {X : Cx} {T : Tb} {c k : Nat} {F : MF} {q : Tk → Bool}
theorem op_eqO {B : Tz} (D : SpOk X.prog X.w X.K X.mg X.base B "__eq__" c k 2 F) (hr : Room k X.A) : OpR X (compareOp .Eq) (rOwnEq X.K (B.cls c) (spF X.K B 2 F)) := by
  obtain ⟨f, fd, ps, h1, h2, h3, h4⟩ := D.ex
  exact op_eqOwn h4 hr h1 h2 h3
theorem op_neO {B : Tz} (D : SpOk X.prog X.w X.K X.mg X.base B "__eq__" c k 2 F) (N : NeOk X.K B c) (hr : Room (k + 1) X.A) : OpR X (compareOp .NotEq) (rOwnNe X.K (B.cls c) (spF X.K B 2 F)) := by
  obtain ⟨f, fd, ps, h1, h2, h3, h4⟩ := D.ex
  exact op_neOwn h4 hr h1 h2 h3 N.ne N.ob
theorem op_addO {B : Tz} (D : SpOk X.prog X.w X.K X.mg X.base B "__add__" c k 2 F) (hc : PySem.W.selfFirst X.K (B.cls c) = true) (hr : Room k X.A) : OpR X (binaryOp .Add) (rAddOwn (B.cls c) (spF X.K B 2 F)) := by
  obtain ⟨f, fd, ps, h1, h2, h3, h4⟩ := D.ex
  exact op_addOwn h4 hr hc h1 h2 h3
theorem call_strO {B : Tz} (D : SpOk X.prog X.w X.K X.mg X.base B "__str__" c k 1 F) (hr : Room (k + 2) X.A) : CallR X (.type "str") (rStrOwn (B.cls c) (spF X.K B 1 F)) := by
  obtain ⟨f, fd, ps, h1, h2, h3, h4⟩ := D.ex
  exact call_strOwn h4 hr h1 h2 h3
theorem call_lenO {B : Tz} (D : SpOk X.prog X.w X.K X.mg X.base B "__len__" c k 1 F) (hr : Room (k + 1) X.A) : CallR X (.builtin "len") (rLenOwn (B.cls c) (spF X.K B 1 F)) := by
  obtain ⟨f, fd, ps, h1, h2, h3, h4⟩ := D.ex
  exact call_lenOwn h4 hr h1 h2 h3
end
/-! ### what the law does not reach -/
def mStuck : ME := fun _ _ => .stuck
theorem ie_stuck {X : Cx} {T : Tb} {W : WX} {e : Expr} : IE X T W e mStuck := ⟨fun pins s σ H Q I h => by
  obtain ⟨f, env, st, re, rh, p⟩ := h
  exact p.elim⟩
def sStuck : MS := fun _ _ => .stuck
theorem is_stuck {X : Cx} {T : Tb} {W : WX} {e : Stmt} : IS X T W e sStuck := ⟨fun pins s σ H E I h => by
  obtain ⟨f, env, st, re, rh, p⟩ := h
  exact p.elim⟩
/-! ### x += y -/
section
variable {K : PySem.W.Frag} {T : Tb}
def addI := i2 fun i j => .int (i + j)
theorem snd_addI : Snd2 K T (rI0 fun i j => .int (i + j)) addI := snd_i0 fun _ _ _ _ => .int _
def extD : Dt → Dt → Sto → Re Dt
  | .ref i, .ref j, st => match st[i]?, st[j]? with
    | some (.lst a), some (.lst b) => if a.length + b.length ≤ lim then .ok (.ref i) (st.set i (.lst (a ++ b))) else .stuck
    | _, _ => .stuck
  | _, _, _ => .stuck
end
/-- whether the first value is an instance of class c -/
def selC (c : Nat) (x : Dt) (st : Sto) : Bool := decide (clsD x st = some c)
end LT
set_option Elab.async false
set_option linter.all false
set_option maxRecDepth 100000
namespace LT
open PySem PySem.Spec PyProof.Rows L2
section
variable {X : Cx} {T : Tb} {pos : Pos}
theorem gTp_no (is : List Nat) : ∀ d env st, (match gTp is d env st with | .nx _ _ => true | .stuck => true | _ => false) = true := fun d env st => by
  cases d with
  | tup ds =>
    have e : gTp is (.tup ds) env st = if is.length = ds.length then .nx ((is.zip ds).foldl (fun en p => en.set p.1 (some p.2)) env) st else .stuck := by cases is <;> rfl
    rw [e]
    by_cases h : is.length = ds.length
    · rw [if_pos h]
    · rw [if_neg h]
  | _ => cases is <;> rfl
/-- names from a list -/
def gLs (is : List Nat) : MG := fun d env st => match lsD d st with
  | some ds => if is.length = ds.length then .nx ((is.zip ds).foldl (fun en p => en.set p.1 (some p.2)) env) st else .stuck
  | none => .stuck
theorem gLs_no (is : List Nat) : ∀ d env st, (match gLs is d env st with | .nx _ _ => true | .stuck => true | _ => false) = true := fun d env st => by
  unfold gLs
  cases lsD d st with
  | none => rfl
  | some ds =>
    simp only
    by_cases h : is.length = ds.length
    · rw [if_pos h]
    · rw [if_neg h]
theorem ig_lst {es : List Expr} {k : Nat} {is : List Nat} {n : Nat} (hc : X.calm = true) (hN : X.N.Nodup) (h : NameTargets X es is) (hl : is.length = n) (hn : (assignEach es X.env).length = n := by rfl) (hst : (assignEach es X.env).findIdx? (·.1) = none := by rfl) :
    IG X T (.Tuple es k pos) (gLs is) := PGw (pg_lst hc (pgs_names hN h) hn hst) fun v σ H Q ⟨f, env, st, d, re, rh, rv, p⟩ => by
  unfold gLs at p
  cases hd : lsD d st with
  | none => rw [hd] at p; exact p.elim
  | some ds =>
    rw [hd] at p
    simp only at p
    obtain ⟨a, vs, rfl, h1, r⟩ := lsD_ok rh rv hd
    split at p
    · rename_i hl2
      exact ⟨a, vs, rfl, .inl (.inl h1), by rw [← r.len, ← hl2]; exact hl, gNs_ok is ds vs env σ hl2 r re fun σ' re' _ => p f H σ' (List.prefix_refl _) Stay.refl rh re'⟩
    · exact p.elim
end
end LT
set_option Elab.async false
set_option linter.all false
set_option maxRecDepth 100000
namespace LT
open PySem PySem.Spec PyProof.Rows L2
section
theorem noIadd {K : PySem.W.Frag} {M : Model} {h : Heap} {C : Addr} {cd : ClassData} (KX : K.In h) (hc : PySem.W.clsIn K C = some cd) (hm : cd.mro = [.ref C, .type "object"]) (h1 : PySem.W.findIn K (.ref C) "__iadd__" = some none) (h2 : PySem.W.findIn K (.type "object") "__iadd__" = some none) :
    PySem.W.Looks M h (fillsInplaceSlot (.ref C) "add" true) false := by
  intro A Q E s k q
  unfold fillsInplaceSlot
  refine wpAny_bind ((PySem.W.looks_clsIn KX hc).andThen (f := fun cd => pure cd.mro) .now A _ E s k ?_)
  rw [hm, List.anyM_cons]
  refine wpAny_bind (wpAny_bind (PySem.W.looks_findIn KX h1 A _ E s k (wpAny_pure ?_)))
  rw [List.anyM_cons]
  refine wpAny_bind (wpAny_bind (PySem.W.looks_findIn KX h2 A _ E s k (wpAny_pure ?_)))
  exact wpAny_pure q
variable {X : Cx} {T : Tb}
theorem iop_addOwn {C f : Addr} {fd : FuncData} {ps : List Str} {sp : Sp} {k : Nat} {cd : ClassData} (G : FnOk X.prog X.w X.K X.mg X.base (L2.CX X.prog X.w) k f fd ps sp) (hr : Room k X.A) (hs : PySem.W.findIn X.K (.ref C) "__add__" = some (some (.ref f))) (hf : PySem.W.isFn X.K (.ref f) = true) (hb : Binds X.K fd ps [])
    (hc : PySem.W.clsIn X.K C = some cd) (hm : cd.mro = [.ref C, .type "object"]) (h1 : PySem.W.findIn X.K (.ref C) "__iadd__" = some none) (h2 : PySem.W.findIn X.K (.type "object") "__iadd__" = some none) : OpR X (inplaceOp .Add) (rAddOwn C sp) := by
  intro pins s σ H x y v u Q I rx ry h
  obtain ⟨a, b, dx, dy, fs, gs, rfl, rfl, ha, hbb, hsp⟩ := h
  cases rx
  cases ry
  obtain ⟨mA, J, _⟩ := ins_get I.hok ha
  obtain ⟨od, J, _⟩ := J.look
  obtain ⟨mB, J2, _⟩ := ins_get I.hok hbb
  obtain ⟨od2, J2, _⟩ := J2.look
  have KX := I.kIn
  unfold inplaceOp
  refine wpAny_holding (wpAny_bind (J.type.here (wpAny_bind ((noIadd KX hc hm h1 h2).here ?_))))
  simp only [Bool.false_eq_true, if_false]
  unfold binaryOp1
  refine wpAny_bind (wpAny_bind (J.type.here (wpAny_bind (J2.type.here (wpAny_bind ((PySem.W.fills_K (nm := "add") KX hc hm hs).here ?_))))))
  simp only [beq_self_eq_true, if_true]
  refine wpAny_bind (wpAny_pure ?_)
  simp only [Bool.and_false, Bool.false_eq_true, if_false, Bool.false_and]
  refine wpAny_bind (wpAny_pure ?_)
  simp only [Bool.false_eq_true, if_false]
  refine wpAny_bind (m := tryMethod (.ref a) _ (.ref b)) ?_
  unfold tryMethod
  refine wpAny_bind (PySem.W.special_fn KX J hs (beq_iff_eq.mp hf) (wpAny_mono (run_sub (vs := [.ref a, .ref b]) G (sub_self hr) hb I (.cons rfl (.cons rfl .nil)) hsp) (fun v s2 z => ?_) fun _ _ e => e))
  obtain ⟨z, H', I', rz, ⟨p, hz⟩, q⟩ := z
  subst hz
  cases rz
  exact wpAny_pure (wpAny_pure (wpAny_pure ⟨.ref p, H', I', rfl, q⟩))
structure IaOk (K : PySem.W.Frag) (T : Tz) (c : Nat) : Prop where
  ex : ∃ cd, PySem.W.clsIn K (T.cls c) = some cd ∧ cd.mro = [.ref (T.cls c), .type "object"] ∧ PySem.W.findIn K (.ref (T.cls c)) "__iadd__" = some none ∧ PySem.W.findIn K (.type "object") "__iadd__" = some none
theorem iop_addO {B : Tz} {c k : Nat} {F : MF} (D : SpOk X.prog X.w X.K X.mg X.base B "__add__" c k 2 F) (N : IaOk X.K B c) (hr : Room k X.A) : OpR X (inplaceOp .Add) (rAddOwn (B.cls c) (spF X.K B 2 F)) := by
  obtain ⟨f, fd, ps, h1, h2, h3, h4⟩ := D.ex
  obtain ⟨cd, n1, n2, n3, n4⟩ := N.ex
  exact iop_addOwn h4 hr h1 h2 h3 n1 n2 n3 n4
end
end LT
set_option Elab.async false
set_option linter.all false
set_option maxRecDepth 100000
namespace LT
open PySem PySem.SeqAt
open AutoSeq1 (wpAny_loadPart')
open MeetsSeq MeetsSeq2 MeetsSeq3 SeqRoads2
/-! ### tuples compared item by item, the items by what they are -/
section
variable {prog : Program} {w : World} {A : Around} {R : Result → Shared → Prop}
theorem tup_eqQ (l b : Addr) (items items2 : Array Value) (n n2 : Nat) (dd dd2 : Option Addr) (sl sl2 : Array (Option Value)) (I : List (Value × Value) → Shared → Prop)
    (turn : ∀ x y rest s, I ((x, y) :: rest) s → wpAny (model prog w) A.in1 (eqBool x y) (fun r s' => if r = true then I rest s' else R (.ok (.ret (.bool false))) s') (fun e s' => R (.error e) s') s)
    (fin : ∀ s, I [] s → R (.ok (.ret (.bool (items.size == items2.size)))) s) {s : Shared} (hl1 : s.heap.get? l = some { cls := .type "tuple", dict := dd, data := .seq items n, slots := sl }) (hb1 : s.heap.get? b = some { cls := .type "tuple", dict := dd2, data := .seq items2 n2, slots := sl2 }) (h : I (items.toList.zip items2.toList) s) :
    wpAny (model prog w) A.in1 (Builtin.«tuple.__eq__» ⟨[.ref l, .ref b], []⟩) (GQ.FinOf prog w A R) (fun e s' => R (.error e) s') s := by
  have f2 := AutoSeq1.sub_tuple_tuple
  have h0 := h
  obtain ⟨hp, g, d, tk, os⟩ := s
  wp_walk using wpAny_loadPart' hl1, wpAny_loadPart' hb1, wpAny_forIn_list _ (fun rest b s' => b.1 = none ∧ I rest s') _
  case turn =>
    rintro ⟨y, x⟩ rest b s' ⟨hb', hI⟩
    refine wpAny_bind (wpAny_mono (turn y x rest s' hI) (fun r s2 q2 => ?_) fun _ _ x => x)
    cases r with
    | true =>
      rw [if_pos rfl] at q2
      wp_walk
      exact ⟨rfl, q2⟩
    | false =>
      rw [if_neg Bool.false_ne_true] at q2
      wp_walk
      exact q2
  case fin =>
    rintro ⟨b1, b2⟩ s' ⟨hb', hI⟩
    simp only at hb'
    subst hb'
    have hR := fin s' hI
    wp_walk
    simpa [Builtin.Tuple.tupleCompareSizes] using hR
  case h =>
    exact ⟨rfl, h0⟩
theorem tup_neQ (l b : Addr) (items items2 : Array Value) (n n2 : Nat) (dd dd2 : Option Addr) (sl sl2 : Array (Option Value)) (I : List (Value × Value) → Shared → Prop)
    (turn : ∀ x y rest s, I ((x, y) :: rest) s → wpAny (model prog w) A.in1 (eqBool x y) (fun r s' => if r = true then I rest s' else R (.ok (.ret (.bool true))) s') (fun e s' => R (.error e) s') s)
    (fin : ∀ s, I [] s → R (.ok (.ret (.bool (items.size != items2.size)))) s) {s : Shared} (hl1 : s.heap.get? l = some { cls := .type "tuple", dict := dd, data := .seq items n, slots := sl }) (hb1 : s.heap.get? b = some { cls := .type "tuple", dict := dd2, data := .seq items2 n2, slots := sl2 }) (h : I (items.toList.zip items2.toList) s) :
    wpAny (model prog w) A.in1 (Builtin.«tuple.__ne__» ⟨[.ref l, .ref b], []⟩) (GQ.FinOf prog w A R) (fun e s' => R (.error e) s') s := by
  have f2 := AutoSeq1.sub_tuple_tuple
  have h0 := h
  obtain ⟨hp, g, d, tk, os⟩ := s
  wp_walk using wpAny_loadPart' hl1, wpAny_loadPart' hb1, wpAny_forIn_list _ (fun rest b s' => b.1 = none ∧ I rest s') _
  case turn =>
    rintro ⟨y, x⟩ rest b s' ⟨hb', hI⟩
    refine wpAny_bind (wpAny_mono (turn y x rest s' hI) (fun r s2 q2 => ?_) fun _ _ x => x)
    cases r with
    | true =>
      rw [if_pos rfl] at q2
      wp_walk
      exact ⟨rfl, q2⟩
    | false =>
      rw [if_neg Bool.false_ne_true] at q2
      wp_walk
      exact q2
  case fin =>
    rintro ⟨b1, b2⟩ s' ⟨hb', hI⟩
    simp only at hb'
    subst hb'
    have hR := fin s' hI
    wp_walk
    simpa [Builtin.Tuple.tupleCompareSizes] using hR
  case h =>
    exact ⟨rfl, h0⟩
end
end LT
namespace LT
open PySem PySem.Spec PyProof.Rows L2
abbrev TQ := V → V → Hp → (Bool → Hp → Prop) → Prop
/-- two values compared within a built-in, somewhere below the running body -/
def QR (X : Cx) (n : Nat) (t : TQ) : Prop := ∀ (A : Around) (pins : List (Addr × Obj)) (s : Shared) (σ : L2.St) (H : Hp) (x y : V) (u v : Value) (Q : Bool → Hp → Prop), Sub X n A → Inv X pins σ H s → RelV x u → RelV y v → t x y H Q →
  wpAny (model X.prog X.w) A (eqBool u v) (fun r s' => ∃ H', Inv X pins σ H' s' ∧ Q r H') X.xe s
def tEqs (t : TQ) : List V → List V → Hp → (Bool → Hp → Prop) → Prop
  | v :: vs, w :: ws, H, k => t v w H fun b H' => if b = true then tEqs t vs ws H' k else k false H'
  | [], [], H, k => k true H
  | _, _, H, k => k false H
def rTupQ (K : PySem.W.Frag) (t : TQ) (ne : Bool) : R2 := fun x y H Q => ∃ a b vs ws, x = .ref a ∧ y = .ref b ∧ SqT K H a vs ∧ SqT K H b ws ∧ tEqs t vs ws H fun r H' => Q (.bl (r != ne)) H'
section
variable {X : Cx}
/-- the pairs that are left -/
def LeftQ (X : Cx) (pins : List (Addr × Obj)) (σ : L2.St) (t : TQ) (e0 : Bool) (Q : Bool → Hp → Prop) (ps : List (Value × Value)) (s : Shared) : Prop :=
  ∃ H vs ws, Inv X pins σ H s ∧ (∃ us us2, Vals vs us ∧ Vals ws us2 ∧ ps = us.zip us2 ∧ (us.length == us2.length) = e0) ∧ tEqs t vs ws H Q
theorem leftQ_turn {n : Nat} {A : Around} {t : TQ} (h : QR X n t) (sb : Sub X n A) {pins : List (Addr × Obj)} {σ : L2.St} {e0 : Bool} {Q : Bool → Hp → Prop} {x y : Value} {rest : List (Value × Value)} {s : Shared} (l : LeftQ X pins σ t e0 Q ((x, y) :: rest) s) :
    wpAny (model X.prog X.w) A (eqBool x y) (fun r s' => if r = true then LeftQ X pins σ t e0 Q rest s' else ∃ H', Inv X pins σ H' s' ∧ Q false H') X.xe s := by
  obtain ⟨H, vs, ws, I, ⟨us, us2, r1, r2, hz, hl⟩, q⟩ := l
  cases r1 with
  | nil => simp at hz
  | cons p1 t1 =>
    cases r2 with
    | nil => simp at hz
    | cons p2 t2 =>
      rw [List.zip_cons_cons] at hz
      injection hz with h1 h2
      injection h1 with h3 h4
      subst h3 h4
      refine wpAny_mono (h A pins s σ H _ _ _ _ _ sb I p1 p2 q) (fun r s' z => ?_) fun _ _ e => e
      obtain ⟨H', I', z⟩ := z
      cases r with
      | true =>
        rw [if_pos rfl] at z ⊢
        exact ⟨H', _, _, I', ⟨_, _, t1, t2, h2, by simpa using hl⟩, z⟩
      | false =>
        rw [if_neg Bool.false_ne_true] at z ⊢
        exact ⟨H', I', z⟩
theorem leftQ_fin {pins : List (Addr × Obj)} {σ : L2.St} {t : TQ} {e0 : Bool} {Q : Bool → Hp → Prop} {s : Shared} (l : LeftQ X pins σ t e0 Q [] s) : ∃ H', Inv X pins σ H' s ∧ Q e0 H' := by
  obtain ⟨H, vs, ws, I, ⟨us, us2, r1, r2, hz, hl⟩, q⟩ := l
  cases r1 with
  | nil =>
    cases r2 with
    | nil => exact ⟨H, I, by rw [← hl]; exact q⟩
    | cons _ t2 => exact ⟨H, I, by rw [← hl]; exact q⟩
  | cons _ t1 =>
    cases r2 with
    | nil => exact ⟨H, I, by rw [← hl]; exact q⟩
    | cons _ _ => simp at hz
theorem op_tupQE {n : Nat} {t : TQ} (h : QR X n t) (hr : Room (n + 1) X.A) : OpR X (compareOp .Eq) (rTupQ X.K t false) := by
  intro pins s σ H x y v u Q I rx ry hh
  obtain ⟨a, b, vs, ws, rfl, rfl, h1, h2, q⟩ := hh
  cases rx
  cases ry
  obtain ⟨i1, r1, ⟨⟨c1, d1, dt1, l1⟩, g1, e1, n1, s1⟩, _⟩ := I.tuple h1
  obtain ⟨i2, r2, ⟨⟨c2, d2, dt2, l2⟩, g2, e2, n2, s2⟩, _⟩ := I.tuple h2
  simp only at e1 s1 e2 s2
  subst e1 s1 e2 s2
  have sb : Sub X n X.A.in1 := Sub.in1 (sub_self hr)
  show wpAny (model X.prog X.w) X.A (richCompare .Eq (.ref a) (.ref b)) _ _ s
  refine wpAny_richCompare_same_room (op := .Eq) ⟨_, g1, rfl⟩ ⟨_, g2, rfl⟩ F.slot_tuple_eq (GQ.call_here F.slot_tuple_eq ⟨_, g1, rfl⟩ F.entry_tuple_eq (F.args_tuple_eq_2 _ _) (tup_eqQ a b _ _ n1 n2 d1 d2 l1 l2
    (LeftQ X pins σ t (i1.length == i2.length) (fun r H' => Q (.bl (r != false)) H')) (fun x y rest s' l => wpAny_mono (leftQ_turn h sb l) (fun r s2 z => ?_) fun _ _ e => e) (fun s' l => ?_) g1 g2 ?_)) hr.units0
  · cases r with
    | true => exact z
    | false =>
      rw [if_neg Bool.false_ne_true] at z ⊢
      obtain ⟨H', I', z⟩ := z
      exact ⟨(fun z => nomatch z), V.bl false, H', I', rfl, z⟩
  · obtain ⟨H', I', z⟩ := leftQ_fin l
    refine ⟨(fun z => nomatch z), V.bl (i1.length == i2.length), H', I', ?_, ?_⟩
    · show Value.bool _ = Value.bool _
      simp
    · simpa using z
  · exact ⟨H, vs, ws, I, ⟨i1, i2, r1, r2, by simp, rfl⟩, q⟩
theorem op_tupQN {n : Nat} {t : TQ} (h : QR X n t) (hr : Room (n + 1) X.A) : OpR X (compareOp .NotEq) (rTupQ X.K t true) := by
  intro pins s σ H x y v u Q I rx ry hh
  obtain ⟨a, b, vs, ws, rfl, rfl, h1, h2, q⟩ := hh
  cases rx
  cases ry
  obtain ⟨i1, r1, ⟨⟨c1, d1, dt1, l1⟩, g1, e1, n1, s1⟩, _⟩ := I.tuple h1
  obtain ⟨i2, r2, ⟨⟨c2, d2, dt2, l2⟩, g2, e2, n2, s2⟩, _⟩ := I.tuple h2
  simp only at e1 s1 e2 s2
  subst e1 s1 e2 s2
  have sb : Sub X n X.A.in1 := Sub.in1 (sub_self hr)
  show wpAny (model X.prog X.w) X.A (richCompare .NotEq (.ref a) (.ref b)) _ _ s
  refine wpAny_richCompare_same_room (op := .NotEq) ⟨_, g1, rfl⟩ ⟨_, g2, rfl⟩ F.slot_tuple_ne (GQ.call_here F.slot_tuple_ne ⟨_, g1, rfl⟩ F.entry_tuple_ne (F.args_tuple_ne_2 _ _) (tup_neQ a b _ _ n1 n2 d1 d2 l1 l2
    (LeftQ X pins σ t (i1.length == i2.length) (fun r H' => Q (.bl (r != true)) H')) (fun x y rest s' l => wpAny_mono (leftQ_turn h sb l) (fun r s2 z => ?_) fun _ _ e => e) (fun s' l => ?_) g1 g2 ?_)) hr.units0
  · cases r with
    | true => exact z
    | false =>
      rw [if_neg Bool.false_ne_true] at z ⊢
      obtain ⟨H', I', z⟩ := z
      exact ⟨(fun z => nomatch z), V.bl true, H', I', rfl, z⟩
  · obtain ⟨H', I', z⟩ := leftQ_fin l
    refine ⟨(fun z => nomatch z), V.bl (i1.length != i2.length), H', I', ?_, ?_⟩
    · show Value.bool _ = Value.bool _
      simp
    · have e : ((i1.length == i2.length) != true) = (i1.length != i2.length) := by simp [bne]
      rw [← e]
      exact z
  · exact ⟨H, vs, ws, I, ⟨i1, i2, r1, r2, by simp, rfl⟩, q⟩
/-- instances of one class with an own ==, or one and the same -/
def tOwnQ (X : Cx) (C : Addr) (sp : Sp) : TQ := fun x y H Q => ∃ a b dx fs tb, x = .ref a ∧ y = .ref b ∧ H a = some (.ins C dx fs) ∧ TyX X.K H y tb ∧ PySem.W.notFirst X.K C tb = true ∧ (a = b → (∃ pins s σ, Inv X pins σ H s) → Q true H) ∧ (a ≠ b → sp [x, y] H (fun v H' => ∃ r, v = .bl r ∧ Q r H') (fun _ _ _ => False))
theorem qr_own {C f : Addr} {fd : FuncData} {ps : List Str} {sp : Sp} {k : Nat} (F : FnOk X.prog X.w X.K X.mg X.base (L2.CX X.prog X.w) k f fd ps sp) (hs : PySem.W.findIn X.K (.ref C) "__eq__" = some (some (.ref f))) (hf : PySem.W.isFn X.K (.ref f) = true) (hb : Binds X.K fd ps []) : QR X k (tOwnQ X C sp) := by
  intro A pins s σ H x y u v Q sb I rx ry h
  obtain ⟨a, b, dx, fs, tb, rfl, rfl, ha, ty, hn, hi, hsp⟩ := h
  obtain ⟨mA, J, _⟩ := ins_get I.hok ha
  obtain ⟨od, J, _⟩ := J.look
  obtain ⟨m, hF⟩ := I.fr
  obtain ⟨P, kx, hP, _⟩ := kit_of I ry ty
  cases rx
  cases ry
  by_cases hab : a = b
  · subst hab
    unfold eqBool
    refine wpAny_holding ?_
    refine wpAny_ite_split (fun _ => ?_) (fun hne => absurd (show (Value.ref a == Value.ref a) = true by simp) hne)
    wp_walk
    exact ⟨H, I, hi rfl ⟨pins, s, σ, I⟩⟩
  · refine GQ.eqBool_refG hab (PySem.W.cmp_K (op := .Eq) (tb := tb) sb.room.units0 hF I.ok.mod.kin J ?ty hn hs hf ?_)
    case ty => exact kx.ty _ _ I.kIn hP
    refine wpAny_mono (run_sub (vs := [.ref a, .ref b]) F sb hb I (.cons rfl (.cons rfl .nil)) (hsp hab)) (fun r s' z => ?_) fun _ _ e => e
    obtain ⟨z, H', I', rz, b', hz, q⟩ := z
    subst hz
    cases rz
    exact ⟨b', rfl, H', I', q⟩
end
end LT
set_option Elab.async false
set_option linter.all false
set_option maxRecDepth 100000
namespace LT
open PySem PySem.Spec PyProof.Rows L2
/-! ### plain data is told by its value -/
mutual
def plD : Dt → Bool
  | .non => true
  | .bl _ => true
  | .int _ => true
  | .str _ => true
  | .tup xs => plL xs
  | _ => false
def plL : List Dt → Bool
  | [] => true
  | d :: r => plD d && plL r
end
def plF : List (Nat × Dt) → Bool
  | [] => true
  | (_, d) :: r => plD d && plF r
theorem relV_fn {x y : V} {u : Value} (h : RelV x u) (h2 : RelV y u) : x = y := by
  cases x <;> cases y <;> simp only [L2.RelV] at h h2 <;> (try obtain ⟨_, h⟩ := h) <;> (try obtain ⟨_, h2⟩ := h2) <;> simp_all
theorem vals_fn : ∀ {xs ys : List V} {us : List Value}, Vals xs us → Vals ys us → xs = ys
  | _, _, _, .nil, .nil => rfl
  | _, _, _, .cons h t, .cons h2 t2 => by
    rw [vals_fn t t2, relV_fn h h2]
section
variable {X : Cx} {T : Tb} {pins : List (Addr × Obj)} {s : Shared} {σ : L2.St} {H : Hp} {f : List Addr}
mutual
theorem RV.fn (I : Inv X pins σ H s) : ∀ (d d' : Dt) (v : V), plD d = true → plD d' = true → RV X.K T H f d v → RV X.K T H f d' v → d = d'
  | .non, d', v, _, h', r, r' => by cases r; cases r'; rfl
  | .bl b, d', v, _, h', r, r' => by cases r; cases r'; rfl
  | .int b, d', v, _, h', r, r' => by cases r; cases r'; rfl
  | .str b, d', v, _, h', r, r' => by cases r; cases r'; rfl
  | .rl b, d', v, h, h', r, r' => by cases h
  | .li b, d', v, h, h', r, r' => by cases h
  | .ob b _, d', v, h, h', r, r' => by cases h
  | .dv b, d', v, h, h', r, r' => by cases h
  | .ref b, d', v, h, h', r, r' => by cases h
  | .tup ds, d', v, h, h', r, r' => by
    cases r with
    | @tup _ vs a hs r =>
      cases r' with
      | @tup ds' vs' _ hs' r' =>
        simp only [plD] at h h'
        obtain ⟨i1, r1, ⟨o1, g1, e1, n1, s1⟩, _⟩ := I.tuple hs
        obtain ⟨i2, r2, ⟨o2, g2, e2, n2, s2⟩, _⟩ := I.tuple hs'
        rw [g1] at g2
        cases g2
        rw [s1] at s2
        injection s2 with s2 _
        have e : i1 = i2 := by simpa using s2
        subst e
        have ev := vals_fn r1 r2
        subst ev
        rw [RVs.fn I ds ds' vs h h' r r']
      | _ => cases h'
theorem RVs.fn (I : Inv X pins σ H s) : ∀ (d d' : List Dt) (v : List V), plL d = true → plL d' = true → RVs X.K T H f d v → RVs X.K T H f d' v → d = d'
  | [], _, _, _, _, r, r' => by cases r; cases r'; rfl
  | d :: ds, _, _, h, h', r, r' => by
    cases r with
    | cons q t =>
      cases r' with
      | cons q' t' =>
        simp only [plL, Bool.and_eq_true] at h h'
        rw [RV.fn I d _ _ h.1 h'.1 q q', RVs.fn I ds _ _ h.2 h'.2 t t']
end
theorem FR.fn (I : Inv X pins σ H s) : ∀ (d d' : List (Nat × Dt)) (v w : List (Str × V)), v = w → plF d = true → plF d' = true → FR X.K T H f d v → FR X.K T H f d' w → d = d'
  | [], _, _, _, e, _, _, r, r' => by
    cases r
    cases r' with
    | nil => rfl
    | cons _ _ => cases e
  | (i, d) :: ds, _, _, _, e, h, h', r, r' => by
    cases r with
    | cons q t =>
      cases r' with
      | nil => cases e
      | cons q' t' =>
        simp only [plF, Bool.and_eq_true] at h h'
        injection e with e1 e2
        injection e1 with e3 e4
        subst e4
        have a := RV.fn I d _ _ h.1 h'.1 q q'
        have b := FR.fn I ds _ _ _ e2 h.2 h'.2 t t'
        have c := T.inj _ _ e3
        rw [a, b, c]
end
/-! ### tuples of instances with an own == -/
open Classical in
noncomputable def cmpO (c : Nat) (q : Tk → Bool) (F : MF) (x y : Dt) (st : Sto) : Re Bool := match x, y with
  | .ob c1 fs, .ob c2 fs' => if c1 = c ∧ q (.ins c2) = true then (match F [x, y] st with
    | .ok (.bl true) st1 => if st1 = st then .ok true st else .stuck
    | .ok (.bl false) st1 => if plF fs = true ∧ plF fs' = true ∧ fs ≠ fs' then .ok false st1 else .stuck
    | _ => .stuck) else .stuck
  | _, _ => .stuck
noncomputable def eqTQ (c : Nat) (q : Tk → Bool) (F : MF) : List Dt → List Dt → Sto → Re Bool
  | x :: xs, y :: ys, st => (cmpO c q F x y st).bind fun b st1 => if b = true then eqTQ c q F xs ys st1 else .ok false st1
  | [], [], st => .ok true st
  | _, _, st => .ok false st
noncomputable def tupQD (ne : Bool) (c : Nat) (q : Tk → Bool) (F : MF) (x y : Dt) (st : Sto) : Re Dt := match x, y with
  | .tup xs, .tup ys => (eqTQ c q F xs ys st).bind fun b st1 => .ok (.bl (b != ne)) st1
  | _, _ => .stuck
section
variable {X : Cx} {T : Tb}
theorem cmpO_ok {c : Nat} {q : Tk → Bool} {F : MF} (E : EqOk X.K T.b c q) {f : List Addr} {H : Hp} {st : Sto} {x y : Dt} {vx vy : V} {Q : Bool → Hp → Prop} {Wx : Value → Option Addr → Hp → Prop} (rh : RH X.K T f H st) (rx : RV X.K T H f x vx) (ry : RV X.K T H f y vy)
    (p : Post X.K T rB Wx f H (cmpO c q F x y st) Q) : tOwnQ X (T.cls c) (spF X.K T.b 2 F) vx vy H Q := by
  unfold cmpO at p
  split at p
  · rename_i c1 fs c2 fs'
    split at p
    · rename_i hc
      obtain ⟨rfl, hq⟩ := hc
      have rx0 := rx
      have ry0 := ry
      cases rx with
      | @ob _ _ vs a dx hf h r =>
        cases ry with
        | @ob _ _ vs' b dy hf' h' r' =>
          have I2 := E.ins c2 hq
          refine ⟨a, b, dx, vs, .ref (T.cls c2), rfl, rfl, h, .base (.ins h' I2.cl I2.ha I2.hn I2.ht I2.hm), E.nf (.ins c2) hq, fun hab hI => ?_, fun hab => ?_⟩
          · subst hab
            split at p
            · split at p
              · exact p.now rh rfl
              · exact p.elim
            · split at p
              · rename_i hn
                obtain ⟨pins, s, σ, I⟩ := hI
                rw [h] at h'
                injection h' with h'
                injection h' with _ _ hv
                exact absurd (FR.fn I fs fs' _ _ hv hn.1 hn.2.1 r r') hn.2.2
              · exact p.elim
            · exact p.elim
          · refine ⟨rfl, T.rs, f, [.ob c1 fs, .ob c2 fs'], st, .cons rx0 (.cons ry0 .nil), rh, ?_⟩
            split at p
            · rename_i st1 hF
              rw [hF]
              intro f1 H1 v hp s rh1 rv
              cases rv
              split at p
              · rename_i hs
                subst hs
                exact ⟨true, rfl, p f1 H1 true hp s rh1 rfl⟩
              · exact p.elim
            · rename_i st1 hF
              rw [hF]
              intro f1 H1 v hp s rh1 rv
              cases rv
              split at p
              · exact ⟨false, rfl, p f1 H1 false hp s rh1 rfl⟩
              · exact p.elim
            · exact p.elim
    · exact p.elim
  · exact p.elim
theorem eqTQ_ok {c : Nat} {q : Tk → Bool} {F : MF} (E : EqOk X.K T.b c q) {Wx : Value → Option Addr → Hp → Prop} : ∀ (xs ys : List Dt) (vs ws : List V) (f : List Addr) (H : Hp) (st : Sto) (Q : Bool → Hp → Prop), RH X.K T f H st → RVs X.K T H f xs vs → RVs X.K T H f ys ws →
    Post X.K T rB Wx f H (eqTQ c q F xs ys st) Q → tEqs (tOwnQ X (T.cls c) (spF X.K T.b 2 F)) vs ws H Q
  | [], [], _, _, f, H, st, Q, rh, .nil, .nil, p => p.now rh rfl
  | x :: xs, [], _, _, f, H, st, Q, rh, .cons _ _, .nil, p => p.now rh rfl
  | [], y :: ys, _, _, f, H, st, Q, rh, .nil, .cons _ _, p => p.now rh rfl
  | x :: xs, y :: ys, _, _, f, H, st, Q, rh, .cons rx tx, .cons ry ty, p => by
    refine cmpO_ok E rh rx ry (Post.bind (rel := rB) p fun b st1 f1 H1 b' hp s rh1 rb p1 => ?_)
    cases rb
    cases b with
    | true =>
      rw [if_pos rfl] at p1 ⊢
      exact eqTQ_ok E xs ys _ _ f1 H1 st1 Q rh1 (tx.mono hp s) (ty.mono hp s) p1
    | false =>
      rw [if_neg Bool.false_ne_true] at p1 ⊢
      exact p1.now rh1 rfl
theorem snd_tupQ {ne : Bool} {c : Nat} {q : Tk → Bool} {F : MF} (E : EqOk X.K T.b c q) : Snd2 X.K T (rTupQ X.K (tOwnQ X (T.cls c) (spF X.K T.b 2 F)) ne) (tupQD ne c q F) := fun f H st x y vx vy Wx Q rh rx ry p => by
  unfold tupQD at p
  split at p
  · cases rx with
    | tup hs r =>
      cases ry with
      | tup hs' r' =>
        refine ⟨_, _, _, _, rfl, rfl, hs, hs', eqTQ_ok E _ _ _ _ f H st _ rh r r' (Post.bind (rel := rB) p fun b st1 f1 H1 b' hp s rh1 rb p1 => ?_)⟩
        cases rb
        exact p1.now rh1 (.bl _)
  · exact p.elim
theorem op_tupOE {B : Tz} {c k : Nat} {F : MF} (D : SpOk X.prog X.w X.K X.mg X.base B "__eq__" c k 2 F) (hr : Room (k + 1) X.A) : OpR X (compareOp .Eq) (rTupQ X.K (tOwnQ X (B.cls c) (spF X.K B 2 F)) false) := by
  obtain ⟨f, fd, ps, h1, h2, h3, h4⟩ := D.ex
  exact op_tupQE (qr_own h4 h1 h2 h3) hr
theorem op_tupON {B : Tz} {c k : Nat} {F : MF} (D : SpOk X.prog X.w X.K X.mg X.base B "__eq__" c k 2 F) (hr : Room (k + 1) X.A) : OpR X (compareOp .NotEq) (rTupQ X.K (tOwnQ X (B.cls c) (spF X.K B 2 F)) true) := by
  obtain ⟨f, fd, ps, h1, h2, h3, h4⟩ := D.ex
  exact op_tupQN (qr_own h4 h1 h2 h3) hr
/-- whether one of two is a tuple of instances -/
def isOT : Dt → Bool
  | .tup (.ob _ _ :: _) => true
  | _ => false
theorem snd_by2 {K : PySem.W.Frag} {r r' : R2} {g h : Dt → Dt → Sto → Re Dt} (sel : Dt → Dt → Bool) (hg : Snd2 K T r g) (hh : Snd2 K T r' h) : Snd2 K T (fun x y H Q => r x y H Q ∨ r' x y H Q) (fun x y st => if sel x y = true then g x y st else h x y st) := fun f H st x y vx vy Wx Q rh rx ry p => by
  simp only at p
  split at p
  · exact .inl (hg f H st x y vx vy Wx Q rh rx ry p)
  · exact .inr (hh f H st x y vx vy Wx Q rh rx ry p)
abbrev selOT (x y : Dt) : Bool := isOT x || isOT y
end
end LT
set_option Elab.async false
set_option linter.all false
set_option maxRecDepth 100000
namespace LT
open PySem PySem.Spec PyProof.Rows L2
/-! ### a law's own def: it runs where nothing is being shown -/
structure FnG (P : Program) (w : World) (K : PySem.W.Frag) (mg : Str → Option Value) (base : Heap) (k : Nat) (f : Addr) (fd : FuncData) (ps : List Str) (sp : Sp) : Prop where
  many : ∀ {vs H Q E}, sp vs H Q E → vs.length = ps.length
  go : ∀ {A : Around} {outer : List Env} {s : Shared} {H : Hp} {args : Args} {us : List Value} {vs : List V} {Q : VK} {E : XK}, A.guards = some [] → Room k A → Env0 P w K mg base A outer s H → BindsTo s fd args (ps.zip us) → Vals vs us → sp vs H Q E →
    codeAny (model P w) A (.call (.ref f) args) (L2.CR (L2.CX P w) outer P w H s Q E) s
theorem FnG.imp {P : Program} {w : World} {K : PySem.W.Frag} {mg : Str → Option Value} {base : Heap} {k : Nat} {f : Addr} {fd : FuncData} {ps : List Str} {sp sp' : Sp} (G : FnG P w K mg base k f fd ps sp) (h : ∀ vs H Q E, sp' vs H Q E → sp vs H Q E) : FnG P w K mg base k f fd ps sp' :=
  ⟨fun q => G.many (h _ _ _ _ q), fun g r e b v q => G.go g r e b v (h _ _ _ _ q)⟩
section
variable {P : Program} {w : World} {K : PySem.W.Frag} {mg : Str → Option Value} {base : Heap} {B : Tz}
theorem fn_okG {x qual : Str} {st : Stmt} {f : Addr} {fd : FuncData} {N ps : List Str} {k : Nat} {m : MS} (F : Fun K x qual st f fd) (S : FnScope N ps (defScope st))
    (hb : ∀ (cdv : Value) (A : Around) (outer : List Env) (s : Shared) (H : Hp) (E : XK) (rs : List Addr), (A.deeper (envOfC qual (defScope st) s.heap.objs.size f cdv)).guards = some [] → Room k (A.deeper (envOfC qual (defScope st) s.heap.objs.size f cdv)) →
      ISs (cxOf (L2.CX P w) P w K mg base N qual (defScope st) f cdv A outer s H E) ⟨B, rs⟩ (fun cls d _ H => E cls d H) (defBody st) m) : FnG P w K mg base (k + 1) f fd ps (spF K B ps.length (runF N.length m)) := by
  obtain ⟨oc, od, kV, doc, pm, an, cdv, ct, osl, rfl, look, code⟩ := F.ex
  refine ⟨fun q => q.1, fun {A outer s H args us vs Q E} gd room e0 binds rel want => ?_⟩
  have many : vs.length = ps.length := want.1
  have inK : K.In s.heap := e0.mod.kin.keeps fun _ _ z => (e0.bs _ _ z).1
  have noL : s.heap.NoLimit := e0.mod.nolimit.keeps fun _ _ z => (e0.bs _ _ z).1
  refine codeAny_call_function room.depth (inK _ _ look) rfl S.co S.gen rfl (PySem.W.codeRec_of inK code) (binds _ _ _ _ (wpAny_newFunctionEnv_cells S.kind (fun nv hnv => ?kinds) fun en hen s1 grown => ?body))
  case kinds =>
    obtain ⟨n1, v1⟩ := nv
    rcases S.par n1 (List.of_mem_zip hnv).1 with z | z
    · exact Or.inl z
    · exact Or.inr ⟨z, PySem.W.cellsFrom_some _ _ _ (.inl z)⟩
  case body =>
    subst hen
    refine ⟨noL.keeps grown.toInCall.keep, codeAny_func ?_⟩
    obtain ⟨_, rs, f0, ds, st0, rvs, rh, p⟩ := want
    have J0 : Inv (cxOf (L2.CX P w) P w K mg base N qual (defScope st) f cdv A outer s H E) [] (L2.start N vs) H s1 := inv_start S room.hd e0 many rel grown
    have walk := hb cdv A outer s H E rs gd (room.deeper _)
    have ask : sG K ⟨B, rs⟩ (fun cls d _ H => E cls d H) m { nx := fun _ H' => Q .non H', rt := Q } (L2.start N vs) H := by
      refine ⟨f0, startE N.length ds, st0, REn.start rvs, rh, ?_⟩
      unfold runF at p
      cases hm : m (startE N.length ds) st0 with
      | nx e1 s2 => rw [hm] at p; exact fun f' H' σ' hp s rh' _ => p f' H' .non hp s rh' .non
      | rt d s2 => rw [hm] at p; exact p
      | ex e1 c fs s2 => rw [hm] at p; exact fun f' H' σ' cls d hp s rh' _ xr => p f' H' cls d hp s rh' xr
      | bk e1 s2 => rw [hm] at p; exact p.elim
      | ct e1 s2 => rw [hm] at p; exact p.elim
      | stuck => rw [hm] at p; exact p.elim
    refine wpAny_mono (walk.run [] s1 _ H _ J0 ask) (fun way s2 got => ?_) fun _ _ z => z
    have out : ∀ {sl : L2.St} {H2 : Hp} {a : V} {b : Value}, Inv (cxOf (L2.CX P w) P w K mg base N qual (defScope st) f cdv A outer s H E) [] sl H2 s2 → L2.RelV a b → Q a H2 → CE outer P w H s Q b s2 := fun J r q => ⟨_, _, J.os, J.bare, J.base, J.hok, r, q⟩
    cases way with
    | ret b => obtain ⟨a, sl, H2, J, r, q⟩ := got; exact out J r q
    | next => obtain ⟨sl, H2, J, q⟩ := got; exact out (a := V.non) (b := Value.none) J rfl q
    | brk => obtain ⟨_, _, _, q⟩ := got; exact q.elim
    | cont => obtain ⟨_, _, _, q⟩ := got; exact q.elim
end
/-- the script, and nothing else, is known -/
theorem lawG_core {P : Program} {w : World} {K : PySem.W.Frag} {mg mb : Str → Option Value} {k : Nat} {fa sc : Addr} {fd : FuncData} {x : Str} {sh : Shared} {H : Hp} (ki : K.In sh.heap) (gl : sh.heap.Ns mainGlobals mg) (bu : sh.heap.Ns builtinsNs mb) (bb : ∀ y : Str, y ≠ "__name__" → mb y = bootBuiltins y) (nl : sh.heap.NoLimit) (gs : sh.gens = #[])
    (room : Room k callerA) (G : ∀ b0 : Heap, K.In b0 → b0.Ns mainGlobals mg → FnG P w K mg b0 k fa fd [x] (spLaw K)) (bd : ∀ (s : Shared) (u : Value), BindsTo s fd ⟨[u], []⟩ [(x, u)]) (only : Only H) (hok : HOk P w H sh.heap) (sole : ∀ c, H c ≠ none → c = sc) (nd : ∀ o es ep, sh.heap.get? sc = some o → o.data ≠ .dict es ep) (nk : H sc ≠ none → K.lookup sc = none)
    (want : spLaw K [.ref sc] H (fun v _ => v = .bl true) fun _ _ _ => False) :
    codeAny (model P w) callerA (.call (.ref fa) ⟨[.ref sc], []⟩) (fun r s2 => r = .ok (.ret (.bool true)) ∧ OldK sh.heap s2.heap ∧ s2.os = sh.os ∧ AllBare s2.gens) sh := by
  have free : ∀ c, c ≠ sc → H c = none := fun c hc => Classical.byContradiction fun z => hc (sole c z)
  have dfree : ∀ {c : Addr} {o : Obj} {es : Array DictEntry} {ep : Nat}, sh.heap.get? c = some o → o.data = .dict es ep → H c = none := fun {c o es ep} g d => free c fun z => nd o es ep (z ▸ g) d
  have nsB : ∀ {c : Addr} {m : Str → Option Value}, sh.heap.Ns c m → (hidT sh.heap H).Ns c m := by
    rintro c m ⟨o, es, ep, g, d, r⟩
    exact ⟨o, es, ep, hidT_get g (dfree g d), d, r⟩
  have kB : K.In (hidT sh.heap H) := by
    intro c o g
    refine hidT_get (ki c o g) ?_
    by_cases hc : c = sc
    · subst hc
      refine Classical.byContradiction fun z => ?_
      rw [nk z] at g
      cases g
    · exact free c hc
  obtain ⟨mc, nl1, nl2⟩ := nl
  have md : Mod K mg (hidT sh.heap H) := ⟨kB, nsB gl, ⟨mb, nsB bu, bb⟩, mc, nsB nl1, nl2⟩
  have start0 : Env0 P w K mg (hidT sh.heap H) callerA [] sh H := ⟨rfl, md, fun _ _ g => of_hidT g, Nat.le_of_eq (hidT_size _ _), trivial, (fun c hc => (List.not_mem_nil hc).elim), hok, .of_eq gs⟩
  refine codeAny_mono ((G _ kB (nsB gl)).go (us := [.ref sc]) (vs := [.ref sc]) rfl room start0 (bd sh (.ref sc)) (.cons rfl .nil) want) fun res s2 got => ?_
  cases res with
  | error e => exact (CX_no w P H sh e s2 got).elim
  | ok way =>
    cases way with
    | ret u =>
      obtain ⟨v, H2, same, bare, un, hok2, rel, rfl⟩ := got
      cases rel
      refine ⟨rfl, .of_keep fun c o g => ?_, same, bare⟩
      rcases only c with z | ⟨oc, xs, z⟩
      · exact un.keep c o g z (fun q => (List.not_mem_nil q).elim) (by simp)
      · have g1 := (hok c _ z).1
        rw [g] at g1
        cases g1
        exact (hok2 c _ (un.frzs c _ _ z)).1
    | _ => exact got.elim
theorem lawG_call {P : Program} {w : World} {K : PySem.W.Frag} {mg mb : Str → Option Value} {k : Nat} {fa sc : Addr} {fd : FuncData} {x : Str} {sh : Shared} {us : List Value} {ns : List Int} (ki : K.In sh.heap) (gl : sh.heap.Ns mainGlobals mg) (bu : sh.heap.Ns builtinsNs mb) (bb : ∀ y : Str, y ≠ "__name__" → mb y = bootBuiltins y) (nl : sh.heap.NoLimit) (gs : sh.gens = #[])
    (hsc : sh.heap.get? sc = some { cls := .type "list", data := .seq us.toArray }) (hi : IntsAre us ns) (hl : ns.length ≤ 63) (room : Room k callerA) (G : ∀ b0 : Heap, K.In b0 → b0.Ns mainGlobals mg → FnG P w K mg b0 k fa fd [x] (spLaw K)) (bd : ∀ (s : Shared) (u : Value), BindsTo s fd ⟨[u], []⟩ [(x, u)]) :
    codeAny (model P w) callerA (.call (.ref fa) ⟨[.ref sc], []⟩) (fun r s2 => r = .ok (.ret (.bool true)) ∧ OldK sh.heap s2.heap ∧ s2.os = sh.os ∧ AllBare s2.gens) sh := by
  have rel := vals_ints hi
  have hl2 : ns.length ≤ sizeLine := Nat.le_trans hl (by decide)
  have nd : ∀ (o : Obj) (es : Array DictEntry) (ep : Nat), sh.heap.get? sc = some o → o.data ≠ .dict es ep := fun o es ep g d => by
    rw [hsc] at g
    cases g
    exact Data.noConfusion d
  cases hk : K.lookup sc with
  | some o =>
    have g := ki sc o hk
    rw [hsc] at g
    cases g
    refine lawG_core (H := fun _ => none) ki gl bu bb nl gs room G bd (fun _ => .inl rfl) (fun c u z => nomatch z) (fun c z => (z rfl).elim) nd (fun z => (z rfl).elim) ⟨sc, ns, rfl, .inr ⟨_, us.toArray, _, hk, rfl, rfl, rfl, ?_, by simpa using rel⟩, hl, fun _ => .inl rfl, fun _ => rfl⟩
    rw [List.size_toArray, hi.length]
    exact hl2
  | none =>
    have look : ∀ c, upd (fun _ => none) sc (.frz { cls := .type "list", data := .seq us.toArray } (.lst (ns.map V.int))) c ≠ none → c = sc := fun c z => Classical.byContradiction fun q => z (upd_ne q)
    have on : Only (upd (fun _ => none) sc (.frz { cls := .type "list", data := .seq us.toArray } (.lst (ns.map V.int)))) := fun c => by
      by_cases hc : c = sc
      · subst hc; exact .inr ⟨_, _, upd_same⟩
      · exact .inl (upd_ne hc)
    refine lawG_core ki gl bu bb nl gs room G bd on (fun c u z => ?_) look nd (fun _ => hk) ⟨sc, ns, rfl, .inl (.inr ⟨_, upd_same⟩), hl, on, fun _ => rfl⟩
    have hc : c = sc := look c (by rw [z]; exact fun q => nomatch q)
    subst hc
    rw [upd_same] at z
    cases z
    exact ⟨hsc, by rw [List.length_map]; exact hl2, us, _, rel, hsc⟩
theorem walk_ltG {l : PySem.W.OpenLaw} {q : Program} {loose : List Str} {XP : (Str → Option Value) → Heap → Prop} {YP : World → Heap → Prop} {d : DefRec} {K : Params → PySem.W.Frag} {k : Nat} {x : Str} (hn : l.most = some 63) (hdf : d.params.defaults = []) (hr : Room k callerA) (hY : ∀ (w : World) (h : Heap), YP w h → (K w.params).In h)
    (hF : ∀ (w : World) (mg : Str → Option Value) (fa : Addr) (h : Heap), (K w.params).In h → h.Ns mainGlobals mg → mg d.name = some (.ref fa) → ∃ fd : FuncData, (∀ (s : Shared) (u : Value), BindsTo s fd ⟨[u], []⟩ [(x, u)]) ∧ ∀ b0 : Heap, (K w.params).In b0 → b0.Ns mainGlobals mg → FnG l.prog w (K w.params) mg b0 k fa fd [x] (spLaw (K w.params))) :
    PySem.W.WalkO q loose XP YP l.row.toRowW d [] (fun f vs => PySem.call f vs) :=
  Att.attach_call hn hdf fun w _ sh mg mb fa _ _ _ _ sc us ns top Y _ _ _ hmg hobj hints hlen hg => by
    have ki := hY w _ Y
    obtain ⟨fd, bd, G⟩ := hF w mg fa _ ki top.T.g hmg
    exact lawG_call ki top.T.g top.T.b top.T.builtins top.T.nolimit hg hobj hints hlen hr G bd
end LT
set_option Elab.async false
set_option linter.all false
set_option maxRecDepth 100000
namespace LT
open PySem PySem.Spec PyProof.Rows L2
/-! ### plain words about the denotations -/
theorem clL_map {α : Type} {n : Nat} {f : α → Dt} (xs : List α) (h : ∀ x ∈ xs, clD n (f x) = true) : clL n (xs.map f) = true := by
  rw [clL_mem]
  intro d hd
  obtain ⟨x, hx, rfl⟩ := List.mem_map.mp hd
  exact h x hx
theorem clL_strs {n : Nat} (xs : List (List Nat)) : clL n (xs.map Dt.str) = true := clL_map xs fun _ _ => rfl
theorem clL_ints {n : Nat} (xs : List Int) : clL n (xs.map Dt.int) = true := clL_map xs fun _ _ => rfl
theorem clL_take {n k : Nat} {xs : List Dt} (h : clL n xs = true) : clL n (xs.take k) = true := by
  rw [clL_mem] at h ⊢; exact fun d hd => h d (List.mem_of_mem_take hd)
theorem clL_drop {n k : Nat} {xs : List Dt} (h : clL n xs = true) : clL n (xs.drop k) = true := by
  rw [clL_mem] at h ⊢; exact fun d hd => h d (List.mem_of_mem_drop hd)
theorem rei_cl {st : Sto} {n k : Nat} {d : Dt} (h : clD n d = true) : rei st n k d = some d := by
  cases k
  · unfold rei; rw [if_pos h]
  · unfold rei; rw [if_pos h]
theorem puR_ok {st st2 : Sto} {d : Dt} (h : clD 0 d = true) : puR st (.ok d st2) = .ok d st := by
  simp only [puR, rei_cl h]
theorem puR_lst {st st2 : Sto} {i : Nat} {xs : List Dt} (h : st2[i]? = some (.lst xs)) (hc : clL 0 xs = true) : puR st (.ok (.ref i) st2) = .ok (.li xs) st := by
  have : clD 0 (.ref i) = false := by simp [clD]
  simp only [puR, rei, this, Bool.false_eq_true, if_false, h, hc, if_true]
theorem puR_ins {st st2 : Sto} {i c : Nat} {fs : List (Nat × Dt)} (h : st2[i]? = some (.ins c fs)) (hc : clF 0 fs = true) : puR st (.ok (.ref i) st2) = .ok (.ob c fs) st := by
  have : clD 0 (.ref i) = false := by simp [clD]
  simp only [puR, rei, this, Bool.false_eq_true, if_false, h, hc, if_true]
theorem puR_exc1 {st st2 : Sto} {c k : Nat} {d : Dt} (h : clD 0 d = true) : puR st (.exc c [(k, d)] st2) = .exc c [(k, d)] st := by
  simp only [puR, reiF, rei_cl h]
/-! walks of what does not change -/
theorem wTup_turn {xs : List Dt} {i : Nat} {st : Sto} : (wTup xs).turn i st = match xs[i]? with | some d => .item d | none => .stop := rfl
theorem wTup_fuel {xs : List Dt} : (wTup xs).fuel = xs.length + 1 := rfl
theorem wRng_fuel {lo : Int} {n : Nat} : (wRng lo n).fuel = n + 1 := rfl
/-- a comprehension whose parts leave the store alone -/
theorem lcV_pure {g : MG} {tt : MT} {te : ME} {env : Lo} {st : Sto} (p : Dt → Bool) (h : Dt → Dt) (xs : List Dt) (hn : xs.length < lim)
    (hgo : ∀ x ∈ xs, ∃ env1, g x env st = .nx env1 st ∧ tt env1 st = .ok (p x) st ∧ (p x = true → te env1 st = .ok (h x) st)) :
    ∀ (m i : Nat) (acc : List Dt), m + i = xs.length → acc.length ≤ i → lcV (wTup xs) g tt te env (m + 1) i acc st = .ok (.li (acc ++ ((xs.drop i).filter p).map h)) st := by
  intro m
  induction m with
  | zero =>
    intro i acc hm ha
    have e : xs[i]? = none := List.getElem?_eq_none (by omega)
    unfold lcV
    rw [wTup_turn, e, List.drop_eq_nil_of_le (by omega)]
    simp
  | succ m ih =>
    intro i acc hm ha
    have hi : i < xs.length := by omega
    have e : xs[i]? = some xs[i] := List.getElem?_eq_getElem hi
    obtain ⟨env1, h1, h2, h3⟩ := hgo xs[i] (List.getElem_mem hi)
    unfold lcV
    rw [wTup_turn, e]
    simp only [h1, h2]
    rw [List.drop_eq_getElem_cons hi, List.filter_cons]
    cases hp : p xs[i] with
    | true =>
      simp only [if_true, h3 hp]
      rw [if_pos (by omega), ih (i + 1) (acc ++ [h xs[i]]) (by omega) (by simp; omega)]
      simp
    | false =>
      simp only [Bool.false_eq_true, if_false]
      rw [ih (i + 1) acc (by omega) (by omega)]
theorem lcV_map {g : MG} {te : ME} {env : Lo} {st : Sto} (h : Dt → Dt) (xs : List Dt) (hn : xs.length < lim)
    (hgo : ∀ x ∈ xs, ∃ env1, g x env st = .nx env1 st ∧ te env1 st = .ok (h x) st) : lcV (wTup xs) g mYes te env (xs.length + 1) 0 [] st = .ok (.li (xs.map h)) st := by
  rw [lcV_pure (fun _ => true) h xs hn (fun x hx => by
    obtain ⟨e, h1, h2⟩ := hgo x hx
    exact ⟨e, h1, rfl, fun _ => h2⟩) xs.length 0 [] (by omega) (by simp)]
  rw [List.drop_zero, List.filter_eq_self.mpr (fun _ _ => rfl)]
  rfl
/-- a comprehension over what is walked once: each turn by what is true of the store -/
theorem lcV_go {w : Wk} {g : MG} {te : ME} {env : Lo} (n : Nat) (hn : n < lim) (I : Sto → Prop) (P : Nat → Dt → Prop) (hstop : ∀ s, w.turn n s = .stop)
    (hgo : ∀ i s, i < n → I s → ∃ x, w.turn i s = .item x ∧ ∃ env1, g x env s = .nx env1 s ∧ ∃ d s1, te env1 s = .ok d s1 ∧ P i d ∧ I s1) :
    ∀ (m i : Nat) (acc : List Dt) (s : Sto), m + i = n → acc.length = i → I s → (∀ j d, acc[j]? = some d → P j d) →
      ∃ ys s', lcV w g mYes te env (m + 1) i acc s = .ok (.li ys) s' ∧ I s' ∧ ys.length = n ∧ ∀ j d, ys[j]? = some d → P j d := by
  intro m
  induction m with
  | zero =>
    intro i acc s hm ha hI hP
    have e : i = n := by omega
    unfold lcV
    rw [e, hstop]
    exact ⟨acc, s, rfl, hI, by omega, hP⟩
  | succ m ih =>
    intro i acc s hm ha hI hP
    obtain ⟨x, h1, env1, h2, d, s1, h3, h4, h5⟩ := hgo i s (by omega) hI
    unfold lcV
    rw [h1]
    simp only [h2, mYes, if_true, h3]
    rw [if_pos (by omega)]
    refine ih (i + 1) (acc ++ [d]) s1 (by omega) (by simp [ha]) h5 fun j e hj => ?_
    rcases Nat.lt_trichotomy j acc.length with hl | hl | hl
    · rw [List.getElem?_append_left hl] at hj; exact hP j e hj
    · rw [hl, List.getElem?_append_right (Nat.le_refl _)] at hj
      simp at hj
      subst hj
      rw [hl, ha]; exact h4
    · rw [List.getElem?_eq_none (by simp; omega)] at hj; cases hj
/-! ### what is drawn from: some slots of the store, and what is true of them -/
structure Src (M : List Nat) (I : Sto → Prop) : Prop where
  lt : ∀ s, I s → ∀ i ∈ M, i < s.length
  cl : ∀ s, I s → ∀ i ∈ M, ∀ o n, s[i]? = some o → (∀ j ∈ M, j < n) → clO n o = true
  fr : ∀ s s', (∀ i ∈ M, s'[i]? = s[i]?) → I s → I s'
/-- a draw: the rest of the store stands -/
structure Ds (M : List Nat) (I : Sto → Prop) (st st' : Sto) : Prop where
  xm : Xm M st st'
  len : st'.length = st.length
  inv : I st'
section
variable {M : List Nat} {I : Sto → Prop} {st st1 st2 : Sto}
theorem Ds.refl (h : I st) : Ds M I st st := ⟨Xm.refl, rfl, h⟩
theorem Ds.trans (a : Ds M I st st1) (b : Ds M I st1 st2) : Ds M I st st2 := ⟨a.xm.trans b.xm, b.len.trans a.len, b.inv⟩
theorem Ds.at (a : Ds M I st st1) {i : Nat} {o : Ob} (h : st[i]? = some o) (hm : i ∉ M) : st1[i]? = some o := a.xm.at h hm
theorem Src.app (S : Src M I) (h : I st) (g : Sto) : I (st ++ g) := S.fr st _ (fun i hi => List.getElem?_append_left (S.lt st h i hi)) h
theorem Src.set (S : Src M I) (h : I st) {i : Nat} {o : Ob} (hi : i ∉ M) : I (st.set i o) := S.fr st _ (fun j hj => List.getElem?_set_ne fun e => hi (by rw [e]; exact hj)) h
theorem trR_src (S : Src M I) (h : I st) (x : Xm M st st2) (h2 : I st2) {d : Dt} (hd : clD st.length d = true) : trR st (.ok d st2) = .ok d (st2.take st.length) ∧ Ds M I st (st2.take st.length) := by
  have hl : (st2.take st.length).length = st.length := by rw [List.length_take]; have := x.len; omega
  have ok : OldOk st st2 := ⟨x.len, fun i o hi ho => by
    by_cases hm : i ∈ M
    · exact .inr (S.cl st2 h2 i hm o _ ho (S.lt st h))
    · exact .inl (by rw [← x.get i hi hm]; exact ho)⟩
  refine ⟨?_, ⟨?_, ?_⟩, hl, S.fr st2 _ (fun i hi => List.getElem?_take_of_lt (S.lt st h i hi)) h2⟩
  · unfold trR
    simp only
    rw [if_pos ok, rei_cl hd]
  · rw [hl]; exact Nat.le_refl _
  · intro i hi hm
    rw [List.getElem?_take_of_lt hi]
    exact x.get i hi hm
theorem trR_lst (S : Src M I) (h : I st) (x : Xm M st st2) (h2 : I st2) {k : Nat} {xs : List Dt} (hk : st.length ≤ k) (hx : st2[k]? = some (.lst xs)) (hd : clL st.length xs = true) : trR st (.ok (.ref k) st2) = .ok (.li xs) (st2.take st.length) ∧ Ds M I st (st2.take st.length) := by
  obtain ⟨_, hD⟩ := trR_src S h x h2 (d := .non) rfl
  refine ⟨?_, hD⟩
  have ok : OldOk st st2 := ⟨x.len, fun i o hi ho => by
    by_cases hm : i ∈ M
    · exact .inr (S.cl st2 h2 i hm o _ ho (S.lt st h))
    · exact .inl (by rw [← x.get i hi hm]; exact ho)⟩
  have hc : clD st.length (.ref k) = false := by simp only [clD, decide_eq_false_iff_not]; omega
  unfold trR
  simp only
  rw [if_pos ok]
  simp only [rei, hc, Bool.false_eq_true, if_false, hx, hd, if_true]
end
end LT
set_option Elab.async false
set_option linter.all false
set_option maxRecDepth 100000
namespace LT
open PySem PySem.Spec PyProof.Rows L2
/-! ### a calculus for runs that end well -/
def Giv {α : Type} (r : Re α) (P : α → Sto → Prop) : Prop := match r with
  | .ok a s => P a s
  | _ => False
def Run (r : Rs) (N : Lo → Sto → Prop) (R : Dt → Sto → Prop) : Prop := match r with
  | .nx e s => N e s
  | .rt d s => R d s
  | _ => False
section
variable {α β : Type} {env : Lo} {st s1 : Sto} {N : Lo → Sto → Prop} {R : Dt → Sto → Prop} {P : Dt → Sto → Prop} {PL : List Dt → Sto → Prop} {PB : Bool → Sto → Prop}
theorem giv {r : Re α} {a : α} {s : Sto} {P : α → Sto → Prop} (h : r = .ok a s) (k : P a s) : Giv r P := by rw [h]; exact k
theorem Giv.eq {r : Re α} {P : α → Sto → Prop} (h : Giv r P) : ∃ a s, r = .ok a s ∧ P a s := by
  cases r with
  | ok a s => exact ⟨a, s, rfl, h⟩
  | exc c fs s => exact h.elim
  | stuck => exact h.elim
theorem Giv.mono {r : Re α} {P Q : α → Sto → Prop} (h : Giv r P) (k : ∀ a s, P a s → Q a s) : Giv r Q := by
  cases r with
  | ok a s => exact k a s h
  | exc c fs s => exact h.elim
  | stuck => exact h.elim
theorem giv_bind {r : Re α} {f : α → Sto → Re β} {P : β → Sto → Prop} (h : Giv r fun a s => Giv (f a s) P) : Giv (r.bind f) P := by
  cases r with
  | ok a s => exact h
  | exc c fs s => exact h.elim
  | stuck => exact h.elim
theorem Run.mono {r : Rs} {N' : Lo → Sto → Prop} {R' : Dt → Sto → Prop} (h : Run r N R) (hn : ∀ e s, N e s → N' e s) (hr : ∀ d s, R d s → R' d s) : Run r N' R' := by
  cases r <;> first | exact h.elim | exact hn _ _ h | exact hr _ _ h
theorem run_nx (h : N env st) : Run (sNx env st) N R := h
theorem run_seq {a b : MS} (h : Run (a env st) (fun e s => Run (b e s) N R) R) : Run (sSeq a b env st) N R := by
  unfold sSeq
  cases ha : a env st <;> rw [ha] at h <;> first | exact h.elim | exact h
theorem run_set {i : Nat} {e : ME} (h : Giv (e env st) fun d s => N (env.set i (some d)) s) : Run (sSet i e env st) N R := by
  unfold sSet sAsg gNm
  cases ha : e env st <;> rw [ha] at h <;> first | exact h.elim | exact h
theorem run_expr {e : ME} (h : Giv (e env st) fun _ s => N env s) : Run (sExpr e env st) N R := by
  unfold sExpr
  cases ha : e env st <;> rw [ha] at h <;> first | exact h.elim | exact h
theorem run_ret {e : ME} (h : Giv (e env st) R) : Run (sRet e env st) N R := by
  unfold sRet
  cases ha : e env st <;> rw [ha] at h <;> first | exact h.elim | exact h
theorem run_retN (h : R .non st) : Run (sRetN env st) N R := h
theorem run_if {t : MT} {a b : MS} (h : Giv (t env st) fun x s => if x = true then Run (a env s) N R else Run (b env s) N R) : Run (sIf t a b env st) N R := by
  unfold sIf
  cases ha : t env st with
  | ok x s =>
    rw [ha] at h
    cases x with
    | true => exact h
    | false => exact h
  | exc c fs s => rw [ha] at h; exact h.elim
  | stuck => rw [ha] at h; exact h.elim
theorem run_ifT {t : MT} {a b : MS} {s : Sto} (h : t env st = .ok true s) (k : Run (a env s) N R) : Run (sIf t a b env st) N R := run_if (giv h (by rw [if_pos rfl]; exact k))
theorem run_ifF {t : MT} {a b : MS} {s : Sto} (h : t env st = .ok false s) (k : Run (b env s) N R) : Run (sIf t a b env st) N R := run_if (giv h (by rw [if_neg Bool.false_ne_true]; exact k))
theorem run_par {i j : Nat} {a : MA} {x y : Dt} {s : Sto} (h : a env st = .ok [x, y] s) (k : N ((env.set i (some x)).set j (some y)) s) : Run (sPar i j a env st) N R := by
  unfold sPar
  rw [h]
  exact k
theorem run_asg {e : ME} {g : MG} (h : Giv (e env st) fun d s => Run (g d env s) N R) : Run (sAsg e g env st) N R := by
  unfold sAsg
  cases ha : e env st <;> rw [ha] at h <;> first | exact h.elim | exact h
theorem run_for {m : MW} {g : MG} {body : MS} (h : Giv (m env st) fun w s => Run (forL w g body w.fuel 0 env s) N R) : Run (sFor m g body env st) N R := by
  unfold sFor
  cases ha : m env st <;> rw [ha] at h <;> first | exact h.elim | exact h
theorem run_forL {w : Wk} {g : MG} {body : MS} (n : Nat) (J : Nat → Lo → Sto → Prop) (hstop : ∀ e s, J n e s → w.turn n s = .stop)
    (hgo : ∀ i e s, i < n → J i e s → ∃ d, w.turn i s = .item d ∧ ∃ e1 s1, g d e s = .nx e1 s1 ∧ Run (body e1 s1) (J (i + 1)) R) (fin : ∀ e s, J n e s → N e s) :
    ∀ (m i : Nat) (e : Lo) (s : Sto), i + m = n → J i e s → Run (forL w g body (m + 1) i e s) N R
  | 0, i, e, s, h, hJ => by
    have e' : i = n := by omega
    subst e'
    unfold forL
    rw [hstop e s hJ]
    exact fin e s hJ
  | m + 1, i, e, s, h, hJ => by
    obtain ⟨d, ht, e1, s1, hg, hb⟩ := hgo i e s (by omega) hJ
    unfold forL
    rw [ht]
    simp only
    rw [hg]
    simp only
    cases hq : body e1 s1 with
    | nx e2 s2 => rw [hq] at hb; exact run_forL n J hstop hgo fin m (i + 1) e2 s2 (by omega) hb
    | rt d2 s2 => rw [hq] at hb; exact hb
    | bk e2 s2 => rw [hq] at hb; exact hb.elim
    | ct e2 s2 => rw [hq] at hb; exact hb.elim
    | ex e2 c fs s2 => rw [hq] at hb; exact hb.elim
    | stuck => rw [hq] at hb; exact hb.elim
/-- a walk over a list that does not change -/
theorem run_forT {g : MG} {body : MS} (xs : List Dt) (J : Nat → Lo → Sto → Prop) (h0 : J 0 env st)
    (hgo : ∀ i e s (hi : i < xs.length), J i e s → ∃ e1 s1, g xs[i] e s = .nx e1 s1 ∧ Run (body e1 s1) (J (i + 1)) R) (fin : ∀ e s, J xs.length e s → N e s) : Run (forL (wTup xs) g body (xs.length + 1) 0 env st) N R :=
  run_forL xs.length J (fun _ _ _ => wTup_stop) (fun i e s hi hJ => ⟨xs[i], wTup_item (List.getElem?_eq_getElem hi), hgo i e s hi hJ⟩) fin xs.length 0 env st (by omega) h0
theorem run_forR {g : MG} {body : MS} {lo : Int} (n : Nat) (J : Nat → Lo → Sto → Prop) (h0 : J 0 env st)
    (hgo : ∀ i e s, i < n → J i e s → ∃ e1 s1, g (.int (lo + i)) e s = .nx e1 s1 ∧ Run (body e1 s1) (J (i + 1)) R) (fin : ∀ e s, J n e s → N e s) : Run (forL (wRng lo n) g body (n + 1) 0 env st) N R :=
  run_forL n J (fun _ _ _ => wRng_stop) (fun i e s hi hJ => ⟨_, wRng_item hi, hgo i e s hi hJ⟩) fin n 0 env st (by omega) h0
theorem run_while {t : MT} {body : MS} {fuel : Nat} (h : Run (whileL t body fuel env st) N R) : Run (sWhile fuel t body env st) N R := h
theorem run_whileL {t : MT} {body : MS} (J : Nat → Lo → Sto → Prop) (hgo : ∀ m e s, J m e s → Giv (t e s) fun b s1 => if b = true then ∃ m', m' < m ∧ Run (body e s1) (J m') R else N e s1) :
    ∀ (fuel m : Nat) (e : Lo) (s : Sto), m < fuel → J m e s → Run (whileL t body fuel e s) N R
  | 0, m, e, s, h, _ => by omega
  | fuel + 1, m, e, s, h, hJ => by
    have q := hgo m e s hJ
    unfold whileL
    cases ht : t e s with
    | stuck => rw [ht] at q; exact q.elim
    | exc c fs s1 => rw [ht] at q; exact q.elim
    | ok b s1 =>
      rw [ht] at q
      cases b with
      | false => exact q
      | true =>
        have q' : ∃ m', m' < m ∧ Run (body e s1) (J m') R := q
        obtain ⟨m', hm, hb⟩ := q'
        simp only [Re.on, if_true]
        cases hq : body e s1 with
        | nx e2 s2 => rw [hq] at hb; exact run_whileL J hgo fuel m' e2 s2 (by omega) hb
        | rt d2 s2 => rw [hq] at hb; exact hb
        | bk e2 s2 => rw [hq] at hb; exact hb.elim
        | ct e2 s2 => rw [hq] at hb; exact hb.elim
        | ex e2 c fs s2 => rw [hq] at hb; exact hb.elim
        | stuck => rw [hq] at hb; exact hb.elim
theorem giv_out {r : Rs} (h : Run r (fun _ s => P .non s) P) : Giv (outF r) P := by
  cases r <;> first | exact h.elim | exact h
/-! expressions -/
theorem giv_call {n : Nat} {F : MF} {a : MA} {dv : List Dt} (h : Giv (a env st) fun ds s => ds.length + dv.length = n ∧ Giv (F (ds ++ dv) s) P) : Giv (mCall n F a dv env st) P := by
  refine giv_bind (h.mono fun ds s q => ?_)
  rw [if_pos q.1]
  exact q.2
theorem giv_callD {n : Nat} {F : MF} {a : MA} {dv ds : List Dt} {s : Sto} (h : a env st = .ok ds s) (hl : ds.length + dv.length = n) (k : Giv (F (ds ++ dv) s) P) : Giv (mCall n F a dv env st) P := giv_call (giv h ⟨hl, k⟩)
theorem giv_cons {a : ME} {r : MA} (h : Giv (a env st) fun x s => Giv (r env s) fun xs s2 => PL (x :: xs) s2) : Giv (mCons a r env st) PL := giv_bind (h.mono fun x s q => giv_bind (q.mono fun xs s2 z => z))
theorem giv_nil (h : PL [] st) : Giv (mNil env st) PL := h
theorem giv_cb {g : List Dt → Sto → Re Dt} {a : MA} (h : Giv (a env st) fun xs s => Giv (g xs s) P) : Giv (mCB g a env st) P := giv_bind h
theorem giv_bin {g : Dt → Dt → Sto → Re Dt} {a b : ME} (h : Giv (a env st) fun x s => Giv (b env s) fun y s2 => Giv (g x y s2) P) : Giv (mBin g a b env st) P := giv_bind (h.mono fun x s q => giv_bind q)
theorem giv_b {a : ME} (h : Giv (a env st) fun d s => ∃ b, d = .bl b ∧ PB b s) : Giv (mB a env st) PB := giv_bind (h.mono fun d s q => by
  obtain ⟨b, rfl, q⟩ := q
  exact q)
theorem giv_ifE {t : MT} {a b : ME} (h : Giv (t env st) fun x s => if x = true then Giv (a env s) P else Giv (b env s) P) : Giv (mIf t a b env st) P := giv_bind (h.mono fun x s q => by
  cases x with
  | true => exact q
  | false => exact q)
theorem giv_tup {a : MA} (h : Giv (a env st) fun xs s => xs.length ≤ lim ∧ P (.tup xs) s) : Giv (mTup a env st) P := giv_bind (h.mono fun xs s q => by
  rw [if_pos q.1]; exact q.2)
theorem giv_lstV {a : MA} (h : Giv (a env st) fun xs s => xs.length ≤ lim ∧ P (.li xs) s) : Giv (mLstV a env st) P := giv_bind (h.mono fun xs s q => by
  rw [if_pos q.1]; exact q.2)
theorem giv_or {a b : MT} (h : Giv (a env st) fun x s => if x = true then PB true s else Giv (b env s) PB) : Giv (mOr a b env st) PB := giv_bind (h.mono fun x s q => by
  cases x with
  | true => exact q
  | false => exact q)
theorem giv_and {a b : MT} (h : Giv (a env st) fun x s => if x = true then Giv (b env s) PB else PB false s) : Giv (mAnd a b env st) PB := giv_bind (h.mono fun x s q => by
  cases x with
  | true => exact q
  | false => exact q)
theorem giv_not {a : MT} (h : Giv (a env st) fun x s => PB (!x) s) : Giv (mNot a env st) PB := giv_bind (h.mono fun x s q => q)
theorem giv_rng {a : MA} {PW : Wk → Sto → Prop} (h : Giv (a env st) fun xs s => ∃ n : Int, xs = [.int n] ∧ -1000000 ≤ n ∧ n ≤ 1000000 ∧ PW (wRng 0 n.toNat) s) : Giv (mRng a env st) PW := giv_bind (h.mono fun xs s q => by
  obtain ⟨n, rfl, h1, h2, q⟩ := q
  unfold rngD
  simp only
  rw [if_pos ⟨h1, h2⟩]
  exact q)
theorem giv_it {a : ME} {PW : Wk → Sto → Prop} (h : Giv (a env st) fun d s => Giv (itD d s) PW) : Giv (mIt a env st) PW := giv_bind h
theorem giv_lcV {m : MW} {g : MG} {tt : MT} {te : ME} {vs : List Nat} (h : Giv (m env st) fun w s => Giv (lcV w g tt te (wipeE env vs) w.fuel 0 [] s) P) : Giv (mLcV m g tt te vs env st) P := giv_bind h
theorem giv_sl {g : Dt → Option Int → Option Int → Sto → Re Dt} {a : ME} {lo hi : MO} (h : Giv (a env st) fun x s => Giv (lo env s) fun l s2 => Giv (hi env s2) fun u s3 => Giv (g x l u s3) P) : Giv (mSl g a lo hi env st) P := giv_bind (h.mono fun x s q => giv_bind (q.mono fun l s2 z => giv_bind z))
theorem giv_part {a : ME} {PO : Option Int → Sto → Prop} (h : Giv (a env st) fun d s => ∃ i, d = .int i ∧ PO (some i) s) : Giv (mPart a env st) PO := giv_bind (h.mono fun d s q => by
  obtain ⟨i, rfl, q⟩ := q
  exact q)
theorem giv_noPart {PO : Option Int → Sto → Prop} (h : PO none st) : Giv (mNoPart env st) PO := h
theorem giv_var {i : Nat} {d : Dt} (h : env[i]? = some (some d)) (k : P d st) : Giv (mVar i env st) P := by
  unfold mVar
  rw [h]
  exact k
def VarG (i : Nat) (env : Lo) (st : Sto) (P : Dt → Sto → Prop) : Prop := Giv (mVar i env st) P
theorem giv_varG {i : Nat} (h : VarG i env st P) : Giv (mVar i env st) P := h
theorem varG_i {i : Nat} {d : Dt} (h : env[i]? = some (some d)) (k : P d st) : VarG i env st P := giv_var h k
theorem giv_c {d : Dt} (k : P d st) : Giv (mC d env st) P := k
theorem giv_addI {i j : Int} (k : P (.int (i + j)) st) : Giv (addD (.int i) (.int j) st) P := k
theorem giv_subI {i j : Int} (k : P (.int (i - j)) st) : Giv (subD (.int i) (.int j) st) P := k
theorem giv_eqI {i j : Int} (k : P (.bl (decide (i = j))) st) : Giv (eqD (.int i) (.int j) st) P := k
theorem giv_neI {i j : Int} (k : P (.bl (!decide (i = j))) st) : Giv (neD (.int i) (.int j) st) P := k
theorem giv_eqS {i j : List Nat} (k : P (.bl (decide (i = j))) st) : Giv (eqD (.str i) (.str j) st) P := k
theorem giv_neS {i j : List Nat} (k : P (.bl (!decide (i = j))) st) : Giv (neD (.str i) (.str j) st) P := k
theorem giv_addS {a b : List Nat} (hl : a.length + b.length ≤ lim) (k : P (.str (a ++ b)) st) : Giv (addD (.str a) (.str b) st) P := by
  unfold addD
  simp only
  rw [if_pos hl]
  exact k
theorem giv_addL {a b : List Dt} (hl : a.length + b.length ≤ lim) (k : P (.li (a ++ b)) st) : Giv (addD (.li a) (.li b) st) P := by
  unfold addD
  simp only [lsD]
  rw [if_pos hl]
  exact k
theorem giv_addT {a b : List Dt} (hl : a.length + b.length ≤ lim) (k : P (.tup (a ++ b)) st) : Giv (addD (.tup a) (.tup b) st) P := by
  unfold addD
  simp only
  rw [if_pos hl]
  exact k
theorem giv_lenL {xs : List Dt} (k : P (.int xs.length) st) : Giv (lenD [.li xs] st) P := k
theorem giv_lenT {xs : List Dt} (k : P (.int xs.length) st) : Giv (lenD [.tup xs] st) P := k
theorem giv_slL {xs : List Dt} {lo hi : Option Int} (k : P (.li (cutL xs lo hi)) st) : Giv (slD (.li xs) lo hi st) P := k
theorem giv_slT {xs : List Dt} {lo hi : Option Int} (k : P (.tup (cutL xs lo hi)) st) : Giv (slD (.tup xs) lo hi st) P := k
theorem giv_tuL {xs : List Dt} (k : P (.tup xs) st) : Giv (tupleD [.li xs] st) P := k
theorem giv_tuT {xs : List Dt} (k : P (.tup xs) st) : Giv (tupleD [.tup xs] st) P := k
theorem giv_liL {xs : List Dt} (k : P (.li xs) st) : Giv (listV [.li xs] st) P := k
theorem giv_liT {xs : List Dt} (k : P (.li xs) st) : Giv (listV [.tup xs] st) P := k
theorem giv_itT {xs : List Dt} {PW : Wk → Sto → Prop} (k : PW (wTup xs) st) : Giv (itD (.tup xs) st) PW := k
theorem giv_itL {xs : List Dt} {PW : Wk → Sto → Prop} (k : PW (wTup xs) st) : Giv (itD (.li xs) st) PW := k
theorem giv_andE {a b : ME} (h : Giv (a env st) fun x s => ∃ c, x = .bl c ∧ if c = true then Giv (b env s) P else P (.bl false) s) : Giv (mAndV a b env st) P := giv_bind (h.mono fun x s q => by
  obtain ⟨c, rfl, q⟩ := q
  cases c with
  | true => exact q
  | false => exact q)
theorem giv_orE {a b : ME} (h : Giv (a env st) fun x s => ∃ c, x = .bl c ∧ if c = true then P (.bl true) s else Giv (b env s) P) : Giv (mOrV a b env st) P := giv_bind (h.mono fun x s q => by
  obtain ⟨c, rfl, q⟩ := q
  cases c with
  | true => exact q
  | false => exact q)
theorem giv_notE {a : ME} (h : Giv (a env st) fun x s => ∃ c, x = .bl c ∧ P (.bl (!c)) s) : Giv (mNotV a env st) P := giv_bind (h.mono fun x s q => by
  obtain ⟨c, rfl, q⟩ := q
  exact q)
theorem giv_makeV {c n : Nat} {F : MF} {a : MA} {dv : List Dt} (h : Giv (a env st) fun ds s => ds.length + dv.length + 1 = n ∧ Giv (pt (newF c F) (ds ++ dv) s) P) : Giv (mMakeV c n F a dv env st) P := giv_bind (h.mono fun ds s q => by
  rw [if_pos q.1]; exact q.2)
def FldG (cs : List Nat) (k : Nat) (x : Dt) (P : Dt → Prop) : Prop := ∃ c fs d, x = .ob c fs ∧ cs.contains c = true ∧ fs.lookup k = some d ∧ P d
theorem fldG_id {cs : List Nat} {k : Nat} {x : Dt} {P : Dt → Prop} (h : FldG cs k x P) : FldG cs k x P := h
theorem fldG_i {cs : List Nat} {k c : Nat} {fs : List (Nat × Dt)} {x d : Dt} {P : Dt → Prop} (h1 : x = .ob c fs) (h2 : cs.contains c = true) (h3 : fs.lookup k = some d) (h : P d) : FldG cs k x P := ⟨c, fs, d, h1, h2, h3, h⟩
theorem giv_fldO {cs : List Nat} {k : Nat} {a : ME} (h : Giv (a env st) fun x s => FldG cs k x fun d => P d s) : Giv (mFld cs k a env st) P := giv_bind (h.mono fun x s q => by
  obtain ⟨c, fs, d, rfl, h1, h2, q⟩ := q
  simp only [objD, h1, if_true, h2]
  exact q)
def IsG (x : Dt) (s : Sto) (q : Tk → Option Bool) (P : Bool → Prop) : Prop := ∃ t b, tkD x s = some t ∧ q t = some b ∧ P b
theorem isG_id {x : Dt} {s : Sto} {q : Tk → Option Bool} {P : Bool → Prop} (h : IsG x s q P) : IsG x s q P := h
theorem isG_t {x : Dt} {s : Sto} {q : Tk → Option Bool} {P : Bool → Prop} {t : Tk} (h1 : tkD x s = some t) (h2 : q t = some true) (h : P true) : IsG x s q P := ⟨t, true, h1, h2, h⟩
theorem isG_f {x : Dt} {s : Sto} {q : Tk → Option Bool} {P : Bool → Prop} {t : Tk} (h1 : tkD x s = some t) (h2 : q t = some false) (h : P false) : IsG x s q P := ⟨t, false, h1, h2, h⟩
theorem giv_isI {q : Tk → Option Bool} {a : ME} (h : Giv (a env st) fun x s => IsG x s q fun b => P (.bl b) s) : Giv (mIsI q a env st) P := giv_bind (h.mono fun x s z => by
  obtain ⟨t, b, h1, h2, z⟩ := z
  simp only [h1, h2]
  exact z)
def StarG (x : Dt) (s : Sto) (P : List Dt → Prop) : Prop := ∃ ys, seqD x s = some ys ∧ P ys
theorem starG_id {x : Dt} {s : Sto} {P : List Dt → Prop} (h : StarG x s P) : StarG x s P := h
theorem starG_i {x : Dt} {s : Sto} {P : List Dt → Prop} {ys : List Dt} (h1 : seqD x s = some ys) (h : P ys) : StarG x s P := ⟨ys, h1, h⟩
theorem giv_star {a : ME} {r : MA} (h : Giv (a env st) fun x s => StarG x s fun ys => Giv (r env s) fun xs s2 => PL (ys ++ xs) s2) : Giv (mStar a r env st) PL := giv_bind (h.mono fun x s q => by
  obtain ⟨ys, h1, q⟩ := q
  simp only [h1]
  exact giv_bind (q.mono fun xs s2 z => z))
theorem giv_slS {xs : List Nat} {lo hi : Option Int} (hl : xs.length ≤ lim) (k : P (.str (cutL xs lo hi)) st) : Giv (slD (.str xs) lo hi st) P := by
  simp only [slD]
  rw [if_pos hl]
  exact k
theorem giv_lenS {xs : List Nat} (hl : xs.length ≤ lim) (k : P (.int xs.length) st) : Giv (lenD [.str xs] st) P := by
  simp only [lenD]
  rw [if_pos hl]
  exact k
theorem giv_inT {s : List Nat} {ys : List (List Nat)} (k : P (.bl (decide (s ∈ ys))) st) : Giv (inD (.str s) (.tup (ys.map Dt.str)) st) P := by
  unfold inD
  rw [in_strs (ys := ys) rfl]
  exact k
theorem giv_inL {s : List Nat} {ys : List (List Nat)} (k : P (.bl (decide (s ∈ ys))) st) : Giv (inD (.str s) (.li (ys.map Dt.str)) st) P := by
  unfold inD
  rw [in_strs (ys := ys) rfl]
  exact k
theorem giv_joinT {a : List Nat} {ss : List (List Nat)} (hl : (ss.map List.length).sum + ss.length * a.length ≤ 16777216) (k : P (.str (TL.joinL a ss)) st) : Giv (joinD (.str a) [.tup (ss.map Dt.str)] st) P := by
  simp only [joinD, seqD, strsD_map]
  rw [if_pos hl]
  exact k
theorem giv_joinL {a : List Nat} {ss : List (List Nat)} (hl : (ss.map List.length).sum + ss.length * a.length ≤ 16777216) (k : P (.str (TL.joinL a ss)) st) : Giv (joinD (.str a) [.li (ss.map Dt.str)] st) P := by
  simp only [joinD, seqD, strsD_map]
  rw [if_pos hl]
  exact k
theorem giv_fmt {a : ME} (h : Giv (a env st) fun x s => ∃ z, x = .str z ∧ z.length ≤ lim ∧ P (.str z) s) : Giv (mFmt a env st) P := giv_bind (h.mono fun x s q => by
  obtain ⟨z, rfl, hl, q⟩ := q
  simp only
  rw [if_pos hl]
  exact q)
theorem giv_joined {as : List ME} (h : Giv (mFs as [] env st) fun z s => P (.str z) s) : Giv (mJoined as env st) P := giv_bind h
theorem giv_fsN {acc : List Nat} {PF : List Nat → Sto → Prop} (h : PF acc st) : Giv (mFs [] acc env st) PF := h
theorem giv_fsC {a : ME} {as : List ME} {acc : List Nat} {PF : List Nat → Sto → Prop} (h : Giv (a env st) fun x s => ∃ z, x = .str z ∧ acc.length + z.length ≤ lim ∧ Giv (mFs as (acc ++ z) env s) PF) : Giv (mFs (a :: as) acc env st) PF := by
  unfold mFs
  refine giv_bind (h.mono fun x s q => ?_)
  obtain ⟨z, rfl, hl, q⟩ := q
  simp only
  rw [if_pos hl]
  exact q
theorem joinL_len (a : List Nat) : ∀ ss : List (List Nat), (TL.joinL a ss).length ≤ (ss.map List.length).sum + ss.length * a.length
  | [] => by simp [TL.joinL]
  | [p] => by simp [TL.joinL]
  | p :: q :: r => by
    have ih := joinL_len a (q :: r)
    simp only [TL.joinL, List.length_append, List.map_cons, List.sum_cons, List.length_cons, Nat.succ_mul] at ih ⊢
    omega
theorem sum_le {m : Nat} : ∀ ss : List (List Nat), (∀ s ∈ ss, s.length ≤ m) → (ss.map List.length).sum ≤ ss.length * m
  | [], _ => by simp
  | s :: ss, h => by
    have h1 := h s List.mem_cons_self
    have ih := sum_le ss fun t ht => h t (List.mem_cons_of_mem _ ht)
    simp only [List.map_cons, List.sum_cons, List.length_cons, Nat.succ_mul]
    omega
theorem join_bd {a : List Nat} {ss : List (List Nat)} {m n : Nat} (h : ∀ s ∈ ss, s.length ≤ m) (hn : ss.length ≤ n) : (ss.map List.length).sum + ss.length * a.length ≤ n * (m + a.length) := by
  have h1 := sum_le ss h
  have h2 : ss.length * (m + a.length) ≤ n * (m + a.length) := Nat.mul_le_mul_right _ hn
  rw [Nat.mul_add] at h2
  omega
theorem ixD_nat {xs : List Dt} {i : Nat} {d : Dt} (h : xs[i]? = some d) : ixD (.tup xs) (.int (i : Int)) st = .ok d st := by
  simp only [ixD, seqD, atI_natC h]
theorem ixD_natL {xs : List Dt} {i : Nat} {d : Dt} (h : xs[i]? = some d) : ixD (.li xs) (.int (i : Int)) st = .ok d st := by
  simp only [ixD, seqD, atI_natC h]
theorem giv_ixT {xs : List Dt} {i : Nat} {d : Dt} (h : xs[i]? = some d) (k : P d st) : Giv (ixD (.tup xs) (.int (i : Int)) st) P := giv (ixD_nat h) k
theorem giv_ixL {xs : List Dt} {i : Nat} {d : Dt} (h : xs[i]? = some d) (k : P d st) : Giv (ixD (.li xs) (.int (i : Int)) st) P := giv (ixD_natL h) k
theorem giv_ix0 {x : Dt} {xs : List Dt} (k : P x st) : Giv (ixD (.tup (x :: xs)) (.int 0) st) P := giv_ixT (i := 0) rfl k
theorem giv_ix1 {x y : Dt} {xs : List Dt} (k : P y st) : Giv (ixD (.tup (x :: y :: xs)) (.int 1) st) P := giv_ixT (i := 1) rfl k
theorem giv_ix2 {x y z : Dt} {xs : List Dt} (k : P z st) : Giv (ixD (.tup (x :: y :: z :: xs)) (.int 2) st) P := giv_ixT (i := 2) rfl k
theorem giv_ix0L {x : Dt} {xs : List Dt} (k : P x st) : Giv (ixD (.li (x :: xs)) (.int 0) st) P := giv_ixL (i := 0) rfl k
theorem giv_ix1L {x y : Dt} {xs : List Dt} (k : P y st) : Giv (ixD (.li (x :: y :: xs)) (.int 1) st) P := giv_ixL (i := 1) rfl k
theorem giv_ix2L {x y z : Dt} {xs : List Dt} (k : P z st) : Giv (ixD (.li (x :: y :: z :: xs)) (.int 2) st) P := giv_ixL (i := 2) rfl k
def MethG (c mk : Nat) (x : Dt) (s : Sto) (P : Prop) : Prop := ∃ fs, objD x s = some (c, fs) ∧ fs.lookup mk = none ∧ P
theorem methG_id {c mk : Nat} {x : Dt} {s : Sto} {P : Prop} (h : MethG c mk x s P) : MethG c mk x s P := h
theorem methG_i {c mk : Nat} {x : Dt} {s : Sto} {P : Prop} {fs : List (Nat × Dt)} (h1 : objD x s = some (c, fs)) (h2 : fs.lookup mk = none) (h : P) : MethG c mk x s P := ⟨fs, h1, h2, h⟩
theorem giv_meth {c mk n : Nat} {F : MF} {o : ME} {a : MA} {dv : List Dt} (h : Giv (o env st) fun x s => MethG c mk x s (Giv (a env s) fun ds s2 => ds.length + dv.length + 1 = n ∧ Giv (F (x :: (ds ++ dv)) s2) P)) : Giv (mMeth c mk n F o a dv env st) P := giv_bind (h.mono fun x s q => by
  obtain ⟨fs, h1, h2, q⟩ := q
  simp only [h1, h2, and_self, if_true]
  refine giv_bind (q.mono fun ds s2 z => ?_)
  rw [if_pos z.1]
  exact z.2)
theorem giv_chain {g h : Dt → Dt → Sto → Re Dt} {a b c : ME} (q : Giv (a env st) fun x s1 => Giv (b env s1) fun y s2 => Giv (g x y s2) fun z s3 => ∃ c0, z = .bl c0 ∧ if c0 = true then Giv (c env s3) fun w s4 => Giv (h y w s4) P else P (.bl false) s3) : Giv (mChain g h a b c env st) P := by
  refine giv_bind (q.mono fun x s1 q => giv_bind (q.mono fun y s2 q => giv_bind (q.mono fun z s3 q => ?_)))
  obtain ⟨c0, rfl, q⟩ := q
  cases c0 with
  | true => exact giv_bind q
  | false => exact q
theorem giv_leI {i j : Int} (k : P (.bl (decide (i ≤ j))) st) : Giv (leD (.int i) (.int j) st) P := k
theorem giv_ltI {i j : Int} (k : P (.bl (decide (i < j))) st) : Giv (ltD (.int i) (.int j) st) P := k
theorem giv_geI {i j : Int} (k : P (.bl (decide (j ≤ i))) st) : Giv (geD (.int i) (.int j) st) P := k
theorem giv_gtI {i j : Int} (k : P (.bl (decide (j < i))) st) : Giv (gtD (.int i) (.int j) st) P := k
theorem giv_strO {c : Nat} {F : MF} {x : Dt} {z : List Nat} {s : Sto} (hc : clsD x st = some c) (h : F [x] st = .ok (.str z) s) (k : P (.str z) s) : Giv (strOwnD c F [x] st) P := by
  simp only [strOwnD, hc, if_true, h, onlyD, isSt]
  exact k
theorem run_aug {i : Nat} {g : Dt → Dt → Sto → Re Dt} {a : ME} {d : Dt} (hd : env[i]? = some (some d)) (h : Giv (a env st) fun y s => Giv (g d y s) fun z s2 => N (env.set i (some z)) s2) : Run (sAug i g a env st) N R := by
  unfold sAug
  rw [hd]
  simp only
  obtain ⟨y, s, e, h⟩ := h.eq
  obtain ⟨z, s2, e2, h⟩ := h.eq
  rw [e]
  simp only [Re.on, e2]
  exact h
theorem giv_bm {chk : Dt → Sto → Bool} {g : Dt → List Dt → Sto → Re Dt} {o : ME} {a : MA} (h : Giv (o env st) fun x s => chk x s = true ∧ Giv (a env s) fun ds s2 => Giv (g x ds s2) P) : Giv (mBM chk g o a env st) P := giv_bind (h.mono fun x s q => by
  rw [if_pos q.1]; exact giv_bind q.2)
theorem giv_bm0 {chk : Dt → Sto → Bool} {g : Dt → List Dt → Sto → Re Dt} {o : ME} (h : Giv (o env st) fun x s => chk x s = true ∧ Giv (g x [] s) P) : Giv (mBM0 chk g o env st) P := giv_bind (h.mono fun x s q => by
  rw [if_pos q.1]; exact q.2)
/-- a comprehension by draws -/
theorem giv_lcGo {w : Wk} {g : MG} {te : ME} {env : Lo} {s : Sto} (n : Nat) (hf : w.fuel = n + 1) (hn : n < lim) (I : Sto → Prop) (Q : Dt → Prop) (hstop : ∀ s, w.turn n s = .stop) (h0 : I s)
    (hgo : ∀ i s, i < n → I s → ∃ x, w.turn i s = .item x ∧ ∃ env1, g x env s = .nx env1 s ∧ Giv (te env1 s) fun d s1 => Q d ∧ I s1)
    (k : ∀ ys s', I s' → ys.length = n → (∀ d ∈ ys, Q d) → P (.li ys) s') : Giv (lcV w g mYes te env w.fuel 0 [] s) P := by
  rw [hf]
  obtain ⟨ys, s', e, h1, h2, h3⟩ := lcV_go (w := w) (g := g) (te := te) (env := env) n hn I (fun _ d => Q d) hstop (fun i s hi hI => by
    obtain ⟨x, h1, env1, h2, h3⟩ := hgo i s hi hI
    obtain ⟨d, s1, h4, h5, h6⟩ := h3.eq
    exact ⟨x, h1, env1, h2, d, s1, h4, h5, h6⟩) n 0 [] s (by omega) rfl h0 (fun j d hj => by simp at hj)
  refine giv e (k ys s' h1 h2 fun d hd => ?_)
  obtain ⟨j, hj⟩ := List.mem_iff_getElem?.mp hd
  exact h3 j d hj
theorem giv_lcMap {g : MG} {te : ME} {env : Lo} {s : Sto} (xs : List Dt) (h : Dt → Dt) (hn : xs.length < lim) (hgo : ∀ x ∈ xs, ∃ env1, g x env s = .nx env1 s ∧ te env1 s = .ok (h x) s) (k : P (.li (xs.map h)) s) :
    Giv (lcV (wTup xs) g mYes te env (wTup xs).fuel 0 [] s) P := giv (lcV_map h xs hn hgo) k
theorem giv_lcMapT {α : Type} {g : MG} {te : ME} {env : Lo} {s : Sto} (xs : List α) (f h : α → Dt) (hn : xs.length < lim) (hgo : ∀ a ∈ xs, ∃ env1, g (f a) env s = .nx env1 s ∧ te env1 s = .ok (h a) s) (k : P (.li (xs.map h)) s) :
    Giv (lcV (wTup (xs.map f)) g mYes te env (wTup (xs.map f)).fuel 0 [] s) P := by
  obtain ⟨ys, s', e, h1, h2, h3⟩ := lcV_go (w := wTup (xs.map f)) (g := g) (te := te) (env := env) xs.length hn (fun s' => s' = s) (fun i d => ∃ a, xs[i]? = some a ∧ d = h a) (fun s' => by
      have := wTup_stop (ds := xs.map f) (st := s')
      rwa [List.length_map] at this) (fun i s' hi hs => by
      subst hs
      have ha : xs[i]? = some xs[i] := List.getElem?_eq_getElem hi
      obtain ⟨env1, q1, q2⟩ := hgo xs[i] (List.getElem_mem hi)
      exact ⟨f xs[i], wTup_item (by rw [List.getElem?_map, ha]; rfl), env1, q1, _, s', q2, ⟨_, ha, rfl⟩, rfl⟩) xs.length 0 [] s (by omega) rfl rfl (fun j d hj => by simp at hj)
  subst h1
  have ey : ys = xs.map h := by
    apply List.ext_getElem?
    intro j
    by_cases hj : j < xs.length
    · have hj2 : j < ys.length := by omega
      obtain ⟨a, ha, hd⟩ := h3 j ys[j] (List.getElem?_eq_getElem hj2)
      rw [List.getElem?_eq_getElem hj2, List.getElem?_map, ha, hd]
      rfl
    · rw [List.getElem?_eq_none (by omega), List.getElem?_eq_none (by rw [List.length_map]; omega)]
  have ef : (wTup (xs.map f)).fuel = xs.length + 1 := by rw [wTup_fuel, List.length_map]
  rw [ef]
  refine giv e ?_
  rw [ey]
  exact k
theorem ifT {p q : Prop} (h : p) : if (true : Bool) = true then p else q := by rw [if_pos rfl]; exact h
theorem ifF {p q : Prop} (h : q) : if (false : Bool) = true then p else q := by rw [if_neg Bool.false_ne_true]; exact h
theorem ifNT {p q : Prop} (h : q) : if (!(true : Bool)) = true then p else q := ifF h
theorem ifNF {p q : Prop} (h : p) : if (!(false : Bool)) = true then p else q := ifT h
theorem giv_all {ys : List Dt} {bs : List Bool} (h : boolsD ys = some bs) (k : P (.bl (bs.all id)) st) : Giv (allD [.li ys] st) P := by
  simp only [allD, lstD, h]
  exact k
theorem boolsD_map {α : Type} (f : α → Bool) (xs : List α) : boolsD (xs.map fun x => Dt.bl (f x)) = some (xs.map f) := by
  induction xs with
  | nil => rfl
  | cons x r ih => simp only [List.map_cons, boolsD, ih]; rfl
theorem run_fldSet {cs : List Nat} {k : Nat} {o v : ME} (h : Giv (v env st) fun d s => Giv (o env s) fun x s2 => ∃ i c fs, x = .ref i ∧ s2[i]? = some (.ins c fs) ∧ cs.contains c = true ∧ fs.length < 900 ∧ N env (s2.set i (.ins c (putN k d fs)))) : Run (sFldSet cs k o v env st) N R := by
  obtain ⟨d, s, e1, h⟩ := h.eq
  obtain ⟨x, s2, e2, i, c, fs, rfl, h1, h2, h3, h4⟩ := h.eq
  unfold sFldSet
  rw [e1]
  simp only [Re.on]
  rw [e2]
  simp only [insD, h1, h2, h3, decide_true, Bool.and_self, if_true]
  exact h4
/-- a thing made by itself -/
theorem make_eq {c c' : Nat} {F : MF} {ds : List Dt} {st st2 : Sto} {fs : List (Nat × Dt)} (hc : clL 0 ds = true) (h : F (.ref 0 :: ds) [.ins c []] = .ok .non st2) (h0 : st2[0]? = some (.ins c' fs)) (hf : clF 0 fs = true) : pt (newF c F) ds st = .ok (.ob c' fs) st := by
  unfold pt
  rw [if_pos hc]
  have e : newF c F ds [] = .ok (.ref 0) st2 := by
    show (F (.ref 0 :: ds) ([] ++ [.ins c []])).bind _ = _
    rw [List.nil_append, h]
    rfl
  rw [e]
  exact puR_ins h0 hf
theorem make_exc {c e k : Nat} {F : MF} {ds : List Dt} {st st2 : Sto} {d : Dt} (hc : clL 0 ds = true) (h : F (.ref 0 :: ds) [.ins c []] = .exc e [(k, d)] st2) (hd : clD 0 d = true) : pt (newF c F) ds st = .exc e [(k, d)] st := by
  unfold pt
  rw [if_pos hc]
  have e : newF c F ds [] = .exc e [(k, d)] st2 := by
    show (F (.ref 0 :: ds) ([] ++ [.ins c []])).bind _ = _
    rw [List.nil_append, h]
    rfl
  rw [e]
  exact puR_exc1 hd
theorem out_of {r : Rs} {d : Dt} {s : Sto} (h : Run r (fun _ s' => d = .non ∧ s' = s) (fun d' s' => d' = d ∧ s' = s)) : outF r = .ok d s := by
  cases r <;> first | exact h.elim | skip
  · obtain ⟨rfl, rfl⟩ := h; rfl
  · obtain ⟨rfl, rfl⟩ := h; rfl
/-- a def by itself -/
theorem pu_eq {st : Sto} {r : Rs} {d : Dt} (h : Run r (fun _ s => puR st (.ok .non s) = .ok d st) (fun d' s => puR st (.ok d' s) = .ok d st)) : puR st (outF r) = .ok d st := by
  cases r <;> first | exact h.elim | exact h
theorem pu_out {st s2 : Sto} {r : Rs} {d : Dt} (h : outF r = .ok d s2) (hd : clD 0 d = true) : puR st (outF r) = .ok d st := by
  rw [h]; exact puR_ok hd
end
end LT
set_option Elab.async false
set_option linter.all false
set_option maxRecDepth 100000
namespace LT
open PySem PySem.Spec PyProof.Rows L2
/-! ### data compared -/
mutual
def deq : Dt → Dt → Bool
  | .non, .non => true
  | .bl a, .bl b => a == b
  | .bl a, .int j => (if a then 1 else 0) == j
  | .int i, .bl b => i == (if b then 1 else 0)
  | .int i, .int j => i == j
  | .str a, .str b => a == b
  | .tup xs, .tup ys => deqL xs ys
  | .li xs, .li ys => deqL xs ys
  | .rl xs, .li ys => deqL xs ys
  | .li xs, .rl ys => deqL xs ys
  | .rl xs, .rl ys => deqL xs ys
  | _, _ => false
def deqL : List Dt → List Dt → Bool
  | [], [] => true
  | x :: xs, y :: ys => deq x y && deqL xs ys
  | _, _ => false
end
mutual
/-- data of at most n levels, its texts of ASCII signs -/
def okD : Nat → Dt → Bool
  | _, .non => true
  | _, .bl _ => true
  | _, .int _ => true
  | _, .str s => s.all fun c => decide (c < 1114112)
  | n + 1, .tup xs => okL n xs
  | n + 1, .li xs => okL n xs
  | n + 1, .rl xs => okL n xs
  | _, _ => false
def okL : Nat → List Dt → Bool
  | _, [] => true
  | n, x :: xs => okD n x && okL n xs
end
mutual
def toQ : Dt → PyData
  | .bl b => .bool b
  | .int i => .int i
  | .str s => .str ⟨s.toArray⟩
  | .tup xs => .tuple (toQL xs)
  | .li xs => .list (toQL xs)
  | .rl xs => .list (toQL xs)
  | _ => .none
def toQL : List Dt → List PyData
  | [] => []
  | x :: xs => toQ x :: toQL xs
end
mutual
theorem toP_Q {st : Sto} : ∀ (d : Dt) (n m : Nat), okD n d = true → n < m → toP m st d = some (toQ d)
  | d, n, 0, _, h => by omega
  | .non, n, m + 1, _, _ => by simp only [toP, toQ]
  | .bl b, n, m + 1, _, _ => by simp only [toP, toQ]
  | .int i, n, m + 1, _, _ => by simp only [toP, toQ]
  | .str s, n, m + 1, _, _ => by simp only [toP, toQ]
  | .tup xs, n + 1, m + 1, h, hm => by
    simp only [okD] at h
    simp only [toP, toQ, toPL_Q xs n m h (by omega)]
    rfl
  | .li xs, n + 1, m + 1, h, hm => by
    simp only [okD] at h
    simp only [toP, toQ, toPL_Q xs n m h (by omega)]
    rfl
  | .rl xs, n + 1, m + 1, h, hm => by
    simp only [okD] at h
    simp only [toP, toQ, toPL_Q xs n m h (by omega)]
    rfl
  | .tup xs, 0, m + 1, h, _ => by simp [okD] at h
  | .li xs, 0, m + 1, h, _ => by simp [okD] at h
  | .rl xs, 0, m + 1, h, _ => by simp [okD] at h
  | .ob c fs, n, m + 1, h, _ => by cases n <;> simp [okD] at h
  | .dv c, n, m + 1, h, _ => by cases n <;> simp [okD] at h
  | .ref c, n, m + 1, h, _ => by cases n <;> simp [okD] at h
theorem toPL_Q {st : Sto} : ∀ (ds : List Dt) (n m : Nat), okL n ds = true → n < m → ds.mapM (toP m st) = some (toQL ds)
  | [], _, _, _, _ => rfl
  | d :: ds, n, m, h, hm => by
    simp only [okL, Bool.and_eq_true] at h
    rw [List.mapM_cons, toP_Q d n m h.1 hm, toPL_Q ds n m h.2 hm]
    rfl
end
mutual
theorem canLay_Q : ∀ (d : Dt) (n : Nat), okD n d = true → (toQ d).canLay0 = true ∧ (toQ d).depth ≤ n
  | .non, n, _ => by simp [toQ, PyData.canLay0, PyData.depth]
  | .bl b, n, _ => by simp [toQ, PyData.canLay0, PyData.depth]
  | .int i, n, _ => by simp [toQ, PyData.canLay0, PyData.depth]
  | .str s, n, h => by
    have h' : (s.all fun c => decide (c < 1114112)) = true := by cases n <;> simpa only [okD] using h
    refine ⟨?_, by simp [toQ, PyData.depth]⟩
    simp only [toQ, PyData.canLay0]
    simpa [PyData.strOk] using h'
  | .tup xs, n + 1, h => by
    simp only [okD] at h
    have q := canLayL_Q xs n h
    simp only [toQ, PyData.canLay0, PyData.depth]
    exact ⟨q.1, by omega⟩
  | .li xs, n + 1, h => by
    simp only [okD] at h
    have q := canLayL_Q xs n h
    simp only [toQ, PyData.canLay0, PyData.depth]
    exact ⟨q.1, by omega⟩
  | .rl xs, n + 1, h => by
    simp only [okD] at h
    have q := canLayL_Q xs n h
    simp only [toQ, PyData.canLay0, PyData.depth]
    exact ⟨q.1, by omega⟩
  | .tup xs, 0, h => by simp [okD] at h
  | .li xs, 0, h => by simp [okD] at h
  | .rl xs, 0, h => by simp [okD] at h
  | .ob c fs, n, h => by cases n <;> simp [okD] at h
  | .dv c, n, h => by cases n <;> simp [okD] at h
  | .ref c, n, h => by cases n <;> simp [okD] at h
theorem canLayL_Q : ∀ (ds : List Dt) (n : Nat), okL n ds = true → PyData.canLayAll0 (toQL ds) = true ∧ PyData.depthAll (toQL ds) ≤ n
  | [], _, _ => by simp [toQL, PyData.canLayAll0, PyData.depthAll]
  | d :: ds, n, h => by
    simp only [okL, Bool.and_eq_true] at h
    have q := canLay_Q d n h.1
    have r := canLayL_Q ds n h.2
    simp only [toQL, PyData.canLayAll0, PyData.depthAll, q.1, r.1, Bool.and_self, true_and]
    omega
end
theorem str_beqQ (a b : List Nat) : ((⟨a.toArray⟩ : Str) == ⟨b.toArray⟩) = (a == b) := by
  rw [str_beqL]
mutual
theorem eqv_Q : ∀ (d e : Dt) (n m : Nat), okD n d = true → okD m e = true → PyData.eqv (toQ d) (toQ e) = deq d e
  | .non, e, n, m, _, h2 => by cases e <;> first | rfl | (cases m <;> simp [okD] at h2)
  | .bl b, e, n, m, _, h2 => by cases e <;> first | rfl | (cases m <;> simp [okD] at h2)
  | .int b, e, n, m, _, h2 => by cases e <;> first | rfl | (cases m <;> simp [okD] at h2)
  | .str b, e, n, m, _, h2 => by
    cases e with
    | str c => simp only [toQ, PyData.eqv, deq]; exact str_beqQ b c
    | _ => first | rfl | (cases m <;> simp [okD] at h2)
  | .tup xs, e, n + 1, m, h1, h2 => by
    simp only [okD] at h1
    cases e with
    | tup ys =>
      cases m with
      | zero => simp [okD] at h2
      | succ m =>
        simp only [okD] at h2
        simp only [toQ, PyData.eqv, deq]
        exact eqvL_Q xs ys n m h1 h2
    | _ => first | rfl | (cases m <;> simp [okD] at h2)
  | .li xs, e, n + 1, m, h1, h2 => by
    simp only [okD] at h1
    cases e with
    | li ys =>
      cases m with
      | zero => simp [okD] at h2
      | succ m =>
        simp only [okD] at h2
        simp only [toQ, PyData.eqv, deq]
        exact eqvL_Q xs ys n m h1 h2
    | rl ys =>
      cases m with
      | zero => simp [okD] at h2
      | succ m =>
        simp only [okD] at h2
        simp only [toQ, PyData.eqv, deq]
        exact eqvL_Q xs ys n m h1 h2
    | _ => first | rfl | (cases m <;> simp [okD] at h2)
  | .rl xs, e, n + 1, m, h1, h2 => by
    simp only [okD] at h1
    cases e with
    | li ys =>
      cases m with
      | zero => simp [okD] at h2
      | succ m =>
        simp only [okD] at h2
        simp only [toQ, PyData.eqv, deq]
        exact eqvL_Q xs ys n m h1 h2
    | rl ys =>
      cases m with
      | zero => simp [okD] at h2
      | succ m =>
        simp only [okD] at h2
        simp only [toQ, PyData.eqv, deq]
        exact eqvL_Q xs ys n m h1 h2
    | _ => first | rfl | (cases m <;> simp [okD] at h2)
  | .tup xs, _, 0, _, h, _ => by simp [okD] at h
  | .li xs, _, 0, _, h, _ => by simp [okD] at h
  | .rl xs, _, 0, _, h, _ => by simp [okD] at h
  | .ob c fs, _, n, _, h, _ => by cases n <;> simp [okD] at h
  | .dv c, _, n, _, h, _ => by cases n <;> simp [okD] at h
  | .ref c, _, n, _, h, _ => by cases n <;> simp [okD] at h
theorem eqvL_Q : ∀ (d e : List Dt) (n m : Nat), okL n d = true → okL m e = true → PyData.eqvAll (toQL d) (toQL e) = deqL d e
  | [], [], _, _, _, _ => rfl
  | [], _ :: _, _, _, _, _ => rfl
  | _ :: _, [], _, _, _, _ => rfl
  | d :: ds, e :: es, n, m, h1, h2 => by
    simp only [okL, Bool.and_eq_true] at h1 h2
    simp only [toQL, PyData.eqvAll, deqL, eqv_Q d e n m h1.1 h2.1, eqvL_Q ds es n m h1.2 h2.2]
end
theorem deqL_len : ∀ {xs ys : List Dt}, deqL xs ys = true → xs.length = ys.length
  | [], [], _ => rfl
  | [], _ :: _, h => by simp [deqL] at h
  | _ :: _, [], h => by simp [deqL] at h
  | x :: xs, y :: ys, h => by
    simp only [deqL, Bool.and_eq_true] at h
    simp only [List.length_cons, deqL_len h.2]
theorem beq_dec {α : Type} [BEq α] [LawfulBEq α] [DecidableEq α] (a b : α) : (a == b) = decide (a = b) := by
  by_cases h : a = b <;> simp [h]
theorem eqP_data {st : Sto} {x y : Dt} (hx : okD 38 x = true) (hy : okD 38 y = true) : eqB.eqP x y st = some (deq x y) := by
  have a := canLay_Q x 38 hx
  have b := canLay_Q y 38 hy
  unfold eqB.eqP
  rw [toP_Q x 38 40 hx (by decide), toP_Q y 38 40 hy (by decide)]
  simp only
  rw [if_pos (by simp only [SeqAt.shaped, a.1, b.1, Bool.true_and, Bool.and_eq_true, decide_eq_true_eq]; omega), eqv_Q x y 38 38 hx hy]
theorem eqB_data {st : Sto} {x y : Dt} (hx : okD 38 x = true) (hy : okD 38 y = true) : eqB x y st = some (deq x y) := by
  have e := eqP_data (st := st) hx hy
  unfold eqB
  split
  · rw [deq, beq_dec]
  · rw [deq, beq_dec]
  · rw [deq, beq_dec]
  · simp [deq]
  · simp [deq]
  · simp [deq]
  · simp [deq]
  · simp [deq]
  · split
    · rename_i m n h1 h2
      split
      · exact e
      · rename_i hne
        congr 1
        symm
        rw [← Bool.not_eq_true]
        intro z
        have len : ∀ {d : Dt} {k : Nat}, okD 38 d = true → lenL d st = some k → ∃ xs, (d = .li xs ∨ d = .rl xs) ∧ xs.length = k := fun {d k} hd hl => by
          cases d <;> first | (simp [lenL] at hl) | skip
          · exact ⟨_, .inr rfl, hl⟩
          · exact ⟨_, .inl rfl, hl⟩
          · simp [okD] at hd
        obtain ⟨xs, hx', lx⟩ := len hx h1
        obtain ⟨ys, hy', ly⟩ := len hy h2
        rcases hx' with rfl | rfl <;> rcases hy' with rfl | rfl <;> (simp only [deq] at z; have := deqL_len z; omega)
    · exact e
theorem eqD_data {st : Sto} {x y : Dt} (hx : okD 38 x = true) (hy : okD 38 y = true) : eqD x y st = .ok (.bl (deq x y)) st := by
  unfold eqD; rw [eqB_data hx hy]
theorem neD_data {st : Sto} {x y : Dt} (hx : okD 38 x = true) (hy : okD 38 y = true) : neD x y st = .ok (.bl (!deq x y)) st := by
  unfold neD; rw [eqB_data hx hy]
/-! texts -/
def okS (s : List Nat) : Bool := s.all fun c => decide (c < 1114112)
theorem okD_str {n : Nat} {s : List Nat} (h : okS s = true) : okD n (.str s) = true := by cases n <;> exact h
theorem okL_mem {n : Nat} : ∀ {xs : List Dt}, okL n xs = true ↔ ∀ x ∈ xs, okD n x = true
  | [] => by simp [okL]
  | x :: xs => by simp [okL, okL_mem (xs := xs)]
theorem okL_strs {n : Nat} {ss : List (List Nat)} (h : ∀ s ∈ ss, okS s = true) : okL n (ss.map Dt.str) = true := by
  rw [okL_mem]
  intro d hd
  obtain ⟨s, hs, rfl⟩ := List.mem_map.mp hd
  exact okD_str (h s hs)
theorem deqL_map {α : Type} [DecidableEq α] (f : α → Dt) (hf : ∀ a b, deq (f a) (f b) = decide (a = b)) : ∀ xs ys : List α, deqL (xs.map f) (ys.map f) = decide (xs = ys)
  | [], [] => by simp [deqL]
  | [], _ :: _ => by simp [deqL]
  | _ :: _, [] => by simp [deqL]
  | x :: xs, y :: ys => by
    simp only [List.map_cons, deqL, hf, deqL_map f hf xs ys, List.cons.injEq]
    by_cases a : x = y <;> by_cases b : xs = ys <;> simp [a, b]
theorem deq_str (a b : List Nat) : deq (.str a) (.str b) = decide (a = b) := by
  simp only [deq]
  by_cases h : a = b <;> simp [h]
theorem deq_strs (a b : List (List Nat)) : deq (.tup (a.map Dt.str)) (.tup (b.map Dt.str)) = decide (a = b) := by
  simp only [deq]
  exact deqL_map Dt.str deq_str a b
end LT
set_option Elab.async false
set_option linter.all false
set_option maxRecDepth 100000
namespace LT
open PySem PySem.Spec PyProof.Rows L2
/-! ### repr of data -/
def rRepr (K : PySem.W.Frag) : List V → Hp → VK → Prop := fun xs H Q => ∃ v d, xs = [v] ∧ Dp K H v d ∧ d.showable = true ∧ d.hasDict = false ∧ d.depth ≤ 64 ∧ d.shown.length ≤ sizeLine ∧ Q (.str d.shown) H
theorem call_reprD {X : Cx} (hg : X.A.guards = some []) (hu : X.A.units + 66 < cLine) : CallR X (.builtin "repr") (rRepr X.K) := by
  intro pins s σ H xs us Q I r h
  obtain ⟨v, d, rfl, dp, h1, h2, h3, h4, q⟩ := h
  obtain ⟨u, rfl, ru⟩ := vals1 r
  have byRef : ∀ a, u = .ref a → wpAny (model X.prog X.w) X.A (call (.builtin "repr") [u]) (EP X pins σ Q) X.xe s := fun a e => by
    subst e
    obtain ⟨as, rd⟩ := Dp.reads I d v _ dp ru
    exact repr_of_reads' rd h1 (fun z => by rw [h2] at z; cases z) hg (by omega) (fun _ _ z => z) (fun h' u tk hk => ⟨.str _, H, I.kept hk, ⟨_, rfl⟩, q⟩) h4
  cases v with
  | ref a => cases ru; exact byRef a rfl
  | non =>
    cases ru; cases dp
    exact PySem.P.repr_of_none ⟨.str _, H, I.tok _, ⟨_, rfl⟩, q⟩
  | bl b =>
    cases ru; cases dp
    exact PySem.P.repr_of_bool ⟨.str _, H, I.tok _, ⟨_, rfl⟩, q⟩
  | int i =>
    obtain ⟨t, rfl⟩ := ru
    cases dp
    exact PySem.P.repr_of_int (of_decide_eq_true h1) ⟨.str _, H, I.tok _, ⟨_, rfl⟩, q⟩
  | str x =>
    obtain ⟨t, rfl⟩ := ru
    cases dp
    exact PySem.P.repr_of_str ⟨.str _, H, I.tok _, ⟨_, rfl⟩, q⟩ h4
  | byt b => cases dp
  | flt b => cases dp
  | ty b => cases dp
def reprD (xs : List Dt) (st : Sto) : Re Dt := match xs with
  | [x] => match toP 40 st x with
    | some d => if d.showable && SeqAt.shaped d && decide (d.shown.length ≤ sizeLine) then .ok (.str d.shown.cps.toList) st else .stuck
    | none => .stuck
  | _ => .stuck
theorem snd_repr {K : PySem.W.Frag} {T : Tb} : SndC K T (rRepr K) reprD := fun f H st xs vs Wx Q rh r p => by
  cases r with
  | nil => exact p.elim
  | cons rx t =>
    cases t with
    | cons _ _ => exact p.elim
    | nil =>
      rename_i x v
      unfold reprD at p
      simp only at p
      cases hd : toP 40 st x with
      | none => rw [hd] at p; exact p.elim
      | some d =>
        rw [hd] at p
        simp only at p
        split at p
        · rename_i hc
          simp only [Bool.and_eq_true, decide_eq_true_eq] at hc
          exact ⟨v, d, rfl, toP_ok rh 40 x v d rx hd, hc.1.1, PyData.hasDict_of_canLay d (SeqAt.canLay_of_shaped hc.1.2), SeqAt.depth_of_shaped hc.1.2, hc.2, p.now rh (.str _)⟩
        · exact p.elim
/-- what repr tells of data -/
def shownD (x : Dt) : List Nat := (toQ x).shown.cps.toList
theorem repr_data {st : Sto} {x : Dt} (hx : okD 38 x = true) (hs : (toQ x).showable = true) (hl : (toQ x).shown.length ≤ sizeLine) : reprD [x] st = .ok (.str (shownD x)) st := by
  have a := canLay_Q x 38 hx
  unfold reprD
  simp only
  rw [toP_Q x 38 40 hx (by decide)]
  simp only
  rw [if_pos (by simp only [hs, SeqAt.shaped, a.1, Bool.true_and, Bool.and_eq_true, decide_eq_true_eq]; omega)]
  rfl
/-! how long it is at most -/
mutual
def wD : Dt → Nat
  | .int _ => 1922
  | .str s => 10 * s.length + 2
  | .tup xs => wL xs + 4
  | .li xs => wL xs + 4
  | .rl xs => wL xs + 4
  | _ => 5
def wL : List Dt → Nat
  | [] => 0
  | x :: xs => wD x + 2 + wL xs
end
theorem str_len_app (a b : Str) : (a ++ b).length = a.length + b.length := by
  have := congrArg List.length (str_app a b)
  rw [List.length_append, len_str, len_str, len_str] at this
  exact this
theorem textFrom_le : ∀ (ts : List Str) (k : Nat) (acc : Str), (textFrom k acc ts).length ≤ acc.length + piled ts
  | [], k, acc => by simp [textFrom, piled]
  | t :: ts, k, acc => by
    have ih := textFrom_le ts (k + 1) (acc ++ (if k > 0 then ", " else "" : String) ++ t)
    rw [textFrom, piled_cons]
    rw [str_len_app, str_len_app] at ih
    have : (Str.ofString (if k > 0 then ", " else "" : String)).length ≤ 2 := by split <;> decide
    omega
theorem listText_le (ts : List Str) : (listText ts).length ≤ piled ts + 2 := by
  unfold listText
  rw [str_len_app]
  have h := textFrom_le ts 0 "["
  have e1 : (Str.ofString "[").length = 1 := by decide
  have e2 : (Str.ofString "]").length = 1 := by decide
  omega
theorem tupleText_le (ts : List Str) : (tupleText ts).length ≤ piled ts + 3 := by
  unfold tupleText
  rw [str_len_app, str_len_app]
  have e1 : (Str.ofString "(").length = 1 := by decide
  have e2 : (Str.ofString (if ts.length == 1 then ",)" else ")" : String)).length ≤ 2 := by split <;> decide
  cases ts with
  | nil =>
    have : (Str.join ", " []).length = 0 := by decide
    omega
  | cons t ts =>
    have := join_length_add (t :: ts) (by simp)
    omega
mutual
theorem shown_le : ∀ (x : Dt) (n : Nat), okD n x = true → (toQ x).showable = true → (toQ x).shown.length ≤ wD x
  | .non, n, _, _ => by show (Str.ofString "None").length ≤ 5; decide
  | .bl b, n, _, _ => by cases b <;> (simp only [toQ, PyData.shown, wD]; decide)
  | .int i, n, _, h => by
    have h' : i.natAbs.log2 < 1920 := of_decide_eq_true (by simpa only [toQ, PyData.showable] using h)
    have e := int_text_length_le (k := 1920) (by decide) h'
    show (Str.ofString (toString i)).length ≤ 1922
    rw [PySem.ofString_length]
    omega
  | .str s, n, h, _ => by
    have h' : (s.all fun c => decide (c < 1114112)) = true := by cases n <;> simpa only [okD] using h
    have e := PySem.StrLaws.reprText_len (⟨s.toArray⟩ : Str) (fun c hc => by
      have hc' : c ∈ s := by simpa using hc
      have := List.all_eq_true.mp h' c hc'
      have := of_decide_eq_true this
      exact Nat.lt_trans this (by decide))
    have e2 : (⟨s.toArray⟩ : Str).length = s.length := by show s.toArray.size = s.length; simp
    simp only [toQ, PyData.shown, wD]
    omega
  | .tup xs, n + 1, h, hs => by
    simp only [okD] at h
    simp only [toQ, PyData.showable] at hs
    have q := shownL_le xs n h hs
    have e := tupleText_le (PyData.shownAll (toQL xs))
    simp only [toQ, PyData.shown, wD]
    omega
  | .li xs, n + 1, h, hs => by
    simp only [okD] at h
    simp only [toQ, PyData.showable] at hs
    have q := shownL_le xs n h hs
    have e := listText_le (PyData.shownAll (toQL xs))
    simp only [toQ, PyData.shown, wD]
    omega
  | .rl xs, n + 1, h, hs => by
    simp only [okD] at h
    simp only [toQ, PyData.showable] at hs
    have q := shownL_le xs n h hs
    have e := listText_le (PyData.shownAll (toQL xs))
    simp only [toQ, PyData.shown, wD]
    omega
  | .tup xs, 0, h, _ => by simp [okD] at h
  | .li xs, 0, h, _ => by simp [okD] at h
  | .rl xs, 0, h, _ => by simp [okD] at h
  | .ob c fs, n, h, _ => by cases n <;> simp [okD] at h
  | .dv c, n, h, _ => by cases n <;> simp [okD] at h
  | .ref c, n, h, _ => by cases n <;> simp [okD] at h
theorem shownL_le : ∀ (xs : List Dt) (n : Nat), okL n xs = true → PyData.showableAll (toQL xs) = true → piled (PyData.shownAll (toQL xs)) ≤ wL xs
  | [], _, _, _ => by simp [toQL, PyData.shownAll, piled, wL]
  | x :: xs, n, h, hs => by
    simp only [okL, Bool.and_eq_true] at h
    simp only [toQL, PyData.showableAll, Bool.and_eq_true] at hs
    have a := shown_le x n h.1 hs.1
    have b := shownL_le xs n h.2 hs.2
    simp only [toQL, PyData.shownAll, piled_cons, wL]
    omega
end
mutual
/-- numbers that can be shown -/
def shD : Dt → Bool
  | .int i => decide (i.natAbs.log2 < 1920)
  | .tup xs => shL xs
  | .li xs => shL xs
  | .rl xs => shL xs
  | _ => true
def shL : List Dt → Bool
  | [] => true
  | x :: xs => shD x && shL xs
end
mutual
theorem showable_Q : ∀ x : Dt, shD x = true → (toQ x).showable = true
  | .non, _ => rfl
  | .bl _, _ => rfl
  | .int i, h => by simpa only [toQ, PyData.showable, shD] using h
  | .str _, _ => rfl
  | .tup xs, h => by simp only [shD] at h; simp only [toQ, PyData.showable]; exact showableL_Q xs h
  | .li xs, h => by simp only [shD] at h; simp only [toQ, PyData.showable]; exact showableL_Q xs h
  | .rl xs, h => by simp only [shD] at h; simp only [toQ, PyData.showable]; exact showableL_Q xs h
  | .ob _ _, _ => rfl
  | .dv _, _ => rfl
  | .ref _, _ => rfl
  | .cl _, _ => rfl
theorem showableL_Q : ∀ xs : List Dt, shL xs = true → PyData.showableAll (toQL xs) = true
  | [], _ => rfl
  | x :: xs, h => by
    simp only [shL, Bool.and_eq_true] at h
    simp only [toQL, PyData.showableAll, showable_Q x h.1, showableL_Q xs h.2, Bool.and_self]
end
theorem repr_ok {st : Sto} {x : Dt} (hx : okD 38 x = true) (hs : shD x = true) (hl : wD x ≤ 16777216) : reprD [x] st = .ok (.str (shownD x)) st :=
  repr_data hx (showable_Q x hs) (Nat.le_trans (shown_le x 38 hx (showable_Q x hs)) hl)
end LT
set_option Elab.async false
set_option linter.all false
set_option maxRecDepth 100000
namespace LT
open PySem PySem.Spec PyProof.Rows L2
/-! ### zip and enumerate -/
section
variable {X : Cx} {T : Tb} {W : WX} {e e2 tg : Expr} {pos : Pos} {K : PySem.W.Frag}
def wZip (w1 w2 : Wk) : Wk := ⟨fun i st => match w1.turn i st, w2.turn i st with
  | .item a, .item b => .item (.tup [a, b])
  | .stuck, _ => .stuck
  | _, .stuck => .stuck
  | _, _ => .stop, min w1.fuel w2.fuel⟩
def wEnum (w : Wk) : Wk := ⟨fun i st => match w.turn i st with
  | .item a => .item (.tup [.int i, a])
  | .stuck => .stuck
  | .stop => .stop, w.fuel⟩
theorem rw_zip {f : List Addr} {H : Hp} {w1 w2 : Wk} {a b : Addr} (h1 : RW K T H f w1 (Itl K a)) (h2 : RW K T H f w2 (Itl K b)) : RW K T H f (wZip w1 w2) (Itz K a b) := fun rs i f' H' st hr hp s rh => by
  have t1 := h1 rs i f' H' st hr hp s rh
  have t2 := h2 rs i f' H' st hr hp s rh
  show match (match w1.turn i st, w2.turn i st with
    | .item a, .item b => Tn.item (.tup [a, b])
    | .stuck, _ => .stuck
    | _, .stuck => .stuck
    | _, _ => .stop) with | .stop => _ | .item d => _ | .stuck => True
  cases e1 : w1.turn i st with
  | stuck => trivial
  | stop =>
    rw [e1] at t1
    cases e2 : w2.turn i st with
    | stuck => trivial
    | stop =>
      rw [e2] at t2
      obtain ⟨xs, q1, l1⟩ := t1
      obtain ⟨ys, q2, l2⟩ := t2
      exact ⟨xs, ys, q1, q2, .inl l1⟩
    | item d =>
      rw [e2] at t2
      obtain ⟨xs, q1, l1⟩ := t1
      obtain ⟨⟨ys, y, q2, l2⟩, _⟩ := t2
      exact ⟨xs, ys, q1, q2, .inl l1⟩
  | item d =>
    rw [e1] at t1
    cases e2 : w2.turn i st with
    | stuck => trivial
    | stop =>
      rw [e2] at t2
      obtain ⟨ys, q2, l2⟩ := t2
      obtain ⟨⟨xs, x, q1, l1⟩, _⟩ := t1
      exact ⟨xs, ys, q1, q2, .inr l2⟩
    | item d2 =>
      rw [e2] at t2
      obtain ⟨⟨xs, x, q1, l1⟩, g1⟩ := t1
      obtain ⟨⟨ys, y, q2, l2⟩, g2⟩ := t2
      refine ⟨⟨xs, ys, x, y, q1, q2, l1, l2⟩, fun v H2 hy => ?_⟩
      obtain ⟨p, x', y', rfl, hn, rfl, hx, hy⟩ := hy
      obtain ⟨_, _, r1⟩ := g1 x' H' ⟨rfl, hx⟩
      obtain ⟨_, _, r2⟩ := g2 y' H' ⟨rfl, hy⟩
      exact ⟨Stay.new hn, rh.side hn, .tup (.inl (.inl upd_same)) (.cons (r1.mono (List.prefix_refl _) (Stay.new hn)) (.cons (r2.mono (List.prefix_refl _) (Stay.new hn)) .nil))⟩
theorem rw_enum {f : List Addr} {H : Hp} {w1 : Wk} {a : Addr} (h1 : RW K T H f w1 (Itl K a)) : RW K T H f (wEnum w1) (Ite K a) := fun rs i f' H' st hr hp s rh => by
  have t1 := h1 rs i f' H' st hr hp s rh
  show match (match w1.turn i st with
    | .item a => Tn.item (.tup [.int i, a])
    | .stuck => .stuck
    | .stop => .stop) with | .stop => _ | .item d => _ | .stuck => True
  cases e1 : w1.turn i st with
  | stuck => trivial
  | stop =>
    rw [e1] at t1
    obtain ⟨xs, q1, l1⟩ := t1
    exact ⟨xs, q1, l1⟩
  | item d =>
    rw [e1] at t1
    obtain ⟨⟨xs, x, q1, l1⟩, g1⟩ := t1
    refine ⟨⟨xs, x, q1, l1⟩, fun v H2 hy => ?_⟩
    obtain ⟨p, x', rfl, hn, rfl, hx⟩ := hy
    obtain ⟨_, _, r1⟩ := g1 x' H' ⟨rfl, hx⟩
    exact ⟨Stay.new hn, rh.side hn, .tup (.inl (.inl upd_same)) (.cons (.int _) (.cons (r1.mono (List.prefix_refl _) (Stay.new hn)) .nil))⟩
/-- lists, walked -/
def itL : Dt → Sto → Option Wk
  | .rl ds, _ => some (wTup ds)
  | .li ds, _ => some (wTup ds)
  | .ref i, st => match st[i]? with
    | some (.lst xs) => some (wLst i xs.length)
    | _ => none
  | _, _ => none
theorem itL_ok {f : List Addr} {H : Hp} {st : Sto} {d : Dt} {v : V} {w : Wk} (rh : RH K T f H st) (r : RV K T H f d v) (h : itL d st = some w) : ∃ a xs, v = .ref a ∧ SqL K H a xs ∧ RW K T H f w (Itl K a) := by
  cases r with
  | @rl ds vs a hs r => cases h; exact ⟨a, vs, rfl, hs.sq, rw_rl hs r⟩
  | @li ds vs a hf hs r => cases h; exact ⟨a, vs, rfl, .inl (.inl hs), rw_li hf hs r⟩
  | @ref i a hi =>
    obtain ⟨o, ho⟩ := rh.lt hi
    simp only [itL, ho] at h
    cases o with
    | lst xs =>
      cases h
      obtain ⟨vs, h1, r⟩ := rh.lst hi ho
      exact ⟨a, vs, rfl, .inl (.inl h1), rw_lst hi⟩
    | _ => cases h
  | _ => cases h
def zipD (xs : List Dt) (st : Sto) : Re Wk := match xs with
  | [x, y] => match itL x st, itL y st with
    | some w1, some w2 => .ok (wZip w1 w2) st
    | _, _ => .stuck
  | _ => .stuck
def mZip (a : MA) : MW := fun env st => (a env st).bind zipD
theorem ii_zip {elts : List Expr} {kk : Nat} {tpos p : Pos} {ms : MA} (hg : Gl X "zip") (hm : X.mg "zip" = none) (ha : IA X T W [e, e2] ms) (hs : starEach [e, e2] X.env = (false, eval e X.env) :: starEach [e2] X.env := by rfl) (hpl : (backTo pos (starEach [e2] X.env)).any (·.1) = false := by rfl) : II X T W (.Tuple elts kk tpos) (.Call (.Name "zip" p) [e, e2] [] pos) (mZip ms) := PIw (pi_zip hg hm ha hs hpl) fun σ H Q ⟨f, env, st, re, rh, p⟩ =>
  ⟨f, env, st, re, rh, p.bind fun x st1 f1 H1 vx hp s rh1 rx p1 => by
    cases rx with
    | nil => exact p1.elim
    | cons r1 t =>
      cases t with
      | nil => exact p1.elim
      | cons r2 t =>
        cases t with
        | cons _ _ => exact p1.elim
        | nil =>
          rename_i x1 v1 x2 v2
          cases h1 : itL x1 st1 with
          | none => simp only [zipD, h1] at p1; exact p1.elim
          | some w1 =>
            cases h2 : itL x2 st1 with
            | none => simp only [zipD, h1, h2] at p1; exact p1.elim
            | some w2 =>
              simp only [zipD, h1, h2] at p1
              obtain ⟨a, xs, rfl, q1, rw1⟩ := itL_ok rh1 r1 h1
              obtain ⟨b, ys, rfl, q2, rw2⟩ := itL_ok rh1 r2 h2
              exact ⟨a, b, xs, ys, rfl, q1, q2, Post.now (rel := RW X.K T) p1 rh1 (rw_zip rw1 rw2)⟩⟩
def enumD (xs : List Dt) (st : Sto) : Re Wk := match xs with
  | [x] => match itL x st with
    | some w1 => .ok (wEnum w1) st
    | _ => .stuck
  | _ => .stuck
def mEnum (a : MA) : MW := fun env st => (a env st).bind enumD
theorem ii_enum {elts : List Expr} {kk : Nat} {tpos p : Pos} {ms : MA} (hg : Gl X "enumerate") (hm : X.mg "enumerate" = none) (ha : IA X T W [e] ms) (hs : starEach [e] X.env = [(false, eval e X.env)] := by rfl) : II X T W (.Tuple elts kk tpos) (.Call (.Name "enumerate" p) [e] [] pos) (mEnum ms) := PIw (pi_enum hg hm ha hs) fun σ H Q ⟨f, env, st, re, rh, p⟩ =>
  ⟨f, env, st, re, rh, p.bind fun x st1 f1 H1 vx hp s rh1 rx p1 => by
    cases rx with
    | nil => exact p1.elim
    | cons r1 t =>
      cases t with
      | cons _ _ => exact p1.elim
      | nil =>
        rename_i x1 v1
        cases h1 : itL x1 st1 with
        | none => simp only [enumD, h1] at p1; exact p1.elim
        | some w1 =>
          simp only [enumD, h1] at p1
          obtain ⟨a, xs, rfl, q1, rw1⟩ := itL_ok rh1 r1 h1
          exact ⟨a, xs, rfl, q1, Post.now (rel := RW X.K T) p1 rh1 (rw_enum rw1)⟩⟩
end
end LT
set_option Elab.async false
set_option linter.all false
set_option maxRecDepth 100000
namespace LT
open PySem PySem.SeqAt
open AutoSeq1 (wpAny_loadPart')
open MeetsSeq MeetsSeq2 MeetsSeq3 SeqRoads2
/-! ### a value of the kit's own types against an instance with an own == -/
section
variable {prog : Program} {w : World} {A : Around} {E : Value → Shared → Prop} {s : Shared} {K : PySem.W.Frag} {y C L f : Addr} {h₀ : Heap} {m : Str → Option Value} {oy : Obj} {od : Option Obj} {u : Value}
theorem rc_back {T id : String} {Q : Value → Shared → Prop} (hu : A.units < cLine) (F : PyProof.Rows.Fr h₀ L s.heap m) (X₀ : K.In h₀) (I : PySem.W.InstAt s.heap y oy C od) (hT : s.TypeIs u T) (slot : Slot T (cmpInfo .Eq).2.1 id) (hsub : PySem.W.subIn K (.ref C) (.type T) = some false)
    (hB : ∀ {Q : Value → Shared → Prop}, Q .notImplemented s → wpAny (model prog w) A (call (.builtin id) [u, .ref y]) Q E s)
    (hs : PySem.W.findIn K (.ref C) (cmpInfo .Eq).2.1 = some (some (.ref f))) (hf : PySem.W.isFn K (.ref f) = true)
    (h : wpAny (model prog w) A (call (.ref f) [.ref y, u]) (PySem.W.CmpBack Q) E s) : wpAny (model prog w) A (richCompare .Eq u (.ref y)) Q E s := by
  have X := X₀.keeps F.keep
  have one : wpAny (model prog w) A (tryCompare (.ref y) (cmpInfo .Eq).2.2 u) (fun r s' => ∃ v, r = some v ∧ Q v s') E s := by
    unfold tryCompare
    refine wpAny_bind (PySem.W.ifBound_K X I hs hf (wpAny_mono h (fun v s' hv => ?_) fun _ _ e => e))
    cases v <;> first | exact hv.elim | exact wpAny_pure ⟨_, rfl, hv⟩
  unfold richCompare
  simp only [hT.oneThing_none]
  refine wpAny_holding (wpAny_bind (wpAny_cRoomFor hu ?_))
  refine wpAny_bind (wpAny_typeOf hT (wpAny_bind (I.type.here ?_)))
  split
  · refine wpAny_bind ((PySem.W.looks_subIn X hsub).here ?_)
    simp only [Bool.false_eq_true, if_false]
    refine wpAny_bind ?_
    unfold tryCompare
    refine wpAny_bind (wpAny_callSpecialIfBound?_slot hT slot (hB (wpAny_pure ?_)))
    refine wpAny_bind (wpAny_mono one (fun r s' z => ?_) fun _ _ e => e)
    obtain ⟨v, rfl, hq⟩ := z
    exact wpAny_pure hq
  · rename_i q
    exact absurd rfl q
theorem decl_none {Q : Value → Shared → Prop} (hq : Q .notImplemented s) : wpAny (model prog w) A (call (.builtin "NoneType.__eq__") [.none, .ref y]) Q E s :=
  call_gives F.slot_NoneType_eq rfl F.entry_NoneType_eq (F.args_NoneType_eq_2 _ _) (PySem.SeqAt.NoneType___eq___none_ref_0 y) hq
theorem decl_str {dx : Addr} {z : Str} {t : Tok} {Q : Value → Shared → Prop} (hy : s.heap.get? y = some (PySem.W.instObj C dx)) (hq : Q .notImplemented s) : wpAny (model prog w) A (call (.builtin "str.__eq__") [.str z t, .ref y]) Q E s := by
  refine GQ.call_here F.slot_str_eq (typeIs_str s z t) F.entry_str_eq (F.args_str_eq_2 _ _) ?_
  obtain ⟨hp, g, d, tk, os⟩ := s
  unfold PySem.W.instObj at hy
  wp_walk using wpAny_loadPart' hy
  exact hq
theorem decl_list {l : Addr} {o : Obj} {Q : Value → Shared → Prop} (hl : s.heap.get? l = some o) (hc : o.cls = .type "list") (hi : PySem.W.Looks (model prog w) s.heap (isInstance (.ref y) (.type "list")) false) (hq : Q .notImplemented s) : wpAny (model prog w) A (call (.builtin "list.__eq__") [.ref l, .ref y]) Q E s := by
  refine GQ.call_here F.slot_list_eq ⟨_, hl, hc⟩ F.entry_list_eq (F.args_list_eq_2 _ _) ?_
  show wpAny (model prog w) A.in1 (isInstance (.ref y) (.type "list") >>= _) _ _ s
  refine wpAny_bind (hi.here ?_)
  obtain ⟨hp, g, d, tk, os⟩ := s
  wp_walk
  exact hq
theorem decl_tuple {l : Addr} {o : Obj} {Q : Value → Shared → Prop} (hl : s.heap.get? l = some o) (hc : o.cls = .type "tuple") (hi : PySem.W.Looks (model prog w) s.heap (isInstance (.ref y) (.type "tuple")) false) (hq : Q .notImplemented s) : wpAny (model prog w) A (call (.builtin "tuple.__eq__") [.ref l, .ref y]) Q E s := by
  refine GQ.call_here F.slot_tuple_eq ⟨_, hl, hc⟩ F.entry_tuple_eq (F.args_tuple_eq_2 _ _) ?_
  show wpAny (model prog w) A.in1 (isInstance (.ref y) (.type "tuple") >>= _) _ _ s
  refine wpAny_bind (hi.here ?_)
  obtain ⟨hp, g, d, tk, os⟩ := s
  wp_walk
  exact hq
end
end LT
set_option Elab.async false
set_option linter.all false
set_option maxRecDepth 100000
namespace LT
open PySem PySem.SeqAt
open AutoSeq1 (wpAny_loadPart')
open MeetsSeq MeetsSeq2 MeetsSeq3 SeqRoads2
section
variable {prog : Program} {w : World} {A : Around} {E : Value → Shared → Prop} {s : Shared}
theorem eqBool_val {u : Value} {b : Addr} {Q : Bool → Shared → Prop} (hne : (u == .ref b) = false) (h : wpAny (model prog w) A (richCompare .Eq u (.ref b)) (fun v s' => ∃ r, v = .bool r ∧ Q r s') E s) : wpAny (model prog w) A (eqBool u (.ref b)) Q E s := by
  unfold eqBool
  refine wpAny_holding ?_
  refine wpAny_ite_split (fun hab => absurd (hne.symm.trans hab) Bool.false_ne_true) (fun _ => ?_)
  have fin : wpAny (model prog w) A (richCompare .Eq u (.ref b) >>= truthOfDropped) Q E s := wpAny_bind (wpAny_mono h (fun v s' hv => by
    obtain ⟨r, rfl, hq⟩ := hv
    exact wpAny_truthy_bool hq) fun _ _ x => x)
  cases u <;> exact fin
end
section
variable {prog : Program} {w : World} {A : Around} {R : Result → Shared → Prop}
theorem tup_inQ (l : Addr) (x : Value) (items : Array Value) (n : Nat) (dd : Option Addr) (sl : Array (Option Value)) (I : List Value → Shared → Prop)
    (turn : ∀ y rest s, I (y :: rest) s → wpAny (model prog w) A.in1 (eqBool y x) (fun r s' => if r = true then R (.ok (.ret (.bool true))) s' else I rest s') (fun e s' => R (.error e) s') s)
    (fin : ∀ s, I [] s → R (.ok (.ret (.bool false))) s) {s : Shared} (hl1 : s.heap.get? l = some { cls := .type "tuple", dict := dd, data := .seq items n, slots := sl }) (h : I items.toList s) :
    wpAny (model prog w) A.in1 (Builtin.«tuple.__contains__» ⟨[.ref l, x], []⟩) (GQ.FinOf prog w A R) (fun e s' => R (.error e) s') s := by
  have h0 := h
  obtain ⟨hp, g, d, tk, os⟩ := s
  wp_walk using wpAny_loadPart' hl1, wpAny_forIn_array _ (fun rest b s' => b.1 = none ∧ I rest s') _
  case turn =>
    rintro y rest b s' ⟨hb', hI⟩
    refine wpAny_bind (wpAny_mono (turn y rest s' hI) (fun r s2 q2 => ?_) fun _ _ x => x)
    cases r with
    | true =>
      rw [if_pos rfl] at q2
      wp_walk
      exact q2
    | false =>
      rw [if_neg Bool.false_ne_true] at q2
      wp_walk
      exact ⟨rfl, q2⟩
  case fin =>
    rintro ⟨b1, b2⟩ s' ⟨hb', hI⟩
    simp only at hb'
    subst hb'
    have hR := fin s' hI
    wp_walk
    exact hR
  case h =>
    exact ⟨rfl, h0⟩
end
end LT
namespace LT
open PySem PySem.Spec PyProof.Rows L2
def tAny (t : TQ) (x : V) : List V → Hp → (Bool → Hp → Prop) → Prop
  | y :: ys, H, k => t y x H fun b H' => if b = true then k true H' else tAny t x ys H' k
  | [], H, k => k false H
def rTupIn (K : PySem.W.Frag) (t : TQ) : R2 := fun x y H Q => ∃ a ws, y = .ref a ∧ SqT K H a ws ∧ tAny t x ws H fun r H' => Q (.bl r) H'
section
variable {X : Cx}
theorem op_tupIn {n : Nat} {t : TQ} (h : QR X n t) (hr : Room (n + 1) X.A) : OpR X (compareOp .In) (rTupIn X.K t) := by
  intro pins s σ H x y v u Q I rx ry hh
  obtain ⟨a, ws, rfl, h1, q⟩ := hh
  cases ry
  obtain ⟨i1, r1, ⟨⟨c1, d1, dt1, l1⟩, g1, e1, n1, s1⟩, _⟩ := I.tuple h1
  simp only at e1 s1
  subst e1 s1
  have sb : Sub X n X.A.in1 := Sub.in1 (sub_self hr)
  show wpAny (model X.prog X.w) X.A (do return Value.bool (← contains (.ref a) v)) (EP X pins σ Q) X.xe s
  refine wpAny_bind (wpAny_contains_slot (s := s) ⟨_, g1, rfl⟩ PySem.F.slot_tuple_contains (GQ.call_here PySem.F.slot_tuple_contains ⟨_, g1, rfl⟩ PySem.F.entry_tuple_contains (PySem.F.args_tuple_contains_2 _ _) (tup_inQ a v _ n1 d1 l1
    (fun us s' => ∃ H' ys, Inv X pins σ H' s' ∧ Vals ys us ∧ tAny t x ys H' fun r H2 => Q (.bl r) H2) (fun y rest s' l => ?_) (fun s' l => ?_) g1 ?_)))
  · obtain ⟨H', ys, I', vs, q'⟩ := l
    cases vs with
    | cons p1 t1 =>
      refine wpAny_mono (h X.A.in1 pins s' σ H' _ _ _ _ _ sb I' p1 rx q') (fun r s2 z => ?_) fun _ _ e => e
      obtain ⟨H2, I2, z⟩ := z
      cases r with
      | true =>
        rw [if_pos rfl] at z ⊢
        exact wpAny_truthy_bool (wpAny_pure ⟨V.bl true, H2, I2, rfl, z⟩)
      | false =>
        rw [if_neg Bool.false_ne_true] at z ⊢
        exact ⟨H2, _, I2, t1, z⟩
  · obtain ⟨H', ys, I', vs, q'⟩ := l
    cases vs
    exact wpAny_truthy_bool (wpAny_pure ⟨V.bl false, H', I', rfl, q'⟩)
  · exact ⟨H, ws, I, by simpa using r1, q⟩
/-- the kit's own kinds of values -/
def KindV (K : PySem.W.Frag) (x : V) (H : Hp) (T : String) : Prop := (x = .non ∧ T = "NoneType") ∨ (∃ z, x = .str z ∧ T = "str") ∨ (∃ a xs, x = .ref a ∧ SqL K H a xs ∧ T = "list") ∨ ∃ a xs, x = .ref a ∧ SqT K H a xs ∧ T = "tuple"
def tBackQ (X : Cx) (C : Addr) (sp : Sp) : TQ := fun x y H Q => ∃ b dx fs T, y = .ref b ∧ H b = some (.ins C dx fs) ∧ KindV X.K x H T ∧ PySem.W.subIn X.K (.ref C) (.type T) = some false ∧ sp [y, x] H (fun v H' => ∃ r, v = .bl r ∧ Q r H') (fun _ _ _ => False)
theorem qr_back {C f : Addr} {fd : FuncData} {ps : List Str} {sp : Sp} {k : Nat} (F : FnOk X.prog X.w X.K X.mg X.base (L2.CX X.prog X.w) k f fd ps sp) (hs : PySem.W.findIn X.K (.ref C) "__eq__" = some (some (.ref f))) (hf : PySem.W.isFn X.K (.ref f) = true) (hb : Binds X.K fd ps []) : QR X k (tBackQ X C sp) := by
  intro A pins s σ H x y u v Q sb I rx ry h
  obtain ⟨b, dx, fs, T, rfl, hbi, kd, hsub, hsp⟩ := h
  obtain ⟨mA, J0, _⟩ := ins_get I.hok hbi
  have hob := J0.obj
  obtain ⟨od, J, _⟩ := J0.look
  obtain ⟨m, hF⟩ := I.fr
  have ry0 := ry
  cases ry
  have kin := I.ok.mod.kin.keeps hF.keep
  have back : wpAny (model X.prog X.w) A (call (.ref f) [.ref b, u]) (PySem.W.CmpBack fun v s' => ∃ r, v = .bool r ∧ ∃ H', Inv X pins σ H' s' ∧ Q r H') X.xe s := by
    refine wpAny_mono (run_sub (vs := [.ref b, x]) F sb hb I (.cons ry0 (.cons rx .nil)) hsp) (fun r s' z => ?_) fun _ _ e => e
    obtain ⟨z, H', I', rz, b', hz, q⟩ := z
    subst hz
    cases rz
    exact ⟨b', rfl, H', I', q⟩
  rcases kd with ⟨rfl, rfl⟩ | ⟨z, rfl, rfl⟩ | ⟨a, xs, rfl, hq, rfl⟩ | ⟨a, xs, rfl, hq, rfl⟩
  · cases rx
    exact eqBool_val rfl (rc_back sb.room.units0 hF I.ok.mod.kin J (T := "NoneType") rfl PySem.F.slot_NoneType_eq hsub (fun hq => decl_none hq) hs hf back)
  · obtain ⟨t, rfl⟩ := rx
    exact eqBool_val rfl (rc_back sb.room.units0 hF I.ok.mod.kin J (typeIs_str s z t) PySem.F.slot_str_eq hsub (fun hq => decl_str hob hq) hs hf back)
  · cases rx
    obtain ⟨i1, r1, ⟨o, n1, g1, e1, _⟩, _⟩ := I.list hq
    refine eqBool_val ?_ (rc_back sb.room.units0 hF I.ok.mod.kin J (T := "list") ⟨_, g1, e1⟩ PySem.F.slot_list_eq hsub (fun hq => decl_list g1 e1 (J.type.andThen (PySem.W.looks_subIn kin hsub)) hq) hs hf back)
    exact beq_false_of_ne fun e => by
      injection e with e
      subst e
      rw [hob] at g1
      injection g1 with g1
      subst g1
      exact absurd e1 (fun z => nomatch z)
  · cases rx
    obtain ⟨i1, r1, ⟨o, g1, e1, n1, s1⟩, _⟩ := I.tuple hq
    refine eqBool_val ?_ (rc_back sb.room.units0 hF I.ok.mod.kin J (T := "tuple") ⟨_, g1, e1⟩ PySem.F.slot_tuple_eq hsub (fun hq => decl_tuple g1 e1 (J.type.andThen (PySem.W.looks_subIn kin hsub)) hq) hs hf back)
    exact beq_false_of_ne fun e => by
      injection e with e
      subst e
      rw [hob] at g1
      injection g1 with g1
      subst g1
      exact absurd e1 (fun z => nomatch z)
end
/-! the same over data: one item after the other against an instance of class c -/
def backO (c : Nat) (F : MF) (x y : Dt) (st : Sto) : Re Bool := if clsD y st = some c then (match tkD x st with
  | some .non => boRe (F [y, x] st)
  | some .str => boRe (F [y, x] st)
  | some .lst => boRe (F [y, x] st)
  | some .tup => boRe (F [y, x] st)
  | _ => .stuck) else .stuck
where boRe : Re Dt → Re Bool
  | .ok (.bl b) st => .ok b st
  | _ => .stuck
def anyO (c : Nat) (F : MF) (y : Dt) : List Dt → Sto → Re Bool
  | x :: xs, st => (backO c F x y st).bind fun b st1 => if b = true then .ok true st1 else anyO c F y xs st1
  | [], st => .ok false st
def inOwnD (c : Nat) (F : MF) (x y : Dt) (st : Sto) : Re Dt := match y with
  | .tup ys => (anyO c F x ys st).bind fun b st1 => .ok (.bl b) st1
  | _ => .stuck
structure BackOk (K : PySem.W.Frag) (B : Tz) (c : Nat) : Prop where
  no : PySem.W.subIn K (.ref (B.cls c)) (.type "NoneType") = some false
  st : PySem.W.subIn K (.ref (B.cls c)) (.type "str") = some false
  li : PySem.W.subIn K (.ref (B.cls c)) (.type "list") = some false
  tu : PySem.W.subIn K (.ref (B.cls c)) (.type "tuple") = some false
section
variable {X : Cx} {T : Tb}
theorem kind_ok {f : List Addr} {H : Hp} {st : Sto} {d : Dt} {v : V} {t : Tk} (rh : RH X.K T f H st) (r : RV X.K T H f d v) (h : tkD d st = some t) : (t = .non → KindV X.K v H "NoneType") ∧ (t = .str → KindV X.K v H "str") ∧ (t = .lst → KindV X.K v H "list") ∧ (t = .tup → KindV X.K v H "tuple") := by
  cases r with
  | non => cases h; exact ⟨fun _ => .inl ⟨rfl, rfl⟩, fun e => (nomatch e), fun e => (nomatch e), fun e => (nomatch e)⟩
  | str z => cases h; exact ⟨fun e => (nomatch e), fun _ => .inr (.inl ⟨_, rfl, rfl⟩), fun e => (nomatch e), fun e => (nomatch e)⟩
  | rl hs r => cases h; exact ⟨fun e => (nomatch e), fun e => (nomatch e), fun _ => .inr (.inr (.inl ⟨_, _, rfl, hs.sq, rfl⟩)), fun e => (nomatch e)⟩
  | li hf hs r => cases h; exact ⟨fun e => (nomatch e), fun e => (nomatch e), fun _ => .inr (.inr (.inl ⟨_, _, rfl, .inl (.inl hs), rfl⟩)), fun e => (nomatch e)⟩
  | tup hs r => cases h; exact ⟨fun e => (nomatch e), fun e => (nomatch e), fun e => (nomatch e), fun _ => .inr (.inr (.inr ⟨_, _, rfl, hs, rfl⟩))⟩
  | ref hi =>
    obtain ⟨o, ho⟩ := rh.lt hi
    simp only [tkD, ho] at h
    cases o with
    | lst xs =>
      cases h
      obtain ⟨vs, h1, r⟩ := rh.lst hi ho
      exact ⟨fun e => (nomatch e), fun e => (nomatch e), fun _ => .inr (.inr (.inl ⟨_, _, rfl, .inl (.inl h1), rfl⟩)), fun e => (nomatch e)⟩
    | dk => cases h; exact ⟨fun e => (nomatch e), fun e => (nomatch e), fun e => (nomatch e), fun e => (nomatch e)⟩
    | ins => cases h; exact ⟨fun e => (nomatch e), fun e => (nomatch e), fun e => (nomatch e), fun e => (nomatch e)⟩
  | cl c => cases h
  | _ => cases h; exact ⟨fun e => (nomatch e), fun e => (nomatch e), fun e => (nomatch e), fun e => (nomatch e)⟩
theorem backO_ok {c : Nat} {F : MF} (E : BackOk X.K T.b c) {f : List Addr} {H : Hp} {st : Sto} {x y : Dt} {vx vy : V} {Q : Bool → Hp → Prop} {Wx : Value → Option Addr → Hp → Prop} (rh : RH X.K T f H st) (rx : RV X.K T H f x vx) (ry : RV X.K T H f y vy)
    (p : Post X.K T rB Wx f H (backO c F x y st) Q) : tBackQ X (T.cls c) (spF X.K T.b 2 F) vx vy H Q := by
  unfold backO at p
  split at p
  · rename_i hc
    obtain ⟨a, dx, us, rfl, ha⟩ := clsD_ok rh ry hc
    have run : Post X.K T rB Wx f H (backO.boRe (F [y, x] st)) Q → spF X.K T.b 2 F [.ref a, vx] H (fun v H' => ∃ r, v = .bl r ∧ Q r H') (fun _ _ _ => False) := fun p => by
      refine ⟨rfl, T.rs, f, [y, x], st, .cons ry (.cons rx .nil), rh, ?_⟩
      cases hF : F [y, x] st with
      | ok d st1 =>
        rw [hF] at p
        cases d with
        | bl b =>
          intro f1 H1 v hp s rh1 rv
          cases rv
          exact ⟨b, rfl, p f1 H1 b hp s rh1 rfl⟩
        | _ => exact p.elim
      | _ => rw [hF] at p; exact p.elim
    cases ht : tkD x st with
    | none => rw [ht] at p; exact p.elim
    | some t =>
      rw [ht] at p
      have kd := kind_ok rh rx ht
      cases t with
      | non => exact ⟨a, dx, us, _, rfl, ha, kd.1 rfl, E.no, run p⟩
      | str => exact ⟨a, dx, us, _, rfl, ha, kd.2.1 rfl, E.st, run p⟩
      | lst => exact ⟨a, dx, us, _, rfl, ha, kd.2.2.1 rfl, E.li, run p⟩
      | tup => exact ⟨a, dx, us, _, rfl, ha, kd.2.2.2 rfl, E.tu, run p⟩
      | _ => exact p.elim
  · exact p.elim
theorem anyO_ok {c : Nat} {F : MF} (E : BackOk X.K T.b c) {Wx : Value → Option Addr → Hp → Prop} {y : Dt} {vy : V} : ∀ (xs : List Dt) (vs : List V) (f : List Addr) (H : Hp) (st : Sto) (Q : Bool → Hp → Prop), RH X.K T f H st → RV X.K T H f y vy → RVs X.K T H f xs vs →
    Post X.K T rB Wx f H (anyO c F y xs st) Q → tAny (tBackQ X (T.cls c) (spF X.K T.b 2 F)) vy vs H Q
  | [], _, f, H, st, Q, rh, ry, .nil, p => p.now rh rfl
  | x :: xs, _, f, H, st, Q, rh, ry, .cons rx tx, p => by
    refine backO_ok E rh rx ry (Post.bind (rel := rB) p fun b st1 f1 H1 b' hp s rh1 rb p1 => ?_)
    cases rb
    cases b with
    | true =>
      rw [if_pos rfl] at p1 ⊢
      exact p1.now rh1 rfl
    | false =>
      rw [if_neg Bool.false_ne_true] at p1 ⊢
      exact anyO_ok E xs _ f1 H1 st1 Q rh1 (ry.mono hp s) (tx.mono hp s) p1
theorem snd_inOwn {c : Nat} {F : MF} (E : BackOk X.K T.b c) : Snd2 X.K T (rTupIn X.K (tBackQ X (T.cls c) (spF X.K T.b 2 F))) (inOwnD c F) := fun f H st x y vx vy Wx Q rh rx ry p => by
  unfold inOwnD at p
  split at p
  · cases ry with
    | tup hs r =>
      refine ⟨_, _, rfl, hs, anyO_ok E _ _ f H st _ rh rx r (Post.bind (rel := rB) p fun b st1 f1 H1 b' hp s rh1 rb p1 => ?_)⟩
      cases rb
      exact p1.now rh1 (.bl _)
  · exact p.elim
theorem op_inO {B : Tz} {c k : Nat} {F : MF} (D : SpOk X.prog X.w X.K X.mg X.base B "__eq__" c k 2 F) (hr : Room (k + 1) X.A) : OpR X (compareOp .In) (rTupIn X.K (tBackQ X (B.cls c) (spF X.K B 2 F))) := by
  obtain ⟨f, fd, ps, h1, h2, h3, h4⟩ := D.ex
  exact op_tupIn (qr_back h4 h1 h2 h3) hr
end
end LT
set_option Elab.async false
set_option linter.all false
set_option maxRecDepth 100000
/-! ### a tuple turned round -/
namespace LT
open PySem PySem.Spec PyProof.Rows
open AutoSeq1 (wpAny_loadPart')
theorem fm_congr {α β : Type} {f g : α → Option β} : ∀ l : List α, (∀ k ∈ l, f k = g k) → l.filterMap f = l.filterMap g
  | [], _ => rfl
  | a :: l, h => by rw [List.filterMap_cons, List.filterMap_cons, h a (by simp), fm_congr l fun k hk => h k (by simp [hk])]
theorem pick_back (xs : Array Value) : ((List.range xs.size).filterMap fun (k : Nat) => xs[((xs.size : Int) - 1 + (k : Int) * -1).toNat]?).toArray = xs.toList.reverse.toArray := by
  have e : (List.range xs.size).filterMap (fun (k : Nat) => xs[((xs.size : Int) - 1 + (k : Int) * -1).toNat]?) = ((List.range xs.size).map fun k => xs.size - 1 - k).filterMap (xs[·]?) := by
    rw [List.filterMap_map]
    apply fm_congr
    intro k hk
    have := List.mem_range.mp hk
    have e : ((xs.size : Int) - 1 + (k : Int) * -1).toNat = xs.size - 1 - k := by omega
    show xs[((xs.size : Int) - 1 + (k : Int) * -1).toNat]? = xs[xs.size - 1 - k]?
    rw [e]
  rw [e, PySem.W.krv_range, List.filterMap_reverse, PySem.W.krv_all]
section
variable {P : Program} {w : World} {A : Around}
theorem back_places (n : Nat) : Builtin.Slice.slicePlaces ((n : Int) - 1) (-1) (-1) = n := by
  have q : ¬ ((-1 : Int) > 0) := by omega
  simp only [Builtin.Slice.slicePlaces, q, if_false]
  split <;> simp <;> omega
theorem back_ends (n : Nat) : Builtin.Slice.sliceAdjust none none (-1) (n : Int) = ((n : Int) - 1, -1) := rfl
theorem tup_back {a c : Addr} {its : Array Value} {n : Nat} {dd : Option Addr} {sl : Array (Option Value)} {dd2 : Option Addr} {sl2 : Array (Option Value)} {t : Tok} {R : Result → Shared → Prop} {sh : Shared} (ha : sh.heap.get? a = some { cls := .type "tuple", dict := dd, data := .seq its n, slots := sl }) (hc : sh.heap.get? c = some { cls := .type "slice", dict := dd2, data := .fields #[.none, .none, .int (-1) t], slots := sl2 }) (hl : its.size ≤ sizeLine)
    (k : R (.ok (.ret (.ref sh.heap.objs.size))) { sh with heap := sh.heap.push { cls := .type "tuple", data := .seq its.toList.reverse.toArray } }) :
    wpAny (model P w) A.in1 (Builtin.«tuple.__getitem__» ⟨[.ref a, .ref c], []⟩) (GQ.FinOf P w A R) (fun e s' => R (.error e) s') sh := by
  have f := PySem.F.slot_int_index.lookup
  obtain ⟨h, g, d, tk, os⟩ := sh
  wp_walk using wpAny_loadPart' ha, wpAny_loadPart' hc
  simp only [Option.getD_some, back_ends, back_places, pick_back]
  rw [if_neg (by rw [List.size_toArray, List.length_reverse, Array.length_toList]; omega)]
  wp_walk
  exact k
end
end LT
namespace LT
open PySem PySem.Spec PyProof.Rows L2
section
variable {X : Cx}
def tRevT (K : PySem.W.Frag) (te : TE) : TE := fun σ H Q => te σ H fun x H1 => ∃ a xs, x = .ref a ∧ SqT K H1 a xs ∧ ∀ p, H1 p = none → Q (.ref p) (upd H1 p (.tup xs.reverse))
theorem pe_revT {e : Expr} {te : TE} {n : Nat} {p1 p2 p3 pos : Pos} (he : PE X e te) : PE X (.Subscript e (.Slice none none (some (.UnaryOp .USub (.Constant (.int 1) n p1) p2)) p3) pos) (tRevT X.K te) := ⟨fun pins sh lo H Q inv ask => Subscript_ (thn (he.run pins sh lo H _ inv ask) fun v sh1 got => by
  obtain ⟨x, H1, inv1, rel1, a, xs, rfl, seq, fin⟩ := got
  cases rel1
  have less : PO X (some (.UnaryOp .USub (.Constant (.int 1) n p1) p2)) _ := po_some (pe_un un_neg pe_int)
  have left : ∀ {sh2 : Shared}, Inv X pins lo H1 sh2 → _ := fun {sh2} i => (po_none (X := X)).run pins sh2 lo H1 (fun o H2 => o = none ∧ H2 = H1) i ⟨rfl, rfl⟩
  refine wpAny_Slice (thn (left inv1) fun vl sh2 got => ?_)
  obtain ⟨o, H2, inv2, isl, rfl, rfl⟩ := got
  refine thn (left inv2) fun vu sh3 got => ?_
  obtain ⟨o, H3, inv3, isu, rfl, rfl⟩ := got
  refine thn (less.run pins sh3 lo H3 (fun o H4 => o = some (-1) ∧ H4 = H3) inv3 ⟨1, rfl, -1, rfl, rfl, rfl⟩) fun vs sh4 got => ?_
  obtain ⟨o, H4, inv4, ist, rfl, rfl⟩ := got
  cases isl
  cases isu
  cases ist with
  | int i t =>
    have inv5 : Inv X pins lo H4 { sh4 with heap := sh4.heap.push { cls := .type "slice", data := .fields #[.none, .none, .int (-1) t] } } := inv4.kept (t' := sh4.toks) fun _ _ q => Heap.get?_push_of_some _ q
    obtain ⟨its, rel, ⟨⟨cl, dd, dat, slo⟩, hat, hcl, cap, hdat⟩, small⟩ := inv5.tuple seq
    have many := rel.length
    simp only at hcl hdat
    subst hcl hdat
    refine tail_any (ops := [.ref a, .ref sh4.heap.objs.size]) (s := { sh4 with heap := sh4.heap.push { cls := .type "slice", data := .fields #[.none, .none, .int (-1) t] } }) ⟨_, hat, rfl⟩ (PyProof.Rows.slot_tuple_getitem.lookup) ?_ (by with_unfolding_all rfl)
    refine wpAny_getItem_slot ⟨_, hat, rfl⟩ (by decide) PyProof.Rows.slot_tuple_getitem (GQ.call_here PyProof.Rows.slot_tuple_getitem ⟨_, hat, rfl⟩ entry_tuple_getitem (args_tuple_getitem _ _) (tup_back hat (Heap.get?_push_size _ rfl) (by rw [List.size_toArray]; omega) ?_))
    refine ⟨.ref _, _, inv5.laid (t' := sh4.toks) (o := .tup xs.reverse) (fun _ _ q => Heap.get?_push_of_some _ q) (Nat.le_refl _) ⟨by rw [List.length_reverse]; exact small, _, rel.reverse, ⟨_, Heap.get?_push_size _ rfl, rfl, 0, by simp⟩⟩, rfl, fin _ (inv5.hok.fresh (Nat.le_refl _))⟩)⟩
end
section
variable {X : Cx} {T : Tb} {W : WX}
def mRevT (a : ME) : ME := fun env st => (a env st).bind fun x st1 => match x with
  | .tup xs => .ok (.tup xs.reverse) st1
  | _ => .stuck
theorem ie_revT {e : Expr} {me : ME} {k : Nat} {p1 p2 p3 pos : Pos} (he : IE X T W e me) : IE X T W (.Subscript e (.Slice none none (some (.UnaryOp .USub (.Constant (.int 1) k p1) p2)) p3) pos) (mRevT me) :=
  PEw (pe_revT he) fun σ H Q ⟨f, env, st, re, rh, p⟩ => ⟨f, env, st, re, rh, p.bind fun x st1 f1 H1 vx hp s rh1 rx p1 => by
    cases rx with
    | tup hs r => exact ⟨_, _, rfl, hs, fun q hq => new_tup p1 rh1 hq r.rev⟩
    | _ => exact p1.elim⟩
theorem re_of {k : Nat} {A : Around} (r : Room k A) : A.units + 66 < cLine := by
  have := r.un
  omega
end
end LT
set_option Elab.async false
set_option linter.all false
set_option maxRecDepth 100000
namespace LT
open PySem PySem.Spec PyProof.Rows L2
/-! ### sequences of any kind, the store left alone -/
theorem trR_same {st : Sto} {d : Dt} (hd : clD st.length d = true) : trR st (.ok d st) = .ok d st := by
  have ok : OldOk st st := ⟨Nat.le_refl _, fun i o _ ho => .inl ho⟩
  unfold trR
  simp only
  rw [if_pos ok, rei_cl hd]
  simp only
  rw [List.take_length]
theorem make_ref {c : Nat} {F : MF} {ds : List Dt} {st : Sto} {fs : List (Nat × Dt)} (hc : clL 0 ds = false) (h : F (.ref st.length :: ds) (st ++ [.ins c []]) = .ok .non (st ++ [.ins c fs])) (hf : clF st.length fs = true) : pt (newF c F) ds st = .ok (.ob c fs) st := by
  unfold pt
  rw [if_neg (by rw [hc]; decide)]
  have e : newF c F ds st = .ok (.ref st.length) (st ++ [.ins c fs]) := by
    show (F (.ref st.length :: ds) (st ++ [.ins c []])).bind _ = _
    rw [h]
    rfl
  rw [e]
  have ok : OldOk st (st ++ [.ins c fs]) := ⟨by simp, fun i o hi ho => .inl (by rwa [List.getElem?_append_left hi] at ho)⟩
  have h0 : (st ++ [Ob.ins c fs])[st.length]? = some (.ins c fs) := by simp
  have hcl : clD st.length (.ref st.length) = false := by simp [clD]
  unfold trR
  simp only
  rw [if_pos ok]
  simp only [rei, hcl, Bool.false_eq_true, if_false, h0, hf, if_true]
  simp
theorem wLst_turn {p n i : Nat} {s : Sto} {xs : List Dt} (h : s[p]? = some (.lst xs)) : (wLst p n).turn i s = match xs[i]? with | some d => .item d | none => .stop := by
  show (match s[p]? with
    | some (.lst xs) => match xs[i]? with
      | some d => Tn.item d
      | none => Tn.stop
    | _ => Tn.stuck) = _
  rw [h]
section
variable {P : Dt → Sto → Prop}
theorem giv_lcRef {g : MG} {te : ME} {env : Lo} {s : Sto} {p : Nat} (xs : List Dt) (h : Dt → Dt) (hp : s[p]? = some (.lst xs)) (hn : xs.length < lim) (hgo : ∀ x ∈ xs, ∃ env1, g x env s = .nx env1 s ∧ te env1 s = .ok (h x) s) (k : P (.li (xs.map h)) s) :
    Giv (lcV (wLst p xs.length) g mYes te env (wLst p xs.length).fuel 0 [] s) P := by
  suffices hh : lcV (wLst p xs.length) g mYes te env (wLst p xs.length).fuel 0 [] s = .ok (.li (xs.map h)) s from giv hh k
  have same : ∀ (m i : Nat) (acc : List Dt), lcV (wLst p xs.length) g mYes te env m i acc s = lcV (wTup xs) g mYes te env m i acc s := by
    intro m
    induction m with
    | zero => intro i acc; rfl
    | succ m ih =>
      intro i acc
      unfold lcV
      rw [wLst_turn hp, wTup_turn]
      cases hx : xs[i]? with
      | none => rfl
      | some x =>
        simp only
        obtain ⟨env1, q1, q2⟩ := hgo x (List.mem_of_getElem? hx)
        rw [q1]
        simp only [mYes, q2, ih]
  show lcV (wLst p xs.length) g mYes te env (xs.length + 1) 0 [] s = _
  rw [same]
  exact lcV_map h xs hn hgo
theorem giv_lcAny {g : MG} {te : ME} {env : Lo} {s : Sto} {d : Dt} (xs : List Dt) (h : Dt → Dt) (hs : seqD d s = some xs) (hn : xs.length < lim) (hgo : ∀ x ∈ xs, ∃ env1, g x env s = .nx env1 s ∧ te env1 s = .ok (h x) s) (k : P (.li (xs.map h)) s) :
    Giv (itD d s) fun w s' => Giv (lcV w g mYes te env w.fuel 0 [] s') P := by
  cases d with
  | tup ys => cases hs; exact giv_lcMap xs h hn hgo k
  | li ys => cases hs; exact giv_lcMap xs h hn hgo k
  | rl ys => cases hs; exact giv_lcMap xs h hn hgo k
  | ref p =>
    cases hp : s[p]? with
    | none => simp [seqD, hp] at hs
    | some o =>
      cases o with
      | lst ys =>
        simp only [seqD, hp] at hs
        cases hs
        refine giv (show itD (.ref p) s = .ok (wLst p xs.length) s by simp only [itD, hp]) ?_
        exact giv_lcRef xs h hp hn hgo k
      | _ => simp [seqD, hp] at hs
  | _ => cases hs
theorem tuple_any {s : Sto} {d : Dt} {xs : List Dt} (hs : seqD d s = some xs) : tupleD [d] s = .ok (.tup xs) s := by
  simp only [tupleD, hs]
theorem len_any {s : Sto} {d : Dt} {xs : List Dt} (hs : seqD d s = some xs) : lenD [d] s = .ok (.int xs.length) s := by
  cases d <;> first | (simp [seqD] at hs; done) | simp only [lenD, hs]
theorem seqD_app {s : Sto} {d : Dt} {xs : List Dt} {r : Sto} (hs : seqD d s = some xs) : seqD d (s ++ r) = some xs := by
  cases d with
  | ref p =>
    cases hp : s[p]? with
    | none => simp [seqD, hp] at hs
    | some o =>
      have hl : p < s.length := (List.getElem?_eq_some_iff.mp hp).1
      simp only [seqD, List.getElem?_append_left hl]
      exact hs
  | _ => exact hs
theorem seqD_set {s : Sto} {d : Dt} {xs : List Dt} {i c : Nat} {fs : List (Nat × Dt)} {o : Ob} (hi : s[i]? = some (.ins c fs)) (hs : seqD d s = some xs) : seqD d (s.set i o) = some xs := by
  cases d with
  | ref p =>
    by_cases e : i = p
    · subst e; simp [seqD, hi] at hs
    · simp only [seqD, List.getElem?_set_ne e]; exact hs
  | _ => exact hs
end
end LT
set_option Elab.async false
set_option linter.all false
set_option maxRecDepth 100000
/-! ### enumerate over a tuple -/
namespace LT
open PySem PySem.Spec PyProof.Rows L2
theorem enumT_new {v : Value} {ob : Obj} {Hy : Heap → Prop} (B : Begins v ob Hy) :
    Meets (Builtin.«enumerate.__new__» ⟨[.type "enumerate", v], []⟩) (fun _ R sh => Hy sh.heap ∧ R (.ok (.ret (.ref (sh.heap.push ob).objs.size))) { sh with heap := (sh.heap.push ob).push { cls := .type "enumerate", data := .fields #[.none, .bool false, .ref sh.heap.objs.size, rawInt 0, .none, .none] } }) :=
  .of_wp fun P w A R sh want => by
    have sub := sub_enumerate
    obtain ⟨h, g, d, tk, os⟩ := sh
    obtain ⟨begin0, want⟩ := want
    have walks : ∀ {A' : Around} {E : Value → Shared → Prop} {Q : Value → Shared → Prop}, Q (.ref h.objs.size) ⟨h.push ob, g, d, tk, os⟩ → wpAny (model P w) A' (pyIter v) Q E ⟨h, g, d, tk, os⟩ := fun {A' E Q} q => B.iter P w A' E ⟨h, g, d, tk, os⟩ Q begin0 q
    wp_walk using walks
    refine wpAny_stack_any fun fr => wpAny_pure ?_
    split
    · rename_i c _ _ _ _ _
      cases c == Value.type "enumerate" <;> (wp_walk using walks; exact ⟨_, rfl, want⟩)
    · wp_walk using walks
      exact ⟨_, rfl, want⟩
section
variable {P : Program} {w : World} {A : Around} {E : Value → Shared → Prop} {sh : Shared}
theorem call_enumT {a : Addr} {its : Array Value} {Q : Value → Shared → Prop} (ha : sh.heap.IsTuple a its)
    (k : ∀ h', IsEnum h' (sh.heap.objs.size + 1) sh.heap.objs.size 0 .none → h'.IsTupleIter sh.heap.objs.size a 0 → (∀ b o, sh.heap.get? b = some o → h'.get? b = some o) → Q (.ref (sh.heap.objs.size + 1)) { sh with heap := h' }) :
    wpAny (model P w) A (call (.type "enumerate") [.ref a]) Q E sh := by
  have two : (sh.heap.push { cls := .type "tuple_iterator", data := .fields #[.ref a, .int 0 0] }).objs.size = sh.heap.objs.size + 1 := Heap.size_push ..
  refine callType_new F.called_enumerate (by decide) (F.typeCall_enumerate_1 _) (F.newCall_enumerate_1 _) (fun o => F.args_object_init_2 o _) F.entry_enumerate_new (enumT_new (begins_tuple a its)) ⟨ha, ?_⟩
  have en : IsEnum ((sh.heap.push { cls := .type "tuple_iterator", data := .fields #[.ref a, .int 0 0] }).push { cls := .type "enumerate", data := .fields #[.none, .bool false, .ref sh.heap.objs.size, rawInt 0, .none, .none] }) (sh.heap.objs.size + 1) sh.heap.objs.size 0 .none := by
    have q := Heap.get?_push_size (sh.heap.push { cls := .type "tuple_iterator", data := .fields #[.ref a, .int 0 0] }) (o := { cls := .type "enumerate", data := .fields #[.none, .bool false, .ref sh.heap.objs.size, rawInt 0, .none, .none] }) rfl
    rwa [two] at q
  show _ ∧ _
  rw [two]
  exact ⟨⟨_, en, rfl⟩, k _ en ⟨_, Heap.get?_push_of_some _ (Heap.get?_push_size _ rfl), rfl, rfl⟩ fun b o q => Heap.get?_push_of_some _ (Heap.get?_push_of_some _ q)⟩
end
/-- the tuple at a, each item in a new pair -/
def IteT (K : PySem.W.Frag) (a : Addr) : It :=
  ⟨fun i H => ∃ (xs : List V) (x : V), SqT K H a xs ∧ xs[i]? = some x, fun i H v H' => ∃ p x, v = .ref p ∧ H p = none ∧ H' = upd H p (.tup [.int (i : Nat), x]) ∧ ∀ xs, SqT K H a xs → xs[i]? = some x, fun i H => ∃ xs : List V, SqT K H a xs ∧ xs.length = i⟩
theorem turn_enumT {P : Program} {w : World} {K : PySem.W.Frag} {elts : List Expr} {kk : Nat} {tpos : Pos} (a e it : Addr) :
    Turn P w K (.Tuple elts kk tpos) (IteT K a) [e, it] e (fun i h => (∃ old, IsEnum h e it ((i : Nat) : Int) old) ∧ h.IsTupleIter it a i ∧ e ≠ it) where
  mem := List.mem_cons_self
  obj := fun i h tn b hb => by
    obtain ⟨⟨old, en⟩, ⟨o, at0, _, dat⟩, _⟩ := tn
    rcases List.mem_cons.mp hb with rfl | hb
    · exact ⟨_, en, fun v q => nomatch q⟩
    · rw [List.mem_singleton.mp hb]
      exact ⟨o, at0, fun v q => by rw [dat] at q; cases q⟩
  keep := fun i h h' tn kp => by
    obtain ⟨⟨old, en⟩, walk, ne⟩ := tn
    exact ⟨⟨old, kp e List.mem_cons_self _ en⟩, walk.at fun o q => kp it (List.mem_cons_of_mem _ List.mem_cons_self) o q, ne⟩
  item := by
    intro X hP hw hK calm i pins sh lo H E inv fp tn go
    subst hP hw hK
    obtain ⟨⟨old, en⟩, walk, ne⟩ := tn
    obtain ⟨xs, x, seq, hx⟩ := go
    obtain ⟨its, rel, tup, small⟩ := inv.tuple seq
    obtain ⟨u, hu, ru⟩ := rel.get hx
    have isT : sh.heap.IsTuple a its.toArray := tup
    have apart : a ≠ it ∧ a ≠ e := by
      obtain ⟨o1, g1, c1, _⟩ := id isT
      obtain ⟨o2, g2, c2, _⟩ := id walk
      constructor
      · rintro rfl
        rw [g1] at g2
        cases g2
        rw [c1] at c2
        exact absurd c2 (by decide)
      · rintro rfl
        have e2 := g1.symm.trans (show sh.heap.get? a = some _ from en)
        injection e2 with e2
        rw [e2] at c1
        exact absurd (show Value.type "enumerate" = Value.type "tuple" from c1) (by decide)
    have hi : i < its.toArray.size := by
      rw [List.size_toArray]
      exact (List.getElem?_eq_some_iff.mp hu).1
    have hel : e < sh.heap.objs.size := Heap.lt_size en
    have hil : it < sh.heap.objs.size := by obtain ⟨_, q, _⟩ := walk; exact Heap.lt_size q
    refine wpAny_pyNext_enum_itemD (Draws.tuple (prog := X.prog) (w := X.w) (A := X.A.in1) (inv.ok.hd calm) it a apart.1 its.toArray) en ⟨walk, isT⟩ hi ne (by simp [ne, apart.2.symm]) fun y h' tk hy out st' pair _ kept => ?_
    have hyu : y = u := by
      rw [List.getElem?_toArray, hu] at hy
      exact (Option.some.inj hy).symm
    subst hyu
    refine ⟨_, rfl, wpAny_letOwnedTupleGo_enum (s := { sh with heap := h', toks := tk + 1 }) out fun h2 en2 but => ?_⟩
    have pair2 : h2.get? sh.heap.objs.size = some { cls := .type "tuple", data := .seq #[.int i tk, y] } := (but.2 _ (Nat.ne_of_gt hel)).trans pair
    have new : ObjOk X.prog X.w (upd H sh.heap.objs.size (.tup [.int (i : Nat), x])) h2 sh.heap.objs.size (.tup [.int (i : Nat), x]) :=
      ⟨by show 2 ≤ sizeLine; decide, [.int i tk, y], .cons ⟨_, rfl⟩ (.cons ru .nil), ⟨_, pair2, rfl, _, rfl⟩⟩
    refine ⟨.ref sh.heap.objs.size, _, inv.turnedNew (ch := [e, it]) (t' := tk + 1) (fun b ob hb q => ?_) fp (Nat.le_refl _) new, rfl, ⟨_, x, rfl, inv.hok.fresh (Nat.le_refl _), rfl, fun ys hys => by rw [inv.tuple_inj hys seq]; exact hx⟩, ⟨⟨y, ?_⟩, st'.1.at fun o q => (but.2 it (Ne.symm ne)).trans q, ne⟩, fun b hb => ?_⟩
    · exact (but.2 b (fun z => hb (by rw [z]; exact List.mem_cons_self))).trans (kept b ob (fun z => hb (by rw [z]; exact List.mem_cons_self)) (fun z => hb (by rw [z]; exact List.mem_cons_of_mem _ List.mem_cons_self)) q)
    · rw [show ((i + 1 : Nat) : Int) = (i : Int) + 1 by omega]
      exact en2
    · have lt : b < sh.heap.objs.size := by
        rcases List.mem_cons.mp hb with rfl | hb
        · exact hel
        · rw [List.mem_singleton.mp hb]; exact hil
      rw [upd_ne (Nat.ne_of_lt lt)]
      exact (fp b hb).1
  done := by
    intro X hP hw hK calm i pins sh lo H E inv fp tn stop
    subst hP hw hK
    obtain ⟨⟨old, en⟩, walk, ne⟩ := tn
    obtain ⟨xs, seq, hl⟩ := stop
    obtain ⟨its, rel, tup, small⟩ := inv.tuple seq
    have isT : sh.heap.IsTuple a its.toArray := tup
    have apart : a ≠ it := by
      obtain ⟨o1, g1, c1, _⟩ := id isT
      obtain ⟨o2, g2, c2, _⟩ := id walk
      rintro rfl
      rw [g1] at g2
      cases g2
      rw [c1] at c2
      exact absurd c2 (by decide)
    have hz : its.toArray.size = i := by rw [List.size_toArray, ← rel.length]; exact hl
    obtain ⟨f0, f1, f2, f3, f4, f5⟩ := fp it (List.mem_cons_of_mem _ List.mem_cons_self)
    refine wpAny_pyNext_enum_endD (Draws.tuple (prog := X.prog) (w := X.w) (A := X.A.in1) (inv.ok.hd calm) it a apart its.toArray) en (by rw [hz]; exact ⟨walk, isT⟩) fun h' ext => ⟨rfl, inv.turned (t' := sh.toks) (fun b o hb q => ext b o hb q) f0 f1 f3 f4 f5⟩
  self := fun A i sh Q E tn k => by
    obtain ⟨⟨_, en⟩, _⟩ := tn
    exact wpAny_pyIter_enum en k
section
variable {X : Cx} {T : Tb} {W : WX} {e : Expr} {pos : Pos}
def iEnumA (K : PySem.W.Frag) (ta : TA) : TI := fun σ H R => ta σ H fun vs H1 => ∃ a xs, vs = [.ref a] ∧ ((SqL K H1 a xs ∧ R (Ite K a) H1) ∨ (SqT K H1 a xs ∧ R (IteT K a) H1))
theorem pi_enumA {ta : TA} {p tpos : Pos} {elts : List Expr} {kk : Nat} (hg : Gl X "enumerate") (hm : X.mg "enumerate" = none) (ha : PA X [e] ta) (hs : starEach [e] X.env = [(false, eval e X.env)] := by rfl) :
    L2.PI X (.Tuple elts kk tpos) (.Call (.Name "enumerate" p) [e] [] pos) (iEnumA X.K ta) := ⟨fun pins sh lo H R inv ask => Call_ (ld_blt inv hg hm boot_enumerate (PyProof.Rows.callWith_type1 (thn (ha.run pos pins sh lo H _ inv ask) fun us sh1 got => by
  obtain ⟨vs, H1, inv1, rel1, a, xs, rfl, ways⟩ := got
  obtain ⟨u, rfl, ru⟩ := vals1 rel1
  cases ru
  have new : ∀ b ∈ [sh1.heap.objs.size + 1, sh1.heap.objs.size], FpOk X pins H1 b := fun b hb => by
    have le : sh1.heap.objs.size ≤ b := by
      rcases List.mem_cons.mp hb with rfl | hb
      · exact Nat.le_succ _
      · rw [List.mem_singleton.mp hb]; exact Nat.le_refl _
    exact inv1.fpOk le (inv1.hok.fresh le)
  rcases ways with ⟨seq, fin⟩ | ⟨seq, fin⟩
  · obtain ⟨its, rel, lst, _⟩ := inv1.list seq
    exact call_enumerate_list lst.isList fun h' en walk _ kept => wpAny_pyIter_enum en ⟨sh1.heap.objs.size + 1, _, _, _, H1, rfl, inv1.kept (t' := sh1.toks) kept, turn_enum a (sh1.heap.objs.size + 1) sh1.heap.objs.size, ⟨⟨.none, en⟩, walk, Nat.succ_ne_self _⟩, new, fin⟩
  · obtain ⟨its, rel, tup, _⟩ := inv1.tuple seq
    exact call_enumT (show sh1.heap.IsTuple a its.toArray from tup) fun h' en walk kept => wpAny_pyIter_enum en ⟨sh1.heap.objs.size + 1, _, _, _, H1, rfl, inv1.kept (t' := sh1.toks) kept, turn_enumT a (sh1.heap.objs.size + 1) sh1.heap.objs.size, ⟨⟨.none, en⟩, walk, Nat.succ_ne_self _⟩, new, fin⟩) hs rfl))⟩
def wEnumT (ds : List Dt) : Wk := ⟨fun i _ => match ds[i]? with
  | some d => .item (.tup [.int i, d])
  | none => if i = ds.length then .stop else .stuck, ds.length + 1⟩
theorem rw_enumT {K : PySem.W.Frag} {f : List Addr} {H : Hp} {ds : List Dt} {vs : List V} {a : Addr} (hs : SqT K H a vs) (r : RVs K T H f ds vs) : RW K T H f (wEnumT ds) (IteT K a) := fun rs i f' H' st hr hp s rh => by
  show match (match ds[i]? with | some d => Tn.item (.tup [.int i, d]) | none => if i = ds.length then .stop else .stuck) with | .stop => _ | .item d => _ | .stuck => True
  cases hi : ds[i]? with
  | none =>
    simp only
    by_cases e : i = ds.length
    · rw [if_pos e]
      exact ⟨vs, s.t _ _ hs, by rw [← r.len]; exact e.symm⟩
    · rw [if_neg e]
      trivial
  | some d =>
    obtain ⟨v, h1, h2⟩ := r.get hi
    refine ⟨⟨vs, v, s.t _ _ hs, h1⟩, fun x H2 hy => ?_⟩
    obtain ⟨p, x', rfl, hn, rfl, hx⟩ := hy
    have e := (hx vs (s.t _ _ hs)).symm.trans h1
    cases e
    have r1 := h2.view (view_of hp s.toStay0 hr) h2.closed
    exact ⟨Stay.new hn, rh.side hn, .tup (.inl (.inl upd_same)) (.cons (.int _) (.cons (r1.mono (List.prefix_refl _) (Stay.new hn)) .nil))⟩
def enumA (xs : List Dt) (st : Sto) : Re Wk := match xs with
  | [.tup ds] => .ok (wEnumT ds) st
  | [x] => match itL x st with
    | some w1 => .ok (wEnum w1) st
    | _ => .stuck
  | _ => .stuck
def mEnumA (a : MA) : MW := fun env st => (a env st).bind enumA
theorem ii_enumA {elts : List Expr} {kk : Nat} {tpos p : Pos} {ms : MA} (hg : Gl X "enumerate") (hm : X.mg "enumerate" = none) (ha : IA X T W [e] ms) (hs : starEach [e] X.env = [(false, eval e X.env)] := by rfl) : II X T W (.Tuple elts kk tpos) (.Call (.Name "enumerate" p) [e] [] pos) (mEnumA ms) := PIw (pi_enumA hg hm ha hs) fun σ H Q ⟨f, env, st, re, rh, p⟩ =>
  ⟨f, env, st, re, rh, p.bind fun x st1 f1 H1 vx hp s rh1 rx p1 => by
    cases rx with
    | nil => exact p1.elim
    | cons r1 t =>
      cases t with
      | cons _ _ => cases r1 <;> exact p1.elim
      | nil =>
        rename_i x1 v1
        by_cases ht : ∃ ds, x1 = .tup ds
        · obtain ⟨ds, rfl⟩ := ht
          cases r1 with
          | tup hs r => exact ⟨_, _, rfl, .inr ⟨hs, Post.now (rel := RW X.K T) p1 rh1 (rw_enumT hs r)⟩⟩
        · have e : enumA [x1] st1 = (match itL x1 st1 with
            | some w1 => Re.ok (wEnum w1) st1
            | _ => .stuck) := by cases x1 <;> first | rfl | exact absurd ⟨_, rfl⟩ ht
          rw [e] at p1
          cases h1 : itL x1 st1 with
          | none => rw [h1] at p1; exact p1.elim
          | some w1 =>
            rw [h1] at p1
            obtain ⟨a, xs, rfl, q1, rw1⟩ := itL_ok rh1 r1 h1
            exact ⟨a, xs, rfl, .inl ⟨q1, Post.now (rel := RW X.K T) p1 rh1 (rw_enum rw1)⟩⟩⟩
end
theorem gSubL_no (mo mi : ME) : ∀ d env st, (match gSubL mo mi d env st with | .nx _ _ => true | .stuck => true | _ => false) = true := fun d env st => by
  unfold gSubL
  cases mo env st with
  | ok o st1 =>
    simp only
    cases mi env st1 with
    | ok i st2 =>
      simp only
      cases setL o i d st2 <;> rfl
    | _ => rfl
  | _ => rfl
theorem const_int {K : PySem.W.Frag} {mg : Str → Option Value} {x : Str} {i : Int} {t : Tok} {d : Dt} (hm : mg x = some (.int i t)) (hd : d = .int i) : ConstOk K mg x d := ⟨⟨_, .int i, hm, ⟨_, rfl⟩, fun T H f => by rw [hd]; exact .int i⟩⟩
end LT
set_option Elab.async false
set_option linter.all false
set_option maxRecDepth 100000
namespace LT
open PySem PySem.Spec PyProof.Rows L2
/-! ### plain: a def that draws, the second kind of box -/
theorem tr_run {M : List Nat} {I : Sto → Prop} (S : Src M I) {st : Sto} {r : Rs} {Q : Dt → Prop} (h : I st) (hq : ∀ d, Q d → clD st.length d = true) (k : Run r (fun _ _ => False) (fun d st2 => Q d ∧ Xm M st st2 ∧ I st2)) : ∃ d st', trR st (outF r) = .ok d st' ∧ Q d ∧ Ds M I st st' := by
  cases r <;> first | exact k.elim | skip
  obtain ⟨q, x, h2⟩ := k
  obtain ⟨e, D⟩ := trR_src S h x h2 (hq _ q)
  exact ⟨_, _, e, q, D⟩
/-- a box of three numbers -/
def Bq (b : Nat) (st : Sto) : Prop := ∃ c s n : Int, st[b]? = some (.lst [.int c, .int s, .int n])
theorem bq_src (b : Nat) : Src [b] (Bq b) where
  lt := fun s h i hi => by
    obtain ⟨c, z, n, h⟩ := h
    rw [List.mem_singleton.mp hi]
    exact (List.getElem?_eq_some_iff.mp h).1
  cl := fun s h i hi o n ho hn => by
    obtain ⟨c, z, k, h⟩ := h
    rw [List.mem_singleton.mp hi, h] at ho
    cases ho
    rfl
  fr := fun s s' e h => by
    obtain ⟨c, z, n, h⟩ := h
    exact ⟨c, z, n, by rw [e b List.mem_cons_self]; exact h⟩
section
variable {st : Sto} {b : Nat} {c s n : Int} {P : Dt → Sto → Prop} {env : Lo} {N : Lo → Sto → Prop} {R : Dt → Sto → Prop}
theorem bq_0 (h : st[b]? = some (.lst [.int c, .int s, .int n])) : ixD (.ref b) (.int 0) st = .ok (.int c) st := by
  simp only [ixD, seqD, h]
  rfl
theorem bq_1 (h : st[b]? = some (.lst [.int c, .int s, .int n])) : ixD (.ref b) (.int 1) st = .ok (.int s) st := by
  simp only [ixD, seqD, h]
  rfl
theorem bq_2 (h : st[b]? = some (.lst [.int c, .int s, .int n])) : ixD (.ref b) (.int 2) st = .ok (.int n) st := by
  simp only [ixD, seqD, h]
  rfl
theorem bq_s0 {d : Dt} (h : st[b]? = some (.lst [.int c, .int s, .int n])) : setL (.ref b) (.int 0) d st = some (st.set b (.lst [d, .int s, .int n])) := by
  simp only [setL, h]
  rfl
theorem bq_s1 {d : Dt} (h : st[b]? = some (.lst [.int c, .int s, .int n])) : setL (.ref b) (.int 1) d st = some (st.set b (.lst [.int c, d, .int n])) := by
  simp only [setL, h]
  rfl
theorem bq_s2 {d : Dt} (h : st[b]? = some (.lst [.int c, .int s, .int n])) : setL (.ref b) (.int 2) d st = some (st.set b (.lst [.int c, .int s, d])) := by
  simp only [setL, h]
  rfl
theorem run_subL {mo mi : ME} {d o i : Dt} {st3 : Sto} (h1 : mo env st = .ok o st) (h2 : mi env st = .ok i st) (h3 : setL o i d st = some st3) (k : N env st3) : Run (gSubL mo mi d env st) N R := by
  unfold gSubL
  rw [h1]
  simp only
  rw [h2]
  simp only
  rw [h3]
  exact k
theorem giv_mulI {i j : Int} (h : cMul i j = true) (k : P (.int (i * j)) st) : Giv (mulD (.int i) (.int j) st) P := by
  have e : mulD (.int i) (.int j) st = .ok (.int (i * j)) st := by
    simp only [mulD]
    rw [if_pos h]
  exact giv e k
theorem giv_modI {i j : Int} (h : 0 < j) (k : P (.int (i % j)) st) : Giv (modD (.int i) (.int j) st) P := by
  have e : modD (.int i) (.int j) st = .ok (.int (i % j)) st := by
    simp only [modD, i2c]
    rw [if_pos (by simpa using h)]
  exact giv e k
theorem giv_fdivI {i j : Int} (h : 0 < j) (h2 : j < 1073741824) (k : P (.int (i / j)) st) : Giv (fdivD (.int i) (.int j) st) P := by
  have e : fdivD (.int i) (.int j) st = .ok (.int (i / j)) st := by
    simp only [fdivD, i2c]
    rw [if_pos (by simp [h, h2])]
  exact giv e k
theorem giv_cint {i : Int} (k : P (.int i) st) : Giv (cintD [.int i] st) P := k
end
end LT
set_option Elab.async false
set_option linter.all false
set_option maxRecDepth 100000
namespace LT
open PySem PySem.Spec PyProof.Rows L2
section
variable {K : PySem.W.Frag} {T : Tb}
/-! ### lists put together: into a list that may be changed, or onto one -/
def addTD (x y : Dt) (st : Sto) : Re Dt := match lsD x st, lsD y st with
  | some a, some b => if a.length + b.length ≤ lim then .ok (.ref st.length) (st ++ [.lst (a ++ b)]) else .stuck
  | _, _ => .stuck
theorem snd_addT : Snd2 K T rCat addTD := fun f H st x y vx vy Wx Q rh rx ry p => by
  unfold addTD at p
  split at p
  · rename_i a b h1 h2
    obtain ⟨_, _, rfl, q1, r1⟩ := lsD_ok rh rx h1
    obtain ⟨_, _, rfl, q2, r2⟩ := lsD_ok rh ry h2
    split at p
    · rename_i hl
      rw [r1.len, r2.len] at hl
      exact ⟨_, _, _, _, rfl, rfl, q1, q2, lim_le hl, fun q hq => new_lst p rh hq (r1.app r2)⟩
    · exact p.elim
  · exact p.elim
def extA (x y : Dt) (st : Sto) : Re Dt := match x with
  | .ref i => match st[i]?, lsD y st with
    | some (.lst xs), some zs => if xs.length + zs.length ≤ lim then .ok (.ref i) (st.set i (.lst (xs ++ zs))) else .stuck
    | _, _ => .stuck
  | _ => .stuck
theorem snd_extA : Snd2 K T rExt2 extA := fun f H st x y vx vy Wx Q rh rx ry p => by
  cases rx with
  | @ref i a hi =>
    obtain ⟨o, ho⟩ := rh.lt hi
    simp only [extA, ho] at p
    cases o <;> first | exact p.elim | skip
    cases h5 : lsD y st with
    | none => rw [h5] at p; exact p.elim
    | some zs =>
      rw [h5] at p
      simp only at p
      obtain ⟨b, ws, rfl, h3, h4⟩ := lsD_ok rh ry h5
      split at p
      · rename_i hl
        obtain ⟨vs, h1, h2⟩ := rh.lst hi ho
        rw [h2.len, h4.len] at hl
        exact ⟨a, b, vs, ws, rfl, rfl, h1, h3, lim_le hl, put_ob p rh hi ho ⟨_, upd_same, (h2.app h4).mono (List.prefix_refl _) ((rh.obj _ _ _ ho hi).stay (mem_of hi) _)⟩ (.ref hi)⟩
      · exact p.elim
  | _ => exact p.elim
end
end LT
set_option Elab.async false
set_option linter.all false
set_option maxRecDepth 100000
namespace LT
open PySem PySem.Spec PyProof.Rows L2
section
variable {P : Dt → Sto → Prop}
/-- a comprehension over a text's signs, the store left alone -/
theorem giv_lcStr {g : MG} {te : ME} {env : Lo} {s : Sto} (w : List Nat) (h : Dt → Dt) (hn : w.length < lim) (hgo : ∀ c ∈ w, ∃ env1, g (.str [c]) env s = .nx env1 s ∧ te env1 s = .ok (h (.str [c])) s) (k : P (.li (w.map fun c => h (.str [c]))) s) :
    Giv (lcV (wStr w) g mYes te env (wStr w).fuel 0 [] s) P := by
  have turn : ∀ i, (wStr w).turn i s = (wTup (w.map fun c => Dt.str [c])).turn i s := fun i => by
    show (match w[i]? with | some c => Tn.item (.str [c]) | none => Tn.stop) = (match (w.map fun c => Dt.str [c])[i]? with | some d => Tn.item d | none => Tn.stop)
    rw [List.getElem?_map]
    cases w[i]? <;> rfl
  have same : ∀ (m i : Nat) (acc : List Dt), lcV (wStr w) g mYes te env m i acc s = lcV (wTup (w.map fun c => Dt.str [c])) g mYes te env m i acc s := by
    intro m
    induction m with
    | zero => intro i acc; rfl
    | succ m ih =>
      intro i acc
      unfold lcV
      rw [turn]
      cases hx : (wTup (w.map fun c => Dt.str [c])).turn i s with
      | stop => rfl
      | stuck => rfl
      | item x =>
        simp only
        have hm : ∃ c ∈ w, x = .str [c] := by
          rw [wTup_turn, List.getElem?_map] at hx
          cases hc : w[i]? with
          | none => rw [hc] at hx; cases hx
          | some c => rw [hc] at hx; cases hx; exact ⟨c, List.mem_of_getElem? hc, rfl⟩
        obtain ⟨c, hc, rfl⟩ := hm
        obtain ⟨env1, q1, q2⟩ := hgo c hc
        rw [q1]
        simp only [mYes, q2, ih]
  have e : lcV (wStr w) g mYes te env (wStr w).fuel 0 [] s = .ok (.li ((w.map fun c => Dt.str [c]).map h)) s := by
    rw [same]
    show lcV _ g mYes te env (w.length + 1) 0 [] s = _
    have := lcV_map (g := g) (te := te) (env := env) (st := s) h (w.map fun c => Dt.str [c]) (by rw [List.length_map]; exact hn) (fun x hx => by
      obtain ⟨c, hc, rfl⟩ := List.mem_map.mp hx
      exact hgo c hc)
    rw [List.length_map] at this
    exact this
  refine giv e ?_
  rw [List.map_map]
  exact k
theorem giv_itS {w : List Nat} {s : Sto} {PW : Wk → Sto → Prop} (k : PW (wStr w) s) : Giv (itD (.str w) s) PW := k
theorem in_text {c : Nat} {z : List Nat} {s : Sto} : inD (.str [c]) (.str z) s = .ok (.bl (decide (c ∈ z))) s := rfl
end
end LT
set_option Elab.async false
set_option linter.all false
set_option maxRecDepth 100000
namespace LT
open PySem PySem.Spec PyProof.Rows L2
/-! ### a field of an instance, tracked or not -/
def FldA (cs : List Nat) (k : Nat) (x : Dt) (s : Sto) (P : Dt → Prop) : Prop := ∃ c fs d, objD x s = some (c, fs) ∧ cs.contains c = true ∧ fs.lookup k = some d ∧ P d
theorem fldA_id {cs : List Nat} {k : Nat} {x : Dt} {s : Sto} {P : Dt → Prop} (h : FldA cs k x s P) : FldA cs k x s P := h
theorem fldA_i {cs : List Nat} {k c : Nat} {fs : List (Nat × Dt)} {x d : Dt} {s : Sto} {P : Dt → Prop} (h1 : objD x s = some (c, fs)) (h2 : cs.contains c = true) (h3 : fs.lookup k = some d) (h : P d) : FldA cs k x s P := ⟨c, fs, d, h1, h2, h3, h⟩
theorem giv_fldA {cs : List Nat} {k : Nat} {a : ME} {env : Lo} {st : Sto} {P : Dt → Sto → Prop} (h : Giv (a env st) fun x s => FldA cs k x s fun d => P d s) : Giv (mFld cs k a env st) P := giv_bind (h.mono fun x s q => by
  obtain ⟨c, fs, d, h1, h2, h3, q⟩ := q
  simp only [h1, h2, h3, if_true]
  exact q)
end LT
set_option Elab.async false
set_option linter.all false
set_option maxRecDepth 100000
namespace LT
open PySem PySem.Spec PyProof.Rows L2
/-! ### the calculus, with errors -/
abbrev PX := Nat → List (Nat × Dt) → Sto → Prop
def GivX {α : Type} (r : Re α) (P : α → Sto → Prop) (E : PX) : Prop := match r with
  | .ok a s => P a s
  | .exc c fs s => E c fs s
  | .stuck => False
def RunX (r : Rs) (N : Lo → Sto → Prop) (R : Dt → Sto → Prop) (E : PX) : Prop := match r with
  | .nx e s => N e s
  | .rt d s => R d s
  | .ex _ c fs s => E c fs s
  | _ => False
section
variable {α β : Type} {env : Lo} {st s1 : Sto} {N : Lo → Sto → Prop} {R : Dt → Sto → Prop} {E : PX} {P : Dt → Sto → Prop} {PL : List Dt → Sto → Prop} {PB : Bool → Sto → Prop}
theorem gx {r : Re α} {P : α → Sto → Prop} (h : Giv r P) : GivX r P E := by
  cases r with
  | ok a s => exact h
  | exc c fs s => exact h.elim
  | stuck => exact h
theorem gxe {r : Re α} {P : α → Sto → Prop} {c : Nat} {fs : List (Nat × Dt)} {s : Sto} (h : r = .exc c fs s) (k : E c fs s) : GivX r P E := by rw [h]; exact k
theorem gxo {r : Re α} {P : α → Sto → Prop} {a : α} {s : Sto} (h : r = .ok a s) (k : P a s) : GivX r P E := by rw [h]; exact k
theorem rx {r : Rs} (h : Run r N R) : RunX r N R E := by
  cases r <;> first | exact h | exact h.elim
theorem GivX.mono {r : Re α} {P Q : α → Sto → Prop} (h : GivX r P E) (k : ∀ a s, P a s → Q a s) : GivX r Q E := by
  cases r with
  | ok a s => exact k a s h
  | exc c fs s => exact h
  | stuck => exact h
theorem gx_bind {r : Re α} {f : α → Sto → Re β} {P : β → Sto → Prop} (h : GivX r (fun a s => GivX (f a s) P E) E) : GivX (r.bind f) P E := by
  cases r with
  | ok a s => exact h
  | exc c fs s => exact h
  | stuck => exact h
theorem rx_on {r : Re α} {f : α → Sto → Rs} (h : GivX r (fun a s => RunX (f a s) N R E) E) : RunX (r.on env f) N R E := by
  cases r with
  | ok a s => exact h
  | exc c fs s => exact h
  | stuck => exact h
theorem rx_seq {a b : MS} (h : RunX (a env st) (fun e s => RunX (b e s) N R E) R E) : RunX (sSeq a b env st) N R E := by
  unfold sSeq
  cases ha : a env st <;> rw [ha] at h <;> first | exact h.elim | exact h
theorem rx_nx (h : N env st) : RunX (sNx env st) N R E := h
theorem rx_set {i : Nat} {e : ME} (h : GivX (e env st) (fun d s => N (env.set i (some d)) s) E) : RunX (sSet i e env st) N R E := rx_on h
theorem rx_expr {e : ME} (h : GivX (e env st) (fun _ s => N env s) E) : RunX (sExpr e env st) N R E := rx_on h
theorem rx_ret {e : ME} (h : GivX (e env st) R E) : RunX (sRet e env st) N R E := rx_on h
theorem rx_if {t : MT} {a b : MS} (h : GivX (t env st) (fun x s => if x = true then RunX (a env s) N R E else RunX (b env s) N R E) E) : RunX (sIf t a b env st) N R E := rx_on (h.mono fun x s q => by
  cases x with
  | true => exact q
  | false => exact q)
theorem rx_raise {c k : Nat} {a : ME} (h : Giv (a env st) fun d s => E c [(k, d)] s) : RunX (sRaise c k a env st) N R E := rx_on (gx (h.mono fun d s q => q))
theorem rx_for {m : MW} {g : MG} {body : MS} (h : GivX (m env st) (fun w s => RunX (forL w g body w.fuel 0 env s) N R E) E) : RunX (sFor m g body env st) N R E := rx_on h
/-- a walk that may end early, by an answer or an error -/
theorem rx_forL {w : Wk} {g : MG} {body : MS} (n : Nat) (J : Nat → Lo → Sto → Prop) (hstop : ∀ e s, J n e s → w.turn n s = .stop)
    (hgo : ∀ i e s, i < n → J i e s → ∃ d, w.turn i s = .item d ∧ ∃ e1 s1, g d e s = .nx e1 s1 ∧ RunX (body e1 s1) (J (i + 1)) R E) (fin : ∀ e s, J n e s → N e s) :
    ∀ (m i : Nat) (e : Lo) (s : Sto), i + m = n → J i e s → RunX (forL w g body (m + 1) i e s) N R E
  | 0, i, e, s, h, hJ => by
    have e' : i = n := by omega
    subst e'
    unfold forL
    rw [hstop e s hJ]
    exact fin e s hJ
  | m + 1, i, e, s, h, hJ => by
    obtain ⟨d, ht, e1, s1, hg, hb⟩ := hgo i e s (by omega) hJ
    unfold forL
    rw [ht]
    simp only
    rw [hg]
    simp only
    cases hq : body e1 s1 with
    | nx e2 s2 => rw [hq] at hb; exact rx_forL n J hstop hgo fin m (i + 1) e2 s2 (by omega) hb
    | rt d2 s2 => rw [hq] at hb; exact hb
    | bk e2 s2 => rw [hq] at hb; exact hb.elim
    | ct e2 s2 => rw [hq] at hb; exact hb.elim
    | ex e2 c fs s2 => rw [hq] at hb; exact hb
    | stuck => rw [hq] at hb; exact hb.elim
theorem gx_call {n : Nat} {F : MF} {a : MA} {dv : List Dt} (h : GivX (a env st) (fun ds s => ds.length + dv.length = n ∧ GivX (F (ds ++ dv) s) P E) E) : GivX (mCall n F a dv env st) P E := gx_bind (h.mono fun ds s q => by
  show GivX (if _ then _ else _) P E
  rw [if_pos q.1]
  exact q.2)
theorem gx_makeV {c n : Nat} {F : MF} {a : MA} {dv : List Dt} (h : GivX (a env st) (fun ds s => ds.length + dv.length + 1 = n ∧ GivX (pt (newF c F) (ds ++ dv) s) P E) E) : GivX (mMakeV c n F a dv env st) P E := gx_bind (h.mono fun ds s q => by
  show GivX (if _ then _ else _) P E
  rw [if_pos q.1]
  exact q.2)
theorem gx_cons {a : ME} {r : MA} (h : GivX (a env st) (fun x s => GivX (r env s) (fun xs s2 => PL (x :: xs) s2) E) E) : GivX (mCons a r env st) PL E := gx_bind (h.mono fun x s q => gx_bind (q.mono fun xs s2 z => z))
theorem gx_out {r : Rs} (h : RunX r (fun _ s => P .non s) P E) : GivX (outF r) P E := by
  cases r <;> first | exact h | exact h.elim
/-- a try whose body ends well -/
theorem rx_try {mb : MS} {h : Nat → List (Nat × Dt) → Option (Option Dt)} {j i : Nat} (k : RunX (mb env st) N R fun c fs s => ∃ d, h c fs = some (some d) ∧ i < env.length ∧ N ((env.set j (some d)).set i none) s) (he : ∀ e c fs s, mb env st = .ex e c fs s → e = env) : RunX (sTry mb h j i env st) N R E := by
  unfold sTry
  cases hm : mb env st with
  | ex e1 c fs s =>
    rw [hm] at k
    obtain ⟨d, h1, h2, h3⟩ := k
    rw [he _ _ _ _ hm]
    simp only
    rw [h1]
    simp only
    rw [if_pos h2]
    exact h3
  | nx e s => rw [hm] at k; exact k
  | rt d s => rw [hm] at k; exact k
  | bk e s => rw [hm] at k; exact k.elim
  | ct e s => rw [hm] at k; exact k.elim
  | stuck => rw [hm] at k; exact k.elim
theorem expr_env {e : ME} : ∀ e1 c fs s, sExpr e env st = .ex e1 c fs s → e1 = env := fun e1 c fs s h => by
  unfold sExpr at h
  cases he : e env st with
  | ok d s => rw [he] at h; cases h
  | exc c fs s => rw [he] at h; cases h; rfl
  | stuck => rw [he] at h; cases h
theorem puX_ok {r : Rs} {d : Dt} (hd : clD 0 d = true) (h : RunX r (fun _ _ => False) (fun d' _ => d' = d) (fun _ _ _ => False)) : puR st (outF r) = .ok d st := by
  cases r <;> first | exact h.elim | skip
  have e : _ = d := h
  subst e
  exact puR_ok hd
theorem out_exc {r : Rs} {c : Nat} {fs : List (Nat × Dt)} {s : Sto} (h : RunX r (fun _ _ => False) (fun _ _ => False) (fun c' fs' s' => c' = c ∧ fs' = fs ∧ s' = s)) : outF r = .exc c fs s := by
  cases r <;> first | exact h.elim | skip
  obtain ⟨rfl, rfl, rfl⟩ := h
  rfl
end
end LT
set_option Elab.async false
set_option linter.all false
set_option maxRecDepth 100000
namespace LT
open PySem PySem.Spec PyProof.Rows L2
/-! ### x[i] by an own __getitem__, which may raise -/
section
variable {X : Cx} {T : Tb} {W : WX} {a b : Expr} {pos : Pos} {ma mb : ME} {k c : Nat} {F : MF}
/-- an own def run under the machine's own frames, its error let out -/
theorem run_subX {A : Around} {f : Addr} {fd : FuncData} {ps : List Str} {sp : Sp} {pins : List (Addr × Obj)} {σ : L2.St} {H : Hp} {s : Shared} {Q : VK} {E : XK} {us : List Value} {vs : List V} (G : FnOk X.prog X.w X.K X.mg X.base (L2.CX X.prog X.w) k f fd ps sp) (sb : Sub X k A) (hb : Binds X.K fd ps []) (hx : PassesAt (L2.CX X.prog X.w) X σ E)
    (I : Inv X pins σ H s) (r : Vals vs us) (h : sp vs H Q E) : wpAny (model X.prog X.w) A (call (.ref f) us) (EP X pins σ Q) X.xe s := by
  have e0 : Env0 X.prog X.w X.K X.mg X.base A X.stack s H := ⟨by rw [sb.fr]; exact I.env0.frames, I.env0.mod, I.env0.bs, I.env0.bsz, I.env0.funs, I.env0.frf, I.env0.hok, I.env0.bare⟩
  have hl : us.length = ps.length := by rw [← r.length]; exact G.len _ _ _ _ h
  refine wpAny_call (codeAny_mono (G.run A X.stack s H ⟨us, []⟩ us vs Q E sb.room e0 (by simpa using hb s us I.kIn (by simpa using hl)) r h) fun rr s' hq => ?_)
  cases rr with
  | error e => exact hx pins H s e s' I hq
  | ok fl =>
    cases fl with
    | ret u => exact I.after hq
    | next => exact hq.elim
    | brk => exact hq.elim
    | cont => exact hq.elim
def tIxO (C : Addr) (sp : Sp) (E : L2.St → XK) (ta tb : TE) : TE := fun σ H Q => ta σ H fun x H1 => tb σ H1 fun y H2 => ∃ p dx fs, x = .ref p ∧ H2 p = some (.ins C dx fs) ∧ sp [x, y] H2 Q (E σ)
theorem pe_ixO {f C : Addr} {fd : FuncData} {ps : List Str} {sp : Sp} {E : L2.St → XK} {ta tb : TE} (G : FnOk X.prog X.w X.K X.mg X.base (L2.CX X.prog X.w) k f fd ps sp) (hr : Room (k + 1) X.A) (hs : PySem.W.findIn X.K (.ref C) "__getitem__" = some (some (.ref f))) (hi : PySem.W.fnIn X.K f = true) (hf : PySem.W.isFn X.K (.ref f) = true) (hb : Binds X.K fd ps [])
    (hx : ∀ σ, PassesAt (L2.CX X.prog X.w) X σ (E σ)) (ea : PE X a ta) (eb : PE X b tb) (hsl : ∀ o i, subscripted b true o i = runValue (.builtin "lifetime.subscript" ⟨[o, i], []⟩)) : PE X (.Subscript a b pos) (tIxO C sp E ta tb) := by
  refine ⟨fun pins s σ H Q I h => ?_⟩
  refine Subscript_ (binT ea eb I (R := fun x y H2 => ∃ p dx fs, x = .ref p ∧ H2 p = some (.ins C dx fs) ∧ sp [x, y] H2 Q (E σ)) h fun v u s2 x y H2 I2 rx ry q => ?_)
  obtain ⟨p, dx, fs, rfl, hp, hsp⟩ := q
  cases rx
  obtain ⟨mA, J, _⟩ := ins_get I2.hok hp
  obtain ⟨od, J, _⟩ := J.look
  obtain ⟨m, hF⟩ := I2.fr
  exact PySem.W.sub_K hF I2.ok.mod.kin J hs hi hf (run_subX (vs := [.ref p, y]) G (Sub.in1 (sub_self hr)) hb (hx σ) I2 (.cons rfl (.cons ry .nil)) hsp) (hsl _ _)
def mIxO (c : Nat) (F : MF) (ma mb : ME) : ME := fun env st => (ma env st).bind fun x s1 => (mb env s1).bind fun y s2 => if clsD x s2 = some c then F [x, y] s2 else .stuck
structure IxOk (P : Program) (w : World) (K : PySem.W.Frag) (mg : Str → Option Value) (base : Heap) (T : Tz) (c k : Nat) (F : MF) : Prop where
  ex : ∃ f fd ps, PySem.W.findIn K (.ref (T.cls c)) "__getitem__" = some (some (.ref f)) ∧ PySem.W.fnIn K f = true ∧ PySem.W.isFn K (.ref f) = true ∧ Binds K fd ps [] ∧ FnOk P w K mg base (L2.CX P w) k f fd ps (spF K T 2 F)
theorem ie_ixO (D : IxOk X.prog X.w X.K X.mg X.base T.b c k F) (hr : Room (k + 1) X.A) (tk : Takes X W) (ea : IE X T W a ma) (eb : IE X T W b mb) (hsl : ∀ o i, subscripted b true o i = runValue (.builtin "lifetime.subscript" ⟨[o, i], []⟩) := by intro _ _; with_unfolding_all rfl) : IE X T W (.Subscript a b pos) (mIxO c F ma mb) := by
  obtain ⟨f, fd, ps, h1, h2, h3, h4, h5⟩ := D.ex
  refine PEw (pe_ixO (E := fun σ c d H => W c d σ H) h5 hr h1 h2 h3 h4 (fun σ => passAt tk σ) ea eb hsl) fun σ H Q ⟨f, env, st, re, rh, p⟩ => ?_
  refine ⟨f, env, st, re, rh, p.bind fun x st1 f1 H1 vx hp s rh1 rx p1 => ⟨f1, env, st1, re.mono hp s, rh1, p1.bind fun y st2 f2 H2 vy hp2 s2 rh2 ry p2 => ?_⟩⟩
  split at p2
  · rename_i hc
    have rx2 : RV X.K T H2 f2 x vx := rx.mono hp2 s2
    obtain ⟨q, dx, vs, rfl, hq⟩ := clsD_ok rh2 rx2 hc
    exact ⟨q, dx, vs, rfl, hq, rfl, T.rs, f2, [x, y], st2, .cons rx2 (.cons ry .nil), rh2, p2⟩
  · exact p2.elim
end
section
variable {env : Lo} {st : Sto} {P : Dt → Sto → Prop} {E : PX}
theorem gx_ixO {c : Nat} {F : MF} {a b : ME} (h : GivX (a env st) (fun x s => GivX (b env s) (fun y s2 => clsD x s2 = some c ∧ GivX (F [x, y] s2) P E) E) E) : GivX (mIxO c F a b env st) P E := gx_bind (h.mono fun x s q => gx_bind (q.mono fun y s2 z => by
  show GivX (if _ then _ else _) P E
  rw [if_pos z.1]
  exact z.2))
theorem giv_ixO {c : Nat} {F : MF} {a b : ME} (h : Giv (a env st) fun x s => Giv (b env s) fun y s2 => clsD x s2 = some c ∧ Giv (F [x, y] s2) P) : Giv (mIxO c F a b env st) P := giv_bind (h.mono fun x s q => giv_bind (q.mono fun y s2 z => by
  show Giv (if _ then _ else _) P
  rw [if_pos z.1]
  exact z.2))
end
end LT
set_option Elab.async false
set_option linter.all false
set_option maxRecDepth 100000
namespace LT
open PySem PySem.Spec PyProof.Rows L2
/-! ### a try whose suite looks at the names about it -/
section
variable {X : Cx} {T : Tb} {W : WX}
abbrev HE := Lo → Nat → List (Nat × Dt) → Option (Option Dt)
def sTryE (mb : MS) (h : HE) (j i : Nat) : MS := fun env st => match mb env st with
  | .ex env1 c fs st1 => match h (env1.set i none) c fs with
    | some (some d) => if i < env1.length then .nx ((env1.set j (some d)).set i none) st1 else .stuck
    | some none => .ex env1 c fs st1
    | none => .stuck
  | r => r
def tSuE (K : PySem.W.Frag) (T : Tb) (h : HE) (j i : Nat) (a : Addr) (cls : Value) (d : Option Addr) : TS := fun E σ H => ∃ c fs dd vs f env st dt, cls = .ref (T.cls c) ∧ d = some dd ∧ H dd = some (.xd vs) ∧ FR K T H f fs vs ∧ h env c fs = some (some dt) ∧
  σ[i]? = some (some (.ref a)) ∧ σ.length = env.length ∧ REn K T H f env σ ∧ RH K T f H st ∧ ∀ v, RV K T H f dt v → E.nx (σ.set j (some v)) H
theorem is_tryE {x n : Str} {cv : Value} {body : List Stmt} {b0 : Stmt} {suite : List Stmt} {np pos pos' : Pos} {mb : MS} {h : HE} (j i : Nat) (hij : j ≠ i) (hN : X.N.Nodup) (hc : Names X x cv) (tk : Takes X W)
    (hx : ∀ e c fs, h e c fs = some none → PySem.W.exmOne X.K (.ref (T.cls c)) cv = some false) (hy : ∀ e c fs d, h e c fs = some (some d) → PySem.W.exmOne X.K (.ref (T.cls c)) cv = some true)
    (hb : ∀ (W' : WX) (pn : List (Addr × Obj)) (xe : Value → Shared → Prop), Takes (X.tr pn xe) W' → ISs (X.tr pn xe) T W' body mb)
    (hsu : ∀ (a : Addr) (oe : Obj) (cls : Value) (d : Option Addr) (pn : List (Addr × Obj)), Zc cls d oe → (∃ vs, oe.data = .fields vs) → PSs (X.suite a ((a, oe) :: pn)) (b0 :: suite) (tSuE X.K T h j i a cls d))
    (hi : X.N[i]? = some n := by rfl) (hln : X.env.kindOf n = some .local := by rfl) (hs : X.stack = X.env :: X.outer := by rfl) (hf : X.env.frame = some X.env.locals := by rfl) :
    IS X T W (.Try body [.ExceptHandler (some (.Name x np)) (some n) (b0 :: suite) pos'] [] [] pos) (sTryE mb h j i) := by
  refine ⟨fun pins s σ H E I hG => ?_⟩
  have road := ps_try_as (np := np) (pos := pos) (pos' := pos') (tb := fun W' => sG X.K T W' mb) hs hf hN hi hln hc tk (fun W' pn xe tk' _ => hb W' pn xe tk') hsu
  refine road.run pins s σ H E I ?_
  obtain ⟨f, env, st, re, rh, p⟩ := hG
  refine ⟨f, env, st, re, rh, ?_⟩
  unfold sTryE at p
  cases hm : mb env st with
  | nx e1 s1 => rw [hm] at p; exact p
  | bk e1 s1 => rw [hm] at p; exact p
  | ct e1 s1 => rw [hm] at p; exact p
  | rt d1 s1 => rw [hm] at p; exact p
  | stuck => rw [hm] at p; exact p
  | ex e1 c fs s1 =>
    rw [hm] at p
    simp only at p
    intro f' H' σ' cls d hp sy rh' re' xr
    obtain ⟨ecl, dd, vs, ed, hd, fr⟩ := xr
    cases hh : h (e1.set i none) c fs with
    | none => rw [hh] at p; exact p.elim
    | some od =>
      rw [hh] at p
      cases od with
      | none =>
        refine ⟨false, by rw [ecl]; exact hx _ c fs hh, fun z => (Bool.false_ne_true z).elim, fun _ => ?_⟩
        exact p f' H' σ' cls d hp sy rh' re' ⟨ecl, dd, vs, ed, hd, fr⟩
      | some dt =>
        refine ⟨true, by rw [ecl]; exact hy _ c fs dt hh, fun _ a ha => ?_, fun z => (Bool.noConfusion z)⟩
        simp only at p
        split at p
        · rename_i hl
          have hl2 : i < σ'.length := by rw [← re'.len]; exact hl
          refine ⟨c, fs, dd, vs, f', e1.set i none, s1, dt, ecl, ed, hd, fr, hh, List.getElem?_set_self hl2, by rw [List.length_set, List.length_set]; exact re'.len.symm, re'.wipe1, rh', fun v rv => ?_⟩
          refine p f' H' _ hp sy rh' ?_
          have r1 := ((re'.set (i := j) rv).wipe1 (i := i) (x := none))
          rw [List.set_comm _ _ (Ne.symm hij), List.set_set]
          exact r1
        · exact p.elim
/-- repr of a whole number, anywhere -/
def rReprI : List V → Hp → VK → Prop := fun xs H Q => ∃ i : Int, xs = [.int i] ∧ i.natAbs.log2 < 1920 ∧ Q (.str (PyData.int i).shown) H
theorem call_reprI : CallR X (.builtin "repr") rReprI := by
  intro pins s σ H xs us Q I r h
  obtain ⟨i, rfl, h1, q⟩ := h
  obtain ⟨u, rfl, ru⟩ := vals1 r
  obtain ⟨t, rfl⟩ := ru
  exact PySem.P.repr_of_int h1 ⟨.str _, H, I.tok _, ⟨_, rfl⟩, q⟩
/-- the suite «found = repr(e.F) == repr(v) and isinstance(e, A)», where both are one whole number -/
def hR (m : Nat → Option Bool) (isA : Nat → Bool) (k v : Nat) : HE := fun env c fs => match m c with
  | none => none
  | some false => some none
  | some true => match fs.lookup k, env[v]? with
    | some (.int x), some (some (.int y)) => if x = y ∧ x.natAbs.log2 < 1920 then some (some (.bl (isA c))) else none
    | _, _ => none
theorem su_R {m : Nat → Option Bool} {isA : Nat → Bool} {k v j i : Nat} {n fn y xA xv : Str} {CA : Addr} {pA pB p1 p2 p3 p4 p5 p6 p7 p8 p9 p10 p11 p12 p13 : Pos}
    (hk : T.fld k = fn) (hN : X.N.Nodup) (hm : X.mg "isinstance" = none) (hmr : X.mg "repr" = none) (hmA : X.mg xA = some (.ref CA))
    (hE : ∀ c, m c = some true → ExcC X.K (T.cls c) ∧ XfC X.K (T.cls c) ∧ PySem.W.findIn X.K (.ref (T.cls c)) fn = some none ∧ PySem.W.kitOne X.K (.ref (T.cls c)) (.ref CA) = some (isA c))
    (hi : X.N[i]? = some n := by rfl) (hj : X.N[j]? = some y := by rfl) (hv : X.N[v]? = some xv := by rfl) (hvi : Vis X.env.scope n := by exact Or.inl rfl) (hvv : Vis X.env.scope xv := by exact Or.inl rfl) (hvj : X.env.scope.names.lookup y = some .local := by rfl) (hg : Gl X "isinstance" := by rfl) (hgr : Gl X "repr" := by rfl) (hgA : Gl X xA := by rfl)
    (d1 : (n == ("__debug__" : Str)) = false := by decide) (d2 : (n == ("__classdict__" : Str)) = false := by decide) (d5 : (xv == ("__debug__" : Str)) = false := by decide) (d6 : (xv == ("__classdict__" : Str)) = false := by decide) (d3 : (xA == ("__debug__" : Str)) = false := by decide)
    (hb : attributeBase (.Name n p9) fn X.env (eval (.Name n p9) X.env) = eval (.Name n p9) X.env := by rfl)
    (a : Addr) (oe : Obj) (cls : Value) (d : Option Addr) (pn : List (Addr × Obj)) (zc : Zc cls d oe) (fl : ∃ vs, oe.data = .fields vs)
    (hs : swapsWith (.BoolOp .And [.Compare (.Call (.Name "repr" p5) [.Attribute (.Name n p9) fn p10] [] p6) [.Eq] [.Call (.Name "repr" p7) [.Name xv p11] [] p8] p12, .Call (.Name "isinstance" p1) [.Name n p2, .Name xA p3] [] p4] p13) (some (.Name y pA)) pB.line X.env = pure false := by rfl)
    (h1 : ∀ (q r : Pos) (xx : Str), starEach [.Name n q, .Name xx r] X.env = (false, eval (.Name n q) X.env) :: starEach [.Name xx r] X.env := by intro _ _ _; rfl) (h2 : ∀ (r : Pos) (xx : Str), starEach [.Name xx r] X.env = (false, eval (.Name xx r) X.env) :: starEach [] X.env := by intro _ _; rfl)
    (h3 : ∀ (r q : Pos) (xx : Str), (backTo q (starEach [.Name xx r] X.env)).any (·.1) = false := by intro _ _ _; rfl)
    (h4 : starEach [.Attribute (.Name n p9) fn p10] X.env = (false, eval (.Attribute (.Name n p9) fn p10) X.env) :: starEach [] X.env := by rfl)
    (h5 : ∀ q : Pos, (backTo q (starEach [] X.env)).any (·.1) = false := by intro _; rfl) (hbm : behindInMarks .Eq (.Call (.Name "repr" p7) [.Name xv p11] [] p8) = false := by rfl) :
    PSs (X.suite a ((a, oe) :: pn)) [.Assign [.Name y pA] (.BoolOp .And [.Compare (.Call (.Name "repr" p5) [.Attribute (.Name n p9) fn p10] [] p6) [.Eq] [.Call (.Name "repr" p7) [.Name xv p11] [] p8] p12, .Call (.Name "isinstance" p1) [.Name n p2, .Name xA p3] [] p4] p13) pB]
      (tSuE X.K T (hR m isA k v) j i a cls d) := by
  refine ⟨fun pins s σ H E I hG => ?_⟩
  obtain ⟨c, fs, dd, vs, f, env, st, dt, rfl, rfl, hd, fr, hh, hsl, hlen, re, rh, q⟩ := hG
  subst hk
  unfold hR at hh
  cases h0 : m c with
  | none => rw [h0] at hh; cases hh
  | some b =>
    cases b with
    | false => rw [h0] at hh; cases hh
    | true =>
      rw [h0] at hh
      simp only at hh
      split at hh
      · rename_i x z hx hz
        split at hh
        · rename_i hxz
          obtain ⟨rfl, big⟩ := hxz
          cases hh
          obtain ⟨eC, xC, hno, kA⟩ := hE c h0
          obtain ⟨vv, hvl, rv⟩ := fr.lookup hx
          cases rv
          obtain ⟨vz, hzl, rz⟩ := re.get _ _ hz
          cases rz
          have isA' := pe_callB (X := X.suite a ((a, oe) :: pn)) (p := p1) (pos := p4) (call_isED eC zc fl) hg hm (by decide +kernel) (pa_cons (pe_var (pos := p2) hi hvi d1 d2) (pa_cons (pe_glob (v := .ref CA) (pos := p3) hgA hmA rfl d3) pa_nil (h2 p3 xA)) (h1 p2 p3 xA)) (by decide) (by decide) (h1 p2 p3 xA) (h3 p3 p4 xA)
          have fld := pe_xf (X := X) (pos := p10) xC hno zc fl (pe_var (X := X.suite a ((a, oe) :: pn)) (pos := p9) hi hvi d1 d2) hb
          have r1 := pe_callB (X := X.suite a ((a, oe) :: pn)) (p := p5) (pos := p6) call_reprI hgr hmr (by decide +kernel) (pa_cons fld pa_nil h4) (by decide) (by decide) h4 (h5 p6)
          have r2 := pe_callB (X := X.suite a ((a, oe) :: pn)) (p := p7) (pos := p8) call_reprI hgr hmr (by decide +kernel) (pa_cons (pe_var (pos := p11) hv hvv d5 d6) pa_nil (h2 p11 xv)) (by decide) (by decide) (h2 p11 xv) (h5 p8)
          have cmp := pe_cmpR (X := X.suite a ((a, oe) :: pn)) (pos := p12) op_eq r1 r2 hbm
          have der := pss_one (ps_set (X := X.suite a ((a, oe) :: pn)) (pos := pB) (pos' := pA) hN hj (.inl hvj) (pe_and (pos := p13) cmp (pe_one (pos := p13) isA')) hs (.inr hvj))
          refine der.run pins s σ H E I ?_
          refine ⟨.ref a, hsl, rfl, rfl, dd, vs, .int x, rfl, hd, hvl, x, rfl, big, .int x, hzl, x, rfl, big, ?_⟩
          refine ⟨?_, ?_⟩
          · rfl
          · refine ⟨true, ?_, ?_⟩
            · simp
            · exact iteT ⟨.ref a, hsl, ⟨vs, hd⟩, .ref CA, .ref CA, isA c, rfl, fun u r => r, kA, q _ (.bl _)⟩
        · cases hh
      · cases hh
end
section
variable {env : Lo} {st : Sto} {N : Lo → Sto → Prop} {R : Dt → Sto → Prop} {E : PX}
theorem rx_tryE {mb : MS} {h : HE} {j i : Nat} (k : RunX (mb env st) N R fun c fs s => ∃ d, h (env.set i none) c fs = some (some d) ∧ i < env.length ∧ N ((env.set j (some d)).set i none) s) (he : ∀ e c fs s, mb env st = .ex e c fs s → e = env) : RunX (sTryE mb h j i env st) N R E := by
  unfold sTryE
  cases hm : mb env st with
  | ex e1 c fs s =>
    rw [hm] at k
    obtain ⟨d, h1, h2, h3⟩ := k
    rw [he _ _ _ _ hm]
    simp only
    rw [h1]
    simp only
    rw [if_pos h2]
    exact h3
  | nx e s => rw [hm] at k; exact k
  | rt d s => rw [hm] at k; exact k
  | bk e s => rw [hm] at k; exact k.elim
  | ct e s => rw [hm] at k; exact k.elim
  | stuck => rw [hm] at k; exact k.elim
end
end LT
set_option Elab.async false
set_option linter.all false
set_option maxRecDepth 100000
namespace LT
open PySem PySem.SeqAt
open AutoSeq1 (wpAny_loadPart')
open MeetsSeq MeetsSeq2 MeetsSeq3 SeqRoads2
/-! ### lists of instances with an own ==, found alike -/
section
variable {prog : Program} {w : World} {A : Around} {R : Result → Shared → Prop}
theorem ne_go (p q : Addr) (M : Nat) (J : Nat → Shared → Prop) (st : GQ.ListI prog w A (fun e z => R (.error e) z) p q M J) (done : ∀ z, J M z → R (.ok (.ret (.bool false))) z) : ∀ (m i : Nat), i + m = M → ∀ z, J i z →
    wpAny (model prog w) A.in1 (Builtin.«list.__eq__.loop» ⟨[.ref p, .ref q, rawInt i, rawInt 3], []⟩) (GQ.FinOf prog w A R) (fun e z' => R (.error e) z') z
  | 0, i, em, z, hj => by
    obtain ⟨xs, ys, k1, k2, gp, gq, z1, z2, _⟩ := st _ _ hj
    have ei : i = M := by omega
    have want : R (.ok (.ret (.bool false))) z := done z (ei ▸ hj)
    obtain ⟨hp, g, d, tk, os⟩ := z
    wp_walk using wpAny_loadPart' gp, wpAny_loadPart' gq
    have o1 : xs[((i : Nat) : Int).toNat]? = none := by rw [Int.toNat_natCast]; exact Array.getElem?_eq_none (by omega)
    have o2 : ys[((i : Nat) : Int).toNat]? = none := by rw [Int.toNat_natCast]; exact Array.getElem?_eq_none (by omega)
    rw [o1, o2]
    wp_walk using wpAny_loadPart' gp, wpAny_loadPart' gq
    show R (.ok (.ret (.bool (xs.size != ys.size)))) _
    rw [z1, z2, bne_self_eq_false]
    exact want
  | m + 1, i, em, z, hj => by
    obtain ⟨xs, ys, k1, k2, gp, gq, z1, z2, one⟩ := st _ _ hj
    have l1 : i < xs.size := by omega
    have l2 : i < ys.size := by omega
    have cmp := one l1 l2
    obtain ⟨hp, g, d, tk, os⟩ := z
    wp_walk using wpAny_loadPart' gp, wpAny_loadPart' gq
    have o1 : xs[((i : Nat) : Int).toNat]? = some xs[i] := by rw [Int.toNat_natCast]; exact Array.getElem?_eq_getElem l1
    have o2 : ys[((i : Nat) : Int).toNat]? = some ys[i] := by rw [Int.toNat_natCast]; exact Array.getElem?_eq_getElem l2
    have up : ((i : Int) + 1) = ((i + 1 : Nat) : Int) := by omega
    rw [o1, o2]
    refine wpAny_bind (wpAny_mono cmp (fun r z2 got => ?_) fun _ _ x => x)
    obtain ⟨rfl, nj⟩ := got
    have next := ne_go p q M J st done m (i + 1) (by omega) z2 nj
    obtain ⟨hp2, g2, d2, tk2, os2⟩ := z2
    wp_walk
    rw [up]
    refine ⟨plainId_quiet plain_eq_loop _, codeAny_builtin entry_eq_loop ?_⟩
    rw [Around.under_plainId plain_eq_loop _]
    exact next
theorem list_neT (p q : Addr) (M : Nat) (J : Nat → Shared → Prop) (st : GQ.ListI prog w A (fun e z => R (.error e) z) p q M J) (done : ∀ z, J M z → R (.ok (.ret (.bool false))) z) {z : Shared} (hj : J 0 z) :
    wpAny (model prog w) A.in1 (Builtin.«list.__ne__» ⟨[.ref p, .ref q], []⟩) (GQ.FinOf prog w A R) (fun e z' => R (.error e) z') z := by
  obtain ⟨xs, ys, k1, k2, gp, gq, z1, z2, _⟩ := st _ _ hj
  have next := ne_go p q M J st done M 0 (by omega) z hj
  obtain ⟨hp, g, d, tk, os⟩ := z
  have sub := AutoSeq1.sub_list_list
  have same : ¬ (xs.size != ys.size) = true := by rw [z1, z2]; simp
  wp_walk using wpAny_loadPart' gp, wpAny_loadPart' gq
  refine ⟨plainId_quiet plain_eq_loop _, codeAny_builtin entry_eq_loop ?_⟩
  rw [Around.under_plainId plain_eq_loop _]
  exact next
end
end LT
namespace LT
open PySem PySem.Spec PyProof.Rows L2
def tEqL (t : TQ) (a b : Addr) (M : Nat) : Nat → Hp → (Hp → Prop) → Prop
  | 0, H, k => (∃ vs ws, H a = some (.lst vs) ∧ H b = some (.lst ws) ∧ vs.length = M ∧ ws.length = M) ∧ k H
  | m + 1, H, k => ∃ vs ws v w, H a = some (.lst vs) ∧ H b = some (.lst ws) ∧ vs.length = M ∧ ws.length = M ∧ vs[M - (m + 1)]? = some v ∧ ws[M - (m + 1)]? = some w ∧ t v w H fun r H' => r = true ∧ tEqL t a b M m H' k
def rLstN (t : TQ) : R2 := fun x y H Q => ∃ a b M, x = .ref a ∧ y = .ref b ∧ tEqL t a b M M H fun H' => Q (.bl false) H'
section
variable {X : Cx}
theorem op_lstN {n : Nat} {t : TQ} (h : QR X n t) (hr : Room (n + 1) X.A) : OpR X (compareOp .NotEq) (rLstN t) := by
  intro pins s σ H x y v u Q I rx ry hh
  obtain ⟨a, b, M, rfl, rfl, q⟩ := hh
  cases rx
  cases ry
  have sb : Sub X n X.A.in1 := Sub.in1 (sub_self hr)
  have two : ∀ (m : Nat) (H1 : Hp) (s1 : Shared) (k : Hp → Prop), Inv X pins σ H1 s1 → tEqL t a b M m H1 k → ∃ (vs ws : List V) (its its2 : List Value) (k1 k2 : Nat), Vals vs its ∧ Vals ws its2 ∧ H1 a = some (.lst vs) ∧ H1 b = some (.lst ws) ∧ vs.length = M ∧ ws.length = M ∧ s1.heap.get? a = some { cls := .type "list", data := .seq its.toArray k1 } ∧ s1.heap.get? b = some { cls := .type "list", data := .seq its2.toArray k2 } := by
    intro m H1 s1 k I1 z
    have : ∃ vs ws, H1 a = some (.lst vs) ∧ H1 b = some (.lst ws) ∧ vs.length = M ∧ ws.length = M := by
      cases m with
      | zero => exact z.1
      | succ m => obtain ⟨vs, ws, _, _, h1, h2, h3, h4, _⟩ := z; exact ⟨vs, ws, h1, h2, h3, h4⟩
    obtain ⟨vs, ws, h1, h2, h3, h4⟩ := this
    obtain ⟨_, its, k1, r1, e1⟩ := I1.hok a _ h1
    obtain ⟨_, its2, k2, r2, e2⟩ := I1.hok b _ h2
    exact ⟨vs, ws, its, its2, k1, k2, r1, r2, h1, h2, h3, h4, e1, e2⟩
  obtain ⟨_, _, its, its2, k1, k2, _, _, _, _, _, _, e1, e2⟩ := two M H s _ I q
  show wpAny (model X.prog X.w) X.A (richCompare .NotEq (.ref a) (.ref b)) _ _ s
  refine wpAny_richCompare_same_room (op := .NotEq) ⟨_, e1, rfl⟩ ⟨_, e2, rfl⟩ F.slot_list_ne (GQ.call_here F.slot_list_ne ⟨_, e1, rfl⟩ F.entry_list_ne (F.args_list_ne_2 _ _) (list_neT a b M (fun i s1 => i ≤ M ∧ ∃ H1, Inv X pins σ H1 s1 ∧ tEqL t a b M (M - i) H1 fun H' => Q (.bl false) H') (fun i s1 hj => ?_) (fun s1 hj => ?_) ⟨Nat.zero_le _, H, I, q⟩)) hr.units0
  · obtain ⟨hi, H1, I1, z⟩ := hj
    obtain ⟨vs, ws, its, its2, k1, k2, r1, r2, g1, g2, z1, z2, e1, e2⟩ := two _ H1 s1 _ I1 z
    refine ⟨its.toArray, its2.toArray, k1, k2, e1, e2, by rw [List.size_toArray, ← r1.length]; exact z1, by rw [List.size_toArray, ← r2.length]; exact z2, fun h1 h2 => ?_⟩
    rw [List.size_toArray, ← r1.length, z1] at h1
    have em : M - i = (M - (i + 1)) + 1 := by omega
    rw [em] at z
    obtain ⟨vs', ws', v, w, g1', g2', _, _, hv, hw, z⟩ := z
    rw [g1] at g1'
    rw [g2] at g2'
    cases g1'
    cases g2'
    rw [show M - (M - (i + 1) + 1) = i by omega] at hv hw
    obtain ⟨u1, hu1, p1⟩ := r1.get hv
    obtain ⟨u2, hu2, p2⟩ := r2.get hw
    have i1 : its.toArray[i]'(by rw [List.size_toArray, ← r1.length, z1]; exact h1) = u1 := by
      rw [List.getElem_toArray]
      exact (List.getElem?_eq_some_iff.mp hu1).2
    have i2 : its2.toArray[i]'(by rw [List.size_toArray, ← r2.length, z2]; exact h1) = u2 := by
      rw [List.getElem_toArray]
      exact (List.getElem?_eq_some_iff.mp hu2).2
    rw [i1, i2]
    refine wpAny_mono (h _ pins s1 σ H1 _ _ _ _ _ sb I1 p1 p2 z) (fun r s2 got => ?_) fun _ _ e => e
    obtain ⟨H2, I2, hr', z'⟩ := got
    exact ⟨hr', by omega, H2, I2, z'⟩
  · obtain ⟨hi, H1, I1, z⟩ := hj
    rw [Nat.sub_self] at z
    exact ⟨(fun z => nomatch z), V.bl false, H1, I1, rfl, z.2⟩
variable {T : Tb}
noncomputable def lstND (c : Nat) (q : Tk → Bool) (F : MF) (x y : Dt) (st : Sto) : Re Dt := match lsD x st, lsD y st with
  | some xs, some ys => if xs.length = ys.length then (eqTQ c q F xs ys st).bind fun b st1 => if b = true then .ok (.bl false) st1 else .stuck else .stuck
  | _, _ => .stuck
theorem cmpO_same {c : Nat} {q : Tk → Bool} {F : MF} {x y : Dt} {st st1 : Sto} (h : cmpO c q F x y st = .ok true st1) : st1 = st := by
  unfold cmpO at h
  split at h
  · split at h
    · split at h
      · split at h
        · injection h with _ h; exact h.symm
        · cases h
      · split at h
        · injection h with h _; cases h
        · cases h
      · cases h
    · cases h
  · cases h
theorem tEqL_ok {c : Nat} {q : Tk → Bool} {F : MF} (E : EqOk X.K T.b c q) {Wx : Value → Option Addr → Hp → Prop} {x y : Dt} {a b : Addr} {Q : VK} : ∀ (ds es pre pre2 : List Dt) (f : List Addr) (H : Hp) (st : Sto), RH X.K T f H st → RV X.K T H f x (.ref a) → RV X.K T H f y (.ref b) → lsD x st = some (pre ++ ds) → lsD y st = some (pre2 ++ es) → pre.length = pre2.length → ds.length = es.length →
    Post X.K T (rV X.K T) Wx f H ((eqTQ c q F ds es st).bind fun b st1 => if b = true then .ok (.bl false) st1 else .stuck) Q → tEqL (tOwnQ X (T.cls c) (spF X.K T.b 2 F)) a b (pre.length + ds.length) ds.length H fun H' => Q (.bl false) H'
  | [], [], pre, pre2, f, H, st, rh, rx, ry, hx, hy, hl, _, p => by
    obtain ⟨_, vs, ea, h1, r1⟩ := lsD_ok rh rx hx
    obtain ⟨_, ws, eb, h2, r2⟩ := lsD_ok rh ry hy
    cases ea
    cases eb
    have n1 := r1.len
    have n2 := r2.len
    rw [List.append_nil] at n1 n2
    refine ⟨⟨vs, ws, h1, h2, by rw [List.length_nil]; omega, by rw [List.length_nil]; omega⟩, ?_⟩
    exact Post.now (rel := rV X.K T) (a := Dt.bl false) (st := st) p rh (.bl false)
  | d :: ds, e :: es, pre, pre2, f, H, st, rh, rx, ry, hx, hy, hl, hle, p => by
    obtain ⟨_, vs, ea, h1, r1⟩ := lsD_ok rh rx hx
    obtain ⟨_, ws, eb, h2, r2⟩ := lsD_ok rh ry hy
    cases ea
    cases eb
    have n1 := r1.len
    have n2 := r2.len
    rw [List.length_append, List.length_cons] at n1 n2
    rw [List.length_cons, List.length_cons] at hle
    obtain ⟨v, hv, rv⟩ := r1.get (i := pre.length) (d := d) (by simp)
    obtain ⟨w, hw, rw'⟩ := r2.get (i := pre.length) (d := e) (by rw [hl]; simp)
    have em : pre.length + (d :: ds).length - (ds.length + 1) = pre.length := by rw [List.length_cons]; omega
    refine ⟨vs, ws, v, w, h1, h2, by rw [List.length_cons]; omega, by rw [List.length_cons]; omega, by rw [em]; exact hv, by rw [em]; exact hw, ?_⟩
    refine cmpO_ok (Wx := Wx) E rh rv rw' ?_
    cases hc : cmpO c q F d e st with
    | stuck =>
      have z : eqTQ c q F (d :: ds) (e :: es) st = .stuck := by unfold eqTQ; rw [hc]; rfl
      rw [z] at p
      exact p
    | exc k fs s1 =>
      have z : eqTQ c q F (d :: ds) (e :: es) st = .exc k fs s1 := by unfold eqTQ; rw [hc]; rfl
      rw [z] at p
      exact p
    | ok r st1 =>
      have z : eqTQ c q F (d :: ds) (e :: es) st = if r = true then eqTQ c q F ds es st1 else .ok false st1 := by rw [eqTQ, hc]; rfl
      rw [z] at p
      cases r with
      | false => exact p.elim
      | true =>
        rw [if_pos rfl] at p
        have es1 := cmpO_same hc
        subst es1
        intro f1 H1 r' hp s rh1 rb
        cases rb
        refine ⟨rfl, ?_⟩
        have ih := tEqL_ok E ds es (pre ++ [d]) (pre2 ++ [e]) f1 H1 st1 rh1 (rx.mono hp s) (ry.mono hp s) (by rw [List.append_assoc]; exact hx) (by rw [List.append_assoc]; exact hy) (by rw [List.length_append, List.length_append, hl]; rfl) (by omega) (p.mono hp s)
        rw [show (pre ++ [d]).length + ds.length = pre.length + (d :: ds).length by simp; omega] at ih
        exact ih
  | [], _ :: _, _, _, _, _, _, _, _, _, _, _, _, h, _ => by simp at h
  | _ :: _, [], _, _, _, _, _, _, _, _, _, _, _, h, _ => by simp at h
theorem snd_lstN {c : Nat} {q : Tk → Bool} {F : MF} (E : EqOk X.K T.b c q) : Snd2 X.K T (rLstN (tOwnQ X (T.cls c) (spF X.K T.b 2 F))) (lstND c q F) := fun f H st x y vx vy Wx Q rh rx ry p => by
  unfold lstND at p
  split at p
  · rename_i xs ys hx hy
    split at p
    · rename_i hl
      obtain ⟨a, _, rfl, _, _⟩ := lsD_ok rh rx hx
      obtain ⟨b, _, rfl, _, _⟩ := lsD_ok rh ry hy
      have z := tEqL_ok E xs ys [] [] f H st rh rx ry hx hy rfl hl p
      rw [List.length_nil, Nat.zero_add] at z
      exact ⟨a, b, xs.length, rfl, rfl, z⟩
    · exact p.elim
  · exact p.elim
theorem op_lstON {B : Tz} {c k : Nat} {F : MF} (D : SpOk X.prog X.w X.K X.mg X.base B "__eq__" c k 2 F) (hr : Room (k + 1) X.A) : OpR X (compareOp .NotEq) (rLstN (tOwnQ X (B.cls c) (spF X.K B 2 F))) := by
  obtain ⟨f, fd, ps, h1, h2, h3, h4⟩ := D.ex
  exact op_lstN (qr_own h4 h1 h2 h3) hr
/-- whether one of two is a list of instances -/
def isOL (x : Dt) (st : Sto) : Bool := match lsD x st with
  | some (.ob _ _ :: _) => true
  | _ => false
theorem snd_by3 {K : PySem.W.Frag} {r r' : R2} {g h : Dt → Dt → Sto → Re Dt} (sel : Dt → Dt → Sto → Bool) (hg : Snd2 K T r g) (hh : Snd2 K T r' h) : Snd2 K T (fun x y H Q => r x y H Q ∨ r' x y H Q) (fun x y st => if sel x y st = true then g x y st else h x y st) := fun f H st x y vx vy Wx Q rh rx ry p => by
  simp only at p
  split at p
  · exact .inl (hg f H st x y vx vy Wx Q rh rx ry p)
  · exact .inr (hh f H st x y vx vy Wx Q rh rx ry p)
abbrev selOL (x y : Dt) (st : Sto) : Bool := isOL x st || isOL y st
end
end LT
set_option Elab.async false
set_option linter.all false
set_option maxRecDepth 100000
namespace LT
open PySem PySem.Spec PyProof.Rows L2
/-- what the suite «found = repr(e.F) == repr(v) and isinstance(e, A)» leans on -/
structure SuROk (K : PySem.W.Frag) (mg : Str → Option Value) (T : Tz) (x xA fn : Str) (k : Nat) (m : Nat → Option Bool) (isA : Nat → Bool) : Prop where
  nm : T.fld k = fn
  ex : ∃ Cx CA, mg x = some (.ref Cx) ∧ mg xA = some (.ref CA) ∧ (∀ c, m c = some false → PySem.W.exmOne K (.ref (T.cls c)) (.ref Cx) = some false) ∧
    ∀ c, m c = some true → PySem.W.exmOne K (.ref (T.cls c)) (.ref Cx) = some true ∧ ExcC K (T.cls c) ∧ XfC K (T.cls c) ∧ PySem.W.findIn K (.ref (T.cls c)) fn = some none ∧ PySem.W.kitOne K (.ref (T.cls c)) (.ref CA) = some (isA c)
section
variable {X : Cx} {T : Tb} {W : WX}
theorem hR_yes {m : Nat → Option Bool} {isA : Nat → Bool} {k v : Nat} {e : Lo} {c : Nat} {fs : List (Nat × Dt)} {d : Dt} (h : hR m isA k v e c fs = some (some d)) : m c = some true := by
  unfold hR at h
  cases h0 : m c with
  | none => rw [h0] at h; cases h
  | some b =>
    cases b with
    | true => rfl
    | false => rw [h0] at h; cases h
theorem hR_no {m : Nat → Option Bool} {isA : Nat → Bool} {k v : Nat} {e : Lo} {c : Nat} {fs : List (Nat × Dt)} (h : hR m isA k v e c fs = some none) : m c = some false := by
  unfold hR at h
  cases h0 : m c with
  | none => rw [h0] at h; cases h
  | some b =>
    cases b with
    | false => rfl
    | true =>
      rw [h0] at h
      simp only at h
      split at h
      · split at h <;> cases h
      · cases h
theorem is_tryR {m : Nat → Option Bool} {isA : Nat → Bool} {k v : Nat} {n fn y x xA xv : Str} {pA pB p1 p2 p3 p4 p5 p6 p7 p8 p9 p10 p11 p12 p13 np pos pos' : Pos} {body : List Stmt} {mb : MS}
    (S : SuROk X.K X.mg T.b x xA fn k m isA) (j i : Nat) (hij : j ≠ i) (hN : X.N.Nodup) (hm : X.mg "isinstance" = none) (hmr : X.mg "repr" = none) (tk : Takes X W)
    (hb : ∀ (W' : WX) (pn : List (Addr × Obj)) (xe : Value → Shared → Prop), Takes (X.tr pn xe) W' → ISs (X.tr pn xe) T W' body mb)
    (hi : X.N[i]? = some n := by rfl) (hj : X.N[j]? = some y := by rfl) (hv : X.N[v]? = some xv := by rfl) (hvi : X.env.scope.names.lookup n = some .local := by rfl) (hvv : Vis X.env.scope xv := by exact Or.inl rfl) (hvj : X.env.scope.names.lookup y = some .local := by rfl) (hg : Gl X "isinstance" := by rfl) (hgr : Gl X "repr" := by rfl) (hgA : Gl X xA := by rfl) (hgx : Gl X x := by rfl)
    (d1 : (n == ("__debug__" : Str)) = false := by decide) (d2 : (n == ("__classdict__" : Str)) = false := by decide) (d5 : (xv == ("__debug__" : Str)) = false := by decide) (d6 : (xv == ("__classdict__" : Str)) = false := by decide) (d3 : (xA == ("__debug__" : Str)) = false := by decide) (d7 : (x == ("__debug__" : Str)) = false := by decide)
    (ha : attributeBase (.Name n p9) fn X.env (eval (.Name n p9) X.env) = eval (.Name n p9) X.env := by rfl)
    (hs : swapsWith (.BoolOp .And [.Compare (.Call (.Name "repr" p5) [.Attribute (.Name n p9) fn p10] [] p6) [.Eq] [.Call (.Name "repr" p7) [.Name xv p11] [] p8] p12, .Call (.Name "isinstance" p1) [.Name n p2, .Name xA p3] [] p4] p13) (some (.Name y pA)) pB.line X.env = pure false := by rfl)
    (h1 : ∀ (q r : Pos) (xx : Str), starEach [.Name n q, .Name xx r] X.env = (false, eval (.Name n q) X.env) :: starEach [.Name xx r] X.env := by intro _ _ _; rfl) (h2 : ∀ (r : Pos) (xx : Str), starEach [.Name xx r] X.env = (false, eval (.Name xx r) X.env) :: starEach [] X.env := by intro _ _; rfl)
    (h3 : ∀ (r q : Pos) (xx : Str), (backTo q (starEach [.Name xx r] X.env)).any (·.1) = false := by intro _ _ _; rfl)
    (h4 : starEach [.Attribute (.Name n p9) fn p10] X.env = (false, eval (.Attribute (.Name n p9) fn p10) X.env) :: starEach [] X.env := by rfl)
    (h5 : ∀ q : Pos, (backTo q (starEach [] X.env)).any (·.1) = false := by intro _; rfl) (hbm : behindInMarks .Eq (.Call (.Name "repr" p7) [.Name xv p11] [] p8) = false := by rfl)
    (hst : X.stack = X.env :: X.outer := by rfl) (hf : X.env.frame = some X.env.locals := by rfl) :
    IS X T W (.Try body [.ExceptHandler (some (.Name x np)) (some n) [.Assign [.Name y pA] (.BoolOp .And [.Compare (.Call (.Name "repr" p5) [.Attribute (.Name n p9) fn p10] [] p6) [.Eq] [.Call (.Name "repr" p7) [.Name xv p11] [] p8] p12, .Call (.Name "isinstance" p1) [.Name n p2, .Name xA p3] [] p4] p13) pB] pos'] [] [] pos)
      (sTryE mb (hR m isA k v) j i) := by
  obtain ⟨Cx, CA, e1, e2, hno, hyes⟩ := S.ex
  exact is_tryE j i hij hN ⟨hgx, d7, .inl e1⟩ tk (fun e c fs h => hno c (hR_no h)) (fun e c fs d h => (hyes c (hR_yes h)).1) hb
    (fun a oe cls d pn zc fl => su_R S.nm hN hm hmr e2 (fun c h => (hyes c h).2) hi hj hv (.inl hvi) hvv hvj hg hgr hgA d1 d2 d5 d6 d3 ha a oe cls d pn zc fl hs h1 h2 h3 h4 h5 hbm) hi hvi hst hf
end
end LT
set_option Elab.async false
set_option linter.all false
set_option maxRecDepth 100000
namespace LT
open PySem PySem.Spec PyProof.Rows L2
/-! ### a text split at a text -/
section
variable {K : PySem.W.Frag} {T : Tb}
def splitD (x : Dt) (ys : List Dt) (st : Sto) : Re Dt := match x, ys with
  | .str a, [.str S] => if S ≠ [] ∧ S.all (fun c => decide (c < 256)) = true ∧ a.length ≤ lim then .ok (.li ((TL.spl S 0 [] a).map Dt.str)) st else .stuck
  | _, _ => .stuck
def rSplit : V → List V → Hp → VK → Prop := fun x xs H Q => ∃ a b, x = .str a ∧ xs = [.str b] ∧ (b.length == 0) = false ∧ a.length + 2 ≤ sizeLine ∧ rNewStrs (Txt.split a b) H Q
theorem mt_splitA {X : Cx} : MtR X "str.split" rSplit := mt_split
theorem rvs_strsL {H : Hp} {f : List Addr} : ∀ zs : List Str, RVs K T H f ((zs.map TL.tl).map Dt.str) (zs.map V.str)
  | [] => .nil
  | z :: zs => .cons (.str z) (rvs_strsL zs)
theorem snd_split : SndM K T rSplit splitD := fun f H st x v xs vs Wx Q rh rx r p => by
  unfold splitD at p
  split at p
  · split at p
    · rename_i a S hc
      obtain ⟨h1, h2, h3⟩ := hc
      cases rx with
      | str za =>
        cases r with
        | cons ry t =>
          cases t
          cases ry with
          | str zb =>
            have len : zb.length = zb.cps.toList.length := by simp [Str.length]
            have lena : za.length = za.cps.toList.length := by simp [Str.length]
            refine ⟨za, zb, rfl, rfl, ?_, ?_, fun q hq => ?_⟩
            · rw [len]
              cases hz : zb.cps.toList with
              | nil => exact absurd hz h1
              | cons c r => rfl
            · rw [lena]
              have : (1000000 : Nat) + 2 ≤ sizeLine := by decide
              have h3' : za.cps.toList.length ≤ 1000000 := h3
              omega
            · have e := TL.split_spl za zb h1 (TL.kind_ok (by rw [← Array.all_toList]; exact h2))
              have e2 : TL.spl zb.cps.toList 0 [] za.cps.toList = (Txt.split za zb).map TL.tl := e.symm
              rw [e2] at p
              exact new_li p rh hq (rvs_strsL _)
    · exact p.elim
  · exact p.elim
end
/-! ### classmethods; cls(..) within one -/
section
variable {X : Cx} {T : Tb} {W : WX} {C f g p : Addr} {mc : Value} {k n c i : Nat} {fd : FuncData} {ps : List Str} {sp : Sp} {F : MF} {ds : List Value} {dv : List Dt} {dvs : List V} {m x : Str} {o e : Expr} {es : List Expr} {mo : ME} {ms : MA} {ta : TE} {t : TA} {apos pos pp : Pos}
theorem run_cmS {pins : List (Addr × Obj)} {σ : L2.St} {H : Hp} {s : Shared} {q : Addr} {E : XK} {Q : VK} {us : List Value} {vs : List V} (G : FnOk X.prog X.w X.K X.mg X.base (L2.CX X.prog X.w) k g fd ps sp) (hr : Room k X.A) (hb : Binds X.K fd ps []) (hx : PassesAt (L2.CX X.prog X.w) X σ E) (I : Inv X ((q, PySem.W.methodObj (.ref g) (.ref C)) :: pins) σ H s) (r : Vals vs us) (h : sp (.ref C :: vs) H Q E) : wpAny (model X.prog X.w) X.A (call (.ref q) us) (EP X pins σ Q) X.xe s := by
  have hl : (Value.ref C :: us).length = ps.length := by
    have := G.len _ _ _ _ h
    rw [List.length_cons] at this ⊢
    rw [← r.length]
    exact this
  have cl : codeAny (model X.prog X.w) X.A (.call (.ref g) ⟨.ref C :: us, []⟩) (L2.CR (L2.CX X.prog X.w) X.stack X.prog X.w H s Q E) s := G.run X.A X.stack s H ⟨.ref C :: us, []⟩ (.ref C :: us) (.ref C :: vs) Q E hr I.env0 (by simpa using hb s (.ref C :: us) I.kIn (by simpa using hl)) (.cons rfl r) h
  refine wpAny_call (PySem.W.method_call (ClX.pin_at I) (codeAny_mono cl fun rr s' hq => ?_))
  cases rr with
  | error e => exact hx _ H s e s' I hq
  | ok fl =>
    cases fl with
    | ret u => exact ClX.unpinE (I.after hq)
    | next => exact hq.elim
    | brk => exact hq.elim
    | cont => exact hq.elim
def tCMethS (C : Addr) (sp : Sp) (W : WX) (t : TA) : TE := fun σ H Q => t σ H fun vs H2 => sp (.ref C :: vs) H2 Q (fun c d H' => W c d σ H')
theorem pe_cmethW {pl : Sem Bool} (hg : Gl X x) (hm : X.mg x = some (.ref C)) (r : ClX.CRead X.K C mc) (cm : ClX.CMet X.K C mc m p g) (G : FnOk X.prog X.w X.K X.mg X.base (L2.CX X.prog X.w) k g fd ps sp) (hr : Room k X.A) (hb : Binds X.K fd ps []) (tk : Takes X W) (ha : PA X (e :: es) t) (hdb : (x == ("__debug__" : Str)) = false := by decide)
    (hst : starEach (e :: es) X.env = (false, eval e X.env) :: starEach es X.env := by rfl) (hpl : (backTo pos (starEach es X.env)).any (·.1) = false := by rfl)
    (ht : eval (.Call (.Attribute (.Name x pp) m apos) (e :: es) [] pos) X.env = (do
      let ov ← eval (.Name x pp) X.env
      standAt apos.atName
      let (f, first) ← holding [ov] (getMethod ov m pl)
      callWith pos f first (backTo pos (starEach (e :: es) X.env)) (backToKw pos (keywordEach [] X.env))) := by rfl) :
    PE X (.Call (.Attribute (.Name x pp) m apos) (e :: es) [] pos) (tCMethS C sp W t) := by
  refine ⟨fun pins s σ H Q I h => ?_⟩
  refine PySem.W.methodCall_KW (pl := pl) (ld_glob I hg hm ?_ hdb) ht
  refine ClX.getmethcm_ok I r cm fun s2 I2 => ?_
  refine ClX.callwith_cm I2 (ClX.base_none I (Nat.le_refl _)) cm.fi (thn (ha.run pos _ s2 σ H _ I2 h) fun us s3 got => ?_) hst hpl
  obtain ⟨vs, H2, I3, rv, q2⟩ := got
  exact ⟨⟨ClX.pin_at I3, I3.kIn⟩, run_cmS G hr hb (passAt tk σ) I3 rv q2⟩
def mCM (c n : Nat) (F : MF) (a : MA) : ME := fun env st => (a env st).bind fun ds st1 => if ds.length + 1 = n then F (.cl c :: ds) st1 else .stuck
structure CmOk (P : Program) (w : World) (K : PySem.W.Frag) (mg : Str → Option Value) (base : Heap) (B : Tz) (x m : Str) (c k n : Nat) (F : MF) : Prop where
  ex : ∃ p g mc fd ps, mg x = some (.ref (B.cls c)) ∧ ClX.CRead K (B.cls c) mc ∧ ClX.CMet K (B.cls c) mc m p g ∧ Binds K fd ps [] ∧ FnOk P w K mg base (L2.CX P w) k g fd ps (spF K B n F)
theorem ie_cmD {pl : Sem Bool} (D : CmOk X.prog X.w X.K X.mg X.base T.b x m c k n F) (hr : Room k X.A) (tk : Takes X W) (ha : IA X T W (e :: es) ms) (hg : Gl X x := by rfl) (hdb : (x == ("__debug__" : Str)) = false := by decide)
    (hst : starEach (e :: es) X.env = (false, eval e X.env) :: starEach es X.env := by rfl) (hpl : (backTo pos (starEach es X.env)).any (·.1) = false := by rfl)
    (ht : eval (.Call (.Attribute (.Name x pp) m apos) (e :: es) [] pos) X.env = (do
      let ov ← eval (.Name x pp) X.env
      standAt apos.atName
      let (f, first) ← holding [ov] (getMethod ov m pl)
      callWith pos f first (backTo pos (starEach (e :: es) X.env)) (backToKw pos (keywordEach [] X.env))) := by rfl) :
    IE X T W (.Call (.Attribute (.Name x pp) m apos) (e :: es) [] pos) (mCM c n F ms) := by
  obtain ⟨p, g, mc, fd, ps, h1, h2, h3, h4, h5⟩ := D.ex
  refine PEw (pe_cmethW (pl := pl) hg h1 h2 h3 h5 hr h4 tk ha hdb hst hpl ht) fun σ H Q ⟨f, env, st, re, rh, p⟩ => ?_
  refine ⟨f, env, st, re, rh, p.bind fun ds st1 f1 H1 vs hp s rh1 rx p1 => ?_⟩
  split at p1
  · rename_i hl
    exact ⟨by rw [List.length_cons, ← rx.len]; exact hl, T.rs, f1, _, st1, .cons (.cl c) rx, rh1, p1⟩
  · exact p1.elim
def tMakeL (i : Nat) (C : Addr) (sp : Sp) (dvs : List V) (W : WX) (t : TA) : TE := fun σ H Q => σ[i]? = some (some (.ref C)) ∧ tMakeS C sp dvs W t σ H Q
theorem pe_makeL (M : Mk X.K C f) (G : FnOk X.prog X.w X.K X.mg X.base (L2.CX X.prog X.w) k f fd ps sp) (hr : Room (k + 1) X.A) (hN : X.N[i]? = some x) (hv : Vis X.env.scope x) (hb : Binds X.K fd ps ds) (hd : Vals dvs ds) (tk : Takes X W)
    (ha : PA X (e :: es) t) (hdb : (x == ("__debug__" : Str)) = false := by decide) (hcd : (x == ("__classdict__" : Str)) = false := by decide) (he : starEach (e :: es) X.env = (false, eval e X.env) :: starEach es X.env := by rfl) (hpl : (backTo pos (starEach es X.env)).any (·.1) = false := by rfl) :
    PE X (.Call (.Name x pp) (e :: es) [] pos) (tMakeL i C sp dvs W t) := by
  refine ⟨fun pins s σ H Q I h => ?_⟩
  obtain ⟨hs, h⟩ := h
  refine wpAny_Call_Name_kw (thn ((pe_var (pos := pp) hN hv hdb hcd).run pins s σ H (fun v H1 => v = .ref C ∧ H1 = H) I ⟨.ref C, hs, rfl, rfl⟩) fun u s1 got => ?_)
  obtain ⟨v, H1, I1, r1, rfl, rfl⟩ := got
  cases r1
  refine PySem.W.callWith_K (h₀ := X.base) I.ok.mod.kin M.kp (thn (ha.run pos pins s1 σ _ _ I1 h) fun us s2 h1 => ?_) he hpl
  obtain ⟨vs, H2, J, r, q⟩ := h1
  exact ⟨J.kIn, run_makeW M G hr hb hd tk J r q⟩
noncomputable def mMakeL (i c n : Nat) (F : MF) (a : MA) (dv : List Dt) : ME := fun env st => match env[i]? with
  | some (some (.cl c')) => if c' = c then mMakeV c n F a dv env st else .stuck
  | _ => .stuck
theorem ie_makeDL {y : Str} (i : Nat) (D : MakeOk X.prog X.w X.K X.mg X.base T.b y c k n F dv) (hr : Room (k + 1) X.A) (tk : Takes X W) (ha : IA X T W (e :: es) ms) (hN : X.N[i]? = some x := by rfl) (hv : Vis X.env.scope x := by exact Or.inl rfl) (hdb : (x == ("__debug__" : Str)) = false := by decide) (hcd : (x == ("__classdict__" : Str)) = false := by decide)
    (he : starEach (e :: es) X.env = (false, eval e X.env) :: starEach es X.env := by rfl) (hpl : (backTo pos (starEach es X.env)).any (·.1) = false := by rfl) : IE X T W (.Call (.Name x pp) (e :: es) [] pos) (mMakeL i c n F ms dv) := by
  obtain ⟨f, fd, ps, dfs, dvs, h1, h2, h3, h4, h5, h6⟩ := D.ex
  refine PEw (pe_makeL (i := i) h1 h6 hr hN hv h3 h4 tk ha hdb hcd he hpl) fun σ H Q ⟨f, env, st, re, rh, p⟩ => ?_
  unfold mMakeL at p
  split at p
  · rename_i c' hi
    split at p
    · rename_i hc
      subst hc
      obtain ⟨v, hs, rv⟩ := re.get _ _ hi
      cases rv
      exact ⟨hs, ev_makeV (h5 T.rs) ⟨f, env, st, re, rh, p⟩⟩
    · exact p.elim
  · exact p.elim
end
section
variable {env : Lo} {st : Sto} {P : Dt → Sto → Prop} {E : PX}
theorem giv_split {a S : List Nat} (h1 : S ≠ []) (h2 : S.all (fun c => decide (c < 256)) = true) (h3 : a.length ≤ lim) (k : P (.li ((TL.spl S 0 [] a).map Dt.str)) st) : Giv (splitD (.str a) [.str S] st) P := by
  unfold splitD
  simp only
  rw [if_pos ⟨h1, h2, h3⟩]
  exact k
theorem giv_cm {c n : Nat} {F : MF} {a : MA} (h : Giv (a env st) fun ds s => ds.length + 1 = n ∧ Giv (F (.cl c :: ds) s) P) : Giv (mCM c n F a env st) P := giv_bind (h.mono fun ds s q => by
  rw [if_pos q.1]
  exact q.2)
theorem gx_cm {c n : Nat} {F : MF} {a : MA} (h : GivX (a env st) (fun ds s => ds.length + 1 = n ∧ GivX (F (.cl c :: ds) s) P E) E) : GivX (mCM c n F a env st) P E := gx_bind (h.mono fun ds s q => by
  show GivX (if _ then _ else _) P E
  rw [if_pos q.1]
  exact q.2)
theorem giv_makeL {i c n : Nat} {F : MF} {a : MA} {dv : List Dt} (hi : env[i]? = some (some (.cl c))) (h : Giv (mMakeV c n F a dv env st) P) : Giv (mMakeL i c n F a dv env st) P := by
  unfold mMakeL
  rw [hi]
  simp only [if_true]
  exact h
end
end LT
set_option Elab.async false
set_option linter.all false
set_option maxRecDepth 100000
namespace LT
open PySem PySem.Spec PyProof.Rows L2
/-! ### range(a, b) -/
def rng2D (xs : List Dt) (st : Sto) : Re Wk := match xs with
  | [.int m, .int n] => if -1000000 ≤ m ∧ m ≤ 1000000 ∧ -1000000 ≤ n ∧ n ≤ 1000000 then .ok (wRng m (n - m).toNat) st else .stuck
  | _ => .stuck
def mRng2 (a : MA) : MW := fun env st => (a env st).bind rng2D
section
variable {X : Cx} {T : Tb} {W : WX} {tg e e2 : Expr} {pos : Pos}
theorem ii_range2 {ms : MA} {p : Pos} (hg : Gl X "range") (hm : X.mg "range" = none) (ha : IA X T W [e, e2] ms) (hs : starEach [e, e2] X.env = [(false, eval e X.env), (false, eval e2 X.env)] := by rfl) (hs2 : starEach [e2] X.env = [(false, eval e2 X.env)] := by rfl) : II X T W tg (.Call (.Name "range" p) [e, e2] [] pos) (mRng2 ms) := PIw (pi_range2 hg hm ha hs hs2) fun σ H Q ⟨f, env, st, re, rh, p⟩ =>
  ⟨f, env, st, re, rh, p.bind fun x st1 f1 H1 vx hp s rh1 rx p1 => by
    unfold rng2D at p1
    split at p1
    · split at p1
      · rename_i m n hc
        cases rx with
        | cons r1 t =>
          cases t with
          | cons r2 t2 =>
            cases t2
            cases r1
            cases r2
            exact ⟨m, n, rfl, ⟨by omega, by omega, by omega, by omega⟩, Post.now (rel := RW X.K T) p1 rh1 (rw_rng m _)⟩
      · exact p1.elim
    · exact p1.elim⟩
end
theorem giv_rng2 {a : MA} {env : Lo} {st : Sto} {PW : Wk → Sto → Prop} (h : Giv (a env st) fun xs s => ∃ m n : Int, xs = [.int m, .int n] ∧ -1000000 ≤ m ∧ m ≤ 1000000 ∧ -1000000 ≤ n ∧ n ≤ 1000000 ∧ PW (wRng m (n - m).toNat) s) : Giv (mRng2 a env st) PW := giv_bind (h.mono fun xs s q => by
  obtain ⟨m, n, rfl, h1, h2, h3, h4, q⟩ := q
  unfold rng2D
  simp only
  rw [if_pos ⟨h1, h2, h3, h4⟩]
  exact q)
end LT
set_option Elab.async false
set_option linter.all false
set_option maxRecDepth 100000
namespace LT
open PySem PySem.Spec PyProof.Rows L2
/-! ### match over texts -/
def mCases (z : List Nat) : List (List (List Nat) × MS) → MS
  | [] => sNx
  | (ws, b) :: r => if z ∈ ws then b else mCases z r
def sMatch (e : ME) (cs : List (List (List Nat) × MS)) : MS := fun env st => (e env st).on env fun d st1 => match d with
  | .str z => mCases z cs env st1
  | _ => .stuck
section
variable {X : Cx} {T : Tb} {W : WX}
theorem pat_val {pins : List (Addr × Obj)} {s : Shared} {σ : L2.St} {H : Hp} {z w : Str} {u : Value} {j : Nat} {p pos : Pos} {Q : Option (List (Str × Value)) → Shared → Prop} (I : Inv X pins σ H s) (ru : RelV (.str z) u)
    (k : ∀ s', Inv X pins σ H s' → Q (if z = w then some [] else none) s') : wpAny (model X.prog X.w) X.A (matchPattern (.MatchValue (.Constant (.str w) j p) pos) X.env u) Q X.xe s := by
  refine wpAny_matchPattern_Value (thn ((pe_str (X := X) (x := w) (j := j) (pos := p)).run pins s σ H (fun v H1 => v = .str w ∧ H1 = H) I ⟨rfl, rfl⟩) fun x s1 got => ?_)
  obtain ⟨v, H1, I1, r1, rfl, rfl⟩ := got
  refine thn (op_eq (X := X) pins s1 σ H1 (.str z) (.str w) u x (fun v H' => v = .bl (decide (V.str z = V.str w)) ∧ H' = H1) I1 ru r1 ⟨rfl, rfl, rfl⟩) fun c s2 got => ?_
  obtain ⟨v, H2, I2, rv, rfl, rfl⟩ := got
  cases rv
  refine wpAny_truthy_bool ?_
  have q := k s2 I2
  by_cases h : z = w
  · rw [decide_eq_true (show V.str z = V.str w by rw [h])]
    rw [if_pos h] at q
    exact q
  · rw [decide_eq_false (fun e => h (V.str.inj e))]
    rw [if_neg h] at q
    exact q
/-- one text, or some -/
inductive PatOk : Pattern → List (List Nat) → Prop
  | one {w : Str} {ws : List Nat} {j : Nat} {p pos : Pos} (h : w.cps.toList = ws) : PatOk (.MatchValue (.Constant (.str w) j p) pos) [ws]
  | two {w v : Str} {ws vs : List Nat} {j j2 : Nat} {p p2 q q2 pos : Pos} (h : w.cps.toList = ws) (h2 : v.cps.toList = vs) : PatOk (.MatchOr [.MatchValue (.Constant (.str w) j p) q, .MatchValue (.Constant (.str v) j2 p2) q2] pos) [ws, vs]
theorem str_iff {z w : Str} : z = w ↔ z.cps.toList = w.cps.toList := ⟨fun h => by rw [h], fun h => TL.ext_tl h⟩
theorem pat_ok {pat : Pattern} {ws : List (List Nat)} (P : PatOk pat ws) {pins : List (Addr × Obj)} {s : Shared} {σ : L2.St} {H : Hp} {z : Str} {u : Value} {Q : Option (List (Str × Value)) → Shared → Prop} (I : Inv X pins σ H s) (ru : RelV (.str z) u)
    (k : ∀ s', Inv X pins σ H s' → Q (if z.cps.toList ∈ ws then some [] else none) s') : wpAny (model X.prog X.w) X.A (matchPattern pat X.env u) Q X.xe s := by
  cases P with
  | @one w ws j p pos h =>
    refine pat_val I ru fun s' I' => ?_
    have q := k s' I'
    by_cases e : z = w
    · rw [if_pos e]
      rw [if_pos (by rw [List.mem_singleton, ← h, e])] at q
      exact q
    · rw [if_neg e]
      rw [if_neg (by rw [List.mem_singleton, ← h]; exact fun z => e (str_iff.mpr z))] at q
      exact q
  | @two w v ws vs j j2 p p2 q q2 pos h h2 =>
    refine wpAny_matchPattern_Or (wpAny_matchFirst_cons (pat_val I ru fun s1 I1 => ?_))
    by_cases e : z = w
    · rw [if_pos e]
      have qq := k s1 I1
      rw [if_pos (by rw [e, h]; simp)] at qq
      exact qq
    · rw [if_neg e]
      refine wpAny_matchFirst_cons (pat_val I1 ru fun s2 I2 => ?_)
      have qq := k s2 I2
      by_cases e2 : z = v
      · rw [if_pos e2]
        rw [if_pos (by rw [e2, h2]; simp)] at qq
        exact qq
      · rw [if_neg e2]
        rw [if_neg (by
          simp only [List.mem_cons, List.not_mem_nil, or_false, not_or]
          exact ⟨fun x => e (str_iff.mpr (by rw [x, h])), fun x => e2 (str_iff.mpr (by rw [x, h2]))⟩)] at qq
        exact wpAny_matchFirst_nil qq
inductive CasesOk (X : Cx) (T : Tb) (W : WX) : List MatchCase → List (List (List Nat) × MS) → Prop
  | nil : CasesOk X T W [] []
  | cons {pat : Pattern} {body : List Stmt} {ws : List (List Nat)} {b : MS} {r : List MatchCase} {cs : List (List (List Nat) × MS)} (P : PatOk pat ws) (hb : ISs X T W body b) (t : CasesOk X T W r cs) : CasesOk X T W (⟨pat, none, body⟩ :: r) ((ws, b) :: cs)
theorem cases_ok {ms : List MatchCase} {cs : List (List (List Nat) × MS)} (C : CasesOk X T W ms cs) : ∀ {pins : List (Addr × Obj)} {s : Shared} {σ : L2.St} {H : Hp} {z : Str} {u : Value} {E : Ends} {f : List Addr} {env : Lo} {st : Sto} (first : Bool), Inv X pins σ H s → RelV (.str z) u → REn X.K T H f env σ → RH X.K T f H st →
    PostS X.K T W f H (mCases z.cps.toList cs env st) E → wpAny (model X.prog X.w) X.A (matchCases ms X.env u first) (SP X pins E) X.xe s := by
  induction C with
  | nil =>
    intro pins s σ H z u E f env st first I ru re rh p
    refine wpAny_matchCases_nil ?_
    exact ⟨σ, H, I, p f H σ (List.prefix_refl _) Stay.refl rh re⟩
  | @cons pat body ws b r cs P hb t ih =>
    intro pins s σ H z u E f env st first I ru re rh p
    refine wpAny_matchCases_cons (pat_ok P I ru fun s1 I1 => ?_)
    unfold mCases at p
    by_cases h : z.cps.toList ∈ ws
    · rw [if_pos h] at p ⊢
      refine wpAny_assignInOrder_none ?_
      exact hb.run pins s1 σ H E I1 ⟨f, env, st, re, rh, p⟩
    · rw [if_neg h] at p ⊢
      exact ih false I1 ru re rh p
theorem is_match {e : Expr} {me : ME} {ms : List MatchCase} {cs : List (List (List Nat) × MS)} {pos : Pos} (he : IE X T W e me) (C : CasesOk X T W ms cs) : IS X T W (.Match e ms pos) (sMatch me cs) := by
  refine ⟨fun pins s σ H E I hG => ?_⟩
  obtain ⟨f, env, st, re, rh, p⟩ := hG
  refine wpAny_Match (thn (he.run pins s σ H (fun v H1 => ∃ z f1 st1, v = .str z ∧ REn X.K T H1 f1 env σ ∧ RH X.K T f1 H1 st1 ∧ PostS X.K T W f1 H1 (mCases z.cps.toList cs env st1) E) I ⟨f, env, st, re, rh, PostS.on (rel := rV X.K T) re p fun d st1 f1 H1 v hp s1 rh1 rv re1 p1 => ?_⟩) fun u s1 got => ?_)
  · cases rv with
    | str z => exact ⟨z, f1, st1, rfl, re1, rh1, p1⟩
    | _ => exact p1.elim
  · obtain ⟨v, H1, I1, rv, z, f1, st1, rfl, re1, rh1, p1⟩ := got
    exact cases_ok C true I1 rv re1 rh1 p1
end
section
variable {env : Lo} {st : Sto} {N : Lo → Sto → Prop} {R : Dt → Sto → Prop}
theorem run_match {e : ME} {cs : List (List (List Nat) × MS)} (h : Giv (e env st) fun d s => ∃ z, d = .str z ∧ Run (mCases z cs env s) N R) : Run (sMatch e cs env st) N R := by
  obtain ⟨d, s, e1, z, rfl, k⟩ := h.eq
  unfold sMatch
  rw [e1]
  exact k
end
end LT
set_option Elab.async false
set_option linter.all false
set_option maxRecDepth 100000
namespace LT
open PySem PySem.Spec PyProof.Rows L2
/-! ### xs.index(w) over texts -/
section
variable {K : PySem.W.Frag} {T : Tb}
def indexD (x : Dt) (ys : List Dt) (st : Sto) : Re Dt := match x, ys with
  | .li xs, [.str w] => match strsD xs with
    | some ss => match ss.findIdx? (fun s => decide (s = w)) with
      | some j => .ok (.int (j : Nat)) st
      | none => .stuck
    | none => .stuck
  | _, _ => .stuck
theorem flat_strV : ∀ zs : List Str, (zs.map V.str).all flatV = true
  | [] => rfl
  | z :: zs => by rw [List.map_cons, List.all_cons, flat_strV zs]; rfl
theorem snd_index : SndM K T (rIndex K) indexD := fun f H st x v xs vs Wx Q rh rx r p => by
  unfold indexD at p
  split at p
  · rename_i ds w
    split at p
    · rename_i ss hss
      split at p
      · rename_i j hj
        cases rx with
        | @li ds vs2 a hf hs rr =>
          cases r with
          | cons ry t =>
            cases t
            cases ry with
            | str zw =>
              obtain ⟨zs, hz, hzt⟩ := strsD_ok ds vs2 ss rr hss
              subst hz
              obtain ⟨hjl, hjt, hjn⟩ := List.findIdx?_eq_some_iff_getElem.mp hj
              have lz : zs.length = ss.length := by rw [← hzt, List.length_map]
              have at_ : ∀ (m : Nat) (h : m < ss.length), ss[m] = (zs[m]'(by omega)).cps.toList := fun m h => by
                simp only [← hzt, List.getElem_map]
              refine ⟨a, zs.map V.str, .str zw, j, .str (zs[j]'(by omega)), rfl, rfl, .inl (.inl hs), rfl, flat_strV zs, by rw [List.getElem?_map, List.getElem?_eq_getElem (by omega)]; rfl, ?_, fun m z' hm hz' => ?_, p.now rh (.int _)⟩
              · have e := of_decide_eq_true hjt
                rw [at_ j hjl] at e
                show ((zs[j]'(by omega)) == zw) = true
                rw [beq_iff_eq]
                exact TL.ext_tl e
              · have hml : m < zs.length := by omega
                rw [List.getElem?_map, List.getElem?_eq_getElem hml] at hz'
                have ez : V.str zs[m] = z' := by simpa using hz'
                rw [← ez]
                have e := hjn m hm
                have e2 : ¬ ss[m] = zw.cps.toList := by simpa using e
                rw [at_ m (by omega)] at e2
                show (zs[m] == zw) = false
                exact beq_false_of_ne fun q => e2 (by rw [q])
      · exact p.elim
    · exact p.elim
  · exact p.elim
end
/-! ### two places stored at once -/
def gTp2 (g1 g2 : MG) : MG := fun d env st => match d with
  | .tup [x, y] => (match g1 x env st with
    | .nx e1 s1 => g2 y e1 s1
    | _ => .stuck)
  | _ => .stuck
section
variable {X : Cx} {T : Tb} {W : WX}
theorem PostG.mono {f f1 : List Addr} {H H1 : Hp} {r : Rs} {Q : L2.St → Hp → Prop} (h : PostG X.K T f H r Q) (hp : f <+: f1) (s : Stay X.K T f H f1 H1) : PostG X.K T f1 H1 r Q := by
  cases r with
  | nx e st => exact fun f' H' σ' p q => h f' H' σ' (hp.trans p) (s.trans q)
  | _ => exact h
theorem ig_tp2 {a b : Expr} {k : Nat} {pos : Pos} {g1 g2 : MG} (hc : X.calm = true) (h1 : IG X T a g1) (h2 : IG X T b g2)
    (e1 : (assignEach [a, b] X.env).map (·.2) = assign a X.env :: (assignEach [b] X.env).map (·.2) := by rfl) (e2 : (assignEach [b] X.env).map (·.2) = assign b X.env :: (assignEach [] X.env).map (·.2) := by rfl)
    (hn : (assignEach [a, b] X.env).length = 2 := by rfl) (hst : (assignEach [a, b] X.env).findIdx? (·.1) = none := by rfl) : IG X T (.Tuple [a, b] k pos) (gTp2 g1 g2) := PGw (pg_tup hc (pgs_cons h1 (pgs_cons h2 pgs_nil e2) e1) hn hst) fun v σ H Q ⟨f, env, st, d, re, rh, rv, p⟩ => by
  unfold gTp2 at p
  split at p
  · rename_i x y
    split at p
    · rename_i ee1 s1 hg
      cases rv with
      | @tup ds vs ad hs r =>
        cases r with
        | cons r1 t =>
          cases t with
          | cons r2 t2 =>
            cases t2
            refine ⟨ad, _, rfl, hs, rfl, _, _, rfl, f, env, st, x, re, rh, r1, ?_⟩
            rw [hg]
            intro f' H' σ' hp s rh' re'
            exact ⟨_, _, rfl, f', ee1, s1, y, re', rh', r2.mono hp s, by
              have q := PostG.mono (X := X) (T := T) p hp s
              cases hq : g2 y ee1 s1 with
              | nx e3 s3 =>
                rw [hq] at q
                exact fun f2 H2 σ2 p2 q2 rh2 re2 => ⟨rfl, q f2 H2 σ2 p2 q2 rh2 re2⟩
              | _ => rw [hq] at q; exact q.elim⟩
    · exact p.elim
  · exact p.elim
theorem gTp2_no {g1 g2 : MG} (h2 : ∀ d env st, (match g2 d env st with | .nx _ _ => true | .stuck => true | _ => false) = true) : ∀ d env st, (match gTp2 g1 g2 d env st with | .nx _ _ => true | .stuck => true | _ => false) = true := fun d env st => by
  cases hd : gTp2 g1 g2 d env st with
  | nx e s => rfl
  | stuck => rfl
  | _ =>
    unfold gTp2 at hd
    split at hd
    · split at hd
      · rename_i x y _ e1 s1 _
        have q := h2 y e1 s1
        rw [hd] at q
        cases q
      · cases hd
    · cases hd
end
/-! ### how many a written tuple has -/
def allRef : List Value → Bool
  | [] => true
  | .ref _ :: r => allRef r
  | _ => false
theorem allRef_ok : ∀ {us : List Value}, allRef us = true → ∃ vs : List V, Vals vs us
  | [], _ => ⟨[], .nil⟩
  | .ref a :: r, h => by
    obtain ⟨vs, q⟩ := allRef_ok (us := r) h
    exact ⟨.ref a :: vs, .cons rfl q⟩
structure LenOk (K : PySem.W.Frag) (mg : Str → Option Value) (x : Str) (n : Nat) : Prop where
  ex : ∃ a od its m sl, mg x = some (.ref a) ∧ K.lookup a = some ⟨.type "tuple", od, .seq its m, sl⟩ ∧ its.size ≤ sizeLine ∧ its.size = n ∧ allRef its.toList = true
theorem ie_lenC {X : Cx} {T : Tb} {W : WX} {x : Str} {n : Nat} {p p2 pos : Pos} (D : LenOk X.K X.mg x n) (hm : X.mg "len" = none) (hg : Gl X "len" := by rfl) (hgx : Gl X x := by rfl) (hdb : (x == ("__debug__" : Str)) = false := by decide)
    (hs : starEach [.Name x p2] X.env = (false, eval (.Name x p2) X.env) :: starEach [] X.env := by rfl) (hpl : (backTo pos (starEach [] X.env)).any (·.1) = false := by rfl) : IE X T W (.Call (.Name "len" p) [.Name x p2] [] pos) (mC (.int (n : Nat))) := by
  obtain ⟨a, od, its, m, sl, h1, h2, h3, rfl, h5⟩ := D.ex
  obtain ⟨vs, hv⟩ := allRef_ok h5
  have hl : vs.length = its.size := by have := hv.length; simpa using this
  refine PEw (pe_callB (p := p) (pos := pos) call_len hg hm PySem.boot_len (pa_cons (pe_glob (v := .ref a) (pos := p2) hgx h1 rfl hdb) pa_nil hs) (by decide) (by decide) hs hpl) fun σ H Q ⟨f, env, st, re, rh, p⟩ => ?_
  have q : Q (.int (its.size : Nat)) H := p.now rh (.int _)
  exact ⟨.ref a, _, rfl, .inr ⟨vs, .inr ⟨_, its, m, h2, rfl, rfl, h3, hv⟩, hl.symm⟩, q⟩
end LT
set_option Elab.async false
set_option linter.all false
set_option maxRecDepth 100000
namespace LT
/-! ### a def by itself, told of any -/
theorem pt_run {n : Nat} {m : MS} {ds : List Dt} {env : Lo} (st : Sto) (h : clL 0 ds = true) (e : startE n ds = env) : pt (runF n m) ds st = puR st (outF (m env [])) := by
  unfold pt
  rw [if_pos h, runF_out, e]
end LT
set_option Elab.async false
set_option linter.all false
set_option maxRecDepth 100000
namespace LT
open PySem PySem.Spec PyProof.Rows L2
/-! ### a, b, c = x, y, z -/
def sPar3 (i j l : Nat) (a : MA) : MS := fun env st => (a env st).on env fun ds st1 => match ds with
  | [x, y, z] => .nx (((env.set i (some x)).set j (some y)).set l (some z)) st1
  | _ => .stuck
theorem is_par3 {X : Cx} {T : Tb} {W : WX} (i j l : Nat) {x y z : Str} {a b c : Expr} {ms : MA} {px py pz pt pt2 pos : Pos} {kt k2} (hc : X.calm = true) (hN : X.N.Nodup) (ha : IA X T W [a, b, c] ms) (hi : X.N[i]? = some x := by rfl) (hj : X.N[j]? = some y := by rfl) (hl : X.N[l]? = some z := by rfl) (hij : i ≠ j := by decide) (hil : i ≠ l := by decide) (hjl : j ≠ l := by decide)
    (hx : X.env.scope.names.lookup x = some .local := by rfl) (hy : X.env.scope.names.lookup y = some .local := by rfl) (hz : X.env.scope.names.lookup z = some .local := by rfl)
    (hw : swappedStores [.Tuple [.Name x px, .Name y py, .Name z pz] kt pt] (.Tuple [a, b, c] k2 pt2) X.env = pure (some [x, y, z]) := by rfl) (hs : swapsWithSole [.Tuple [.Name x px, .Name y py, .Name z pz] kt pt] (.Tuple [a, b, c] k2 pt2) pos.line X.env = pure false := by rfl) :
    IS X T W (.Assign [.Tuple [.Name x px, .Name y py, .Name z pz] kt pt] (.Tuple [a, b, c] k2 pt2) pos) (sPar3 i j l ms) := PSw (ps_par3 hc hN hi hj hl hij hil hjl hx hy hz ha hw hs) fun E σ H ⟨f, env, st, re, rh, p⟩ =>
  ⟨f, env, st, re, rh, PostS.on re p fun d st1 f1 H1 v hp s rh1 rv re1 p1 => by
    match d, rv, p1 with
    | [], .nil, p1 => exact p1.elim
    | [_], .cons _ .nil, p1 => exact p1.elim
    | [_, _], .cons _ (.cons _ .nil), p1 => exact p1.elim
    | [_, _, _], .cons r1 (.cons r2 (.cons r3 .nil)), p1 => exact ⟨_, _, _, rfl, p1.nx_now rh1 (((re1.set r1).set r2).set r3)⟩
    | _ :: _ :: _ :: _ :: _, .cons _ (.cons _ (.cons _ (.cons _ _))), p1 => exact p1.elim⟩
theorem run_par3 {i j l : Nat} {a : MA} {env : Lo} {st : Sto} {N : Lo → Sto → Prop} {R : Dt → Sto → Prop} (h : Giv (a env st) fun ds s => ∃ x y z, ds = [x, y, z] ∧ N (((env.set i (some x)).set j (some y)).set l (some z)) s) : Run (sPar3 i j l a env st) N R := by
  obtain ⟨ds, s, e, x, y, z, rfl, k⟩ := h.eq
  unfold sPar3
  rw [e]
  exact k
end LT
namespace LT
open PySem PySem.Spec PyProof.Rows L2
/-! ### f() -/
section
variable {X : Cx} {T : Tb} {W : WX} {pos p : Pos} {k n : Nat} {F : MF} {x : Str}
def tCall0 (sp : Sp) (W : WX) : TE := fun σ H Q => sp [] H Q (fun c d H' => W c d σ H')
theorem pe_call0 {f : Addr} {fd : FuncData} {ps : List Str} {sp : Sp} (G : FnOk X.prog X.w X.K X.mg X.base (L2.CX X.prog X.w) k f fd ps sp) (hr : Room k X.A) (hg : Gl X x) (hm : X.mg x = some (.ref f)) (hk : PySem.W.keepIn X.K (.ref f) = true) (hb : Binds X.K fd ps []) (tk : Takes X W) (hdb : (x == ("__debug__" : Str)) = false := by decide) :
    PE X (.Call (.Name x p) [] [] pos) (tCall0 sp W) := ⟨fun pins s σ H Q I h =>
  wpAny_Call_Name_kw (ld_glob I hg hm (PySem.W.callWith_K0 I.kIn hk (run_fnSD (E := fun σ c d H' => W c d σ H') (us := []) (vs := []) (dvs := []) G hr hb .nil (passAt tk σ) I .nil h)) hdb)⟩
theorem ie_callD0 (D : DefOk X.prog X.w X.K X.mg X.base T.b x k 0 F []) (hr : Room k X.A) (tk : Takes X W) (hg : Gl X x := by rfl) (hdb : (x == ("__debug__" : Str)) = false := by decide) : IE X T W (.Call (.Name x p) [] [] pos) (mCall 0 F mNil []) := by
  obtain ⟨f, fd, ps, dfs, dvs, h1, h2, h3, h4, h5, h6⟩ := D.ex
  have hd : dvs = [] := by
    have := (h5 [] (fun _ => none) []).len
    cases dvs with
    | nil => rfl
    | cons _ _ => simp at this
  subst hd
  cases h4
  refine PEw (pe_call0 h6 hr hg h1 h2 h3 tk hdb) fun σ H Q ⟨f, env, st, re, rh, p⟩ => ?_
  exact ⟨rfl, T.rs, f, [], st, .nil, rh, p⟩
end
end LT
set_option Elab.async false
set_option linter.all false
set_option maxRecDepth 100000
namespace LT
open PySem PySem.Spec PyProof.Rows L2
theorem textsQ_eq : ∀ us : List Value, strVs us = textsQ us
  | [] => rfl
  | u :: us => by cases u <;> first | rfl | exact congrArg _ (textsQ_eq us)
theorem refsAllQ_eq : ∀ us : List Value, allRef us = refsAllQ us
  | [] => rfl
  | u :: us => by cases u <;> first | rfl | exact refsAllQ_eq us
theorem walk_ltE {l : PySem.W.OpenLaw} {q : Program} {loose : List Str} {XP : (Str → Option Value) → Heap → Prop} {YP : World → Heap → Prop} {d : DefRec} {k : Nat} {x : Str} (hn : l.most = some 63) (hdf : d.params.defaults = []) (hr : Room k callerA)
    (hF : ∀ (w : World) (mg : Str → Option Value) (fa : Addr) (h : Heap), YP w h → h.Ns mainGlobals mg → mg d.name = some (.ref fa) → ∃ K : PySem.W.Frag, K.In h ∧ ∃ fd : FuncData, (∀ (s : Shared) (u : Value), BindsTo s fd ⟨[u], []⟩ [(x, u)]) ∧ ∀ b0 : Heap, K.In b0 → b0.Ns mainGlobals mg → FnG l.prog w K mg b0 k fa fd [x] (spLaw K)) :
    PySem.W.WalkO q loose XP YP l.row.toRowW d [] (fun f vs => PySem.call f vs) :=
  Att.attach_call hn hdf fun w _ sh mg mb fa _ _ _ _ sc us ns top Y _ _ _ hmg hobj hints hlen hg => by
    obtain ⟨K, ki, fd, bd, G⟩ := hF w mg fa _ Y top.T.g hmg
    exact lawG_call ki top.T.g top.T.b top.T.builtins top.T.nolimit hg hobj hints hlen hr G bd
end LT
set_option Elab.async false
set_option linter.all false
set_option maxRecDepth 100000
set_option maxHeartbeats 4000000
namespace Law
open PySem PySem.Spec PyProof.Rows L2 LT
def topS (i : Nat) : Stmt := PySem.Challenge.pw_laytwice_k24_forms_laid_out.main.body.getD i (.Pass ⟨0, 0, 0, 0⟩)
section
variable {P : Program} {w : World} {K : PySem.W.Frag} {mg : Str → Option Value} {base : Heap} {B : Tz}
def c_FORMS : Dt := .tup [.tup [.str [101, 118, 101, 110], .bl false, .bl false, .bl false, .bl false, .int (0), .bl false], .tup [.str [101, 118, 101, 110], .bl false, .bl false, .bl false, .bl false, .int (0), .bl true], .tup [.str [101, 118, 101, 110], .bl false, .bl false, .bl false, .bl false, .int (1), .bl false], .tup [.str [101, 118, 101, 110], .bl false, .bl false, .bl false, .bl false, .int (1), .bl true], .tup [.str [101, 118, 101, 110], .bl false, .bl false, .bl false, .bl false, .int (2), .bl false], .tup [.str [101, 118, 101, 110], .bl false, .bl false, .bl false, .bl false, .int (2), .bl true], .tup [.str [101, 118, 101, 110], .bl false, .bl false, .bl false, .bl true, .int (0), .bl false], .tup [.str [101, 118, 101, 110], .bl false, .bl false, .bl false, .bl true, .int (0), .bl true], .tup [.str [101, 118, 101, 110], .bl false, .bl false, .bl false, .bl true, .int (1), .bl false], .tup [.str [101, 118, 101, 110], .bl false, .bl false, .bl false, .bl true, .int (1), .bl true], .tup [.str [101, 118, 101, 110], .bl false, .bl false, .bl false, .bl true, .int (2), .bl false], .tup [.str [101, 118, 101, 110], .bl false, .bl false, .bl false, .bl true, .int (2), .bl true], .tup [.str [101, 118, 101, 110], .bl false, .bl false, .bl true, .bl false, .int (0), .bl false], .tup [.str [101, 118, 101, 110], .bl false, .bl false, .bl true, .bl false, .int (0), .bl true], .tup [.str [101, 118, 101, 110], .bl false, .bl false, .bl true, .bl false, .int (1), .bl false], .tup [.str [101, 118, 101, 110], .bl false, .bl false, .bl true, .bl false, .int (1), .bl true], .tup [.str [101, 118, 101, 110], .bl false, .bl false, .bl true, .bl false, .int (2), .bl false], .tup [.str [101, 118, 101, 110], .bl false, .bl false, .bl true, .bl false, .int (2), .bl true], .tup [.str [101, 118, 101, 110], .bl false, .bl false, .bl true, .bl true, .int (0), .bl false], .tup [.str [101, 118, 101, 110], .bl false, .bl false, .bl true, .bl true, .int (0), .bl true], .tup [.str [101, 118, 101, 110], .bl false, .bl false, .bl true, .bl true, .int (1), .bl false], .tup [.str [101, 118, 101, 110], .bl false, .bl false, .bl true, .bl true, .int (1), .bl true], .tup [.str [101, 118, 101, 110], .bl false, .bl false, .bl true, .bl true, .int (2), .bl false], .tup [.str [101, 118, 101, 110], .bl false, .bl false, .bl true, .bl true, .int (2), .bl true], .tup [.str [101, 118, 101, 110], .bl false, .bl true, .bl false, .bl false, .int (0), .bl false], .tup [.str [101, 118, 101, 110], .bl false, .bl true, .bl false, .bl false, .int (0), .bl true], .tup [.str [101, 118, 101, 110], .bl false, .bl true, .bl false, .bl false, .int (1), .bl false], .tup [.str [101, 118, 101, 110], .bl false, .bl true, .bl false, .bl false, .int (1), .bl true], .tup [.str [101, 118, 101, 110], .bl false, .bl true, .bl false, .bl false, .int (2), .bl false], .tup [.str [101, 118, 101, 110], .bl false, .bl true, .bl false, .bl false, .int (2), .bl true], .tup [.str [101, 118, 101, 110], .bl false, .bl true, .bl false, .bl true, .int (0), .bl false], .tup [.str [101, 118, 101, 110], .bl false, .bl true, .bl false, .bl true, .int (0), .bl true], .tup [.str [101, 118, 101, 110], .bl false, .bl true, .bl false, .bl true, .int (1), .bl false], .tup [.str [101, 118, 101, 110], .bl false, .bl true, .bl false, .bl true, .int (1), .bl true], .tup [.str [101, 118, 101, 110], .bl false, .bl true, .bl false, .bl true, .int (2), .bl false], .tup [.str [101, 118, 101, 110], .bl false, .bl true, .bl false, .bl true, .int (2), .bl true], .tup [.str [101, 118, 101, 110], .bl false, .bl true, .bl true, .bl false, .int (0), .bl false], .tup [.str [101, 118, 101, 110], .bl false, .bl true, .bl true, .bl false, .int (0), .bl true], .tup [.str [101, 118, 101, 110], .bl false, .bl true, .bl true, .bl false, .int (1), .bl false], .tup [.str [101, 118, 101, 110], .bl false, .bl true, .bl true, .bl false, .int (1), .bl true], .tup [.str [101, 118, 101, 110], .bl false, .bl true, .bl true, .bl false, .int (2), .bl false], .tup [.str [101, 118, 101, 110], .bl false, .bl true, .bl true, .bl false, .int (2), .bl true], .tup [.str [101, 118, 101, 110], .bl false, .bl true, .bl true, .bl true, .int (0), .bl false], .tup [.str [101, 118, 101, 110], .bl false, .bl true, .bl true, .bl true, .int (0), .bl true], .tup [.str [101, 118, 101, 110], .bl false, .bl true, .bl true, .bl true, .int (1), .bl false], .tup [.str [101, 118, 101, 110], .bl false, .bl true, .bl true, .bl true, .int (1), .bl true], .tup [.str [101, 118, 101, 110], .bl false, .bl true, .bl true, .bl true, .int (2), .bl false], .tup [.str [101, 118, 101, 110], .bl false, .bl true, .bl true, .bl true, .int (2), .bl true], .tup [.str [101, 118, 101, 110], .bl true, .bl false, .bl false, .bl false, .int (0), .bl false], .tup [.str [101, 118, 101, 110], .bl true, .bl false, .bl false, .bl false, .int (0), .bl true], .tup [.str [101, 118, 101, 110], .bl true, .bl false, .bl false, .bl false, .int (1), .bl false], .tup [.str [101, 118, 101, 110], .bl true, .bl false, .bl false, .bl false, .int (1), .bl true], .tup [.str [101, 118, 101, 110], .bl true, .bl false, .bl false, .bl false, .int (2), .bl false], .tup [.str [101, 118, 101, 110], .bl true, .bl false, .bl false, .bl false, .int (2), .bl true], .tup [.str [101, 118, 101, 110], .bl true, .bl false, .bl false, .bl true, .int (0), .bl false], .tup [.str [101, 118, 101, 110], .bl true, .bl false, .bl false, .bl true, .int (0), .bl true], .tup [.str [101, 118, 101, 110], .bl true, .bl false, .bl false, .bl true, .int (1), .bl false], .tup [.str [101, 118, 101, 110], .bl true, .bl false, .bl false, .bl true, .int (1), .bl true], .tup [.str [101, 118, 101, 110], .bl true, .bl false, .bl false, .bl true, .int (2), .bl false], .tup [.str [101, 118, 101, 110], .bl true, .bl false, .bl false, .bl true, .int (2), .bl true], .tup [.str [101, 118, 101, 110], .bl true, .bl false, .bl true, .bl false, .int (0), .bl false], .tup [.str [101, 118, 101, 110], .bl true, .bl false, .bl true, .bl false, .int (0), .bl true], .tup [.str [101, 118, 101, 110], .bl true, .bl false, .bl true, .bl false, .int (1), .bl false], .tup [.str [101, 118, 101, 110], .bl true, .bl false, .bl true, .bl false, .int (1), .bl true], .tup [.str [101, 118, 101, 110], .bl true, .bl false, .bl true, .bl false, .int (2), .bl false], .tup [.str [101, 118, 101, 110], .bl true, .bl false, .bl true, .bl false, .int (2), .bl true], .tup [.str [101, 118, 101, 110], .bl true, .bl false, .bl true, .bl true, .int (0), .bl false], .tup [.str [101, 118, 101, 110], .bl true, .bl false, .bl true, .bl true, .int (0), .bl true], .tup [.str [101, 118, 101, 110], .bl true, .bl false, .bl true, .bl true, .int (1), .bl false], .tup [.str [101, 118, 101, 110], .bl true, .bl false, .bl true, .bl true, .int (1), .bl true], .tup [.str [101, 118, 101, 110], .bl true, .bl false, .bl true, .bl true, .int (2), .bl false], .tup [.str [101, 118, 101, 110], .bl true, .bl false, .bl true, .bl true, .int (2), .bl true], .tup [.str [101, 118, 101, 110], .bl true, .bl true, .bl false, .bl false, .int (0), .bl false], .tup [.str [101, 118, 101, 110], .bl true, .bl true, .bl false, .bl false, .int (0), .bl true], .tup [.str [101, 118, 101, 110], .bl true, .bl true, .bl false, .bl false, .int (1), .bl false], .tup [.str [101, 118, 101, 110], .bl true, .bl true, .bl false, .bl false, .int (1), .bl true], .tup [.str [101, 118, 101, 110], .bl true, .bl true, .bl false, .bl false, .int (2), .bl false], .tup [.str [101, 118, 101, 110], .bl true, .bl true, .bl false, .bl false, .int (2), .bl true], .tup [.str [101, 118, 101, 110], .bl true, .bl true, .bl false, .bl true, .int (0), .bl false], .tup [.str [101, 118, 101, 110], .bl true, .bl true, .bl false, .bl true, .int (0), .bl true], .tup [.str [101, 118, 101, 110], .bl true, .bl true, .bl false, .bl true, .int (1), .bl false], .tup [.str [101, 118, 101, 110], .bl true, .bl true, .bl false, .bl true, .int (1), .bl true], .tup [.str [101, 118, 101, 110], .bl true, .bl true, .bl false, .bl true, .int (2), .bl false], .tup [.str [101, 118, 101, 110], .bl true, .bl true, .bl false, .bl true, .int (2), .bl true], .tup [.str [101, 118, 101, 110], .bl true, .bl true, .bl true, .bl false, .int (0), .bl false], .tup [.str [101, 118, 101, 110], .bl true, .bl true, .bl true, .bl false, .int (0), .bl true], .tup [.str [101, 118, 101, 110], .bl true, .bl true, .bl true, .bl false, .int (1), .bl false], .tup [.str [101, 118, 101, 110], .bl true, .bl true, .bl true, .bl false, .int (1), .bl true], .tup [.str [101, 118, 101, 110], .bl true, .bl true, .bl true, .bl false, .int (2), .bl false], .tup [.str [101, 118, 101, 110], .bl true, .bl true, .bl true, .bl false, .int (2), .bl true], .tup [.str [101, 118, 101, 110], .bl true, .bl true, .bl true, .bl true, .int (0), .bl false], .tup [.str [101, 118, 101, 110], .bl true, .bl true, .bl true, .bl true, .int (0), .bl true], .tup [.str [101, 118, 101, 110], .bl true, .bl true, .bl true, .bl true, .int (1), .bl false], .tup [.str [101, 118, 101, 110], .bl true, .bl true, .bl true, .bl true, .int (1), .bl true], .tup [.str [101, 118, 101, 110], .bl true, .bl true, .bl true, .bl true, .int (2), .bl false], .tup [.str [101, 118, 101, 110], .bl true, .bl true, .bl true, .bl true, .int (2), .bl true], .tup [.str [106, 117, 115, 116], .bl false, .bl false, .bl false, .bl true, .int (0), .bl false], .tup [.str [106, 117, 115, 116], .bl false, .bl false, .bl false, .bl true, .int (0), .bl true], .tup [.str [106, 117, 115, 116], .bl false, .bl false, .bl false, .bl true, .int (1), .bl false], .tup [.str [106, 117, 115, 116], .bl false, .bl false, .bl false, .bl true, .int (1), .bl true], .tup [.str [106, 117, 115, 116], .bl false, .bl false, .bl false, .bl true, .int (2), .bl false], .tup [.str [106, 117, 115, 116], .bl false, .bl false, .bl false, .bl true, .int (2), .bl true], .tup [.str [106, 117, 115, 116], .bl false, .bl false, .bl true, .bl false, .int (0), .bl false], .tup [.str [106, 117, 115, 116], .bl false, .bl false, .bl true, .bl false, .int (0), .bl true], .tup [.str [106, 117, 115, 116], .bl false, .bl false, .bl true, .bl false, .int (1), .bl false], .tup [.str [106, 117, 115, 116], .bl false, .bl false, .bl true, .bl false, .int (1), .bl true], .tup [.str [106, 117, 115, 116], .bl false, .bl false, .bl true, .bl false, .int (2), .bl false], .tup [.str [106, 117, 115, 116], .bl false, .bl false, .bl true, .bl false, .int (2), .bl true], .tup [.str [106, 117, 115, 116], .bl false, .bl false, .bl true, .bl true, .int (0), .bl false], .tup [.str [106, 117, 115, 116], .bl false, .bl false, .bl true, .bl true, .int (0), .bl true], .tup [.str [106, 117, 115, 116], .bl false, .bl false, .bl true, .bl true, .int (1), .bl false], .tup [.str [106, 117, 115, 116], .bl false, .bl false, .bl true, .bl true, .int (1), .bl true], .tup [.str [106, 117, 115, 116], .bl false, .bl false, .bl true, .bl true, .int (2), .bl false], .tup [.str [106, 117, 115, 116], .bl false, .bl false, .bl true, .bl true, .int (2), .bl true], .tup [.str [106, 117, 115, 116], .bl false, .bl true, .bl false, .bl true, .int (0), .bl false], .tup [.str [106, 117, 115, 116], .bl false, .bl true, .bl false, .bl true, .int (0), .bl true], .tup [.str [106, 117, 115, 116], .bl false, .bl true, .bl false, .bl true, .int (1), .bl false], .tup [.str [106, 117, 115, 116], .bl false, .bl true, .bl false, .bl true, .int (1), .bl true], .tup [.str [106, 117, 115, 116], .bl false, .bl true, .bl false, .bl true, .int (2), .bl false], .tup [.str [106, 117, 115, 116], .bl false, .bl true, .bl false, .bl true, .int (2), .bl true], .tup [.str [106, 117, 115, 116], .bl false, .bl true, .bl true, .bl false, .int (0), .bl false], .tup [.str [106, 117, 115, 116], .bl false, .bl true, .bl true, .bl false, .int (0), .bl true], .tup [.str [106, 117, 115, 116], .bl false, .bl true, .bl true, .bl false, .int (1), .bl false], .tup [.str [106, 117, 115, 116], .bl false, .bl true, .bl true, .bl false, .int (1), .bl true], .tup [.str [106, 117, 115, 116], .bl false, .bl true, .bl true, .bl false, .int (2), .bl false], .tup [.str [106, 117, 115, 116], .bl false, .bl true, .bl true, .bl false, .int (2), .bl true], .tup [.str [106, 117, 115, 116], .bl false, .bl true, .bl true, .bl true, .int (0), .bl false], .tup [.str [106, 117, 115, 116], .bl false, .bl true, .bl true, .bl true, .int (0), .bl true], .tup [.str [106, 117, 115, 116], .bl false, .bl true, .bl true, .bl true, .int (1), .bl false], .tup [.str [106, 117, 115, 116], .bl false, .bl true, .bl true, .bl true, .int (1), .bl true], .tup [.str [106, 117, 115, 116], .bl false, .bl true, .bl true, .bl true, .int (2), .bl false], .tup [.str [106, 117, 115, 116], .bl false, .bl true, .bl true, .bl true, .int (2), .bl true], .tup [.str [106, 117, 115, 116], .bl true, .bl false, .bl false, .bl true, .int (0), .bl false], .tup [.str [106, 117, 115, 116], .bl true, .bl false, .bl false, .bl true, .int (0), .bl true], .tup [.str [106, 117, 115, 116], .bl true, .bl false, .bl false, .bl true, .int (1), .bl false], .tup [.str [106, 117, 115, 116], .bl true, .bl false, .bl false, .bl true, .int (1), .bl true], .tup [.str [106, 117, 115, 116], .bl true, .bl false, .bl false, .bl true, .int (2), .bl false], .tup [.str [106, 117, 115, 116], .bl true, .bl false, .bl false, .bl true, .int (2), .bl true], .tup [.str [106, 117, 115, 116], .bl true, .bl false, .bl true, .bl false, .int (0), .bl false], .tup [.str [106, 117, 115, 116], .bl true, .bl false, .bl true, .bl false, .int (0), .bl true], .tup [.str [106, 117, 115, 116], .bl true, .bl false, .bl true, .bl false, .int (1), .bl false], .tup [.str [106, 117, 115, 116], .bl true, .bl false, .bl true, .bl false, .int (1), .bl true], .tup [.str [106, 117, 115, 116], .bl true, .bl false, .bl true, .bl false, .int (2), .bl false], .tup [.str [106, 117, 115, 116], .bl true, .bl false, .bl true, .bl false, .int (2), .bl true], .tup [.str [106, 117, 115, 116], .bl true, .bl false, .bl true, .bl true, .int (0), .bl false], .tup [.str [106, 117, 115, 116], .bl true, .bl false, .bl true, .bl true, .int (0), .bl true], .tup [.str [106, 117, 115, 116], .bl true, .bl false, .bl true, .bl true, .int (1), .bl false], .tup [.str [106, 117, 115, 116], .bl true, .bl false, .bl true, .bl true, .int (1), .bl true], .tup [.str [106, 117, 115, 116], .bl true, .bl false, .bl true, .bl true, .int (2), .bl false], .tup [.str [106, 117, 115, 116], .bl true, .bl false, .bl true, .bl true, .int (2), .bl true], .tup [.str [106, 117, 115, 116], .bl true, .bl true, .bl false, .bl true, .int (0), .bl false], .tup [.str [106, 117, 115, 116], .bl true, .bl true, .bl false, .bl true, .int (0), .bl true], .tup [.str [106, 117, 115, 116], .bl true, .bl true, .bl false, .bl true, .int (1), .bl false], .tup [.str [106, 117, 115, 116], .bl true, .bl true, .bl false, .bl true, .int (1), .bl true], .tup [.str [106, 117, 115, 116], .bl true, .bl true, .bl false, .bl true, .int (2), .bl false], .tup [.str [106, 117, 115, 116], .bl true, .bl true, .bl false, .bl true, .int (2), .bl true], .tup [.str [106, 117, 115, 116], .bl true, .bl true, .bl true, .bl false, .int (0), .bl false], .tup [.str [106, 117, 115, 116], .bl true, .bl true, .bl true, .bl false, .int (0), .bl true], .tup [.str [106, 117, 115, 116], .bl true, .bl true, .bl true, .bl false, .int (1), .bl false], .tup [.str [106, 117, 115, 116], .bl true, .bl true, .bl true, .bl false, .int (1), .bl true], .tup [.str [106, 117, 115, 116], .bl true, .bl true, .bl true, .bl false, .int (2), .bl false], .tup [.str [106, 117, 115, 116], .bl true, .bl true, .bl true, .bl false, .int (2), .bl true], .tup [.str [106, 117, 115, 116], .bl true, .bl true, .bl true, .bl true, .int (0), .bl false], .tup [.str [106, 117, 115, 116], .bl true, .bl true, .bl true, .bl true, .int (0), .bl true], .tup [.str [106, 117, 115, 116], .bl true, .bl true, .bl true, .bl true, .int (1), .bl false], .tup [.str [106, 117, 115, 116], .bl true, .bl true, .bl true, .bl true, .int (1), .bl true], .tup [.str [106, 117, 115, 116], .bl true, .bl true, .bl true, .bl true, .int (2), .bl false], .tup [.str [106, 117, 115, 116], .bl true, .bl true, .bl true, .bl true, .int (2), .bl true], .tup [.str [111, 118, 101, 114], .bl false, .bl false, .bl false, .bl false, .int (0), .bl false], .tup [.str [111, 118, 101, 114], .bl false, .bl false, .bl false, .bl false, .int (0), .bl true], .tup [.str [111, 118, 101, 114], .bl false, .bl false, .bl false, .bl false, .int (1), .bl false], .tup [.str [111, 118, 101, 114], .bl false, .bl false, .bl false, .bl false, .int (1), .bl true], .tup [.str [111, 118, 101, 114], .bl false, .bl false, .bl false, .bl false, .int (2), .bl false], .tup [.str [111, 118, 101, 114], .bl false, .bl false, .bl false, .bl false, .int (2), .bl true], .tup [.str [111, 118, 101, 114], .bl false, .bl false, .bl false, .bl true, .int (0), .bl false], .tup [.str [111, 118, 101, 114], .bl false, .bl false, .bl false, .bl true, .int (0), .bl true], .tup [.str [111, 118, 101, 114], .bl false, .bl false, .bl false, .bl true, .int (1), .bl false], .tup [.str [111, 118, 101, 114], .bl false, .bl false, .bl false, .bl true, .int (1), .bl true], .tup [.str [111, 118, 101, 114], .bl false, .bl false, .bl false, .bl true, .int (2), .bl false], .tup [.str [111, 118, 101, 114], .bl false, .bl false, .bl false, .bl true, .int (2), .bl true], .tup [.str [111, 118, 101, 114], .bl false, .bl false, .bl true, .bl false, .int (0), .bl false], .tup [.str [111, 118, 101, 114], .bl false, .bl false, .bl true, .bl false, .int (0), .bl true], .tup [.str [111, 118, 101, 114], .bl false, .bl false, .bl true, .bl false, .int (1), .bl false], .tup [.str [111, 118, 101, 114], .bl false, .bl false, .bl true, .bl false, .int (1), .bl true], .tup [.str [111, 118, 101, 114], .bl false, .bl false, .bl true, .bl false, .int (2), .bl false], .tup [.str [111, 118, 101, 114], .bl false, .bl false, .bl true, .bl false, .int (2), .bl true], .tup [.str [111, 118, 101, 114], .bl false, .bl false, .bl true, .bl true, .int (0), .bl false], .tup [.str [111, 118, 101, 114], .bl false, .bl false, .bl true, .bl true, .int (0), .bl true], .tup [.str [111, 118, 101, 114], .bl false, .bl false, .bl true, .bl true, .int (1), .bl false], .tup [.str [111, 118, 101, 114], .bl false, .bl false, .bl true, .bl true, .int (1), .bl true], .tup [.str [111, 118, 101, 114], .bl false, .bl false, .bl true, .bl true, .int (2), .bl false], .tup [.str [111, 118, 101, 114], .bl false, .bl false, .bl true, .bl true, .int (2), .bl true], .tup [.str [111, 118, 101, 114], .bl false, .bl true, .bl false, .bl false, .int (0), .bl false], .tup [.str [111, 118, 101, 114], .bl false, .bl true, .bl false, .bl false, .int (0), .bl true], .tup [.str [111, 118, 101, 114], .bl false, .bl true, .bl false, .bl false, .int (1), .bl false], .tup [.str [111, 118, 101, 114], .bl false, .bl true, .bl false, .bl false, .int (1), .bl true], .tup [.str [111, 118, 101, 114], .bl false, .bl true, .bl false, .bl false, .int (2), .bl false], .tup [.str [111, 118, 101, 114], .bl false, .bl true, .bl false, .bl false, .int (2), .bl true], .tup [.str [111, 118, 101, 114], .bl false, .bl true, .bl false, .bl true, .int (0), .bl false], .tup [.str [111, 118, 101, 114], .bl false, .bl true, .bl false, .bl true, .int (0), .bl true], .tup [.str [111, 118, 101, 114], .bl false, .bl true, .bl false, .bl true, .int (1), .bl false], .tup [.str [111, 118, 101, 114], .bl false, .bl true, .bl false, .bl true, .int (1), .bl true], .tup [.str [111, 118, 101, 114], .bl false, .bl true, .bl false, .bl true, .int (2), .bl false], .tup [.str [111, 118, 101, 114], .bl false, .bl true, .bl false, .bl true, .int (2), .bl true], .tup [.str [111, 118, 101, 114], .bl false, .bl true, .bl true, .bl false, .int (0), .bl false], .tup [.str [111, 118, 101, 114], .bl false, .bl true, .bl true, .bl false, .int (0), .bl true], .tup [.str [111, 118, 101, 114], .bl false, .bl true, .bl true, .bl false, .int (1), .bl false], .tup [.str [111, 118, 101, 114], .bl false, .bl true, .bl true, .bl false, .int (1), .bl true], .tup [.str [111, 118, 101, 114], .bl false, .bl true, .bl true, .bl false, .int (2), .bl false], .tup [.str [111, 118, 101, 114], .bl false, .bl true, .bl true, .bl false, .int (2), .bl true], .tup [.str [111, 118, 101, 114], .bl false, .bl true, .bl true, .bl true, .int (0), .bl false], .tup [.str [111, 118, 101, 114], .bl false, .bl true, .bl true, .bl true, .int (0), .bl true], .tup [.str [111, 118, 101, 114], .bl false, .bl true, .bl true, .bl true, .int (1), .bl false], .tup [.str [111, 118, 101, 114], .bl false, .bl true, .bl true, .bl true, .int (1), .bl true], .tup [.str [111, 118, 101, 114], .bl false, .bl true, .bl true, .bl true, .int (2), .bl false], .tup [.str [111, 118, 101, 114], .bl false, .bl true, .bl true, .bl true, .int (2), .bl true], .tup [.str [111, 118, 101, 114], .bl true, .bl false, .bl false, .bl false, .int (0), .bl false], .tup [.str [111, 118, 101, 114], .bl true, .bl false, .bl false, .bl false, .int (0), .bl true], .tup [.str [111, 118, 101, 114], .bl true, .bl false, .bl false, .bl false, .int (1), .bl false], .tup [.str [111, 118, 101, 114], .bl true, .bl false, .bl false, .bl false, .int (1), .bl true], .tup [.str [111, 118, 101, 114], .bl true, .bl false, .bl false, .bl false, .int (2), .bl false], .tup [.str [111, 118, 101, 114], .bl true, .bl false, .bl false, .bl false, .int (2), .bl true], .tup [.str [111, 118, 101, 114], .bl true, .bl false, .bl false, .bl true, .int (0), .bl false], .tup [.str [111, 118, 101, 114], .bl true, .bl false, .bl false, .bl true, .int (0), .bl true], .tup [.str [111, 118, 101, 114], .bl true, .bl false, .bl false, .bl true, .int (1), .bl false], .tup [.str [111, 118, 101, 114], .bl true, .bl false, .bl false, .bl true, .int (1), .bl true], .tup [.str [111, 118, 101, 114], .bl true, .bl false, .bl false, .bl true, .int (2), .bl false], .tup [.str [111, 118, 101, 114], .bl true, .bl false, .bl false, .bl true, .int (2), .bl true], .tup [.str [111, 118, 101, 114], .bl true, .bl false, .bl true, .bl false, .int (0), .bl false], .tup [.str [111, 118, 101, 114], .bl true, .bl false, .bl true, .bl false, .int (0), .bl true], .tup [.str [111, 118, 101, 114], .bl true, .bl false, .bl true, .bl false, .int (1), .bl false], .tup [.str [111, 118, 101, 114], .bl true, .bl false, .bl true, .bl false, .int (1), .bl true], .tup [.str [111, 118, 101, 114], .bl true, .bl false, .bl true, .bl false, .int (2), .bl false], .tup [.str [111, 118, 101, 114], .bl true, .bl false, .bl true, .bl false, .int (2), .bl true], .tup [.str [111, 118, 101, 114], .bl true, .bl false, .bl true, .bl true, .int (0), .bl false], .tup [.str [111, 118, 101, 114], .bl true, .bl false, .bl true, .bl true, .int (0), .bl true], .tup [.str [111, 118, 101, 114], .bl true, .bl false, .bl true, .bl true, .int (1), .bl false], .tup [.str [111, 118, 101, 114], .bl true, .bl false, .bl true, .bl true, .int (1), .bl true], .tup [.str [111, 118, 101, 114], .bl true, .bl false, .bl true, .bl true, .int (2), .bl false], .tup [.str [111, 118, 101, 114], .bl true, .bl false, .bl true, .bl true, .int (2), .bl true], .tup [.str [111, 118, 101, 114], .bl true, .bl true, .bl false, .bl false, .int (0), .bl false], .tup [.str [111, 118, 101, 114], .bl true, .bl true, .bl false, .bl false, .int (0), .bl true], .tup [.str [111, 118, 101, 114], .bl true, .bl true, .bl false, .bl false, .int (1), .bl false], .tup [.str [111, 118, 101, 114], .bl true, .bl true, .bl false, .bl false, .int (1), .bl true], .tup [.str [111, 118, 101, 114], .bl true, .bl true, .bl false, .bl false, .int (2), .bl false], .tup [.str [111, 118, 101, 114], .bl true, .bl true, .bl false, .bl false, .int (2), .bl true], .tup [.str [111, 118, 101, 114], .bl true, .bl true, .bl false, .bl true, .int (0), .bl false], .tup [.str [111, 118, 101, 114], .bl true, .bl true, .bl false, .bl true, .int (0), .bl true], .tup [.str [111, 118, 101, 114], .bl true, .bl true, .bl false, .bl true, .int (1), .bl false], .tup [.str [111, 118, 101, 114], .bl true, .bl true, .bl false, .bl true, .int (1), .bl true], .tup [.str [111, 118, 101, 114], .bl true, .bl true, .bl false, .bl true, .int (2), .bl false], .tup [.str [111, 118, 101, 114], .bl true, .bl true, .bl false, .bl true, .int (2), .bl true], .tup [.str [111, 118, 101, 114], .bl true, .bl true, .bl true, .bl false, .int (0), .bl false], .tup [.str [111, 118, 101, 114], .bl true, .bl true, .bl true, .bl false, .int (0), .bl true], .tup [.str [111, 118, 101, 114], .bl true, .bl true, .bl true, .bl false, .int (1), .bl false], .tup [.str [111, 118, 101, 114], .bl true, .bl true, .bl true, .bl false, .int (1), .bl true], .tup [.str [111, 118, 101, 114], .bl true, .bl true, .bl true, .bl false, .int (2), .bl false], .tup [.str [111, 118, 101, 114], .bl true, .bl true, .bl true, .bl false, .int (2), .bl true], .tup [.str [111, 118, 101, 114], .bl true, .bl true, .bl true, .bl true, .int (0), .bl false], .tup [.str [111, 118, 101, 114], .bl true, .bl true, .bl true, .bl true, .int (0), .bl true], .tup [.str [111, 118, 101, 114], .bl true, .bl true, .bl true, .bl true, .int (1), .bl false], .tup [.str [111, 118, 101, 114], .bl true, .bl true, .bl true, .bl true, .int (1), .bl true], .tup [.str [111, 118, 101, 114], .bl true, .bl true, .bl true, .bl true, .int (2), .bl false], .tup [.str [111, 118, 101, 114], .bl true, .bl true, .bl true, .bl true, .int (2), .bl true], .tup [.str [116, 105, 103, 104, 116], .bl false, .bl false, .bl false, .bl true, .int (0), .bl false], .tup [.str [116, 105, 103, 104, 116], .bl false, .bl false, .bl false, .bl true, .int (0), .bl true], .tup [.str [116, 105, 103, 104, 116], .bl false, .bl false, .bl false, .bl true, .int (1), .bl false], .tup [.str [116, 105, 103, 104, 116], .bl false, .bl false, .bl false, .bl true, .int (1), .bl true], .tup [.str [116, 105, 103, 104, 116], .bl false, .bl false, .bl false, .bl true, .int (2), .bl false], .tup [.str [116, 105, 103, 104, 116], .bl false, .bl false, .bl false, .bl true, .int (2), .bl true], .tup [.str [116, 105, 103, 104, 116], .bl false, .bl false, .bl true, .bl false, .int (0), .bl false], .tup [.str [116, 105, 103, 104, 116], .bl false, .bl false, .bl true, .bl false, .int (0), .bl true], .tup [.str [116, 105, 103, 104, 116], .bl false, .bl false, .bl true, .bl false, .int (1), .bl false], .tup [.str [116, 105, 103, 104, 116], .bl false, .bl false, .bl true, .bl false, .int (1), .bl true], .tup [.str [116, 105, 103, 104, 116], .bl false, .bl false, .bl true, .bl false, .int (2), .bl false], .tup [.str [116, 105, 103, 104, 116], .bl false, .bl false, .bl true, .bl false, .int (2), .bl true], .tup [.str [116, 105, 103, 104, 116], .bl false, .bl false, .bl true, .bl true, .int (0), .bl false], .tup [.str [116, 105, 103, 104, 116], .bl false, .bl false, .bl true, .bl true, .int (0), .bl true], .tup [.str [116, 105, 103, 104, 116], .bl false, .bl false, .bl true, .bl true, .int (1), .bl false], .tup [.str [116, 105, 103, 104, 116], .bl false, .bl false, .bl true, .bl true, .int (1), .bl true], .tup [.str [116, 105, 103, 104, 116], .bl false, .bl false, .bl true, .bl true, .int (2), .bl false], .tup [.str [116, 105, 103, 104, 116], .bl false, .bl false, .bl true, .bl true, .int (2), .bl true], .tup [.str [116, 105, 103, 104, 116], .bl false, .bl true, .bl false, .bl true, .int (0), .bl false], .tup [.str [116, 105, 103, 104, 116], .bl false, .bl true, .bl false, .bl true, .int (0), .bl true], .tup [.str [116, 105, 103, 104, 116], .bl false, .bl true, .bl false, .bl true, .int (1), .bl false], .tup [.str [116, 105, 103, 104, 116], .bl false, .bl true, .bl false, .bl true, .int (1), .bl true], .tup [.str [116, 105, 103, 104, 116], .bl false, .bl true, .bl false, .bl true, .int (2), .bl false], .tup [.str [116, 105, 103, 104, 116], .bl false, .bl true, .bl false, .bl true, .int (2), .bl true], .tup [.str [116, 105, 103, 104, 116], .bl false, .bl true, .bl true, .bl false, .int (0), .bl false], .tup [.str [116, 105, 103, 104, 116], .bl false, .bl true, .bl true, .bl false, .int (0), .bl true], .tup [.str [116, 105, 103, 104, 116], .bl false, .bl true, .bl true, .bl false, .int (1), .bl false], .tup [.str [116, 105, 103, 104, 116], .bl false, .bl true, .bl true, .bl false, .int (1), .bl true], .tup [.str [116, 105, 103, 104, 116], .bl false, .bl true, .bl true, .bl false, .int (2), .bl false], .tup [.str [116, 105, 103, 104, 116], .bl false, .bl true, .bl true, .bl false, .int (2), .bl true], .tup [.str [116, 105, 103, 104, 116], .bl false, .bl true, .bl true, .bl true, .int (0), .bl false], .tup [.str [116, 105, 103, 104, 116], .bl false, .bl true, .bl true, .bl true, .int (0), .bl true], .tup [.str [116, 105, 103, 104, 116], .bl false, .bl true, .bl true, .bl true, .int (1), .bl false], .tup [.str [116, 105, 103, 104, 116], .bl false, .bl true, .bl true, .bl true, .int (1), .bl true], .tup [.str [116, 105, 103, 104, 116], .bl false, .bl true, .bl true, .bl true, .int (2), .bl false], .tup [.str [116, 105, 103, 104, 116], .bl false, .bl true, .bl true, .bl true, .int (2), .bl true], .tup [.str [116, 105, 103, 104, 116], .bl true, .bl false, .bl false, .bl true, .int (0), .bl false], .tup [.str [116, 105, 103, 104, 116], .bl true, .bl false, .bl false, .bl true, .int (0), .bl true], .tup [.str [116, 105, 103, 104, 116], .bl true, .bl false, .bl false, .bl true, .int (1), .bl false], .tup [.str [116, 105, 103, 104, 116], .bl true, .bl false, .bl false, .bl true, .int (1), .bl true], .tup [.str [116, 105, 103, 104, 116], .bl true, .bl false, .bl false, .bl true, .int (2), .bl false], .tup [.str [116, 105, 103, 104, 116], .bl true, .bl false, .bl false, .bl true, .int (2), .bl true], .tup [.str [116, 105, 103, 104, 116], .bl true, .bl false, .bl true, .bl false, .int (0), .bl false], .tup [.str [116, 105, 103, 104, 116], .bl true, .bl false, .bl true, .bl false, .int (0), .bl true], .tup [.str [116, 105, 103, 104, 116], .bl true, .bl false, .bl true, .bl false, .int (1), .bl false], .tup [.str [116, 105, 103, 104, 116], .bl true, .bl false, .bl true, .bl false, .int (1), .bl true], .tup [.str [116, 105, 103, 104, 116], .bl true, .bl false, .bl true, .bl false, .int (2), .bl false], .tup [.str [116, 105, 103, 104, 116], .bl true, .bl false, .bl true, .bl false, .int (2), .bl true], .tup [.str [116, 105, 103, 104, 116], .bl true, .bl false, .bl true, .bl true, .int (0), .bl false], .tup [.str [116, 105, 103, 104, 116], .bl true, .bl false, .bl true, .bl true, .int (0), .bl true], .tup [.str [116, 105, 103, 104, 116], .bl true, .bl false, .bl true, .bl true, .int (1), .bl false], .tup [.str [116, 105, 103, 104, 116], .bl true, .bl false, .bl true, .bl true, .int (1), .bl true], .tup [.str [116, 105, 103, 104, 116], .bl true, .bl false, .bl true, .bl true, .int (2), .bl false], .tup [.str [116, 105, 103, 104, 116], .bl true, .bl false, .bl true, .bl true, .int (2), .bl true], .tup [.str [116, 105, 103, 104, 116], .bl true, .bl true, .bl false, .bl true, .int (0), .bl false], .tup [.str [116, 105, 103, 104, 116], .bl true, .bl true, .bl false, .bl true, .int (0), .bl true], .tup [.str [116, 105, 103, 104, 116], .bl true, .bl true, .bl false, .bl true, .int (1), .bl false], .tup [.str [116, 105, 103, 104, 116], .bl true, .bl true, .bl false, .bl true, .int (1), .bl true], .tup [.str [116, 105, 103, 104, 116], .bl true, .bl true, .bl false, .bl true, .int (2), .bl false], .tup [.str [116, 105, 103, 104, 116], .bl true, .bl true, .bl false, .bl true, .int (2), .bl true], .tup [.str [116, 105, 103, 104, 116], .bl true, .bl true, .bl true, .bl false, .int (0), .bl false], .tup [.str [116, 105, 103, 104, 116], .bl true, .bl true, .bl true, .bl false, .int (0), .bl true], .tup [.str [116, 105, 103, 104, 116], .bl true, .bl true, .bl true, .bl false, .int (1), .bl false], .tup [.str [116, 105, 103, 104, 116], .bl true, .bl true, .bl true, .bl false, .int (1), .bl true], .tup [.str [116, 105, 103, 104, 116], .bl true, .bl true, .bl true, .bl false, .int (2), .bl false], .tup [.str [116, 105, 103, 104, 116], .bl true, .bl true, .bl true, .bl false, .int (2), .bl true], .tup [.str [116, 105, 103, 104, 116], .bl true, .bl true, .bl true, .bl true, .int (0), .bl false], .tup [.str [116, 105, 103, 104, 116], .bl true, .bl true, .bl true, .bl true, .int (0), .bl true], .tup [.str [116, 105, 103, 104, 116], .bl true, .bl true, .bl true, .bl true, .int (1), .bl false], .tup [.str [116, 105, 103, 104, 116], .bl true, .bl true, .bl true, .bl true, .int (1), .bl true], .tup [.str [116, 105, 103, 104, 116], .bl true, .bl true, .bl true, .bl true, .int (2), .bl false], .tup [.str [116, 105, 103, 104, 116], .bl true, .bl true, .bl true, .bl true, .int (2), .bl true], .tup [.str [119, 105, 100, 101], .bl false, .bl false, .bl false, .bl false, .int (0), .bl false], .tup [.str [119, 105, 100, 101], .bl false, .bl false, .bl false, .bl false, .int (0), .bl true], .tup [.str [119, 105, 100, 101], .bl false, .bl false, .bl false, .bl false, .int (1), .bl false], .tup [.str [119, 105, 100, 101], .bl false, .bl false, .bl false, .bl false, .int (1), .bl true], .tup [.str [119, 105, 100, 101], .bl false, .bl false, .bl false, .bl false, .int (2), .bl false], .tup [.str [119, 105, 100, 101], .bl false, .bl false, .bl false, .bl false, .int (2), .bl true], .tup [.str [119, 105, 100, 101], .bl false, .bl false, .bl false, .bl true, .int (0), .bl false], .tup [.str [119, 105, 100, 101], .bl false, .bl false, .bl false, .bl true, .int (0), .bl true], .tup [.str [119, 105, 100, 101], .bl false, .bl false, .bl false, .bl true, .int (1), .bl false], .tup [.str [119, 105, 100, 101], .bl false, .bl false, .bl false, .bl true, .int (1), .bl true], .tup [.str [119, 105, 100, 101], .bl false, .bl false, .bl false, .bl true, .int (2), .bl false], .tup [.str [119, 105, 100, 101], .bl false, .bl false, .bl false, .bl true, .int (2), .bl true], .tup [.str [119, 105, 100, 101], .bl false, .bl false, .bl true, .bl false, .int (0), .bl false], .tup [.str [119, 105, 100, 101], .bl false, .bl false, .bl true, .bl false, .int (0), .bl true], .tup [.str [119, 105, 100, 101], .bl false, .bl false, .bl true, .bl false, .int (1), .bl false], .tup [.str [119, 105, 100, 101], .bl false, .bl false, .bl true, .bl false, .int (1), .bl true], .tup [.str [119, 105, 100, 101], .bl false, .bl false, .bl true, .bl false, .int (2), .bl false], .tup [.str [119, 105, 100, 101], .bl false, .bl false, .bl true, .bl false, .int (2), .bl true], .tup [.str [119, 105, 100, 101], .bl false, .bl false, .bl true, .bl true, .int (0), .bl false], .tup [.str [119, 105, 100, 101], .bl false, .bl false, .bl true, .bl true, .int (0), .bl true], .tup [.str [119, 105, 100, 101], .bl false, .bl false, .bl true, .bl true, .int (1), .bl false], .tup [.str [119, 105, 100, 101], .bl false, .bl false, .bl true, .bl true, .int (1), .bl true], .tup [.str [119, 105, 100, 101], .bl false, .bl false, .bl true, .bl true, .int (2), .bl false], .tup [.str [119, 105, 100, 101], .bl false, .bl false, .bl true, .bl true, .int (2), .bl true], .tup [.str [119, 105, 100, 101], .bl false, .bl true, .bl false, .bl false, .int (0), .bl false], .tup [.str [119, 105, 100, 101], .bl false, .bl true, .bl false, .bl false, .int (0), .bl true], .tup [.str [119, 105, 100, 101], .bl false, .bl true, .bl false, .bl false, .int (1), .bl false], .tup [.str [119, 105, 100, 101], .bl false, .bl true, .bl false, .bl false, .int (1), .bl true], .tup [.str [119, 105, 100, 101], .bl false, .bl true, .bl false, .bl false, .int (2), .bl false], .tup [.str [119, 105, 100, 101], .bl false, .bl true, .bl false, .bl false, .int (2), .bl true], .tup [.str [119, 105, 100, 101], .bl false, .bl true, .bl false, .bl true, .int (0), .bl false], .tup [.str [119, 105, 100, 101], .bl false, .bl true, .bl false, .bl true, .int (0), .bl true], .tup [.str [119, 105, 100, 101], .bl false, .bl true, .bl false, .bl true, .int (1), .bl false], .tup [.str [119, 105, 100, 101], .bl false, .bl true, .bl false, .bl true, .int (1), .bl true], .tup [.str [119, 105, 100, 101], .bl false, .bl true, .bl false, .bl true, .int (2), .bl false], .tup [.str [119, 105, 100, 101], .bl false, .bl true, .bl false, .bl true, .int (2), .bl true], .tup [.str [119, 105, 100, 101], .bl false, .bl true, .bl true, .bl false, .int (0), .bl false], .tup [.str [119, 105, 100, 101], .bl false, .bl true, .bl true, .bl false, .int (0), .bl true], .tup [.str [119, 105, 100, 101], .bl false, .bl true, .bl true, .bl false, .int (1), .bl false], .tup [.str [119, 105, 100, 101], .bl false, .bl true, .bl true, .bl false, .int (1), .bl true], .tup [.str [119, 105, 100, 101], .bl false, .bl true, .bl true, .bl false, .int (2), .bl false], .tup [.str [119, 105, 100, 101], .bl false, .bl true, .bl true, .bl false, .int (2), .bl true], .tup [.str [119, 105, 100, 101], .bl false, .bl true, .bl true, .bl true, .int (0), .bl false], .tup [.str [119, 105, 100, 101], .bl false, .bl true, .bl true, .bl true, .int (0), .bl true], .tup [.str [119, 105, 100, 101], .bl false, .bl true, .bl true, .bl true, .int (1), .bl false], .tup [.str [119, 105, 100, 101], .bl false, .bl true, .bl true, .bl true, .int (1), .bl true], .tup [.str [119, 105, 100, 101], .bl false, .bl true, .bl true, .bl true, .int (2), .bl false], .tup [.str [119, 105, 100, 101], .bl false, .bl true, .bl true, .bl true, .int (2), .bl true], .tup [.str [119, 105, 100, 101], .bl true, .bl false, .bl false, .bl false, .int (0), .bl false], .tup [.str [119, 105, 100, 101], .bl true, .bl false, .bl false, .bl false, .int (0), .bl true], .tup [.str [119, 105, 100, 101], .bl true, .bl false, .bl false, .bl false, .int (1), .bl false], .tup [.str [119, 105, 100, 101], .bl true, .bl false, .bl false, .bl false, .int (1), .bl true], .tup [.str [119, 105, 100, 101], .bl true, .bl false, .bl false, .bl false, .int (2), .bl false], .tup [.str [119, 105, 100, 101], .bl true, .bl false, .bl false, .bl false, .int (2), .bl true], .tup [.str [119, 105, 100, 101], .bl true, .bl false, .bl false, .bl true, .int (0), .bl false], .tup [.str [119, 105, 100, 101], .bl true, .bl false, .bl false, .bl true, .int (0), .bl true], .tup [.str [119, 105, 100, 101], .bl true, .bl false, .bl false, .bl true, .int (1), .bl false], .tup [.str [119, 105, 100, 101], .bl true, .bl false, .bl false, .bl true, .int (1), .bl true], .tup [.str [119, 105, 100, 101], .bl true, .bl false, .bl false, .bl true, .int (2), .bl false], .tup [.str [119, 105, 100, 101], .bl true, .bl false, .bl false, .bl true, .int (2), .bl true], .tup [.str [119, 105, 100, 101], .bl true, .bl false, .bl true, .bl false, .int (0), .bl false], .tup [.str [119, 105, 100, 101], .bl true, .bl false, .bl true, .bl false, .int (0), .bl true], .tup [.str [119, 105, 100, 101], .bl true, .bl false, .bl true, .bl false, .int (1), .bl false], .tup [.str [119, 105, 100, 101], .bl true, .bl false, .bl true, .bl false, .int (1), .bl true], .tup [.str [119, 105, 100, 101], .bl true, .bl false, .bl true, .bl false, .int (2), .bl false], .tup [.str [119, 105, 100, 101], .bl true, .bl false, .bl true, .bl false, .int (2), .bl true], .tup [.str [119, 105, 100, 101], .bl true, .bl false, .bl true, .bl true, .int (0), .bl false], .tup [.str [119, 105, 100, 101], .bl true, .bl false, .bl true, .bl true, .int (0), .bl true], .tup [.str [119, 105, 100, 101], .bl true, .bl false, .bl true, .bl true, .int (1), .bl false], .tup [.str [119, 105, 100, 101], .bl true, .bl false, .bl true, .bl true, .int (1), .bl true], .tup [.str [119, 105, 100, 101], .bl true, .bl false, .bl true, .bl true, .int (2), .bl false], .tup [.str [119, 105, 100, 101], .bl true, .bl false, .bl true, .bl true, .int (2), .bl true], .tup [.str [119, 105, 100, 101], .bl true, .bl true, .bl false, .bl false, .int (0), .bl false], .tup [.str [119, 105, 100, 101], .bl true, .bl true, .bl false, .bl false, .int (0), .bl true], .tup [.str [119, 105, 100, 101], .bl true, .bl true, .bl false, .bl false, .int (1), .bl false], .tup [.str [119, 105, 100, 101], .bl true, .bl true, .bl false, .bl false, .int (1), .bl true], .tup [.str [119, 105, 100, 101], .bl true, .bl true, .bl false, .bl false, .int (2), .bl false], .tup [.str [119, 105, 100, 101], .bl true, .bl true, .bl false, .bl false, .int (2), .bl true], .tup [.str [119, 105, 100, 101], .bl true, .bl true, .bl false, .bl true, .int (0), .bl false], .tup [.str [119, 105, 100, 101], .bl true, .bl true, .bl false, .bl true, .int (0), .bl true], .tup [.str [119, 105, 100, 101], .bl true, .bl true, .bl false, .bl true, .int (1), .bl false], .tup [.str [119, 105, 100, 101], .bl true, .bl true, .bl false, .bl true, .int (1), .bl true], .tup [.str [119, 105, 100, 101], .bl true, .bl true, .bl false, .bl true, .int (2), .bl false], .tup [.str [119, 105, 100, 101], .bl true, .bl true, .bl false, .bl true, .int (2), .bl true], .tup [.str [119, 105, 100, 101], .bl true, .bl true, .bl true, .bl false, .int (0), .bl false], .tup [.str [119, 105, 100, 101], .bl true, .bl true, .bl true, .bl false, .int (0), .bl true], .tup [.str [119, 105, 100, 101], .bl true, .bl true, .bl true, .bl false, .int (1), .bl false], .tup [.str [119, 105, 100, 101], .bl true, .bl true, .bl true, .bl false, .int (1), .bl true], .tup [.str [119, 105, 100, 101], .bl true, .bl true, .bl true, .bl false, .int (2), .bl false], .tup [.str [119, 105, 100, 101], .bl true, .bl true, .bl true, .bl false, .int (2), .bl true], .tup [.str [119, 105, 100, 101], .bl true, .bl true, .bl true, .bl true, .int (0), .bl false], .tup [.str [119, 105, 100, 101], .bl true, .bl true, .bl true, .bl true, .int (0), .bl true], .tup [.str [119, 105, 100, 101], .bl true, .bl true, .bl true, .bl true, .int (1), .bl false], .tup [.str [119, 105, 100, 101], .bl true, .bl true, .bl true, .bl true, .int (1), .bl true], .tup [.str [119, 105, 100, 101], .bl true, .bl true, .bl true, .bl true, .int (2), .bl false], .tup [.str [119, 105, 100, 101], .bl true, .bl true, .bl true, .bl true, .int (2), .bl true]]
def c_TESTS : Dt := .tup [.str [98, 114, 111, 107, 101, 110], .str [109, 97, 114, 107, 101, 100], .str [108, 101, 102, 116], .str [97, 104, 101, 97, 100], .str [98, 101, 104, 105, 110, 100], .str [98, 108, 97, 110, 107], .str [108, 111, 110, 103], .str [102, 105, 114, 115, 116], .str [97, 102, 116, 101, 114, 98, 114, 111, 107, 101, 110], .str [97, 102, 116, 101, 114, 98, 101, 104, 105, 110, 100]]
def c_DEEDS : Dt := .tup [.str [98, 114, 101, 97, 107], .str [106, 111, 105, 110], .str [109, 97, 114, 107], .str [117, 110, 109, 97, 114, 107], .str [108, 105, 102, 116], .str [108, 111, 119, 101, 114], .str [115, 112, 97, 99, 101], .str [99, 108, 111, 115, 101]]
def c_NOT : Dt := .str [110, 111, 116, 32]
abbrev isC : List Nat := [11, 12]
/-! _law_forms -/
abbrev st_law_forms : Stmt := topS 33
theorem sc_law_forms : FnScope ["_law_found", "_law_code", "_law_at", "_law_rest", "_law_sizes", "_law_flags", "_law_left", "_law_size"] [] (defScope st_law_forms) := ⟨rfl, rfl, rfl, by decide +kernel, rfl, by decide +kernel, by decide +kernel⟩
noncomputable def m_law_forms : MS := (sSeq (sSet 0 (mLst mNil)) (sSeq (sFor (mRng (mCons (mC (.int 96)) mNil)) (gNm 1) (sSeq (sPar 5 6 (mCons (mLst mNil) (mCons (mCB cintD (mCons (mVar 1) mNil)) mNil))) (sSeq (sFor (mRng (mCons (mC (.int 5)) mNil)) (gNm 2) (sSeq (sExpr (mBM isL appendD (mVar 5) (mCons (mBin eqD (mBin modD (mVar 6) (mC (.int 2))) (mC (.int 1))) mNil))) (sSet 6 (mBin fdivD (mVar 6) (mC (.int 2)))))) (sSeq (sSet 3 (mTup (mCons (mBin ixD (mVar 5) (mC (.int 0))) (mCons (mBin ixD (mVar 5) (mC (.int 1))) (mCons (mBin ixD (mVar 5) (mC (.int 2))) (mCons (mBin ixD (mVar 5) (mC (.int 3))) (mCons (mVar 6) (mCons (mBin ixD (mVar 5) (mC (.int 4))) mNil)))))))) (sSeq (sSet 4 (mLstV (mCons (mC (.str [111, 118, 101, 114])) (mCons (mC (.str [101, 118, 101, 110])) (mCons (mC (.str [119, 105, 100, 101])) mNil))))) (sSeq (sIf (mOr (mB (mBin ixD (mVar 5) (mC (.int 2)))) (mB (mBin ixD (mVar 5) (mC (.int 3))))) (sSet 4 (mBin addD (mVar 4) (mLstV (mCons (mC (.str [116, 105, 103, 104, 116])) (mCons (mC (.str [106, 117, 115, 116])) mNil))))) sNx) (sExpr (mBM isL extendD (mVar 0) (mCons (mLcV (mIt (mVar 4)) (gNm 7) mYes (mBin addD (mTup (mCons (mVar 7) mNil)) (mVar 3)) [7]) mNil))))))))) (sRet (mVar 0))))
noncomputable def F_law_forms : MF := pt (runF 8 m_law_forms)
theorem run_law_forms (st : Sto) : F_law_forms [] st = puR st (outF (m_law_forms [none, none, none, none, none, none, none, none] [])) := pt_run st rfl rfl
theorem ok_law_forms {f : Addr} {fd : FuncData} (F : Fun K "_law_forms" "_law_forms" st_law_forms f fd) (b_range : mg "range" = none) (b_int : mg "int" = none) : FnOk P w K mg base (L2.CX P w) 1 f fd [] (spF K B 0 F_law_forms) := fn_pt (fn_ok (k := 0) F sc_law_forms fun cdv A outer s H E rs hr => (iss_cons (is_set 0 sc_law_forms.nd (ie_lst ia_nil)) (iss_cons (is_for (passes_of rfl) rfl (ii_range (by rfl) b_range (ia_cons ie_int ia_nil)) (ig_name 1 sc_law_forms.nd) (iss_cons (is_par 5 6 rfl sc_law_forms.nd (ia_cons (ie_lst ia_nil) (ia_cons (ie_callTy call_int1 snd_int (by rfl) b_int (by decide +kernel) (ia_cons (ie_var 1) ia_nil)) ia_nil))) (iss_cons (is_for (passes_of rfl) rfl (ii_range (by rfl) b_range (ia_cons ie_int ia_nil)) (ig_name 2 sc_law_forms.nd) (iss_cons (is_expr (ie_bm PySem.F.plainAttrs_list PySem.F.slot_list_append PySem.F.type_list_append mt_append chk_list snd_append (ie_var 5) (ia_cons (ie_cmp (op_eqA hr.units) snd_eq (ie_bin op_mod snd_mod (ie_var 6) ie_int) ie_int (nomark _)) ia_nil))) (iss_one (is_set 6 sc_law_forms.nd (ie_bin op_fdiv snd_fdiv (ie_var 6) ie_int))))) (iss_cons (is_set 3 sc_law_forms.nd (ie_tup (ia_cons (ie_ix ix_seq snd_ix (ie_var 5) ie_int) (ia_cons (ie_ix ix_seq snd_ix (ie_var 5) ie_int) (ia_cons (ie_ix ix_seq snd_ix (ie_var 5) ie_int) (ia_cons (ie_ix ix_seq snd_ix (ie_var 5) ie_int) (ia_cons (ie_var 6) (ia_cons (ie_ix ix_seq snd_ix (ie_var 5) ie_int) ia_nil)))))))) (iss_cons (is_set 4 sc_law_forms.nd (ie_lstV (ia_cons (ie_str (by decide +kernel)) (ia_cons (ie_str (by decide +kernel)) (ia_cons (ie_str (by decide +kernel)) ia_nil))))) (iss_cons (is_if (it_w (iw_or (it_val (ie_ix ix_seq snd_ix (ie_var 5) ie_int)) (iw_or1 (it_val (ie_ix ix_seq snd_ix (ie_var 5) ie_int))))) (iss_one (is_set 4 sc_law_forms.nd (ie_bin op_addD snd_add (ie_var 4) (ie_lstV (ia_cons (ie_str (by decide +kernel)) (ia_cons (ie_str (by decide +kernel)) ia_nil)))))) iss_nil) (iss_one (is_expr (ie_bm PySem.F.plainAttrs_list PySem.F.slot_list_extend PySem.F.type_list_extend mt_extend chk_list snd_extend (ie_var 0) (ia_cons (ie_lcV rfl sc_law_forms.nd [7] (own := [("_law_size", 7)]) rfl (gok_name 7) (ii_any (ie_var 4)) (blkOk_by (N := ["_law_found", "_law_code", "_law_at", "_law_rest", "_law_sizes", "_law_flags", "_law_left", "_law_size"]) (sc := defScope st_law_forms) (by decide +kernel)) (fun _ _ _ _ _ => pg_name (i := 7) sc_law_forms.nd rfl (by first | exact Or.inl rfl | exact Or.inr rfl)) (fun _ _ _ _ _ rs => its_nil) (fun _ _ _ _ _ rs => (ie_bin op_addD snd_add (ie_tup (ia_cons (ie_var 7) ia_nil)) (ie_var 3)))) ia_nil)))))))))) (iss_one (is_ret (ie_var 0))))))
/-! _law_box -/
abbrev st_law_box : Stmt := topS 26
theorem sc_law_box : FnScope ["_law_script", "_law_k", "_law_own", "_law_cell", "_law_seed"] ["_law_script", "_law_k", "_law_own"] (defScope st_law_box) := ⟨rfl, rfl, rfl, by decide +kernel, rfl, by decide +kernel, by decide +kernel⟩
noncomputable def m_law_box : MS := (sSeq (sSet 3 (mBin addD (mBin addD (mBin mulD (mC (.int 7727)) (mVar 1)) (mBin mulD (mC (.int 104729)) (mVar 2))) (mC (.int 43)))) (sSeq (sIf (mB (mBin ltD (mVar 1) (mCB lenD (mCons (mVar 0) mNil)))) (sSet 3 (mCB absD (mCons (mBin ixD (mVar 0) (mVar 1)) mNil))) (sIf (mB (mBin gtD (mCB lenD (mCons (mVar 0) mNil)) (mC (.int 0)))) (sSet 3 (mBin addD (mVar 3) (mBin mulD (mBin modD (mCB cintD (mCons (mCB absD (mCons (mBin ixD (mVar 0) (mBin modD (mCB cintD (mCons (mVar 1) mNil)) (mCB lenD (mCons (mVar 0) mNil)))) mNil)) mNil)) (mC (.int 2147483629))) (mC (.int 69623))))) sNx)) (sSeq (sSet 4 (mBin addD (mBin modD (mCB cintD (mCons (mBin addD (mBin mulD (mBin modD (mCB cintD (mCons (mVar 3) mNil)) (mC (.int 2147483629))) (mC (.int 48271))) (mBin mulD (mC (.int 40692)) (mBin addD (mVar 1) (mBin mulD (mC (.int 11)) (mVar 2))))) mNil)) (mC (.int 2147483629))) (mC (.int 1)))) (sRet (mLst (mCons (mBin ixD (mLst (mCons (mC (.int 0)) (mCons (mVar 3) mNil))) (mCB cintD (mCons (mBin geD (mVar 3) (mBin powD (mC (.int 10)) (mC (.int 18)))) mNil))) (mCons (mVar 4) (mCons (mC (.int 0)) mNil))))))))
noncomputable def F_law_box : MF := (runF 5 m_law_box)
theorem run_law_box (x0 x1 x2 : Dt) (st : Sto) : F_law_box [x0, x1, x2] st = outF (m_law_box [some x0, some x1, some x2, none, none] st) := runF_out 5 _ [x0, x1, x2] st
theorem ok_law_box {f : Addr} {fd : FuncData} (F : Fun K "_law_box" "_law_box" st_law_box f fd) (b_len : mg "len" = none) (b_abs : mg "abs" = none) (b_int : mg "int" = none) : FnOk P w K mg base (L2.CX P w) 1 f fd ["_law_script", "_law_k", "_law_own"] (spF K B 3 F_law_box) := fn_ok (k := 0) F sc_law_box fun cdv A outer s H E rs hr => (iss_cons (is_set 3 sc_law_box.nd (ie_bin op_addD snd_add (ie_bin op_addD snd_add (ie_bin op_mulD snd_mul ie_int (ie_var 1)) (ie_bin op_mulD snd_mul ie_int (ie_var 2))) ie_int)) (iss_cons (is_if (it_cmp op_lt snd_lt (ie_var 1) (ie_callB call_lenA snd_len (by rfl) b_len PySem.boot_len (ia_cons (ie_var 0) ia_nil)) (nomark _)) (iss_one (is_set 3 sc_law_box.nd (ie_callB call_abs snd_abs (by rfl) b_abs (by decide +kernel) (ia_cons (ie_ix ix_seq snd_ix (ie_var 0) (ie_var 1)) ia_nil)))) (iss_one (is_if (it_cmp op_gt snd_gt (ie_callB call_lenA snd_len (by rfl) b_len PySem.boot_len (ia_cons (ie_var 0) ia_nil)) ie_int (nomark _)) (iss_one (is_set 3 sc_law_box.nd (ie_bin op_addD snd_add (ie_var 3) (ie_bin op_mulD snd_mul (ie_bin op_mod snd_mod (ie_callTy call_int1 snd_int (by rfl) b_int (by decide +kernel) (ia_cons (ie_callB call_abs snd_abs (by rfl) b_abs (by decide +kernel) (ia_cons (ie_ix ix_seq snd_ix (ie_var 0) (ie_bin op_mod snd_mod (ie_callTy call_int1 snd_int (by rfl) b_int (by decide +kernel) (ia_cons (ie_var 1) ia_nil)) (ie_callB call_lenA snd_len (by rfl) b_len PySem.boot_len (ia_cons (ie_var 0) ia_nil)))) ia_nil)) ia_nil)) ie_int) ie_int)))) iss_nil))) (iss_cons (is_set 4 sc_law_box.nd (ie_bin op_addD snd_add (ie_bin op_mod snd_mod (ie_callTy call_int1 snd_int (by rfl) b_int (by decide +kernel) (ia_cons (ie_bin op_addD snd_add (ie_bin op_mulD snd_mul (ie_bin op_mod snd_mod (ie_callTy call_int1 snd_int (by rfl) b_int (by decide +kernel) (ia_cons (ie_var 3) ia_nil)) ie_int) ie_int) (ie_bin op_mulD snd_mul ie_int (ie_bin op_addD snd_add (ie_var 1) (ie_bin op_mulD snd_mul ie_int (ie_var 2))))) ia_nil)) ie_int) ie_int)) (iss_one (is_ret (ie_lst (ia_cons (ie_ix ix_seq snd_ix (ie_lst (ia_cons ie_int (ia_cons (ie_var 3) ia_nil))) (ie_callTy call_int1 snd_int (by rfl) b_int (by decide +kernel) (ia_cons (ie_cmp op_ge snd_ge (ie_var 3) (ie_bin op_pow snd_pow ie_int ie_int) (nomark _)) ia_nil))) (ia_cons (ie_var 4) (ia_cons ie_int ia_nil)))))))))
/-! _law_take -/
abbrev st_law_take : Stmt := topS 27
theorem sc_law_take : FnScope ["_law_box_here", "_law_many", "_law_raw", "_law_wide", "_law_digit"] ["_law_box_here", "_law_many"] (defScope st_law_take) := ⟨rfl, rfl, rfl, by decide +kernel, rfl, by decide +kernel, by decide +kernel⟩
noncomputable def m_law_take : MS := (sSeq (sIf (mB (mBin gtD (mBin ixD (mVar 0) (mC (.int 0))) (mC (.int 0)))) (sSeq (sSet 4 (mBin modD (mCB cintD (mCons (mBin ixD (mVar 0) (mC (.int 0))) mNil)) (mVar 1))) (sSeq (sAsg (mBin fdivD (mBin ixD (mVar 0) (mC (.int 0))) (mVar 1)) (gSubL (mVar 0) (mC (.int 0)))) (sRet (mVar 4)))) sNx) (sSeq (sAsg (mBin addD (mBin ixD (mVar 0) (mC (.int 2))) (mC (.int 1))) (gSubL (mVar 0) (mC (.int 2)))) (sSeq (sSet 2 (mBin modD (mCB cintD (mCons (mBin mulD (mBin addD (mBin ixD (mVar 0) (mC (.int 1))) (mBin mulD (mC (.int 104729)) (mBin ixD (mVar 0) (mC (.int 2))))) (mC (.int 69623))) mNil)) (mC (.int 2147483647)))) (sSeq (sAsg (mBin addD (mBin modD (mCB cintD (mCons (mBin addD (mBin mulD (mVar 2) (mC (.int 48271))) (mC (.int 30103))) mNil)) (mC (.int 2147483629))) (mC (.int 1))) (gSubL (mVar 0) (mC (.int 1)))) (sSeq (sIf (mB (mBin ltD (mVar 1) (mBin powD (mC (.int 2)) (mC (.int 40))))) (sRet (mBin modD (mCB cintD (mCons (mBin fdivD (mBin addD (mBin mulD (mVar 2) (mC (.int 2147483647))) (mBin ixD (mVar 0) (mC (.int 1)))) (mC (.int 8191))) mNil)) (mVar 1))) sNx) (sSeq (sSet 3 (mBin mulD (mBin addD (mBin mulD (mVar 2) (mC (.int 2147483647))) (mBin ixD (mVar 0) (mC (.int 1)))) (mBin powD (mC (.int 2147483629)) (mC (.int 3))))) (sRet (mBin modD (mCB cintD (mCons (mBin addD (mBin addD (mVar 3) (mBin mulD (mBin powD (mBin ixD (mVar 0) (mC (.int 1))) (mC (.int 3))) (mC (.int 8191)))) (mVar 2)) mNil)) (mVar 1)))))))))
noncomputable def F_law_take : MF := pt (runF 5 m_law_take)
theorem run_law_take (x0 x1 : Dt) (st : Sto) (h : clL 0 [x0, x1] = true) : F_law_take [x0, x1] st = puR st (outF (m_law_take [some x0, some x1, none, none, none] [])) := (if_pos h).trans (congrArg (puR st) (runF_out 5 _ [x0, x1] []))
theorem runT_law_take (x0 x1 : Dt) (st : Sto) (h : clL 0 [x0, x1] = false) : F_law_take [x0, x1] st = trR st (outF (m_law_take [some x0, some x1, none, none, none] st)) := (if_neg (by rw [h]; decide)).trans (congrArg (trR st) (runF_out 5 _ [x0, x1] st))
theorem ok_law_take {f : Addr} {fd : FuncData} (F : Fun K "_law_take" "_law_take" st_law_take f fd) (b_int : mg "int" = none) : FnOk P w K mg base (L2.CX P w) 1 f fd ["_law_box_here", "_law_many"] (spF K B 2 F_law_take) := fn_pt (fn_ok (k := 0) F sc_law_take fun cdv A outer s H E rs hr => (iss_cons (is_if (it_cmp op_gt snd_gt (ie_ix ix_seq snd_ix (ie_var 0) ie_int) ie_int (nomark _)) (iss_cons (is_set 4 sc_law_take.nd (ie_bin op_mod snd_mod (ie_callTy call_int1 snd_int (by rfl) b_int (by decide +kernel) (ia_cons (ie_ix ix_seq snd_ix (ie_var 0) ie_int) ia_nil)) (ie_var 1))) (iss_cons (is_asg (ie_bin op_fdiv snd_fdiv (ie_ix ix_seq snd_ix (ie_var 0) ie_int) (ie_var 1)) (ig_sub (ie_var 0) ie_int) (gSubL_no _ _)) (iss_one (is_ret (ie_var 4))))) iss_nil) (iss_cons (is_asg (ie_bin op_addD snd_add (ie_ix ix_seq snd_ix (ie_var 0) ie_int) ie_int) (ig_sub (ie_var 0) ie_int) (gSubL_no _ _)) (iss_cons (is_set 2 sc_law_take.nd (ie_bin op_mod snd_mod (ie_callTy call_int1 snd_int (by rfl) b_int (by decide +kernel) (ia_cons (ie_bin op_mulD snd_mul (ie_bin op_addD snd_add (ie_ix ix_seq snd_ix (ie_var 0) ie_int) (ie_bin op_mulD snd_mul ie_int (ie_ix ix_seq snd_ix (ie_var 0) ie_int))) ie_int) ia_nil)) ie_int)) (iss_cons (is_asg (ie_bin op_addD snd_add (ie_bin op_mod snd_mod (ie_callTy call_int1 snd_int (by rfl) b_int (by decide +kernel) (ia_cons (ie_bin op_addD snd_add (ie_bin op_mulD snd_mul (ie_var 2) ie_int) ie_int) ia_nil)) ie_int) ie_int) (ig_sub (ie_var 0) ie_int) (gSubL_no _ _)) (iss_cons (is_if (it_cmp op_lt snd_lt (ie_var 1) (ie_bin op_pow snd_pow ie_int ie_int) (nomark _)) (iss_one (is_ret (ie_bin op_mod snd_mod (ie_callTy call_int1 snd_int (by rfl) b_int (by decide +kernel) (ia_cons (ie_bin op_fdiv snd_fdiv (ie_bin op_addD snd_add (ie_bin op_mulD snd_mul (ie_var 2) ie_int) (ie_ix ix_seq snd_ix (ie_var 0) ie_int)) ie_int) ia_nil)) (ie_var 1)))) iss_nil) (iss_cons (is_set 3 sc_law_take.nd (ie_bin op_mulD snd_mul (ie_bin op_addD snd_add (ie_bin op_mulD snd_mul (ie_var 2) ie_int) (ie_ix ix_seq snd_ix (ie_var 0) ie_int)) (ie_bin op_pow snd_pow ie_int ie_int))) (iss_one (is_ret (ie_bin op_mod snd_mod (ie_callTy call_int1 snd_int (by rfl) b_int (by decide +kernel) (ia_cons (ie_bin op_addD snd_add (ie_bin op_addD snd_add (ie_var 3) (ie_bin op_mulD snd_mul (ie_bin op_pow snd_pow (ie_ix ix_seq snd_ix (ie_var 0) ie_int) ie_int) ie_int)) (ie_var 2)) ia_nil)) (ie_var 1)))))))))))
/-! _law_pick -/
abbrev st_law_pick : Stmt := topS 28
theorem sc_law_pick : FnScope ["_law_box_here", "_law_items"] ["_law_box_here", "_law_items"] (defScope st_law_pick) := ⟨rfl, rfl, rfl, by decide +kernel, rfl, by decide +kernel, by decide +kernel⟩
noncomputable def m_law_pick : MS := (sRet (mBin ixD (mVar 1) (mCall 2 F_law_take (mCons (mVar 0) (mCons (mCB lenD (mCons (mVar 1) mNil)) mNil)) [])))
noncomputable def F_law_pick : MF := pt (runF 2 m_law_pick)
theorem run_law_pick (x0 x1 : Dt) (st : Sto) (h : clL 0 [x0, x1] = true) : F_law_pick [x0, x1] st = puR st (outF (m_law_pick [some x0, some x1] [])) := (if_pos h).trans (congrArg (puR st) (runF_out 2 _ [x0, x1] []))
theorem runT_law_pick (x0 x1 : Dt) (st : Sto) (h : clL 0 [x0, x1] = false) : F_law_pick [x0, x1] st = trR st (outF (m_law_pick [some x0, some x1] st)) := (if_neg (by rw [h]; decide)).trans (congrArg (trR st) (runF_out 2 _ [x0, x1] st))
theorem ok_law_pick {f : Addr} {fd : FuncData} (F : Fun K "_law_pick" "_law_pick" st_law_pick f fd) (b_len : mg "len" = none) (D_law_take : DefOk P w K mg base B "_law_take" 1 2 F_law_take []) : FnOk P w K mg base (L2.CX P w) 2 f fd ["_law_box_here", "_law_items"] (spF K B 2 F_law_pick) := fn_pt (fn_ok (k := 1) F sc_law_pick fun cdv A outer s H E rs hr => (iss_one (is_ret (ie_ix ix_seq snd_ix (ie_var 1) (ie_callD D_law_take (hr.mono (by decide)) (takes_of rfl rfl rfl rfl) (ia_cons (ie_var 0) (ia_cons (ie_callB call_lenA snd_len (by rfl) b_len PySem.boot_len (ia_cons (ie_var 1) ia_nil)) ia_nil)))))))
/-! _law_test -/
abbrev st_law_test : Stmt := topS 29
theorem sc_law_test : FnScope ["_law_box_here", "_law_some", "_law_test_here"] ["_law_box_here"] (defScope st_law_test) := ⟨rfl, rfl, rfl, by decide +kernel, rfl, by decide +kernel, by decide +kernel⟩
noncomputable def m_law_test : MS := (sSeq (sSet 1 (mLstV (mCons (mC (.str [98, 114, 111, 107, 101, 110])) (mCons (mC (.str [109, 97, 114, 107, 101, 100])) (mCons (mC (.str [108, 101, 102, 116])) (mCons (mC (.str [97, 104, 101, 97, 100])) (mCons (mC (.str [98, 101, 104, 105, 110, 100])) (mCons (mC (.str [98, 108, 97, 110, 107])) (mCons (mC (.str [108, 111, 110, 103])) (mCons (mC (.str [102, 105, 114, 115, 116])) (mCons (mC (.str [97, 102, 116, 101, 114, 98, 114, 111, 107, 101, 110])) (mCons (mC (.str [97, 102, 116, 101, 114, 98, 101, 104, 105, 110, 100])) mNil)))))))))))) (sSeq (sSet 2 (mCall 2 F_law_pick (mCons (mVar 0) (mCons (mBin addD (mVar 1) (mLstV (mCons (mC (.str [108, 111, 110, 103])) (mCons (mC (.str [108, 111, 110, 103])) (mCons (mC (.str [109, 97, 114, 107, 101, 100])) mNil))))) mNil)) [])) (sRet (mIf (mB (mBin eqD (mCall 2 F_law_take (mCons (mVar 0) (mCons (mC (.int 3)) mNil)) []) (mC (.int 0)))) (mBin addD (mC (.str [110, 111, 116, 32])) (mVar 2)) (mVar 2)))))
noncomputable def F_law_test : MF := pt (runF 3 m_law_test)
theorem run_law_test (x0 : Dt) (st : Sto) (h : clL 0 [x0] = true) : F_law_test [x0] st = puR st (outF (m_law_test [some x0, none, none] [])) := (if_pos h).trans (congrArg (puR st) (runF_out 3 _ [x0] []))
theorem runT_law_test (x0 : Dt) (st : Sto) (h : clL 0 [x0] = false) : F_law_test [x0] st = trR st (outF (m_law_test [some x0, none, none] st)) := (if_neg (by rw [h]; decide)).trans (congrArg (trR st) (runF_out 3 _ [x0] st))
theorem ok_law_test {f : Addr} {fd : FuncData} (F : Fun K "_law_test" "_law_test" st_law_test f fd) (D_law_pick : DefOk P w K mg base B "_law_pick" 2 2 F_law_pick []) (D_law_take : DefOk P w K mg base B "_law_take" 1 2 F_law_take []) : FnOk P w K mg base (L2.CX P w) 3 f fd ["_law_box_here"] (spF K B 1 F_law_test) := fn_pt (fn_ok (k := 2) F sc_law_test fun cdv A outer s H E rs hr => (iss_cons (is_set 1 sc_law_test.nd (ie_lstV (ia_cons (ie_str (by decide +kernel)) (ia_cons (ie_str (by decide +kernel)) (ia_cons (ie_str (by decide +kernel)) (ia_cons (ie_str (by decide +kernel)) (ia_cons (ie_str (by decide +kernel)) (ia_cons (ie_str (by decide +kernel)) (ia_cons (ie_str (by decide +kernel)) (ia_cons (ie_str (by decide +kernel)) (ia_cons (ie_str (by decide +kernel)) (ia_cons (ie_str (by decide +kernel)) ia_nil)))))))))))) (iss_cons (is_set 2 sc_law_test.nd (ie_callD D_law_pick (hr.mono (by decide)) (takes_of rfl rfl rfl rfl) (ia_cons (ie_var 0) (ia_cons (ie_bin op_addD snd_add (ie_var 1) (ie_lstV (ia_cons (ie_str (by decide +kernel)) (ia_cons (ie_str (by decide +kernel)) (ia_cons (ie_str (by decide +kernel)) ia_nil))))) ia_nil)))) (iss_one (is_ret (ie_if (it_cmp (op_eqA hr.units) snd_eq (ie_callD D_law_take (hr.mono (by decide)) (takes_of rfl rfl rfl rfl) (ia_cons (ie_var 0) (ia_cons ie_int ia_nil))) ie_int (nomark _)) (ie_bin op_addD snd_add (ie_str (by decide +kernel)) (ie_var 2)) (ie_var 2)))))))
/-! _law_row -/
abbrev st_law_row : Stmt := topS 30
theorem sc_law_row : FnScope ["_law_box_here", "_law_deeds", "_law_tests", "_law_turn"] ["_law_box_here"] (defScope st_law_row) := ⟨rfl, rfl, rfl, by decide +kernel, rfl, by decide +kernel, by decide +kernel⟩
noncomputable def m_law_row : MS := (sSeq (sSet 1 (mLstV (mCons (mC (.str [98, 114, 101, 97, 107])) (mCons (mC (.str [106, 111, 105, 110])) (mCons (mC (.str [109, 97, 114, 107])) (mCons (mC (.str [117, 110, 109, 97, 114, 107])) (mCons (mC (.str [108, 105, 102, 116])) (mCons (mC (.str [108, 111, 119, 101, 114])) (mCons (mC (.str [115, 112, 97, 99, 101])) (mCons (mC (.str [99, 108, 111, 115, 101])) mNil)))))))))) (sSeq (sSet 2 (mLcV (mRng (mCons (mCall 2 F_law_take (mCons (mVar 0) (mCons (mC (.int 3)) mNil)) []) mNil)) (gNm 3) mYes (mCall 1 F_law_test (mCons (mVar 0) mNil) []) [3])) (sRet (mTup (mCons (mCB tupleD (mCons (mVar 2) mNil)) (mCons (mCB tupleD (mCons (mLcV (mRng (mCons (mBin addD (mC (.int 1)) (mCall 2 F_law_take (mCons (mVar 0) (mCons (mC (.int 2)) mNil)) [])) mNil)) (gNm 3) mYes (mCall 2 F_law_pick (mCons (mVar 0) (mCons (mVar 1) mNil)) []) [3]) mNil)) mNil))))))
noncomputable def F_law_row : MF := pt (runF 4 m_law_row)
theorem run_law_row (x0 : Dt) (st : Sto) (h : clL 0 [x0] = true) : F_law_row [x0] st = puR st (outF (m_law_row [some x0, none, none, none] [])) := (if_pos h).trans (congrArg (puR st) (runF_out 4 _ [x0] []))
theorem runT_law_row (x0 : Dt) (st : Sto) (h : clL 0 [x0] = false) : F_law_row [x0] st = trR st (outF (m_law_row [some x0, none, none, none] st)) := (if_neg (by rw [h]; decide)).trans (congrArg (trR st) (runF_out 4 _ [x0] st))
theorem ok_law_row {f : Addr} {fd : FuncData} (F : Fun K "_law_row" "_law_row" st_law_row f fd) (D_law_take : DefOk P w K mg base B "_law_take" 1 2 F_law_take []) (b_range : mg "range" = none) (D_law_test : DefOk P w K mg base B "_law_test" 3 1 F_law_test []) (D_law_pick : DefOk P w K mg base B "_law_pick" 2 2 F_law_pick []) (b_tuple : mg "tuple" = none) : FnOk P w K mg base (L2.CX P w) 4 f fd ["_law_box_here"] (spF K B 1 F_law_row) := fn_pt (fn_ok (k := 3) F sc_law_row fun cdv A outer s H E rs hr => (iss_cons (is_set 1 sc_law_row.nd (ie_lstV (ia_cons (ie_str (by decide +kernel)) (ia_cons (ie_str (by decide +kernel)) (ia_cons (ie_str (by decide +kernel)) (ia_cons (ie_str (by decide +kernel)) (ia_cons (ie_str (by decide +kernel)) (ia_cons (ie_str (by decide +kernel)) (ia_cons (ie_str (by decide +kernel)) (ia_cons (ie_str (by decide +kernel)) ia_nil)))))))))) (iss_cons (is_setLcV 2 rfl sc_law_row.nd [3] (own := [("_law_turn", 3)]) rfl (gok_name 3) (ii_range (by rfl) b_range (ia_cons (ie_callD D_law_take (hr.mono (by decide)) (takes_of rfl rfl rfl rfl) (ia_cons (ie_var 0) (ia_cons ie_int ia_nil))) ia_nil)) (blkOk_by (N := ["_law_box_here", "_law_deeds", "_law_tests", "_law_turn"]) (sc := defScope st_law_row) (by decide +kernel)) (fun _ _ _ _ _ => pg_name (i := 3) sc_law_row.nd rfl (by first | exact Or.inl rfl | exact Or.inr rfl)) (fun _ _ _ _ _ rs => its_nil) (fun _ _ _ _ _ rs => (ie_callD D_law_test (hr.mono (by decide)) takes0 (ia_cons (ie_var 0) ia_nil)))) (iss_one (is_ret (ie_tup (ia_cons (ie_callTy call_tuple_of snd_tuple (by rfl) b_tuple (by decide +kernel) (ia_cons (ie_var 2) ia_nil)) (ia_cons (ie_callTy call_tuple_of snd_tuple (by rfl) b_tuple (by decide +kernel) (ia_cons (ie_lcV rfl sc_law_row.nd [3] (own := [("_law_turn", 3)]) rfl (gok_name 3) (ii_range (by rfl) b_range (ia_cons (ie_bin op_addD snd_add ie_int (ie_callD D_law_take (hr.mono (by decide)) (takes_of rfl rfl rfl rfl) (ia_cons (ie_var 0) (ia_cons ie_int ia_nil)))) ia_nil)) (blkOk_by (N := ["_law_box_here", "_law_deeds", "_law_tests", "_law_turn"]) (sc := defScope st_law_row) (by decide +kernel)) (fun _ _ _ _ _ => pg_name (i := 3) sc_law_row.nd rfl (by first | exact Or.inl rfl | exact Or.inr rfl)) (fun _ _ _ _ _ rs => its_nil) (fun _ _ _ _ _ rs => (ie_callD D_law_pick (hr.mono (by decide)) takes0 (ia_cons (ie_var 0) (ia_cons (ie_var 1) ia_nil))))) ia_nil)) ia_nil))))))))
/-! _law_tool -/
abbrev st_law_tool : Stmt := topS 31
theorem sc_law_tool : FnScope ["_law_box_here", "_law_usual", "_law_rows", "_law_turn"] ["_law_box_here"] (defScope st_law_tool) := ⟨rfl, rfl, rfl, by decide +kernel, rfl, by decide +kernel, by decide +kernel⟩
noncomputable def m_law_tool : MS := (sSeq (sSet 1 (mLst (mCons (mTup (mCons (mTup (mCons (mC (.str [108, 111, 110, 103])) mNil)) (mCons (mTup (mCons (mC (.str [98, 114, 101, 97, 107])) (mCons (mC (.str [109, 97, 114, 107])) mNil))) mNil))) (mCons (mTup (mCons (mTup (mCons (mC (.str [109, 97, 114, 107, 101, 100])) mNil)) (mCons (mTup (mCons (mC (.str [98, 114, 101, 97, 107])) mNil)) mNil))) (mCons (mTup (mCons (mTup (mCons (mC (.str [110, 111, 116, 32, 108, 111, 110, 103])) (mCons (mC (.str [110, 111, 116, 32, 109, 97, 114, 107, 101, 100])) mNil))) (mCons (mTup (mCons (mC (.str [106, 111, 105, 110])) mNil)) mNil))) mNil))))) (sSeq (sSet 1 (mBin addTD (mVar 1) (mLstV (mCons (mTup (mCons (mTup (mCons (mC (.str [108, 111, 110, 103])) (mCons (mC (.str [98, 101, 104, 105, 110, 100])) mNil))) (mCons (mTup (mCons (mC (.str [108, 105, 102, 116])) mNil)) mNil))) (mCons (mTup (mCons (mTup (mCons (mC (.str [110, 111, 116, 32, 108, 111, 110, 103])) (mCons (mC (.str [97, 104, 101, 97, 100])) mNil))) (mCons (mTup (mCons (mC (.str [108, 111, 119, 101, 114])) mNil)) mNil))) mNil))))) (sSeq (sExpr (mBM isL appendD (mVar 1) (mCons (mTup (mCons (mTup (mCons (mC (.str [97, 102, 116, 101, 114, 98, 114, 111, 107, 101, 110])) mNil)) (mCons (mTup (mCons (mC (.str [115, 112, 97, 99, 101])) mNil)) mNil))) mNil))) (sSeq (sSet 1 (mBin addTD (mVar 1) (mLstV (mCons (mTup (mCons (mTup (mCons (mC (.str [110, 111, 116, 32, 98, 114, 111, 107, 101, 110])) mNil)) (mCons (mTup (mCons (mC (.str [117, 110, 109, 97, 114, 107])) mNil)) mNil))) (mCons (mTup (mCons (mTup (mCons (mC (.str [98, 114, 111, 107, 101, 110])) mNil)) (mCons (mTup (mCons (mC (.str [109, 97, 114, 107])) mNil)) mNil))) (mCons (mTup (mCons (mTup (mCons (mC (.str [98, 108, 97, 110, 107])) mNil)) (mCons (mTup (mCons (mC (.str [99, 108, 111, 115, 101])) mNil)) mNil))) mNil)))))) (sSeq (sSet 2 (mLst mNil)) (sSeq (sFor (mRng (mCons (mCall 2 F_law_take (mCons (mVar 0) (mCons (mC (.int 5)) mNil)) []) mNil)) (gNm 3) (sExpr (mBM isL appendD (mVar 2) (mCons (mIf (mB (mBin gtD (mCall 2 F_law_take (mCons (mVar 0) (mCons (mC (.int 3)) mNil)) []) (mC (.int 0)))) (mCall 2 F_law_pick (mCons (mVar 0) (mCons (mVar 1) mNil)) []) (mCall 1 F_law_row (mCons (mVar 0) mNil) [])) mNil)))) (sRet (mTup (mCons (mVar 2) (mCons (mBin eqD (mCall 2 F_law_take (mCons (mVar 0) (mCons (mC (.int 4)) mNil)) []) (mC (.int 0))) mNil))))))))))
noncomputable def F_law_tool : MF := pt (runF 4 m_law_tool)
theorem run_law_tool (x0 : Dt) (st : Sto) (h : clL 0 [x0] = true) : F_law_tool [x0] st = puR st (outF (m_law_tool [some x0, none, none, none] [])) := (if_pos h).trans (congrArg (puR st) (runF_out 4 _ [x0] []))
theorem runT_law_tool (x0 : Dt) (st : Sto) (h : clL 0 [x0] = false) : F_law_tool [x0] st = trR st (outF (m_law_tool [some x0, none, none, none] st)) := (if_neg (by rw [h]; decide)).trans (congrArg (trR st) (runF_out 4 _ [x0] st))
theorem ok_law_tool {f : Addr} {fd : FuncData} (F : Fun K "_law_tool" "_law_tool" st_law_tool f fd) (D_law_take : DefOk P w K mg base B "_law_take" 1 2 F_law_take []) (b_range : mg "range" = none) (D_law_pick : DefOk P w K mg base B "_law_pick" 2 2 F_law_pick []) (D_law_row : DefOk P w K mg base B "_law_row" 4 1 F_law_row []) : FnOk P w K mg base (L2.CX P w) 5 f fd ["_law_box_here"] (spF K B 1 F_law_tool) := fn_pt (fn_ok (k := 4) F sc_law_tool fun cdv A outer s H E rs hr => (iss_cons (is_set 1 sc_law_tool.nd (ie_lst (ia_cons (ie_tup (ia_cons (ie_tup (ia_cons (ie_str (by decide +kernel)) ia_nil)) (ia_cons (ie_tup (ia_cons (ie_str (by decide +kernel)) (ia_cons (ie_str (by decide +kernel)) ia_nil))) ia_nil))) (ia_cons (ie_tup (ia_cons (ie_tup (ia_cons (ie_str (by decide +kernel)) ia_nil)) (ia_cons (ie_tup (ia_cons (ie_str (by decide +kernel)) ia_nil)) ia_nil))) (ia_cons (ie_tup (ia_cons (ie_tup (ia_cons (ie_str (by decide +kernel)) (ia_cons (ie_str (by decide +kernel)) ia_nil))) (ia_cons (ie_tup (ia_cons (ie_str (by decide +kernel)) ia_nil)) ia_nil))) ia_nil))))) (iss_cons (is_set 1 sc_law_tool.nd (ie_bin op_cat snd_addT (ie_var 1) (ie_lstV (ia_cons (ie_tup (ia_cons (ie_tup (ia_cons (ie_str (by decide +kernel)) (ia_cons (ie_str (by decide +kernel)) ia_nil))) (ia_cons (ie_tup (ia_cons (ie_str (by decide +kernel)) ia_nil)) ia_nil))) (ia_cons (ie_tup (ia_cons (ie_tup (ia_cons (ie_str (by decide +kernel)) (ia_cons (ie_str (by decide +kernel)) ia_nil))) (ia_cons (ie_tup (ia_cons (ie_str (by decide +kernel)) ia_nil)) ia_nil))) ia_nil))))) (iss_cons (is_expr (ie_bm PySem.F.plainAttrs_list PySem.F.slot_list_append PySem.F.type_list_append mt_append chk_list snd_append (ie_var 1) (ia_cons (ie_tup (ia_cons (ie_tup (ia_cons (ie_str (by decide +kernel)) ia_nil)) (ia_cons (ie_tup (ia_cons (ie_str (by decide +kernel)) ia_nil)) ia_nil))) ia_nil))) (iss_cons (is_set 1 sc_law_tool.nd (ie_bin op_cat snd_addT (ie_var 1) (ie_lstV (ia_cons (ie_tup (ia_cons (ie_tup (ia_cons (ie_str (by decide +kernel)) ia_nil)) (ia_cons (ie_tup (ia_cons (ie_str (by decide +kernel)) ia_nil)) ia_nil))) (ia_cons (ie_tup (ia_cons (ie_tup (ia_cons (ie_str (by decide +kernel)) ia_nil)) (ia_cons (ie_tup (ia_cons (ie_str (by decide +kernel)) ia_nil)) ia_nil))) (ia_cons (ie_tup (ia_cons (ie_tup (ia_cons (ie_str (by decide +kernel)) ia_nil)) (ia_cons (ie_tup (ia_cons (ie_str (by decide +kernel)) ia_nil)) ia_nil))) ia_nil)))))) (iss_cons (is_set 2 sc_law_tool.nd (ie_lst ia_nil)) (iss_cons (is_for (passes_of rfl) rfl (ii_range (by rfl) b_range (ia_cons (ie_callD D_law_take (hr.mono (by decide)) (takes_of rfl rfl rfl rfl) (ia_cons (ie_var 0) (ia_cons ie_int ia_nil))) ia_nil)) (ig_name 3 sc_law_tool.nd) (iss_one (is_expr (ie_bm PySem.F.plainAttrs_list PySem.F.slot_list_append PySem.F.type_list_append mt_append chk_list snd_append (ie_var 2) (ia_cons (ie_if (it_cmp op_gt snd_gt (ie_callD D_law_take (hr.mono (by decide)) (takes_of rfl rfl rfl rfl) (ia_cons (ie_var 0) (ia_cons ie_int ia_nil))) ie_int (nomark _)) (ie_callD D_law_pick (hr.mono (by decide)) (takes_of rfl rfl rfl rfl) (ia_cons (ie_var 0) (ia_cons (ie_var 1) ia_nil))) (ie_callD D_law_row (hr.mono (by decide)) (takes_of rfl rfl rfl rfl) (ia_cons (ie_var 0) ia_nil))) ia_nil))))) (iss_one (is_ret (ie_tup (ia_cons (ie_var 2) (ia_cons (ie_cmp (op_eqA hr.units) snd_eq (ie_callD D_law_take (hr.mono (by decide)) (takes_of rfl rfl rfl rfl) (ia_cons (ie_var 0) (ia_cons ie_int ia_nil))) ie_int (nomark _)) ia_nil))))))))))))
/-! is_sequence -/
abbrev st_is_sequence : Stmt := topS 18
theorem sc_is_sequence : FnScope ["value"] ["value"] (defScope st_is_sequence) := ⟨rfl, rfl, rfl, by decide +kernel, rfl, by decide +kernel, by decide +kernel⟩
noncomputable def m_is_sequence : MS := (sRet (mIsI (qB tSeqs isC) (mVar 0)))
noncomputable def F_is_sequence : MF := pt (runF 1 m_is_sequence)
theorem run_is_sequence (x0 : Dt) (st : Sto) (h : clL 0 [x0] = true) : F_is_sequence [x0] st = puR st (outF (m_is_sequence [some x0] [])) := (if_pos h).trans (congrArg (puR st) (runF_out 1 _ [x0] []))
theorem runT_is_sequence (x0 : Dt) (st : Sto) (h : clL 0 [x0] = false) : F_is_sequence [x0] st = trR st (outF (m_is_sequence [some x0] st)) := (if_neg (by rw [h]; decide)).trans (congrArg (trR st) (runF_out 1 _ [x0] st))
theorem ok_is_sequence {f : Addr} {fd : FuncData} (F : Fun K "is_sequence" "is_sequence" st_is_sequence f fd) (b_isinstance : mg "isinstance" = none) (I_seq : IsB K B [.type "list", .type "tuple"] isC) (b_list : mg "list" = none) (b_tuple : mg "tuple" = none) : FnOk P w K mg base (L2.CX P w) 1 f fd ["value"] (spF K B 1 F_is_sequence) := fn_pt (fn_ok (k := 0) F sc_is_sequence fun cdv A outer s H E rs hr => (iss_one (is_ret (ie_isB2 kitok_seq I_seq b_isinstance (pe_ty b_list) (pe_ty b_tuple) (ie_var 0)))))
/-! Tool.__init__ -/
abbrev st_ToolD_initD : Stmt := inClass (topS 24) 0
theorem sc_ToolD_initD : FnScope ["self", "rows", "sorts", "row"] ["self", "rows", "sorts"] (defScope st_ToolD_initD) := ⟨rfl, rfl, rfl, by decide +kernel, rfl, by decide +kernel, by decide +kernel⟩
noncomputable def m_ToolD_initD : MS := (sSeq (sIf (mOr (mNot (mB (mCall 1 F_is_sequence (mCons (mVar 1) mNil) []))) (mNot (mB (mCB allD (mCons (mLcV (mIt (mVar 1)) (gNm 3) mYes (mIsI (qO 11 isC) (mVar 3)) [3]) mNil))))) (sRaise 4 2 (mC (.str [114, 111, 119, 115]))) sNx) (sSeq (sIf (mNot (mB (mIsI (qB tBool isC) (mVar 2)))) (sRaise 4 2 (mC (.str [115, 111, 114, 116, 115]))) sNx) (sSeq (sFldSet [12] 5 (mVar 0) (mCB tupleD (mCons (mVar 1) mNil))) (sFldSet [12] 6 (mVar 0) (mVar 2)))))
noncomputable def F_ToolD_initD : MF := (runF 4 m_ToolD_initD)
theorem run_ToolD_initD (x0 x1 x2 : Dt) (st : Sto) : F_ToolD_initD [x0, x1, x2] st = outF (m_ToolD_initD [some x0, some x1, some x2, none] st) := runF_out 4 _ [x0, x1, x2] st
theorem ok_ToolD_initD {dvs : List V} {kws : List (Str × V)} {f : Addr} {fd : FuncData} (F : FunD K "__init__" "Tool.__init__" (defArgs st_ToolD_initD) (defBody st_ToolD_initD) (defScope st_ToolD_initD) dvs kws f fd) (D_is_sequence : DefOk P w K mg base B "is_sequence" 1 1 F_is_sequence []) (b_isinstance : mg "isinstance" = none) (O_Row : IsO K mg B "Row" 11 isC) (b_all : mg "all" = none) (E_InvalidRow : ErrOk P w K mg base B "InvalidRow" "part" 4 2 1) (I_bool : IsB K B [.type "bool"] isC) (b_bool : mg "bool" = none) (b_tuple : mg "tuple" = none) (Fl_rows : FldOk K B [12] 5 "rows") (Fl_sorts : FldOk K B [12] 6 "sorts") : FnOk P w K mg base (L2.CX P w) 3 f fd ["self", "rows", "sorts"] (spF K B 3 F_ToolD_initD) := fn_okD (k := 2) F sc_ToolD_initD fun cdv A outer s H E rs hr => (iss_cons (is_if (it_w (iw_or (it_not (it_val (ie_callD D_is_sequence (hr.mono (by decide)) (takes_of rfl rfl rfl rfl) (ia_cons (ie_var 1) ia_nil)))) (iw_or1 (it_not (it_val (ie_callB (cr_all rfl) snd_all (by rfl) b_all (by decide +kernel) (ia_cons (ie_lcV rfl sc_ToolD_initD.nd [3] (own := [("row", 3)]) rfl (gok_name 3) (ii_any (ie_var 1)) (blkOk_by (N := ["self", "rows", "sorts", "row"]) (sc := defScope st_ToolD_initD) (by decide +kernel)) (fun _ _ _ _ _ => pg_name (i := 3) sc_ToolD_initD.nd rfl (by first | exact Or.inl rfl | exact Or.inr rfl)) (fun _ _ _ _ _ rs => its_nil) (fun _ _ _ _ _ rs => (ie_isO O_Row b_isinstance (ie_var 3)))) ia_nil))))))) (iss_one (is_raiseD E_InvalidRow (hr.mono (by decide)) rfl (takes_of rfl rfl rfl rfl) (ie_str (by decide +kernel)))) iss_nil) (iss_cons (is_if (it_not (it_val (ie_isB kitok_bool I_bool b_isinstance (pe_ty b_bool) (ie_var 2)))) (iss_one (is_raiseD E_InvalidRow (hr.mono (by decide)) rfl (takes_of rfl rfl rfl rfl) (ie_str (by decide +kernel)))) iss_nil) (iss_cons (is_fldD Fl_rows (ie_var 0) (ie_callTy call_tuple_of snd_tuple (by rfl) b_tuple (by decide +kernel) (ia_cons (ie_var 1) ia_nil))) (iss_one (is_fldD Fl_sorts (ie_var 0) (ie_var 2))))))
/-! is_test -/
abbrev st_is_test : Stmt := topS 20
theorem sc_is_test : FnScope ["value"] ["value"] (defScope st_is_test) := ⟨rfl, rfl, rfl, by decide +kernel, rfl, by decide +kernel, by decide +kernel⟩
noncomputable def m_is_test : MS := (sSeq (sIf (mNot (mB (mIsI (qB tStr isC) (mVar 0)))) (sRet (mC (.bl false))) sNx) (sRet (mBin inD (mIf (mB (mBin eqD (mSl slD (mVar 0) mNoPart (mPart (mCB lenD (mCons (mC c_NOT) mNil)))) (mC c_NOT))) (mSl slD (mVar 0) (mPart (mCB lenD (mCons (mC c_NOT) mNil))) mNoPart) (mVar 0)) (mC c_TESTS))))
noncomputable def F_is_test : MF := pt (runF 1 m_is_test)
theorem run_is_test (x0 : Dt) (st : Sto) (h : clL 0 [x0] = true) : F_is_test [x0] st = puR st (outF (m_is_test [some x0] [])) := (if_pos h).trans (congrArg (puR st) (runF_out 1 _ [x0] []))
theorem runT_is_test (x0 : Dt) (st : Sto) (h : clL 0 [x0] = false) : F_is_test [x0] st = trR st (outF (m_is_test [some x0] st)) := (if_neg (by rw [h]; decide)).trans (congrArg (trR st) (runF_out 1 _ [x0] st))
theorem ok_is_test {f : Addr} {fd : FuncData} (F : Fun K "is_test" "is_test" st_is_test f fd) (b_isinstance : mg "isinstance" = none) (I_str : IsB K B [.type "str"] isC) (b_str : mg "str" = none) (C_NOT : ConstOk K mg "NOT" c_NOT) (b_len : mg "len" = none) (C_TESTS : ConstOk K mg "TESTS" c_TESTS) : FnOk P w K mg base (L2.CX P w) 1 f fd ["value"] (spF K B 1 F_is_test) := fn_pt (fn_ok (k := 0) F sc_is_test fun cdv A outer s H E rs hr => (iss_cons (is_if (it_not (it_val (ie_isB kitok_str I_str b_isinstance (pe_ty b_str) (ie_var 0)))) (iss_one (is_ret ie_bl)) iss_nil) (iss_one (is_ret (ie_cmp op_inA snd_in (ie_if (it_cmp (op_eqA hr.units) snd_eq (ie_slice (ie_var 0) io_none (io_some (ie_callB call_lenA snd_len (by rfl) b_len PySem.boot_len (ia_cons (ie_const C_NOT) ia_nil)))) (ie_const C_NOT) (nomark _)) (ie_slice (ie_var 0) (io_some (ie_callB call_lenA snd_len (by rfl) b_len PySem.boot_len (ia_cons (ie_const C_NOT) ia_nil))) io_none) (ie_var 0)) (ie_const C_TESTS) (by rfl))))))
/-! is_word -/
abbrev st_is_word : Stmt := topS 19
theorem sc_is_word : FnScope ["value", "some"] ["value", "some"] (defScope st_is_word) := ⟨rfl, rfl, rfl, by decide +kernel, rfl, by decide +kernel, by decide +kernel⟩
noncomputable def m_is_word : MS := (sRet (mAndV (mIsI (qB tStr isC) (mVar 0)) (mBin inD (mVar 0) (mVar 1))))
noncomputable def F_is_word : MF := pt (runF 2 m_is_word)
theorem run_is_word (x0 x1 : Dt) (st : Sto) (h : clL 0 [x0, x1] = true) : F_is_word [x0, x1] st = puR st (outF (m_is_word [some x0, some x1] [])) := (if_pos h).trans (congrArg (puR st) (runF_out 2 _ [x0, x1] []))
theorem runT_is_word (x0 x1 : Dt) (st : Sto) (h : clL 0 [x0, x1] = false) : F_is_word [x0, x1] st = trR st (outF (m_is_word [some x0, some x1] st)) := (if_neg (by rw [h]; decide)).trans (congrArg (trR st) (runF_out 2 _ [x0, x1] st))
theorem ok_is_word {f : Addr} {fd : FuncData} (F : Fun K "is_word" "is_word" st_is_word f fd) (b_isinstance : mg "isinstance" = none) (I_str : IsB K B [.type "str"] isC) (b_str : mg "str" = none) : FnOk P w K mg base (L2.CX P w) 1 f fd ["value", "some"] (spF K B 2 F_is_word) := fn_pt (fn_ok (k := 0) F sc_is_word fun cdv A outer s H E rs hr => (iss_one (is_ret (ie_and (ie_isB kitok_str I_str b_isinstance (pe_ty b_str) (ie_var 0)) (ie_one (ie_cmp op_inA snd_in (ie_var 0) (ie_var 1) (by rfl)))))))
/-! Row.__init__ -/
abbrev st_RowD_initD : Stmt := inClass (topS 22) 0
theorem sc_RowD_initD : FnScope ["self", "tests", "deeds", "test", "deed"] ["self", "tests", "deeds"] (defScope st_RowD_initD) := ⟨rfl, rfl, rfl, by decide +kernel, rfl, by decide +kernel, by decide +kernel⟩
noncomputable def m_RowD_initD : MS := (sSeq (sIf (mOr (mNot (mB (mCall 1 F_is_sequence (mCons (mVar 1) mNil) []))) (mNot (mB (mCB allD (mCons (mLcV (mIt (mVar 1)) (gNm 3) mYes (mCall 1 F_is_test (mCons (mVar 3) mNil) []) [3]) mNil))))) (sRaise 4 2 (mC (.str [116, 101, 115, 116, 115]))) sNx) (sSeq (sIf (mOr (mNot (mB (mCall 1 F_is_sequence (mCons (mVar 2) mNil) []))) (mOr (mB (mBin eqD (mCB lenD (mCons (mVar 2) mNil)) (mC (.int 0)))) (mNot (mB (mCB allD (mCons (mLcV (mIt (mVar 2)) (gNm 4) mYes (mCall 2 F_is_word (mCons (mVar 4) (mCons (mC c_DEEDS) mNil)) []) [4]) mNil)))))) (sRaise 4 2 (mC (.str [100, 101, 101, 100, 115]))) sNx) (sSeq (sFldSet [11] 3 (mVar 0) (mCB tupleD (mCons (mVar 1) mNil))) (sFldSet [11] 4 (mVar 0) (mCB tupleD (mCons (mVar 2) mNil))))))
noncomputable def F_RowD_initD : MF := (runF 5 m_RowD_initD)
theorem run_RowD_initD (x0 x1 x2 : Dt) (st : Sto) : F_RowD_initD [x0, x1, x2] st = outF (m_RowD_initD [some x0, some x1, some x2, none, none] st) := runF_out 5 _ [x0, x1, x2] st
theorem ok_RowD_initD {dvs : List V} {kws : List (Str × V)} {f : Addr} {fd : FuncData} (F : FunD K "__init__" "Row.__init__" (defArgs st_RowD_initD) (defBody st_RowD_initD) (defScope st_RowD_initD) dvs kws f fd) (D_is_sequence : DefOk P w K mg base B "is_sequence" 1 1 F_is_sequence []) (D_is_test : DefOk P w K mg base B "is_test" 1 1 F_is_test []) (b_all : mg "all" = none) (E_InvalidRow : ErrOk P w K mg base B "InvalidRow" "part" 4 2 1) (b_len : mg "len" = none) (C_DEEDS : ConstOk K mg "DEEDS" c_DEEDS) (D_is_word : DefOk P w K mg base B "is_word" 1 2 F_is_word []) (b_tuple : mg "tuple" = none) (Fl_tests : FldOk K B [11] 3 "tests") (Fl_deeds : FldOk K B [11] 4 "deeds") : FnOk P w K mg base (L2.CX P w) 3 f fd ["self", "tests", "deeds"] (spF K B 3 F_RowD_initD) := fn_okD (k := 2) F sc_RowD_initD fun cdv A outer s H E rs hr => (iss_cons (is_if (it_w (iw_or (it_not (it_val (ie_callD D_is_sequence (hr.mono (by decide)) (takes_of rfl rfl rfl rfl) (ia_cons (ie_var 1) ia_nil)))) (iw_or1 (it_not (it_val (ie_callB (cr_all rfl) snd_all (by rfl) b_all (by decide +kernel) (ia_cons (ie_lcV rfl sc_RowD_initD.nd [3] (own := [("test", 3)]) rfl (gok_name 3) (ii_any (ie_var 1)) (blkOk_by (N := ["self", "tests", "deeds", "test", "deed"]) (sc := defScope st_RowD_initD) (by decide +kernel)) (fun _ _ _ _ _ => pg_name (i := 3) sc_RowD_initD.nd rfl (by first | exact Or.inl rfl | exact Or.inr rfl)) (fun _ _ _ _ _ rs => its_nil) (fun _ _ _ _ _ rs => (ie_callD D_is_test (hr.mono (by decide)) takes0 (ia_cons (ie_var 3) ia_nil)))) ia_nil))))))) (iss_one (is_raiseD E_InvalidRow (hr.mono (by decide)) rfl (takes_of rfl rfl rfl rfl) (ie_str (by decide +kernel)))) iss_nil) (iss_cons (is_if (it_w (iw_or (it_not (it_val (ie_callD D_is_sequence (hr.mono (by decide)) (takes_of rfl rfl rfl rfl) (ia_cons (ie_var 2) ia_nil)))) (iw_or (it_cmp (op_eqA hr.units) snd_eq (ie_callB call_lenA snd_len (by rfl) b_len PySem.boot_len (ia_cons (ie_var 2) ia_nil)) ie_int (nomark _)) (iw_or1 (it_not (it_val (ie_callB (cr_all rfl) snd_all (by rfl) b_all (by decide +kernel) (ia_cons (ie_lcV rfl sc_RowD_initD.nd [4] (own := [("deed", 4)]) rfl (gok_name 4) (ii_any (ie_var 2)) (blkOk_by (N := ["self", "tests", "deeds", "test", "deed"]) (sc := defScope st_RowD_initD) (by decide +kernel)) (fun _ _ _ _ _ => pg_name (i := 4) sc_RowD_initD.nd rfl (by first | exact Or.inl rfl | exact Or.inr rfl)) (fun _ _ _ _ _ rs => its_nil) (fun _ _ _ _ _ rs => (ie_callD D_is_word (hr.mono (by decide)) takes0 (ia_cons (ie_var 4) (ia_cons (ie_const C_DEEDS) ia_nil))))) ia_nil)))))))) (iss_one (is_raiseD E_InvalidRow (hr.mono (by decide)) rfl (takes_of rfl rfl rfl rfl) (ie_str (by decide +kernel)))) iss_nil) (iss_cons (is_fldD Fl_tests (ie_var 0) (ie_callTy call_tuple_of snd_tuple (by rfl) b_tuple (by decide +kernel) (ia_cons (ie_var 1) ia_nil))) (iss_one (is_fldD Fl_deeds (ie_var 0) (ie_callTy call_tuple_of snd_tuple (by rfl) b_tuple (by decide +kernel) (ia_cons (ie_var 2) ia_nil)))))))
/-! _law_tool_of -/
abbrev st_law_tool_of : Stmt := topS 32
theorem sc_law_tool_of : FnScope ["_law_tool_here", "_law_tests", "_law_deeds"] ["_law_tool_here"] (defScope st_law_tool_of) := ⟨rfl, rfl, rfl, by decide +kernel, rfl, by decide +kernel, by decide +kernel⟩
noncomputable def m_law_tool_of : MS := (sRet (mMakeV 12 3 F_ToolD_initD (mCons (mLcV (mIt (mBin ixD (mVar 0) (mC (.int 0)))) (gTp [1, 2]) mYes (mMakeV 11 3 F_RowD_initD (mCons (mVar 1) (mCons (mVar 2) mNil)) []) [1, 2]) (mCons (mBin ixD (mVar 0) (mC (.int 1))) mNil)) []))
noncomputable def F_law_tool_of : MF := pt (runF 3 m_law_tool_of)
theorem run_law_tool_of (x0 : Dt) (st : Sto) (h : clL 0 [x0] = true) : F_law_tool_of [x0] st = puR st (outF (m_law_tool_of [some x0, none, none] [])) := (if_pos h).trans (congrArg (puR st) (runF_out 3 _ [x0] []))
theorem runT_law_tool_of (x0 : Dt) (st : Sto) (h : clL 0 [x0] = false) : F_law_tool_of [x0] st = trR st (outF (m_law_tool_of [some x0, none, none] st)) := (if_neg (by rw [h]; decide)).trans (congrArg (trR st) (runF_out 3 _ [x0] st))
theorem ok_law_tool_of {f : Addr} {fd : FuncData} (F : Fun K "_law_tool_of" "_law_tool_of" st_law_tool_of f fd) (K_Row : MakeOk P w K mg base B "Row" 11 3 3 F_RowD_initD []) (K_Tool : MakeOk P w K mg base B "Tool" 12 3 3 F_ToolD_initD []) : FnOk P w K mg base (L2.CX P w) 5 f fd ["_law_tool_here"] (spF K B 1 F_law_tool_of) := fn_pt (fn_ok (k := 4) F sc_law_tool_of fun cdv A outer s H E rs hr => (iss_one (is_ret (ie_makeDV K_Tool (hr.mono (by decide)) (takes_of rfl rfl rfl rfl) (ia_cons (ie_lcV rfl sc_law_tool_of.nd [1, 2] (own := [("_law_tests", 1), ("_law_deeds", 2)]) rfl (gok_tup [1, 2] 2 rfl) (ii_any (ie_ix ix_seq snd_ix (ie_var 0) ie_int)) (blkOk_by (N := ["_law_tool_here", "_law_tests", "_law_deeds"]) (sc := defScope st_law_tool_of) (by decide +kernel)) (fun _ _ _ _ _ => pg_tup rfl (pgs_names sc_law_tool_of.nd (nts 1 (nts 2 .nil)))) (fun _ _ _ _ _ rs => its_nil) (fun _ _ _ _ _ rs => (ie_makeDV K_Row (hr.mono (by decide)) takes0 (ia_cons (ie_var 1) (ia_cons (ie_var 2) ia_nil))))) (ia_cons (ie_ix ix_seq snd_ix (ie_var 0) ie_int) ia_nil))))))
/-! _law_is_long_form -/
abbrev st_law_is_long_form : Stmt := topS 34
theorem sc_law_is_long_form : FnScope ["_law_form", "_law_room", "_law_size", "_law_broken", "_law_marked", "_law_ahead", "_law_behind", "_law_blanks", "_law_left"] ["_law_form"] (defScope st_law_is_long_form) := ⟨rfl, rfl, rfl, by decide +kernel, rfl, by decide +kernel, by decide +kernel⟩
noncomputable def m_law_is_long_form : MS := (sSeq (sAsg (mVar 0) (gTp [2, 3, 4, 5, 6, 7, 8])) (sSeq (sSet 1 (mKey (mDispV (((mC (.str [111, 118, 101, 114])), (mUn negD (mC (.int 1)))) :: (((mC (.str [101, 118, 101, 110])), (mC (.int 0))) :: (((mC (.str [116, 105, 103, 104, 116])), (mC (.int 1))) :: (((mC (.str [106, 117, 115, 116])), (mC (.int 5))) :: (((mC (.str [119, 105, 100, 101])), (mC (.int 20))) :: [])))))) (mVar 2))) (sRet (mBin gtD (mBin addD (mCB cintD (mCons (mVar 4) mNil)) (mBin mulD (mC (.int 5)) (mCB cintD (mCons (mVar 6) mNil)))) (mVar 1)))))
noncomputable def F_law_is_long_form : MF := pt (runF 9 m_law_is_long_form)
theorem run_law_is_long_form (x0 : Dt) (st : Sto) (h : clL 0 [x0] = true) : F_law_is_long_form [x0] st = puR st (outF (m_law_is_long_form [some x0, none, none, none, none, none, none, none, none] [])) := (if_pos h).trans (congrArg (puR st) (runF_out 9 _ [x0] []))
theorem runT_law_is_long_form (x0 : Dt) (st : Sto) (h : clL 0 [x0] = false) : F_law_is_long_form [x0] st = trR st (outF (m_law_is_long_form [some x0, none, none, none, none, none, none, none, none] st)) := (if_neg (by rw [h]; decide)).trans (congrArg (trR st) (runF_out 9 _ [x0] st))
theorem ok_law_is_long_form {f : Addr} {fd : FuncData} (F : Fun K "_law_is_long_form" "_law_is_long_form" st_law_is_long_form f fd) (b_int : mg "int" = none) : FnOk P w K mg base (L2.CX P w) 1 f fd ["_law_form"] (spF K B 1 F_law_is_long_form) := fn_pt (fn_ok (k := 0) F sc_law_is_long_form fun cdv A outer s H E rs hr => (iss_cons (is_asg (ie_var 0) (ig_tup (n := 7) rfl sc_law_is_long_form.nd (nts 2 (nts 3 (nts 4 (nts 5 (nts 6 (nts 7 (nts 8 .nil))))))) rfl) (gTp_no _)) (iss_cons (is_set 1 sc_law_is_long_form.nd (ie_key (hu_of hr) (ie_dispV (ipsV_cons (fun rs => (ie_str (by decide +kernel))) (fun rs => (ie_un un_neg snd_neg ie_int)) (ipsV_cons (fun rs => (ie_str (by decide +kernel))) (fun rs => ie_int) (ipsV_cons (fun rs => (ie_str (by decide +kernel))) (fun rs => ie_int) (ipsV_cons (fun rs => (ie_str (by decide +kernel))) (fun rs => ie_int) (ipsV_cons (fun rs => (ie_str (by decide +kernel))) (fun rs => ie_int) ipsV_nil)))))) (ie_var 2))) (iss_one (is_ret (ie_cmp op_gt snd_gt (ie_bin op_addD snd_add (ie_callTy call_int1 snd_int (by rfl) b_int (by decide +kernel) (ia_cons (ie_var 4) ia_nil)) (ie_bin op_mulD snd_mul ie_int (ie_callTy call_int1 snd_int (by rfl) b_int (by decide +kernel) (ia_cons (ie_var 6) ia_nil)))) (ie_var 1) (nomark _)))))))
/-! _law_asks -/
abbrev st_law_asks : Stmt := topS 35
theorem sc_law_asks : FnScope ["_law_test_here", "_law_before", "_law_form"] ["_law_test_here", "_law_before", "_law_form"] (defScope st_law_asks) := ⟨rfl, rfl, rfl, by decide +kernel, rfl, by decide +kernel, by decide +kernel⟩
noncomputable def m_law_asks (R : MF) : MS := (sSeq (sIf (mB (mBin eqD (mSl slD (mVar 0) mNoPart (mPart (mC (.int 4)))) (mC (.str [110, 111, 116, 32])))) (sRet (mNotV (mCall 3 R (mCons (mSl slD (mVar 0) (mPart (mC (.int 4))) mNoPart) (mCons (mVar 1) (mCons (mVar 2) mNil))) []))) sNx) (sSeq (sIf (mB (mBin inD (mVar 0) (mTup (mCons (mC (.str [102, 105, 114, 115, 116])) (mCons (mC (.str [97, 102, 116, 101, 114, 98, 114, 111, 107, 101, 110])) (mCons (mC (.str [97, 102, 116, 101, 114, 98, 101, 104, 105, 110, 100])) mNil)))))) (sRet (mIf (mB (mBin eqD (mVar 0) (mC (.str [102, 105, 114, 115, 116])))) (mBin eqD (mVar 1) (mTup mNil)) (mAndV (mBin neD (mVar 1) (mTup mNil)) (mBin ixD (mVar 1) (mCB cintD (mCons (mBin eqD (mVar 0) (mC (.str [97, 102, 116, 101, 114, 98, 101, 104, 105, 110, 100]))) mNil)))))) sNx) (sSeq (sIf (mB (mBin inD (mVar 0) (mTup (mCons (mC (.str [108, 111, 110, 103])) (mCons (mC (.str [98, 108, 97, 110, 107])) mNil))))) (sRet (mIf (mB (mBin eqD (mVar 0) (mC (.str [108, 111, 110, 103])))) (mCall 1 F_law_is_long_form (mCons (mVar 2) mNil) []) (mBin gtD (mBin ixD (mVar 2) (mC (.int 5))) (mC (.int 0))))) sNx) (sRet (mBin ixD (mVar 2) (mBM isL indexD (mLstV (mCons (mC (.str [115, 105, 122, 101])) (mCons (mC (.str [98, 114, 111, 107, 101, 110])) (mCons (mC (.str [109, 97, 114, 107, 101, 100])) (mCons (mC (.str [97, 104, 101, 97, 100])) (mCons (mC (.str [98, 101, 104, 105, 110, 100])) (mCons (mC (.str [98, 108, 97, 110, 107, 115])) (mCons (mC (.str [108, 101, 102, 116])) mNil)))))))) (mCons (mVar 0) mNil)))))))
noncomputable def F_law_asks : Nat → MF
  | 0 => fun _ _ => .stuck
  | n + 1 => pt (runF 3 (m_law_asks (F_law_asks n)))
theorem run_law_asks (n : Nat) (x0 x1 x2 : Dt) (st : Sto) (h : clL 0 [x0, x1, x2] = true) : F_law_asks (n + 1) [x0, x1, x2] st = puR st (outF ((m_law_asks (F_law_asks n)) [some x0, some x1, some x2] [])) := (if_pos h).trans (congrArg (puR st) (runF_out 3 _ [x0, x1, x2] []))
theorem runT_law_asks (n : Nat) (x0 x1 x2 : Dt) (st : Sto) (h : clL 0 [x0, x1, x2] = false) : F_law_asks (n + 1) [x0, x1, x2] st = trR st (outF ((m_law_asks (F_law_asks n)) [some x0, some x1, some x2] st)) := (if_neg (by rw [h]; decide)).trans (congrArg (trR st) (runF_out 3 _ [x0, x1, x2] st))
theorem ok_law_asks {f : Addr} {fd : FuncData} (F : Fun K "_law_asks" "_law_asks" st_law_asks f fd) (hm0 : mg "_law_asks" = some (.ref f)) (hb0 : Binds K fd ["_law_test_here", "_law_before", "_law_form"] []) (b_int : mg "int" = none) (D_law_is_long_form : DefOk P w K mg base B "_law_is_long_form" 1 1 F_law_is_long_form []) : ∀ n : Nat, n ≤ 2 → FnOk P w K mg base (L2.CX P w) (2 + n) f fd ["_law_test_here", "_law_before", "_law_form"] (spF K B 3 (F_law_asks n))
  | 0, _ => fn_stuck rfl
  | n + 1, hn => by
    have Rec : DefOk P w K mg base B "_law_asks" (2 + n) 3 (F_law_asks n) [] := ⟨⟨f, fd, ["_law_test_here", "_law_before", "_law_form"], [], [], hm0, F.kp, hb0, .nil, fun _ _ _ => .nil, ok_law_asks F hm0 hb0 b_int D_law_is_long_form n (by omega)⟩⟩
    exact fn_pt (fn_ok (k := 2 + n) F sc_law_asks fun cdv A outer s H E rs hr => (iss_cons (is_if (it_cmp (op_eqA hr.units) snd_eq (ie_slice (ie_var 0) io_none (io_some ie_int)) (ie_str (by decide +kernel)) (nomark _)) (iss_one (is_ret (ie_not (ie_callD Rec (hr.mono (by omega)) (takes_of rfl rfl rfl rfl) (ia_cons (ie_slice (ie_var 0) (io_some ie_int) io_none) (ia_cons (ie_var 1) (ia_cons (ie_var 2) ia_nil))))))) iss_nil) (iss_cons (is_if (it_cmp op_inA snd_in (ie_var 0) (ie_tup (ia_cons (ie_str (by decide +kernel)) (ia_cons (ie_str (by decide +kernel)) (ia_cons (ie_str (by decide +kernel)) ia_nil)))) (by rfl)) (iss_one (is_ret (ie_if (it_cmp (op_eqA hr.units) snd_eq (ie_var 0) (ie_str (by decide +kernel)) (nomark _)) (ie_cmp (op_eqA hr.units) snd_eq (ie_var 1) (ie_tup ia_nil) (nomark _)) (ie_and (ie_cmp (op_neA hr.units) snd_ne (ie_var 1) (ie_tup ia_nil) (nomark _)) (ie_one (ie_ix ix_seq snd_ix (ie_var 1) (ie_callTy call_int1 snd_int (by rfl) b_int (by decide +kernel) (ia_cons (ie_cmp (op_eqA hr.units) snd_eq (ie_var 0) (ie_str (by decide +kernel)) (nomark _)) ia_nil)))))))) iss_nil) (iss_cons (is_if (it_cmp op_inA snd_in (ie_var 0) (ie_tup (ia_cons (ie_str (by decide +kernel)) (ia_cons (ie_str (by decide +kernel)) ia_nil))) (by rfl)) (iss_one (is_ret (ie_if (it_cmp (op_eqA hr.units) snd_eq (ie_var 0) (ie_str (by decide +kernel)) (nomark _)) (ie_callD D_law_is_long_form (hr.mono (by omega)) (takes_of rfl rfl rfl rfl) (ia_cons (ie_var 2) ia_nil)) (ie_cmp op_gt snd_gt (ie_ix ix_seq snd_ix (ie_var 2) ie_int) ie_int (nomark _))))) iss_nil) (iss_one (is_ret (ie_ix ix_seq snd_ix (ie_var 2) (ie_bm PySem.F.plainAttrs_list PySem.F.slot_list_index PySem.F.type_list_index mt_index chk_list snd_index (ie_lstV (ia_cons (ie_str (by decide +kernel)) (ia_cons (ie_str (by decide +kernel)) (ia_cons (ie_str (by decide +kernel)) (ia_cons (ie_str (by decide +kernel)) (ia_cons (ie_str (by decide +kernel)) (ia_cons (ie_str (by decide +kernel)) (ia_cons (ie_str (by decide +kernel)) ia_nil)))))))) (ia_cons (ie_var 0) ia_nil)))))))))
/-! _law_laid -/
abbrev st_law_laid : Stmt := topS 36
theorem sc_law_laid : FnScope ["_law_rows", "_law_before", "_law_form", "_law_now", "_law_tests", "_law_deeds", "_law_deed", "_law_test_here"] ["_law_rows", "_law_before", "_law_form"] (defScope st_law_laid) := ⟨rfl, rfl, rfl, by decide +kernel, rfl, by decide +kernel, by decide +kernel⟩
noncomputable def m_law_laid : MS := (sSeq (sSet 3 (mCB listD (mCons (mVar 2) mNil))) (sSeq (sFor (mIt (mVar 0)) (gTp [4, 5]) (sIf (mB (mBin eqD (mLcV (mIt (mVar 4)) (gNm 7) (mNot (mB (mCall 3 (F_law_asks 2) (mCons (mVar 7) (mCons (mVar 1) (mCons (mCB tupleD (mCons (mVar 3) mNil)) mNil))) []))) (mVar 7) [7]) (mLstV mNil))) (sFor (mIt (mVar 5)) (gNm 6) (sIf (mB (mBin inD (mVar 6) (mTup (mCons (mC (.str [98, 114, 101, 97, 107])) (mCons (mC (.str [106, 111, 105, 110])) mNil))))) (sAsg (mBin eqD (mVar 6) (mC (.str [98, 114, 101, 97, 107]))) (gSubL (mVar 3) (mC (.int 1)))) (sIf (mB (mBin inD (mVar 6) (mTup (mCons (mC (.str [109, 97, 114, 107])) (mCons (mC (.str [117, 110, 109, 97, 114, 107])) mNil))))) (sAsg (mBin eqD (mVar 6) (mC (.str [109, 97, 114, 107]))) (gSubL (mVar 3) (mC (.int 2)))) (sIf (mB (mBin inD (mVar 6) (mTup (mCons (mC (.str [115, 112, 97, 99, 101])) (mCons (mC (.str [99, 108, 111, 115, 101])) mNil))))) (sAsg (mCB cintD (mCons (mBin eqD (mVar 6) (mC (.str [115, 112, 97, 99, 101]))) mNil)) (gSubL (mVar 3) (mC (.int 5)))) (sIf (mAnd (mB (mBin neD (mBin ixD (mVar 3) (mC (.int 3))) (mBin ixD (mVar 3) (mC (.int 4))))) (mB (mBin eqD (mBin ixD (mVar 3) (mC (.int 4))) (mBin eqD (mVar 6) (mC (.str [108, 105, 102, 116])))))) (sAsg (mTup (mCons (mBin ixD (mVar 3) (mC (.int 4))) (mCons (mBin ixD (mVar 3) (mC (.int 3))) mNil))) (gTp2 (gSubL (mVar 3) (mC (.int 3))) (gSubL (mVar 3) (mC (.int 4))))) sNx))))) sNx)) (sRet (mCB tupleD (mCons (mVar 3) mNil)))))
noncomputable def F_law_laid : MF := pt (runF 8 m_law_laid)
theorem run_law_laid (x0 x1 x2 : Dt) (st : Sto) (h : clL 0 [x0, x1, x2] = true) : F_law_laid [x0, x1, x2] st = puR st (outF (m_law_laid [some x0, some x1, some x2, none, none, none, none, none] [])) := (if_pos h).trans (congrArg (puR st) (runF_out 8 _ [x0, x1, x2] []))
theorem runT_law_laid (x0 x1 x2 : Dt) (st : Sto) (h : clL 0 [x0, x1, x2] = false) : F_law_laid [x0, x1, x2] st = trR st (outF (m_law_laid [some x0, some x1, some x2, none, none, none, none, none] st)) := (if_neg (by rw [h]; decide)).trans (congrArg (trR st) (runF_out 8 _ [x0, x1, x2] st))
theorem ok_law_laid {f : Addr} {fd : FuncData} (F : Fun K "_law_laid" "_law_laid" st_law_laid f fd) (b_list : mg "list" = none) (b_tuple : mg "tuple" = none) (D_law_asks : DefOk P w K mg base B "_law_asks" 4 3 (F_law_asks 2) []) (b_int : mg "int" = none) : FnOk P w K mg base (L2.CX P w) 5 f fd ["_law_rows", "_law_before", "_law_form"] (spF K B 3 F_law_laid) := fn_pt (fn_ok (k := 4) F sc_law_laid fun cdv A outer s H E rs hr => (iss_cons (is_set 3 sc_law_laid.nd (ie_callTy call_list_of snd_list (by rfl) b_list (by decide +kernel) (ia_cons (ie_var 2) ia_nil))) (iss_cons (is_for (passes_of rfl) rfl (ii_any (ie_var 0)) (ig_tup (n := 2) rfl sc_law_laid.nd (nts 4 (nts 5 .nil)) rfl) (iss_one (is_if (it_cmp (op_eqA hr.units) snd_eq (ie_lcV rfl sc_law_laid.nd [7] (own := [("_law_test_here", 7)]) rfl (gok_name 7) (ii_any (ie_var 4)) (blkOk_by (N := ["_law_rows", "_law_before", "_law_form", "_law_now", "_law_tests", "_law_deeds", "_law_deed", "_law_test_here"]) (sc := defScope st_law_laid) (by decide +kernel)) (fun _ _ _ _ _ => pg_name (i := 7) sc_law_laid.nd rfl (by first | exact Or.inl rfl | exact Or.inr rfl)) (fun _ _ _ _ _ rs => its_one (it_not (it_val (ie_callD D_law_asks (hr.mono (by decide)) takes0 (ia_cons (ie_var 7) (ia_cons (ie_var 1) (ia_cons (ie_callTy call_tuple_of snd_tuple (by rfl) b_tuple (by decide +kernel) (ia_cons (ie_var 3) ia_nil)) ia_nil))))))) (fun _ _ _ _ _ rs => (ie_var 7))) (ie_lstV ia_nil) (nomark _)) (iss_one (is_for (passes_of rfl) rfl (ii_any (ie_var 5)) (ig_name 6 sc_law_laid.nd) (iss_one (is_if (it_cmp op_inA snd_in (ie_var 6) (ie_tup (ia_cons (ie_str (by decide +kernel)) (ia_cons (ie_str (by decide +kernel)) ia_nil))) (by rfl)) (iss_one (is_asg (ie_cmp (op_eqA hr.units) snd_eq (ie_var 6) (ie_str (by decide +kernel)) (nomark _)) (ig_sub (ie_var 3) ie_int) (gSubL_no _ _))) (iss_one (is_if (it_cmp op_inA snd_in (ie_var 6) (ie_tup (ia_cons (ie_str (by decide +kernel)) (ia_cons (ie_str (by decide +kernel)) ia_nil))) (by rfl)) (iss_one (is_asg (ie_cmp (op_eqA hr.units) snd_eq (ie_var 6) (ie_str (by decide +kernel)) (nomark _)) (ig_sub (ie_var 3) ie_int) (gSubL_no _ _))) (iss_one (is_if (it_cmp op_inA snd_in (ie_var 6) (ie_tup (ia_cons (ie_str (by decide +kernel)) (ia_cons (ie_str (by decide +kernel)) ia_nil))) (by rfl)) (iss_one (is_asg (ie_callTy call_int1 snd_int (by rfl) b_int (by decide +kernel) (ia_cons (ie_cmp (op_eqA hr.units) snd_eq (ie_var 6) (ie_str (by decide +kernel)) (nomark _)) ia_nil)) (ig_sub (ie_var 3) ie_int) (gSubL_no _ _))) (iss_one (is_if (it_w (iw_and (it_cmp (op_neA hr.units) snd_ne (ie_ix ix_seq snd_ix (ie_var 3) ie_int) (ie_ix ix_seq snd_ix (ie_var 3) ie_int) (nomark _)) (iw_and1 (it_cmp (op_eqA hr.units) snd_eq (ie_ix ix_seq snd_ix (ie_var 3) ie_int) (ie_cmp (op_eqA hr.units) snd_eq (ie_var 6) (ie_str (by decide +kernel)) (nomark _)) (nomark _))))) (iss_one (is_asg (ie_tup (ia_cons (ie_ix ix_seq snd_ix (ie_var 3) ie_int) (ia_cons (ie_ix ix_seq snd_ix (ie_var 3) ie_int) ia_nil))) (ig_tp2 rfl (ig_sub (ie_var 3) ie_int) (ig_sub (ie_var 3) ie_int)) (gTp2_no (gSubL_no _ _)))) iss_nil)))))))))) iss_nil))) (iss_one (is_ret (ie_callTy call_tuple_of snd_tuple (by rfl) b_tuple (by decide +kernel) (ia_cons (ie_var 3) ia_nil)))))))
/-! is_long -/
abbrev st_is_long : Stmt := topS 3
theorem sc_is_long : FnScope ["form", "size", "marked", "behind"] ["form"] (defScope st_is_long) := ⟨rfl, rfl, rfl, by decide +kernel, rfl, by decide +kernel, by decide +kernel⟩
noncomputable def m_is_long : MS := (sSeq (sPar3 1 2 3 (mCons (mBin ixD (mVar 0) (mC (.int 0))) (mCons (mBin ixD (mVar 0) (mC (.int 2))) (mCons (mBin ixD (mVar 0) (mC (.int 4))) mNil)))) (sSeq (sIf (mB (mBin eqD (mVar 1) (mC (.str [111, 118, 101, 114])))) (sRet (mC (.bl true))) sNx) (sSeq (sIf (mB (mBin eqD (mVar 1) (mC (.str [101, 118, 101, 110])))) (sRet (mOrV (mVar 2) (mVar 3))) sNx) (sRet (mAndV (mVar 3) (mOrV (mBin eqD (mVar 1) (mC (.str [116, 105, 103, 104, 116]))) (mAndV (mBin eqD (mVar 1) (mC (.str [106, 117, 115, 116]))) (mVar 2))))))))
noncomputable def F_is_long : MF := pt (runF 4 m_is_long)
theorem run_is_long (x0 : Dt) (st : Sto) (h : clL 0 [x0] = true) : F_is_long [x0] st = puR st (outF (m_is_long [some x0, none, none, none] [])) := (if_pos h).trans (congrArg (puR st) (runF_out 4 _ [x0] []))
theorem runT_is_long (x0 : Dt) (st : Sto) (h : clL 0 [x0] = false) : F_is_long [x0] st = trR st (outF (m_is_long [some x0, none, none, none] st)) := (if_neg (by rw [h]; decide)).trans (congrArg (trR st) (runF_out 4 _ [x0] st))
theorem ok_is_long {f : Addr} {fd : FuncData} (F : Fun K "is_long" "is_long" st_is_long f fd)  : FnOk P w K mg base (L2.CX P w) 1 f fd ["form"] (spF K B 1 F_is_long) := fn_pt (fn_ok (k := 0) F sc_is_long fun cdv A outer s H E rs hr => (iss_cons (is_par3 1 2 3 rfl sc_is_long.nd (ia_cons (ie_ix ix_seq snd_ix (ie_var 0) ie_int) (ia_cons (ie_ix ix_seq snd_ix (ie_var 0) ie_int) (ia_cons (ie_ix ix_seq snd_ix (ie_var 0) ie_int) ia_nil)))) (iss_cons (is_if (it_cmp (op_eqA hr.units) snd_eq (ie_var 1) (ie_str (by decide +kernel)) (nomark _)) (iss_one (is_ret ie_bl)) iss_nil) (iss_cons (is_if (it_cmp (op_eqA hr.units) snd_eq (ie_var 1) (ie_str (by decide +kernel)) (nomark _)) (iss_one (is_ret (ie_or (ie_var 2) (ie_one (ie_var 3))))) iss_nil) (iss_one (is_ret (ie_and (ie_var 3) (ie_one (ie_or (ie_cmp (op_eqA hr.units) snd_eq (ie_var 1) (ie_str (by decide +kernel)) (nomark _)) (ie_one (ie_and (ie_cmp (op_eqA hr.units) snd_eq (ie_var 1) (ie_str (by decide +kernel)) (nomark _)) (ie_one (ie_var 2)))))))))))))
/-! holds -/
abbrev st_holds : Stmt := topS 4
theorem sc_holds : FnScope ["test", "before", "form"] ["test", "before", "form"] (defScope st_holds) := ⟨rfl, rfl, rfl, by decide +kernel, rfl, by decide +kernel, by decide +kernel⟩
noncomputable def m_holds (R : MF) : MS := (sSeq (sIf (mB (mBin eqD (mSl slD (mVar 0) mNoPart (mPart (mC (.int 4)))) (mC (.str [110, 111, 116, 32])))) (sRet (mNotV (mCall 3 R (mCons (mSl slD (mVar 0) (mPart (mC (.int 4))) mNoPart) (mCons (mVar 1) (mCons (mVar 2) mNil))) []))) sNx) (sSeq (sMatch (mVar 0) (([[98, 114, 111, 107, 101, 110]], (sRet (mBin ixD (mVar 2) (mC (.int 1))))) :: (([[109, 97, 114, 107, 101, 100]], (sRet (mBin ixD (mVar 2) (mC (.int 2))))) :: (([[108, 101, 102, 116]], (sRet (mBin ixD (mVar 2) (mC (.int 6))))) :: (([[97, 104, 101, 97, 100]], (sRet (mBin ixD (mVar 2) (mC (.int 3))))) :: (([[98, 101, 104, 105, 110, 100]], (sRet (mBin ixD (mVar 2) (mC (.int 4))))) :: (([[98, 108, 97, 110, 107]], (sRet (mBin gtD (mBin ixD (mVar 2) (mC (.int 5))) (mC (.int 0))))) :: (([[108, 111, 110, 103]], (sRet (mCall 1 F_is_long (mCons (mVar 2) mNil) []))) :: (([[102, 105, 114, 115, 116]], (sRet (mBin eqD (mVar 1) (mTup mNil)))) :: (([[97, 102, 116, 101, 114, 98, 114, 111, 107, 101, 110]], (sRet (mAndV (mBin neD (mVar 1) (mTup mNil)) (mBin ixD (mVar 1) (mC (.int 0)))))) :: [])))))))))) (sRet (mAndV (mBin neD (mVar 1) (mTup mNil)) (mBin ixD (mVar 1) (mC (.int 1)))))))
noncomputable def F_holds : Nat → MF
  | 0 => fun _ _ => .stuck
  | n + 1 => pt (runF 3 (m_holds (F_holds n)))
theorem run_holds (n : Nat) (x0 x1 x2 : Dt) (st : Sto) (h : clL 0 [x0, x1, x2] = true) : F_holds (n + 1) [x0, x1, x2] st = puR st (outF ((m_holds (F_holds n)) [some x0, some x1, some x2] [])) := (if_pos h).trans (congrArg (puR st) (runF_out 3 _ [x0, x1, x2] []))
theorem runT_holds (n : Nat) (x0 x1 x2 : Dt) (st : Sto) (h : clL 0 [x0, x1, x2] = false) : F_holds (n + 1) [x0, x1, x2] st = trR st (outF ((m_holds (F_holds n)) [some x0, some x1, some x2] st)) := (if_neg (by rw [h]; decide)).trans (congrArg (trR st) (runF_out 3 _ [x0, x1, x2] st))
theorem ok_holds {f : Addr} {fd : FuncData} (F : Fun K "holds" "holds" st_holds f fd) (hm0 : mg "holds" = some (.ref f)) (hb0 : Binds K fd ["test", "before", "form"] []) (D_is_long : DefOk P w K mg base B "is_long" 1 1 F_is_long []) : ∀ n : Nat, n ≤ 2 → FnOk P w K mg base (L2.CX P w) (2 + n) f fd ["test", "before", "form"] (spF K B 3 (F_holds n))
  | 0, _ => fn_stuck rfl
  | n + 1, hn => by
    have Rec : DefOk P w K mg base B "holds" (2 + n) 3 (F_holds n) [] := ⟨⟨f, fd, ["test", "before", "form"], [], [], hm0, F.kp, hb0, .nil, fun _ _ _ => .nil, ok_holds F hm0 hb0 D_is_long n (by omega)⟩⟩
    exact fn_pt (fn_ok (k := 2 + n) F sc_holds fun cdv A outer s H E rs hr => (iss_cons (is_if (it_cmp (op_eqA hr.units) snd_eq (ie_slice (ie_var 0) io_none (io_some ie_int)) (ie_str (by decide +kernel)) (nomark _)) (iss_one (is_ret (ie_not (ie_callD Rec (hr.mono (by omega)) (takes_of rfl rfl rfl rfl) (ia_cons (ie_slice (ie_var 0) (io_some ie_int) io_none) (ia_cons (ie_var 1) (ia_cons (ie_var 2) ia_nil))))))) iss_nil) (iss_cons (is_match (ie_var 0) (.cons (.one (by decide +kernel)) (iss_one (is_ret (ie_ix ix_seq snd_ix (ie_var 2) ie_int))) (.cons (.one (by decide +kernel)) (iss_one (is_ret (ie_ix ix_seq snd_ix (ie_var 2) ie_int))) (.cons (.one (by decide +kernel)) (iss_one (is_ret (ie_ix ix_seq snd_ix (ie_var 2) ie_int))) (.cons (.one (by decide +kernel)) (iss_one (is_ret (ie_ix ix_seq snd_ix (ie_var 2) ie_int))) (.cons (.one (by decide +kernel)) (iss_one (is_ret (ie_ix ix_seq snd_ix (ie_var 2) ie_int))) (.cons (.one (by decide +kernel)) (iss_one (is_ret (ie_cmp op_gt snd_gt (ie_ix ix_seq snd_ix (ie_var 2) ie_int) ie_int (nomark _)))) (.cons (.one (by decide +kernel)) (iss_one (is_ret (ie_callD D_is_long (hr.mono (by omega)) (takes_of rfl rfl rfl rfl) (ia_cons (ie_var 2) ia_nil)))) (.cons (.one (by decide +kernel)) (iss_one (is_ret (ie_cmp (op_eqA hr.units) snd_eq (ie_var 1) (ie_tup ia_nil) (nomark _)))) (.cons (.one (by decide +kernel)) (iss_one (is_ret (ie_and (ie_cmp (op_neA hr.units) snd_ne (ie_var 1) (ie_tup ia_nil) (nomark _)) (ie_one (ie_ix ix_seq snd_ix (ie_var 1) ie_int))))) .nil)))))))))) (iss_one (is_ret (ie_and (ie_cmp (op_neA hr.units) snd_ne (ie_var 1) (ie_tup ia_nil) (nomark _)) (ie_one (ie_ix ix_seq snd_ix (ie_var 1) ie_int))))))))
/-! is_done -/
abbrev st_is_done : Stmt := topS 6
theorem sc_is_done : FnScope ["row", "before", "form", "test"] ["row", "before", "form"] (defScope st_is_done) := ⟨rfl, rfl, rfl, by decide +kernel, rfl, by decide +kernel, by decide +kernel⟩
noncomputable def m_is_done : MS := (sRet (mCB allD (mCons (mLcV (mIt (mFld [11] 3 (mVar 0))) (gNm 3) mYes (mCall 3 (F_holds 2) (mCons (mVar 3) (mCons (mVar 1) (mCons (mVar 2) mNil))) []) [3]) mNil)))
noncomputable def F_is_done : MF := pt (runF 4 m_is_done)
theorem run_is_done (x0 x1 x2 : Dt) (st : Sto) (h : clL 0 [x0, x1, x2] = true) : F_is_done [x0, x1, x2] st = puR st (outF (m_is_done [some x0, some x1, some x2, none] [])) := (if_pos h).trans (congrArg (puR st) (runF_out 4 _ [x0, x1, x2] []))
theorem runT_is_done (x0 x1 x2 : Dt) (st : Sto) (h : clL 0 [x0, x1, x2] = false) : F_is_done [x0, x1, x2] st = trR st (outF (m_is_done [some x0, some x1, some x2, none] st)) := (if_neg (by rw [h]; decide)).trans (congrArg (trR st) (runF_out 4 _ [x0, x1, x2] st))
theorem ok_is_done {f : Addr} {fd : FuncData} (F : Fun K "is_done" "is_done" st_is_done f fd) (Fl_tests : FldOk K B [11] 3 "tests") (D_holds : DefOk P w K mg base B "holds" 4 3 (F_holds 2) []) (b_all : mg "all" = none) : FnOk P w K mg base (L2.CX P w) 5 f fd ["row", "before", "form"] (spF K B 3 F_is_done) := fn_pt (fn_ok (k := 4) F sc_is_done fun cdv A outer s H E rs hr => (iss_one (is_ret (ie_callB (cr_all rfl) snd_all (by rfl) b_all (by decide +kernel) (ia_cons (ie_lcV rfl sc_is_done.nd [3] (own := [("test", 3)]) rfl (gok_name 3) (ii_any (ie_fldD Fl_tests (ie_var 0))) (blkOk_by (N := ["row", "before", "form", "test"]) (sc := defScope st_is_done) (by decide +kernel)) (fun _ _ _ _ _ => pg_name (i := 3) sc_is_done.nd rfl (by first | exact Or.inl rfl | exact Or.inr rfl)) (fun _ _ _ _ _ rs => its_nil) (fun _ _ _ _ _ rs => (ie_callD D_holds (hr.mono (by decide)) takes0 (ia_cons (ie_var 3) (ia_cons (ie_var 1) (ia_cons (ie_var 2) ia_nil)))))) ia_nil)))))
/-! done -/
abbrev st_done : Stmt := topS 5
theorem sc_done : FnScope ["deed", "form", "size", "broken", "marked", "ahead", "behind", "blanks", "left"] ["deed", "form"] (defScope st_done) := ⟨rfl, rfl, rfl, by decide +kernel, rfl, by decide +kernel, by decide +kernel⟩
noncomputable def m_done : MS := (sSeq (sAsg (mVar 1) (gTp [2, 3, 4, 5, 6, 7, 8])) (sSeq (sMatch (mVar 0) (([[98, 114, 101, 97, 107], [106, 111, 105, 110]], (sRet (mTup (mCons (mVar 2) (mCons (mBin eqD (mVar 0) (mC (.str [98, 114, 101, 97, 107]))) (mCons (mVar 4) (mCons (mVar 5) (mCons (mVar 6) (mCons (mVar 7) (mCons (mVar 8) mNil)))))))))) :: (([[109, 97, 114, 107], [117, 110, 109, 97, 114, 107]], (sRet (mTup (mCons (mVar 2) (mCons (mVar 3) (mCons (mBin eqD (mVar 0) (mC (.str [109, 97, 114, 107]))) (mCons (mVar 5) (mCons (mVar 6) (mCons (mVar 7) (mCons (mVar 8) mNil)))))))))) :: (([[115, 112, 97, 99, 101], [99, 108, 111, 115, 101]], (sRet (mTup (mCons (mVar 2) (mCons (mVar 3) (mCons (mVar 4) (mCons (mVar 5) (mCons (mVar 6) (mCons (mIf (mB (mBin eqD (mVar 0) (mC (.str [115, 112, 97, 99, 101])))) (mC (.int 1)) (mC (.int 0))) (mCons (mVar 8) mNil)))))))))) :: [])))) (sSeq (sIf (mOr (mB (mBin eqD (mVar 5) (mVar 6))) (mB (mBin neD (mVar 6) (mBin eqD (mVar 0) (mC (.str [108, 105, 102, 116])))))) (sRet (mVar 1)) sNx) (sRet (mTup (mCons (mVar 2) (mCons (mVar 3) (mCons (mVar 4) (mCons (mVar 6) (mCons (mVar 5) (mCons (mVar 7) (mCons (mVar 8) mNil))))))))))))
noncomputable def F_done : MF := pt (runF 9 m_done)
theorem run_done (x0 x1 : Dt) (st : Sto) (h : clL 0 [x0, x1] = true) : F_done [x0, x1] st = puR st (outF (m_done [some x0, some x1, none, none, none, none, none, none, none] [])) := (if_pos h).trans (congrArg (puR st) (runF_out 9 _ [x0, x1] []))
theorem runT_done (x0 x1 : Dt) (st : Sto) (h : clL 0 [x0, x1] = false) : F_done [x0, x1] st = trR st (outF (m_done [some x0, some x1, none, none, none, none, none, none, none] st)) := (if_neg (by rw [h]; decide)).trans (congrArg (trR st) (runF_out 9 _ [x0, x1] st))
theorem ok_done {f : Addr} {fd : FuncData} (F : Fun K "done" "done" st_done f fd)  : FnOk P w K mg base (L2.CX P w) 1 f fd ["deed", "form"] (spF K B 2 F_done) := fn_pt (fn_ok (k := 0) F sc_done fun cdv A outer s H E rs hr => (iss_cons (is_asg (ie_var 1) (ig_tup (n := 7) rfl sc_done.nd (nts 2 (nts 3 (nts 4 (nts 5 (nts 6 (nts 7 (nts 8 .nil))))))) rfl) (gTp_no _)) (iss_cons (is_match (ie_var 0) (.cons (.two (by decide +kernel) (by decide +kernel)) (iss_one (is_ret (ie_tup (ia_cons (ie_var 2) (ia_cons (ie_cmp (op_eqA hr.units) snd_eq (ie_var 0) (ie_str (by decide +kernel)) (nomark _)) (ia_cons (ie_var 4) (ia_cons (ie_var 5) (ia_cons (ie_var 6) (ia_cons (ie_var 7) (ia_cons (ie_var 8) ia_nil)))))))))) (.cons (.two (by decide +kernel) (by decide +kernel)) (iss_one (is_ret (ie_tup (ia_cons (ie_var 2) (ia_cons (ie_var 3) (ia_cons (ie_cmp (op_eqA hr.units) snd_eq (ie_var 0) (ie_str (by decide +kernel)) (nomark _)) (ia_cons (ie_var 5) (ia_cons (ie_var 6) (ia_cons (ie_var 7) (ia_cons (ie_var 8) ia_nil)))))))))) (.cons (.two (by decide +kernel) (by decide +kernel)) (iss_one (is_ret (ie_tup (ia_cons (ie_var 2) (ia_cons (ie_var 3) (ia_cons (ie_var 4) (ia_cons (ie_var 5) (ia_cons (ie_var 6) (ia_cons (ie_if (it_cmp (op_eqA hr.units) snd_eq (ie_var 0) (ie_str (by decide +kernel)) (nomark _)) ie_int ie_int) (ia_cons (ie_var 8) ia_nil)))))))))) .nil)))) (iss_cons (is_if (it_w (iw_or (it_cmp (op_eqA hr.units) snd_eq (ie_var 5) (ie_var 6) (nomark _)) (iw_or1 (it_cmp (op_neA hr.units) snd_ne (ie_var 6) (ie_cmp (op_eqA hr.units) snd_eq (ie_var 0) (ie_str (by decide +kernel)) (nomark _)) (nomark _))))) (iss_one (is_ret (ie_var 1))) iss_nil) (iss_one (is_ret (ie_tup (ia_cons (ie_var 2) (ia_cons (ie_var 3) (ia_cons (ie_var 4) (ia_cons (ie_var 6) (ia_cons (ie_var 5) (ia_cons (ie_var 7) (ia_cons (ie_var 8) ia_nil))))))))))))))
/-! lay_by -/
abbrev st_lay_by : Stmt := topS 7
theorem sc_lay_by : FnScope ["rows", "before", "form", "found", "row", "deed"] ["rows", "before", "form"] (defScope st_lay_by) := ⟨rfl, rfl, rfl, by decide +kernel, rfl, by decide +kernel, by decide +kernel⟩
noncomputable def m_lay_by : MS := (sSeq (sSet 3 (mVar 2)) (sSeq (sFor (mIt (mVar 0)) (gNm 4) (sIf (mB (mCall 3 F_is_done (mCons (mVar 4) (mCons (mVar 1) (mCons (mVar 3) mNil))) [])) (sFor (mIt (mFld [11] 4 (mVar 4))) (gNm 5) (sSet 3 (mCall 2 F_done (mCons (mVar 5) (mCons (mVar 3) mNil)) []))) sNx)) (sRet (mVar 3))))
noncomputable def F_lay_by : MF := pt (runF 6 m_lay_by)
theorem run_lay_by (x0 x1 x2 : Dt) (st : Sto) (h : clL 0 [x0, x1, x2] = true) : F_lay_by [x0, x1, x2] st = puR st (outF (m_lay_by [some x0, some x1, some x2, none, none, none] [])) := (if_pos h).trans (congrArg (puR st) (runF_out 6 _ [x0, x1, x2] []))
theorem runT_lay_by (x0 x1 x2 : Dt) (st : Sto) (h : clL 0 [x0, x1, x2] = false) : F_lay_by [x0, x1, x2] st = trR st (outF (m_lay_by [some x0, some x1, some x2, none, none, none] st)) := (if_neg (by rw [h]; decide)).trans (congrArg (trR st) (runF_out 6 _ [x0, x1, x2] st))
theorem ok_lay_by {f : Addr} {fd : FuncData} (F : Fun K "lay_by" "lay_by" st_lay_by f fd) (D_is_done : DefOk P w K mg base B "is_done" 5 3 F_is_done []) (Fl_deeds : FldOk K B [11] 4 "deeds") (D_done : DefOk P w K mg base B "done" 1 2 F_done []) : FnOk P w K mg base (L2.CX P w) 6 f fd ["rows", "before", "form"] (spF K B 3 F_lay_by) := fn_pt (fn_ok (k := 5) F sc_lay_by fun cdv A outer s H E rs hr => (iss_cons (is_set 3 sc_lay_by.nd (ie_var 2)) (iss_cons (is_for (passes_of rfl) rfl (ii_any (ie_var 0)) (ig_name 4 sc_lay_by.nd) (iss_one (is_if (it_val (ie_callD D_is_done (hr.mono (by decide)) (takes_of rfl rfl rfl rfl) (ia_cons (ie_var 4) (ia_cons (ie_var 1) (ia_cons (ie_var 3) ia_nil))))) (iss_one (is_for (passes_of rfl) rfl (ii_any (ie_fldD Fl_deeds (ie_var 4))) (ig_name 5 sc_lay_by.nd) (iss_one (is_set 3 sc_lay_by.nd (ie_callD D_done (hr.mono (by decide)) (takes_of rfl rfl rfl rfl) (ia_cons (ie_var 5) (ia_cons (ie_var 3) ia_nil))))))) iss_nil))) (iss_one (is_ret (ie_var 3))))))
/-! lay -/
abbrev st_lay : Stmt := topS 8
theorem sc_lay : FnScope ["tool", "before", "form"] ["tool", "before", "form"] (defScope st_lay) := ⟨rfl, rfl, rfl, by decide +kernel, rfl, by decide +kernel, by decide +kernel⟩
noncomputable def m_lay : MS := (sRet (mCall 3 F_lay_by (mCons (mFld [12] 5 (mVar 0)) (mCons (mVar 1) (mCons (mVar 2) mNil))) []))
noncomputable def F_lay : MF := pt (runF 3 m_lay)
theorem run_lay (x0 x1 x2 : Dt) (st : Sto) (h : clL 0 [x0, x1, x2] = true) : F_lay [x0, x1, x2] st = puR st (outF (m_lay [some x0, some x1, some x2] [])) := (if_pos h).trans (congrArg (puR st) (runF_out 3 _ [x0, x1, x2] []))
theorem runT_lay (x0 x1 x2 : Dt) (st : Sto) (h : clL 0 [x0, x1, x2] = false) : F_lay [x0, x1, x2] st = trR st (outF (m_lay [some x0, some x1, some x2] st)) := (if_neg (by rw [h]; decide)).trans (congrArg (trR st) (runF_out 3 _ [x0, x1, x2] st))
theorem ok_lay {f : Addr} {fd : FuncData} (F : Fun K "lay" "lay" st_lay f fd) (Fl_rows : FldOk K B [12] 5 "rows") (D_lay_by : DefOk P w K mg base B "lay_by" 6 3 F_lay_by []) : FnOk P w K mg base (L2.CX P w) 7 f fd ["tool", "before", "form"] (spF K B 3 F_lay) := fn_pt (fn_ok (k := 6) F sc_lay fun cdv A outer s H E rs hr => (iss_one (is_ret (ie_callD D_lay_by (hr.mono (by decide)) (takes_of rfl rfl rfl rfl) (ia_cons (ie_fldD Fl_rows (ie_var 0)) (ia_cons (ie_var 1) (ia_cons (ie_var 2) ia_nil)))))))
/-! law -/
abbrev st_law : Stmt := topS 37
theorem sc_law : FnScope ["_law_script", "_law_k", "_law_turn", "_law_box_here", "_law_every", "_law_tool_here", "_law_made", "_law_more", "_law_form", "_law_before", "_law_due"] ["_law_script"] (defScope st_law) := ⟨rfl, rfl, rfl, by decide +kernel, rfl, by decide +kernel, by decide +kernel⟩
noncomputable def m_law : MS := (sSeq (sFor (mRng (mCons (mCB maxD (mCons (mC (.int 1)) (mCons (mCB minD (mCons (mC (.int 3)) (mCons (mCB lenD (mCons (mVar 0) mNil)) mNil))) mNil))) mNil)) (gNm 1) (sSeq (sAsg (mTup (mCons (mCall 3 F_law_box (mCons (mVar 0) (mCons (mVar 1) (mCons (mC (.int 24)) mNil))) []) (mCons (mCall 0 F_law_forms mNil []) mNil))) (gTp [3, 4])) (sFor (mRng (mCons (mC (.int 4)) mNil)) (gNm 2) (sSeq (sSet 5 (mCall 1 F_law_tool (mCons (mVar 3) mNil) [])) (sSeq (sSet 5 (mTup (mCons (mBin addD (mBin ixD (mVar 5) (mC (.int 0))) (mLcV (mRng (mCons (mCall 2 F_law_take (mCons (mVar 3) (mCons (mC (.int 5)) mNil)) []) mNil)) (gNm 7) mYes (mCall 1 F_law_row (mCons (mVar 3) mNil) []) [7])) (mCons (mBin ixD (mVar 5) (mC (.int 1))) mNil)))) (sSeq (sSet 6 (mCall 1 F_law_tool_of (mCons (mVar 5) mNil) [])) (sFor (mRng (mCons (mC (.int 40)) mNil)) (gNm 7) (sSeq (sSet 8 (mCall 2 F_law_pick (mCons (mVar 3) (mCons (mVar 4) mNil)) [])) (sSeq (sSet 9 (mCall 2 F_law_pick (mCons (mVar 3) (mCons (mLstV (mCons (mTup mNil) (mCons (mTup (mCons (mC (.bl false)) (mCons (mC (.bl false)) mNil))) (mCons (mTup (mCons (mC (.bl false)) (mCons (mC (.bl true)) mNil))) (mCons (mTup (mCons (mC (.bl true)) (mCons (mC (.bl false)) mNil))) (mCons (mTup (mCons (mC (.bl true)) (mCons (mC (.bl true)) mNil))) mNil)))))) mNil)) [])) (sSeq (sSet 10 (mCall 3 F_law_laid (mCons (mBin ixD (mVar 5) (mC (.int 0))) (mCons (mVar 9) (mCons (mVar 8) mNil))) [])) (sSeq (sIf (mOr (mB (mBin neD (mCB reprD (mCons (mCall 3 F_lay (mCons (mVar 6) (mCons (mVar 9) (mCons (mVar 8) mNil))) []) mNil)) (mCB reprD (mCons (mVar 10) mNil)))) (mB (mBin neD (mCall 3 F_lay (mCons (mMakeV 12 3 F_ToolD_initD (mCons (mFld [12] 5 (mVar 6)) mNil) [.bl false]) (mCons (mVar 9) (mCons (mVar 8) mNil))) []) (mVar 10)))) (sRet (mC (.bl false))) sNx) (sIf (mB (mBin neD (mCB reprD (mCons (mCall 3 F_lay (mCons (mVar 6) (mCons (mVar 9) (mCons (mVar 8) mNil))) []) mNil)) (mCB reprD (mCons (mVar 10) mNil)))) (sRet (mC (.bl false))) sNx)))))))))))) (sRet (mBin eqD (mC (.int 432)) (mCB lenD (mCons (mCall 0 F_law_forms mNil []) mNil)))))
noncomputable def F_law : MF := (runF 11 m_law)
theorem run_law (x0 : Dt) (st : Sto) : F_law [x0] st = outF (m_law [some x0, none, none, none, none, none, none, none, none, none, none] st) := runF_out 11 _ [x0] st
theorem ok_law {f : Addr} {fd : FuncData} (F : Fun K "law" "law" st_law f fd) (b_len : mg "len" = none) (b_min : mg "min" = none) (b_max : mg "max" = none) (b_range : mg "range" = none) (D_law_forms : DefOk P w K mg base B "_law_forms" 1 0 F_law_forms []) (D_law_box : DefOk P w K mg base B "_law_box" 1 3 F_law_box []) (D_law_tool : DefOk P w K mg base B "_law_tool" 5 1 F_law_tool []) (D_law_take : DefOk P w K mg base B "_law_take" 1 2 F_law_take []) (D_law_row : DefOk P w K mg base B "_law_row" 4 1 F_law_row []) (D_law_tool_of : DefOk P w K mg base B "_law_tool_of" 5 1 F_law_tool_of []) (D_law_pick : DefOk P w K mg base B "_law_pick" 2 2 F_law_pick []) (D_law_laid : DefOk P w K mg base B "_law_laid" 5 3 F_law_laid []) (D_lay : DefOk P w K mg base B "lay" 7 3 F_lay []) (b_repr : mg "repr" = none) (Fl_rows : FldOk K B [12] 5 "rows") (K_Tool_1 : MakeOk P w K mg base B "Tool" 12 3 3 F_ToolD_initD [.bl false]) (Ln_FORMS : LenOk K mg "FORMS" 432) : FnG P w K mg base 8 f fd ["_law_script"] (spF K B 1 F_law) := fn_okG (k := 7) F sc_law fun cdv A outer s H E rs hg hr => (iss_cons (is_for (passes_of rfl) rfl (ii_range (by rfl) b_range (ia_cons (ie_callB (call_max2 rfl) snd_max (by rfl) b_max (by decide +kernel) (ia_cons ie_int (ia_cons (ie_callB (call_min2 rfl) snd_min (by rfl) b_min (by decide +kernel) (ia_cons ie_int (ia_cons (ie_callB call_lenA snd_len (by rfl) b_len PySem.boot_len (ia_cons (ie_var 0) ia_nil)) ia_nil))) ia_nil))) ia_nil)) (ig_name 1 sc_law.nd) (iss_cons (is_asg (ie_tup (ia_cons (ie_callD D_law_box (hr.mono (by decide)) (takes_of rfl rfl rfl rfl) (ia_cons (ie_var 0) (ia_cons (ie_var 1) (ia_cons ie_int ia_nil)))) (ia_cons (ie_callD0 D_law_forms (hr.mono (by decide)) (takes_of rfl rfl rfl rfl)) ia_nil))) (ig_tup (n := 2) rfl sc_law.nd (nts 3 (nts 4 .nil)) rfl) (gTp_no _)) (iss_one (is_for (passes_of rfl) rfl (ii_range (by rfl) b_range (ia_cons ie_int ia_nil)) (ig_name 2 sc_law.nd) (iss_cons (is_set 5 sc_law.nd (ie_callD D_law_tool (hr.mono (by decide)) (takes_of rfl rfl rfl rfl) (ia_cons (ie_var 3) ia_nil))) (iss_cons (is_set 5 sc_law.nd (ie_tup (ia_cons (ie_bin op_addD snd_add (ie_ix ix_seq snd_ix (ie_var 5) ie_int) (ie_lcV rfl sc_law.nd [7] (own := [("_law_more", 7)]) rfl (gok_name 7) (ii_range (by rfl) b_range (ia_cons (ie_callD D_law_take (hr.mono (by decide)) (takes_of rfl rfl rfl rfl) (ia_cons (ie_var 3) (ia_cons ie_int ia_nil))) ia_nil)) (blkOk_by (N := ["_law_script", "_law_k", "_law_turn", "_law_box_here", "_law_every", "_law_tool_here", "_law_made", "_law_more", "_law_form", "_law_before", "_law_due"]) (sc := defScope st_law) (by decide +kernel)) (fun _ _ _ _ _ => pg_name (i := 7) sc_law.nd rfl (by first | exact Or.inl rfl | exact Or.inr rfl)) (fun _ _ _ _ _ rs => its_nil) (fun _ _ _ _ _ rs => (ie_callD D_law_row (hr.mono (by decide)) takes0 (ia_cons (ie_var 3) ia_nil))))) (ia_cons (ie_ix ix_seq snd_ix (ie_var 5) ie_int) ia_nil)))) (iss_cons (is_set 6 sc_law.nd (ie_callD D_law_tool_of (hr.mono (by decide)) (takes_of rfl rfl rfl rfl) (ia_cons (ie_var 5) ia_nil))) (iss_one (is_for (passes_of rfl) rfl (ii_range (by rfl) b_range (ia_cons ie_int ia_nil)) (ig_name 7 sc_law.nd) (iss_cons (is_set 8 sc_law.nd (ie_callD D_law_pick (hr.mono (by decide)) (takes_of rfl rfl rfl rfl) (ia_cons (ie_var 3) (ia_cons (ie_var 4) ia_nil)))) (iss_cons (is_set 9 sc_law.nd (ie_callD D_law_pick (hr.mono (by decide)) (takes_of rfl rfl rfl rfl) (ia_cons (ie_var 3) (ia_cons (ie_lstV (ia_cons (ie_tup ia_nil) (ia_cons (ie_tup (ia_cons ie_bl (ia_cons ie_bl ia_nil))) (ia_cons (ie_tup (ia_cons ie_bl (ia_cons ie_bl ia_nil))) (ia_cons (ie_tup (ia_cons ie_bl (ia_cons ie_bl ia_nil))) (ia_cons (ie_tup (ia_cons ie_bl (ia_cons ie_bl ia_nil))) ia_nil)))))) ia_nil)))) (iss_cons (is_set 10 sc_law.nd (ie_callD D_law_laid (hr.mono (by decide)) (takes_of rfl rfl rfl rfl) (ia_cons (ie_ix ix_seq snd_ix (ie_var 5) ie_int) (ia_cons (ie_var 9) (ia_cons (ie_var 8) ia_nil))))) (iss_cons (is_if (it_w (iw_or (it_cmp (op_neA hr.units) snd_ne (ie_callB (call_reprD hg (re_of hr)) snd_repr (by rfl) b_repr (by decide +kernel) (ia_cons (ie_callD D_lay (hr.mono (by decide)) (takes_of rfl rfl rfl rfl) (ia_cons (ie_var 6) (ia_cons (ie_var 9) (ia_cons (ie_var 8) ia_nil)))) ia_nil)) (ie_callB (call_reprD hg (re_of hr)) snd_repr (by rfl) b_repr (by decide +kernel) (ia_cons (ie_var 10) ia_nil)) (nomark _)) (iw_or1 (it_cmp (op_neA hr.units) snd_ne (ie_callD D_lay (hr.mono (by decide)) (takes_of rfl rfl rfl rfl) (ia_cons (ie_makeDV K_Tool_1 (hr.mono (by decide)) (takes_of rfl rfl rfl rfl) (ia_cons (ie_fldD Fl_rows (ie_var 6)) ia_nil)) (ia_cons (ie_var 9) (ia_cons (ie_var 8) ia_nil)))) (ie_var 10) (nomark _))))) (iss_one (is_ret ie_bl)) iss_nil) (iss_one (is_if (it_cmp (op_neA hr.units) snd_ne (ie_callB (call_reprD hg (re_of hr)) snd_repr (by rfl) b_repr (by decide +kernel) (ia_cons (ie_callD D_lay (hr.mono (by decide)) (takes_of rfl rfl rfl rfl) (ia_cons (ie_var 6) (ia_cons (ie_var 9) (ia_cons (ie_var 8) ia_nil)))) ia_nil)) (ie_callB (call_reprD hg (re_of hr)) snd_repr (by rfl) b_repr (by decide +kernel) (ia_cons (ie_var 10) ia_nil)) (nomark _)) (iss_one (is_ret ie_bl)) iss_nil))))))))))))))) (iss_one (is_ret (ie_cmp (op_eqA hr.units) snd_eq (ie_lenC Ln_FORMS b_len) (ie_callB call_lenA snd_len (by rfl) b_len PySem.boot_len (ia_cons (ie_callD0 D_law_forms (hr.mono (by decide)) (takes_of rfl rfl rfl rfl)) ia_nil)) (nomark _)))))
end
end Law
set_option Elab.async false
set_option linter.all false
set_option maxRecDepth 100000
set_option maxHeartbeats 1000000
namespace Law
open PySem PySem.Spec PyProof.Rows L2 LT
local macro_rules | `(tactic| walk_at "st") => `(tactic| repeat (first | with_reducible refine giv_call ?_ | with_reducible refine giv_cons ?_ | with_reducible refine giv_nil ?_ | with_reducible refine giv_cb ?_ | with_reducible refine giv_bin ?_ | with_reducible refine giv_b ?_ | with_reducible refine giv_ifE ?_ | with_reducible refine giv_tup ?_ | with_reducible refine giv_lstV ?_ | with_reducible refine giv_rng ?_ | with_reducible refine giv_it ?_ | with_reducible refine giv_lcV ?_ | with_reducible refine giv_sl ?_ | with_reducible refine giv_part ?_ | with_reducible refine giv_noPart ?_ | with_reducible refine giv_or ?_ | with_reducible refine giv_and ?_ | with_reducible refine giv_not ?_ | with_reducible refine giv_c ?_ | with_reducible refine giv_addI ?_ | with_reducible refine giv_subI ?_ | with_reducible refine giv_eqI ?_ | with_reducible refine giv_neI ?_ | with_reducible refine giv_eqS ?_ | with_reducible refine giv_neS ?_ | with_reducible refine giv_lenL ?_ | with_reducible refine giv_lenT ?_ | with_reducible refine giv_slL ?_ | with_reducible refine giv_slT ?_ | with_reducible refine giv_tuL ?_ | with_reducible refine giv_tuT ?_ | with_reducible refine giv_liL ?_ | with_reducible refine giv_liT ?_ | with_reducible refine giv_itT ?_ | with_reducible refine giv_itL ?_ | with_reducible refine giv_andE ?_ | with_reducible refine giv_orE ?_ | with_reducible refine giv_notE ?_ | with_reducible refine giv_makeV ?_ | with_reducible refine giv_isI ?_ | with_reducible refine giv_star ?_ | with_reducible refine giv_bm ?_ | with_reducible refine giv_bm0 ?_ | with_reducible refine giv_fldO ?_ | with_reducible refine giv_meth ?_ | with_reducible refine giv_chain ?_ | with_reducible refine giv_leI ?_ | with_reducible refine giv_ltI ?_ | with_reducible refine giv_geI ?_ | with_reducible refine giv_gtI ?_ | with_reducible refine giv_ix0 ?_ | with_reducible refine giv_ix1 ?_ | with_reducible refine giv_ix0L ?_ | with_reducible refine giv_ix1L ?_ | with_reducible refine giv_ix2L ?_ | with_reducible refine giv_lstV ?_ | with_reducible refine ifT ?_ | with_reducible refine ifF ?_ | with_reducible refine ifNT ?_ | with_reducible refine ifNF ?_ | with_reducible refine (Exists.intro _ (And.intro (Eq.refl (Dt.bl _)) ?_)) | with_reducible refine (Exists.intro _ (And.intro (Eq.refl (Dt.int _)) ?_)) | with_reducible refine (Exists.intro _ (And.intro (Eq.refl [Dt.int _]) ?_)) | ((with_reducible refine methG_id ?_); refine methG_i rfl rfl ?_) | ((with_reducible refine fldG_id ?_); refine fldG_i rfl rfl rfl ?_) | ((with_reducible refine isG_id ?_); first | refine isG_t rfl rfl ?_ | refine isG_f rfl rfl ?_) | ((with_reducible refine starG_id ?_); refine starG_i rfl ?_) | ((with_reducible refine giv_varG ?_); refine varG_i rfl ?_) | ((with_reducible refine And.intro ?_ ?_); first | exact rfl | exact Nat.le_of_ble_eq_true rfl)))
local macro_rules | `(tactic| walk_at "lt") => `(tactic| simp only [sSeq, sIf, sRet, sRetN, sNx, sSet, sAsg, gNm, sExpr, sPar, mVar, mC, mBin, mUn, mCons, mNil, mCB, mB, isB, mAnd, mOr, mNot, mAndV, mOrV, mNotV, mIf, mTup, mLst, mLstV, mCall, mKey, mBM, mBM0, mSl, mPart, mNoPart, mIt, mRng, mLcV, mStar, mFld, mMakeV, mMeth, mIsI, mTru, mJoined, mFs, mFmt, mChain, mRevV, mRev, sFor, sRaise, outF, Re.bind, Re.on, List.set, List.getElem?_cons_zero, List.getElem?_cons_succ, if_true, if_false, Bool.false_eq_true, reduceIte, Bool.not_true, Bool.not_false, List.length_nil, List.length_cons, List.append_nil, List.nil_append, List.cons_append, Nat.reduceAdd, Nat.zero_add, lim, Nat.reduceLeDiff, Nat.reduceEqDiff, Option.some.injEq, and_self, and_true, true_and, wipeE, wTup_fuel, wRng_fuel])
theorem take_ok {b : Nat} {st : Sto} {many : Int} (hB : Bq b st) (h1 : 0 < many) (h2 : many < 1073741824) :
    ∃ (r : Int) (st' : Sto), F_law_take [.ref b, .int many] st = .ok (.int r) st' ∧ 0 ≤ r ∧ r < many ∧ Ds [b] (Bq b) st st' := by
  rw [runT_law_take _ _ _ (by simp [clL, clD])]
  suffices hr : Run (m_law_take [some (.ref b), some (.int many), none, none, none] st) (fun _ _ => False) (fun d st2 => (∃ r : Int, d = .int r ∧ 0 ≤ r ∧ r < many) ∧ Xm [b] st st2 ∧ Bq b st2) by
    obtain ⟨d, st', e, ⟨r, rfl, q1, q2⟩, D⟩ := tr_run (bq_src b) hB (fun d ⟨r, hd, _⟩ => by rw [hd]; rfl) hr
    exact ⟨r, st', e, q1, q2, D⟩
  obtain ⟨c, z, n, hb⟩ := hB
  have hl : b < st.length := (List.getElem?_eq_some_iff.mp hb).1
  have mod : ∀ x : Int, 0 ≤ x % many ∧ x % many < many := fun x => ⟨Int.emod_nonneg _ (by omega), Int.emod_lt_of_pos _ h1⟩
  unfold m_law_take
  refine run_seq (run_if ?_)
  walk_at "st"
  refine giv (bq_0 hb) ?_
  walk_at "st"
  by_cases hc : 0 < c
  · rw [decide_eq_true hc]
    walk_at "st"
    refine run_seq (run_set ?_)
    walk_at "st"
    refine giv (bq_0 hb) ?_
    walk_at "st"
    refine giv_cint ?_
    walk_at "st"
    refine giv_modI h1 ?_
    simp only [List.set]
    refine run_seq (run_asg ?_)
    walk_at "st"
    refine giv (bq_0 hb) ?_
    walk_at "st"
    refine giv_fdivI h1 h2 ?_
    refine run_subL rfl rfl (bq_s0 hb) ?_
    refine run_ret ?_
    walk_at "st"
    exact ⟨⟨_, rfl, mod c⟩, Xm.set List.mem_cons_self, _, _, _, List.getElem?_set_self hl⟩
  · rw [decide_eq_false hc]
    walk_at "st"
    refine run_nx ?_
    refine run_seq (run_asg ?_)
    walk_at "st"
    refine giv (bq_2 hb) ?_
    walk_at "st"
    refine run_subL rfl rfl (bq_s2 hb) ?_
    have hb2 := List.getElem?_set_self (a := Ob.lst [.int c, .int z, .int (n + 1)]) hl
    refine run_seq (run_set ?_)
    walk_at "st"
    refine giv (bq_1 hb2) ?_
    walk_at "st"
    refine giv (bq_2 hb2) ?_
    refine giv_mulI (by simp [cMul]) ?_
    walk_at "st"
    refine giv_mulI (by simp [cMul]) ?_
    walk_at "st"
    refine giv_cint ?_
    walk_at "st"
    refine giv_modI (by decide) ?_
    generalize (z + 104729 * (n + 1)) * 69623 % 2147483647 = raw
    simp only [List.set]
    refine run_seq (run_asg ?_)
    walk_at "st"
    refine giv_mulI (by simp [cMul]) ?_
    walk_at "st"
    refine giv_cint ?_
    walk_at "st"
    refine giv_modI (by decide) ?_
    walk_at "st"
    generalize (raw * 48271 + 30103) % 2147483629 + 1 = seed
    refine run_subL rfl rfl (bq_s1 hb2) ?_
    rw [List.set_set]
    have hb3 := List.getElem?_set_self (a := Ob.lst [.int c, .int seed, .int (n + 1)]) hl
    refine run_seq (run_if ?_)
    walk_at "st"
    refine giv (show powD (.int 2) (.int 40) _ = .ok (.int 1099511627776) _ from rfl) ?_
    walk_at "st"
    rw [decide_eq_true (show many < 1099511627776 by omega)]
    walk_at "st"
    refine run_ret ?_
    walk_at "st"
    refine giv_mulI (by simp [cMul]) ?_
    walk_at "st"
    refine giv (bq_1 hb3) ?_
    walk_at "st"
    refine giv_fdivI (by decide) (by decide) ?_
    walk_at "st"
    refine giv_cint ?_
    walk_at "st"
    refine giv_modI h1 ?_
    exact ⟨⟨_, rfl, mod _⟩, Xm.set List.mem_cons_self, _, _, _, hb3⟩
end Law
set_option Elab.async false
set_option linter.all false
set_option maxRecDepth 100000
set_option maxHeartbeats 1000000
namespace Law
open PySem PySem.Spec PyProof.Rows L2 LT
local macro_rules | `(tactic| walk_at "st") => `(tactic| repeat (first | with_reducible refine giv_call ?_ | with_reducible refine giv_cons ?_ | with_reducible refine giv_nil ?_ | with_reducible refine giv_cb ?_ | with_reducible refine giv_bin ?_ | with_reducible refine giv_b ?_ | with_reducible refine giv_ifE ?_ | with_reducible refine giv_tup ?_ | with_reducible refine giv_lstV ?_ | with_reducible refine giv_rng ?_ | with_reducible refine giv_it ?_ | with_reducible refine giv_lcV ?_ | with_reducible refine giv_sl ?_ | with_reducible refine giv_part ?_ | with_reducible refine giv_noPart ?_ | with_reducible refine giv_or ?_ | with_reducible refine giv_and ?_ | with_reducible refine giv_not ?_ | with_reducible refine giv_c ?_ | with_reducible refine giv_addI ?_ | with_reducible refine giv_subI ?_ | with_reducible refine giv_eqI ?_ | with_reducible refine giv_neI ?_ | with_reducible refine giv_eqS ?_ | with_reducible refine giv_neS ?_ | with_reducible refine giv_lenL ?_ | with_reducible refine giv_lenT ?_ | with_reducible refine giv_slL ?_ | with_reducible refine giv_slT ?_ | with_reducible refine giv_tuL ?_ | with_reducible refine giv_tuT ?_ | with_reducible refine giv_liL ?_ | with_reducible refine giv_liT ?_ | with_reducible refine giv_itT ?_ | with_reducible refine giv_itL ?_ | with_reducible refine giv_andE ?_ | with_reducible refine giv_orE ?_ | with_reducible refine giv_notE ?_ | with_reducible refine giv_makeV ?_ | with_reducible refine giv_isI ?_ | with_reducible refine giv_star ?_ | with_reducible refine giv_bm ?_ | with_reducible refine giv_bm0 ?_ | with_reducible refine giv_fldO ?_ | with_reducible refine giv_meth ?_ | with_reducible refine giv_chain ?_ | with_reducible refine giv_leI ?_ | with_reducible refine giv_ltI ?_ | with_reducible refine giv_geI ?_ | with_reducible refine giv_gtI ?_ | with_reducible refine giv_ix0 ?_ | with_reducible refine giv_ix1 ?_ | with_reducible refine giv_ix0L ?_ | with_reducible refine giv_ix1L ?_ | with_reducible refine giv_ix2L ?_ | with_reducible refine giv_lstV ?_ | with_reducible refine ifT ?_ | with_reducible refine ifF ?_ | with_reducible refine ifNT ?_ | with_reducible refine ifNF ?_ | with_reducible refine (Exists.intro _ (And.intro (Eq.refl (Dt.bl _)) ?_)) | with_reducible refine (Exists.intro _ (And.intro (Eq.refl (Dt.int _)) ?_)) | with_reducible refine (Exists.intro _ (And.intro (Eq.refl [Dt.int _]) ?_)) | ((with_reducible refine methG_id ?_); refine methG_i rfl rfl ?_) | ((with_reducible refine fldG_id ?_); refine fldG_i rfl rfl rfl ?_) | ((with_reducible refine isG_id ?_); first | refine isG_t rfl rfl ?_ | refine isG_f rfl rfl ?_) | ((with_reducible refine starG_id ?_); refine starG_i rfl ?_) | ((with_reducible refine giv_varG ?_); refine varG_i rfl ?_) | ((with_reducible refine And.intro ?_ ?_); first | exact rfl | exact Nat.le_of_ble_eq_true rfl)))
local macro_rules | `(tactic| walk_at "lt") => `(tactic| simp only [sSeq, sIf, sRet, sRetN, sNx, sSet, sAsg, gNm, sExpr, sPar, mVar, mC, mBin, mUn, mCons, mNil, mCB, mB, isB, mAnd, mOr, mNot, mAndV, mOrV, mNotV, mIf, mTup, mLst, mLstV, mCall, mKey, mBM, mBM0, mSl, mPart, mNoPart, mIt, mRng, mLcV, mStar, mFld, mMakeV, mMeth, mIsI, mTru, mJoined, mFs, mFmt, mChain, mRevV, mRev, sFor, sRaise, outF, Re.bind, Re.on, List.set, List.getElem?_cons_zero, List.getElem?_cons_succ, if_true, if_false, Bool.false_eq_true, reduceIte, Bool.not_true, Bool.not_false, List.length_nil, List.length_cons, List.append_nil, List.nil_append, List.cons_append, Nat.reduceAdd, Nat.zero_add, lim, Nat.reduceLeDiff, Nat.reduceEqDiff, Option.some.injEq, and_self, and_true, true_and, wipeE, wTup_fuel, wRng_fuel])
theorem giv_lstR {a : MA} {env : Lo} {st : Sto} {P : Dt → Sto → Prop} (h : Giv (a env st) fun xs s => xs.length ≤ lim ∧ P (.ref s.length) (s ++ [.lst xs])) : Giv (mLst a env st) P := giv_bind (h.mono fun xs s q => by
  rw [if_pos q.1]
  exact q.2)
theorem script_at {ns : List Int} {i : Int} {st : Sto} (h0 : 0 ≤ i) (h1 : i < ns.length) : ixD (.rl (ns.map Dt.int)) (.int i) st = .ok (.int (ns[i.toNat]'(by omega))) st := by
  obtain ⟨j, rfl⟩ := Int.eq_ofNat_of_zero_le h0
  have hj : j < ns.length := by omega
  simp only [ixD, seqD]
  have e : atI (ns.map Dt.int) (j : Int) = some (.int ns[j]) := by
    have := ixD_natL (st := st) (xs := ns.map Dt.int) (i := j) (d := .int ns[j]) (by rw [List.getElem?_map, List.getElem?_eq_getElem hj]; rfl)
    simp only [ixD, seqD] at this
    cases ha : atI (ns.map Dt.int) (j : Int) with
    | none => rw [ha] at this; cases this
    | some d => rw [ha] at this; simp only at this; injection this with this; rw [this]
  rw [e]
  rfl
theorem box_ok {ns : List Int} {k own : Int} {st : Sto} (hk : 0 ≤ k) :
    ∃ (b : Nat) (st' : Sto), F_law_box [.rl (ns.map Dt.int), .int k, .int own] st = .ok (.ref b) st' ∧ st.length ≤ b ∧ Xm [] st st' ∧ Bq b st' := by
  rw [run_law_box]
  suffices hr : Run (m_law_box [some (.rl (ns.map Dt.int)), some (.int k), some (.int own), none, none] st) (fun _ _ => False) (fun d st2 => ∃ b, d = .ref b ∧ st.length ≤ b ∧ Xm [] st st2 ∧ Bq b st2) by
    cases hq : m_law_box [some (.rl (ns.map Dt.int)), some (.int k), some (.int own), none, none] st <;> rw [hq] at hr <;> first | exact hr.elim | skip
    obtain ⟨b, rfl, h1, h2, h3⟩ := hr
    exact ⟨b, _, rfl, h1, h2, h3⟩
  unfold m_law_box
  refine run_seq (run_set ?_)
  walk_at "st"
  refine giv_mulI (by simp [cMul]) ?_
  walk_at "st"
  refine giv_mulI (by simp [cMul]) ?_
  walk_at "st"
  simp only [List.set]
  generalize 7727 * k + 104729 * own + 43 = cell
  have rest : ∀ cell : Int, Run ((sSeq (sSet 4 (mBin addD (mBin modD (mCB cintD (mCons (mBin addD (mBin mulD (mBin modD (mCB cintD (mCons (mVar 3) mNil)) (mC (.int 2147483629))) (mC (.int 48271))) (mBin mulD (mC (.int 40692)) (mBin addD (mVar 1) (mBin mulD (mC (.int 11)) (mVar 2))))) mNil)) (mC (.int 2147483629))) (mC (.int 1)))) (sRet (mLst (mCons (mBin ixD (mLst (mCons (mC (.int 0)) (mCons (mVar 3) mNil))) (mCB cintD (mCons (mBin geD (mVar 3) (mBin powD (mC (.int 10)) (mC (.int 18)))) mNil))) (mCons (mVar 4) (mCons (mC (.int 0)) mNil)))))) [some (.rl (ns.map Dt.int)), some (.int k), some (.int own), some (.int cell), none] st) (fun _ _ => False) (fun d st2 => ∃ b, d = .ref b ∧ st.length ≤ b ∧ Xm [] st st2 ∧ Bq b st2) := fun cell => by
    refine run_seq (run_set ?_)
    walk_at "st"
    refine giv_cint ?_
    walk_at "st"
    refine giv_modI (by decide) ?_
    walk_at "st"
    refine giv_mulI (by simp [cMul]) ?_
    walk_at "st"
    refine giv_mulI (by simp [cMul]) ?_
    walk_at "st"
    refine giv_mulI (by simp [cMul]) ?_
    walk_at "st"
    refine giv_cint ?_
    walk_at "st"
    refine giv_modI (by decide) ?_
    walk_at "st"
    generalize (cell % 2147483629 * 48271 + 40692 * (k + 11 * own)) % 2147483629 + 1 = seed
    simp only [List.set]
    refine run_ret ?_
    refine giv_lstR ?_
    walk_at "st"
    refine giv_lstR ?_
    walk_at "st"
    refine giv (show powD (.int 10) (.int 18) _ = .ok (.int 1000000000000000000) _ from rfl) ?_
    walk_at "st"
    have he : (st ++ [Ob.lst [.int 0, .int cell]])[st.length]? = some (.lst [.int 0, .int cell]) := by simp
    have fin : ∀ c : Int, Giv (mCons (mVar 4) (mCons (mC (.int 0)) mNil) [some (.rl (ns.map Dt.int)), some (.int k), some (.int own), some (.int cell), some (.int seed)] (st ++ [Ob.lst [.int 0, .int cell]])) fun xs s2 => (Dt.int c :: xs).length ≤ lim ∧ ∃ b, Dt.ref s2.length = .ref b ∧ st.length ≤ b ∧ Xm [] st (s2 ++ [.lst (Dt.int c :: xs)]) ∧ Bq b (s2 ++ [.lst (Dt.int c :: xs)]) := fun c => by
      walk_at "st"
      refine ⟨_, rfl, by simp, ?_, c, seed, 0, by simp⟩
      exact Xm.app.trans Xm.app
    by_cases hc : (1000000000000000000 : Int) ≤ cell
    · rw [decide_eq_true hc]
      refine giv (show cintD [.bl true] _ = .ok (.int 1) _ from rfl) ?_
      refine giv (show ixD (.ref st.length) (.int 1) _ = .ok (.int cell) _ by simp only [ixD, seqD, he]; rfl) ?_
      exact fin cell
    · rw [decide_eq_false hc]
      refine giv (show cintD [.bl false] _ = .ok (.int 0) _ from rfl) ?_
      refine giv (show ixD (.ref st.length) (.int 0) _ = .ok (.int 0) _ by simp only [ixD, seqD, he]; rfl) ?_
      exact fin 0
  refine run_seq (run_if ?_)
  walk_at "st"
  refine giv (len_any (xs := ns.map Dt.int) rfl) ?_
  walk_at "st"
  rw [List.length_map]
  by_cases hlt : k < ns.length
  · rw [decide_eq_true hlt]
    walk_at "st"
    refine run_set ?_
    walk_at "st"
    refine giv (script_at hk hlt) ?_
    walk_at "st"
    refine giv rfl ?_
    simp only [List.set]
    exact rest _
  · rw [decide_eq_false hlt]
    walk_at "st"
    refine run_if ?_
    walk_at "st"
    refine giv (len_any (xs := ns.map Dt.int) rfl) ?_
    walk_at "st"
    rw [List.length_map]
    by_cases h0 : (0 : Int) < ns.length
    · rw [decide_eq_true h0]
      walk_at "st"
      refine run_set ?_
      walk_at "st"
      refine giv_cint ?_
      walk_at "st"
      refine giv (len_any (xs := ns.map Dt.int) rfl) ?_
      rw [List.length_map]
      refine giv_modI h0 ?_
      refine giv (script_at (Int.emod_nonneg _ (by omega)) (Int.emod_lt_of_pos _ h0)) ?_
      walk_at "st"
      refine giv rfl ?_
      walk_at "st"
      refine giv_cint ?_
      walk_at "st"
      refine giv_modI (by decide) ?_
      walk_at "st"
      refine giv_mulI (by simp [cMul]) ?_
      walk_at "st"
      simp only [List.set]
      exact rest _
    · rw [decide_eq_false h0]
      walk_at "st"
      refine run_nx ?_
      exact rest _
end Law
set_option Elab.async false
set_option linter.all false
set_option maxRecDepth 100000
set_option maxHeartbeats 1000000
namespace Law
open PySem PySem.Spec PyProof.Rows L2 LT
local macro_rules | `(tactic| walk_at "st") => `(tactic| repeat (first | with_reducible refine giv_call ?_ | with_reducible refine giv_cons ?_ | with_reducible refine giv_nil ?_ | with_reducible refine giv_cb ?_ | with_reducible refine giv_bin ?_ | with_reducible refine giv_b ?_ | with_reducible refine giv_ifE ?_ | with_reducible refine giv_tup ?_ | with_reducible refine giv_lstV ?_ | with_reducible refine giv_rng ?_ | with_reducible refine giv_it ?_ | with_reducible refine giv_lcV ?_ | with_reducible refine giv_sl ?_ | with_reducible refine giv_part ?_ | with_reducible refine giv_noPart ?_ | with_reducible refine giv_or ?_ | with_reducible refine giv_and ?_ | with_reducible refine giv_not ?_ | with_reducible refine giv_c ?_ | with_reducible refine giv_addI ?_ | with_reducible refine giv_subI ?_ | with_reducible refine giv_eqI ?_ | with_reducible refine giv_neI ?_ | with_reducible refine giv_eqS ?_ | with_reducible refine giv_neS ?_ | with_reducible refine giv_lenL ?_ | with_reducible refine giv_lenT ?_ | with_reducible refine giv_slL ?_ | with_reducible refine giv_slT ?_ | with_reducible refine giv_tuL ?_ | with_reducible refine giv_tuT ?_ | with_reducible refine giv_liL ?_ | with_reducible refine giv_liT ?_ | with_reducible refine giv_itT ?_ | with_reducible refine giv_itL ?_ | with_reducible refine giv_andE ?_ | with_reducible refine giv_orE ?_ | with_reducible refine giv_notE ?_ | with_reducible refine giv_makeV ?_ | with_reducible refine giv_isI ?_ | with_reducible refine giv_star ?_ | with_reducible refine giv_bm ?_ | with_reducible refine giv_bm0 ?_ | with_reducible refine giv_fldO ?_ | with_reducible refine giv_meth ?_ | with_reducible refine giv_chain ?_ | with_reducible refine giv_leI ?_ | with_reducible refine giv_ltI ?_ | with_reducible refine giv_geI ?_ | with_reducible refine giv_gtI ?_ | with_reducible refine giv_ix0 ?_ | with_reducible refine giv_ix1 ?_ | with_reducible refine giv_ix0L ?_ | with_reducible refine giv_ix1L ?_ | with_reducible refine giv_ix2L ?_ | with_reducible refine giv_lstV ?_ | with_reducible refine ifT ?_ | with_reducible refine ifF ?_ | with_reducible refine ifNT ?_ | with_reducible refine ifNF ?_ | with_reducible refine (Exists.intro _ (And.intro (Eq.refl (Dt.bl _)) ?_)) | with_reducible refine (Exists.intro _ (And.intro (Eq.refl (Dt.int _)) ?_)) | with_reducible refine (Exists.intro _ (And.intro (Eq.refl [Dt.int _]) ?_)) | ((with_reducible refine methG_id ?_); refine methG_i rfl rfl ?_) | ((with_reducible refine fldG_id ?_); refine fldG_i rfl rfl rfl ?_) | ((with_reducible refine isG_id ?_); first | refine isG_t rfl rfl ?_ | refine isG_f rfl rfl ?_) | ((with_reducible refine starG_id ?_); refine starG_i rfl ?_) | ((with_reducible refine giv_varG ?_); refine varG_i rfl ?_) | ((with_reducible refine And.intro ?_ ?_); first | exact rfl | exact Nat.le_of_ble_eq_true rfl)))
local macro_rules | `(tactic| walk_at "lt") => `(tactic| simp only [sSeq, sIf, sRet, sRetN, sNx, sSet, sAsg, gNm, sExpr, sPar, mVar, mC, mBin, mUn, mCons, mNil, mCB, mB, isB, mAnd, mOr, mNot, mAndV, mOrV, mNotV, mIf, mTup, mLst, mLstV, mCall, mKey, mBM, mBM0, mSl, mPart, mNoPart, mIt, mRng, mLcV, mStar, mFld, mMakeV, mMeth, mIsI, mTru, mJoined, mFs, mFmt, mChain, mRevV, mRev, sFor, sRaise, outF, Re.bind, Re.on, List.set, List.getElem?_cons_zero, List.getElem?_cons_succ, if_true, if_false, Bool.false_eq_true, reduceIte, Bool.not_true, Bool.not_false, List.length_nil, List.length_cons, List.append_nil, List.nil_append, List.cons_append, Nat.reduceAdd, Nat.zero_add, lim, Nat.reduceLeDiff, Nat.reduceEqDiff, Option.some.injEq, and_self, and_true, true_and, wipeE, wTup_fuel, wRng_fuel])
theorem pick_ok {b : Nat} {st : Sto} {d : Dt} {xs : List Dt} (hB : Bq b st) (hd : d = .li xs ∨ d = .tup xs) (hc : clL 0 xs = true) (h0 : 0 < xs.length) (hl : xs.length < 1073741824) :
    ∃ (x : Dt) (st' : Sto), F_law_pick [.ref b, d] st = .ok x st' ∧ x ∈ xs ∧ Ds [b] (Bq b) st st' := by
  rw [runT_law_pick _ _ _ (by simp [clL, clD])]
  obtain ⟨r, st1, e1, r0, r1, D1⟩ := take_ok hB (many := (xs.length : Int)) (by omega) (by omega)
  obtain ⟨k, rfl⟩ := Int.eq_ofNat_of_zero_le r0
  have hk : k < xs.length := by omega
  have hlen : lenD [d] st = .ok (.int xs.length) st := by rcases hd with rfl | rfl <;> rfl
  have hix : ixD d (.int (k : Int)) st1 = .ok xs[k] st1 := by
    rcases hd with rfl | rfl
    · exact ixD_natL (List.getElem?_eq_getElem hk)
    · exact ixD_nat (List.getElem?_eq_getElem hk)
  suffices hr : Run (m_law_pick [some (.ref b), some d] st) (fun _ _ => False) (fun d st2 => (d ∈ xs) ∧ Xm [b] st st2 ∧ Bq b st2) by
    exact tr_run (bq_src b) hB (fun d hd => clD_mono (Nat.zero_le _) (clL_mem.mp hc _ hd)) hr
  unfold m_law_pick
  refine run_ret ?_
  walk_at "st"
  refine giv hlen ?_
  walk_at "st"
  refine giv e1 ?_
  refine giv hix ?_
  exact ⟨List.getElem_mem hk, D1.xm, D1.inv⟩
end Law
set_option Elab.async false
set_option linter.all false
set_option maxRecDepth 100000
set_option maxHeartbeats 1000000
namespace Law
open PySem PySem.Spec PyProof.Rows L2 LT
local macro_rules | `(tactic| walk_at "st") => `(tactic| repeat (first | with_reducible refine giv_call ?_ | with_reducible refine giv_cons ?_ | with_reducible refine giv_nil ?_ | with_reducible refine giv_cb ?_ | with_reducible refine giv_bin ?_ | with_reducible refine giv_b ?_ | with_reducible refine giv_ifE ?_ | with_reducible refine giv_tup ?_ | with_reducible refine giv_lstV ?_ | with_reducible refine giv_rng ?_ | with_reducible refine giv_it ?_ | with_reducible refine giv_lcV ?_ | with_reducible refine giv_sl ?_ | with_reducible refine giv_part ?_ | with_reducible refine giv_noPart ?_ | with_reducible refine giv_or ?_ | with_reducible refine giv_and ?_ | with_reducible refine giv_not ?_ | with_reducible refine giv_c ?_ | with_reducible refine giv_addI ?_ | with_reducible refine giv_subI ?_ | with_reducible refine giv_eqI ?_ | with_reducible refine giv_neI ?_ | with_reducible refine giv_eqS ?_ | with_reducible refine giv_neS ?_ | with_reducible refine giv_lenL ?_ | with_reducible refine giv_lenT ?_ | with_reducible refine giv_slL ?_ | with_reducible refine giv_slT ?_ | with_reducible refine giv_tuL ?_ | with_reducible refine giv_tuT ?_ | with_reducible refine giv_liL ?_ | with_reducible refine giv_liT ?_ | with_reducible refine giv_itT ?_ | with_reducible refine giv_itL ?_ | with_reducible refine giv_andE ?_ | with_reducible refine giv_orE ?_ | with_reducible refine giv_notE ?_ | with_reducible refine giv_makeV ?_ | with_reducible refine giv_isI ?_ | with_reducible refine giv_star ?_ | with_reducible refine giv_bm ?_ | with_reducible refine giv_bm0 ?_ | with_reducible refine giv_fldO ?_ | with_reducible refine giv_meth ?_ | with_reducible refine giv_chain ?_ | with_reducible refine giv_leI ?_ | with_reducible refine giv_ltI ?_ | with_reducible refine giv_geI ?_ | with_reducible refine giv_gtI ?_ | with_reducible refine giv_ix0 ?_ | with_reducible refine giv_ix1 ?_ | with_reducible refine giv_ix0L ?_ | with_reducible refine giv_ix1L ?_ | with_reducible refine giv_ix2L ?_ | with_reducible refine giv_lstV ?_ | with_reducible refine ifT ?_ | with_reducible refine ifF ?_ | with_reducible refine ifNT ?_ | with_reducible refine ifNF ?_ | with_reducible refine (Exists.intro _ (And.intro (Eq.refl (Dt.bl _)) ?_)) | with_reducible refine (Exists.intro _ (And.intro (Eq.refl (Dt.int _)) ?_)) | with_reducible refine (Exists.intro _ (And.intro (Eq.refl [Dt.int _]) ?_)) | ((with_reducible refine methG_id ?_); refine methG_i rfl rfl ?_) | ((with_reducible refine fldG_id ?_); refine fldG_i rfl rfl rfl ?_) | ((with_reducible refine isG_id ?_); first | refine isG_t rfl rfl ?_ | refine isG_f rfl rfl ?_) | ((with_reducible refine starG_id ?_); refine starG_i rfl ?_) | ((with_reducible refine giv_varG ?_); refine varG_i rfl ?_) | ((with_reducible refine And.intro ?_ ?_); first | exact rfl | exact Nat.le_of_ble_eq_true rfl)))
local macro_rules | `(tactic| walk_at "lt") => `(tactic| simp only [sSeq, sIf, sRet, sRetN, sNx, sSet, sAsg, gNm, sExpr, sPar, mVar, mC, mBin, mUn, mCons, mNil, mCB, mB, isB, mAnd, mOr, mNot, mAndV, mOrV, mNotV, mIf, mTup, mLst, mLstV, mCall, mKey, mBM, mBM0, mSl, mPart, mNoPart, mIt, mRng, mLcV, mStar, mFld, mMakeV, mMeth, mIsI, mTru, mJoined, mFs, mFmt, mChain, mRevV, mRev, sFor, sRaise, outF, Re.bind, Re.on, List.set, List.getElem?_cons_zero, List.getElem?_cons_succ, if_true, if_false, Bool.false_eq_true, reduceIte, Bool.not_true, Bool.not_false, List.length_nil, List.length_cons, List.append_nil, List.nil_append, List.cons_append, Nat.reduceAdd, Nat.zero_add, lim, Nat.reduceLeDiff, Nat.reduceEqDiff, Option.some.injEq, and_self, and_true, true_and, wipeE, wTup_fuel, wRng_fuel])
def wNot : List Nat := [110, 111, 116, 32]
def strsOf : Dt → List (List Nat)
  | .tup xs => (strsD xs).getD []
  | _ => []
def wTests : List (List Nat) := strsOf c_TESTS
def wDeeds : List (List Nat) := strsOf c_DEEDS
theorem c_TESTS_eq : c_TESTS = .tup (wTests.map Dt.str) := rfl
theorem c_DEEDS_eq : c_DEEDS = .tup (wDeeds.map Dt.str) := rfl
def isTestB (t : List Nat) : Bool := decide ((if decide (cutL t none (some 4) = wNot) = true then cutL t (some 4) none else t) ∈ wTests)
def GoodT (t : List Nat) : Prop := isTestB t = true ∧ t.length ≤ 20
def GoodD (d : List Nat) : Prop := d ∈ wDeeds
instance (t : List Nat) : Decidable (GoodT t) := inferInstanceAs (Decidable (_ ∧ _))
instance (t : List Nat) : Decidable (GoodD t) := inferInstanceAs (Decidable (_ ∈ _))
theorem goodD_len {d : List Nat} (h : GoodD d) : d.length ≤ 10 := by
  have : ∀ d ∈ wDeeds, d.length ≤ 10 := by decide
  exact this d h
abbrev Rw := List (List Nat) × List (List Nat)
structure GoodR (r : Rw) : Prop where
  t : ∀ t ∈ r.1, GoodT t
  d : ∀ d ∈ r.2, GoodD d
  ne : r.2 ≠ []
  tl : r.1.length ≤ 4
  dl : r.2.length ≤ 4
abbrev tWs (ws : List (List Nat)) : Dt := .tup (ws.map Dt.str)
abbrev rowT (r : Rw) : Dt := .tup [tWs r.1, tWs r.2]
theorem cl_tWs {n : Nat} (ws : List (List Nat)) : clD n (tWs ws) = true := by simp only [tWs, clD, clL_strs]
theorem cl_rowT {n : Nat} (r : Rw) : clD n (rowT r) = true := by simp only [rowT, clD, clL, clL_strs, Bool.and_self]
/-- one word out of some -/
theorem rows_of {ys : List Dt} (h : ∀ y ∈ ys, ∃ r, y = rowT r ∧ GoodR r) : ∃ rs : List Rw, ys = rs.map rowT ∧ ∀ r ∈ rs, GoodR r := by
  induction ys with
  | nil => exact ⟨[], rfl, by simp⟩
  | cons y ys ih =>
    obtain ⟨r, rfl, hr⟩ := h y List.mem_cons_self
    obtain ⟨rs, rfl, hs⟩ := ih fun d hd => h d (List.mem_cons_of_mem _ hd)
    exact ⟨r :: rs, rfl, fun d hd => by
      rcases List.mem_cons.mp hd with z | z
      · rw [z]; exact hr
      · exact hs d z⟩
theorem clL_rows {n : Nat} (rs : List Rw) : clL n (rs.map rowT) = true := clL_map rs fun r _ => cl_rowT r
abbrev toolT (rs : List Rw) (s : Bool) : Dt := .tup [.tup (rs.map rowT), .bl s]
theorem cl_toolT {n : Nat} (rs : List Rw) (s : Bool) : clD n (toolT rs s) = true := by simp only [toolT, clD, clL, clL_rows, Bool.and_self]
/-! ### rows and tools, by themselves -/
theorem seq_tup (xs : List Dt) (st : Sto) (h : clL 0 xs = true) : F_is_sequence [.tup xs] st = .ok (.bl true) st := by
  rw [run_is_sequence _ _ (by simp only [clL, clD, h, Bool.and_self])]
  exact pu_out rfl rfl
theorem seq_li (xs : List Dt) (st : Sto) (h : clL 0 xs = true) : F_is_sequence [.li xs] st = .ok (.bl true) st := by
  rw [run_is_sequence _ _ (by simp only [clL, clD, h, Bool.and_self])]
  exact pu_out rfl rfl
theorem test_ok (t : List Nat) (st : Sto) (hl : t.length ≤ 1000000) : F_is_test [.str t] st = .ok (.bl (isTestB t)) st := by
  rw [run_is_test _ _ rfl]
  refine pu_eq ?_
  unfold m_is_test
  refine run_seq (run_if ?_)
  walk_at "st"
  refine run_nx ?_
  refine run_ret ?_
  walk_at "st"
  have hL : t.length ≤ lim := by show _ ≤ 1000000; omega
  refine giv_lenS (by decide) ?_
  walk_at "st"
  refine giv_slS hL ?_
  rw [show c_NOT = .str wNot from rfl]
  walk_at "st"
  have e : ∀ u : List Nat, isTestB t = decide (u ∈ wTests) → Giv (inD (.str u) c_TESTS []) fun d' s => puR st (.ok d' s) = .ok (.bl (isTestB t)) st := fun u hu => by
    rw [c_TESTS_eq]
    refine giv_inT ?_
    rw [hu]
    exact puR_ok rfl
  by_cases h : cutL t none (some 4) = wNot
  · rw [if_pos (by simpa using h)]
    walk_at "st"
    refine giv_lenS (by decide) ?_
    walk_at "st"
    refine giv_slS hL ?_
    walk_at "st"
    refine e _ ?_
    unfold isTestB
    rw [if_pos (by simpa using h)]
    rfl
  · rw [if_neg (by simpa using h)]
    walk_at "st"
    refine e _ ?_
    unfold isTestB
    rw [if_neg (by simpa using h)]
theorem word_ok (t : List Nat) (ws : List (List Nat)) (st : Sto) : F_is_word [.str t, tWs ws] st = .ok (.bl (decide (t ∈ ws))) st := by
  rw [run_is_word _ _ _ (by simp only [clL, clD, clL_strs, clD, Bool.and_self])]
  refine pu_eq ?_
  unfold m_is_word
  refine run_ret ?_
  walk_at "st"
  exact giv_inT (puR_ok rfl)
abbrev rowO (r : Rw) : Dt := .ob 11 [(3, tWs r.1), (4, tWs r.2)]
theorem cl_rowO {n : Nat} (r : Rw) : clD n (rowO r) = true := by simp only [rowO, clD, clF, clL_strs, clD, Bool.and_self]
/-- a row that is made -/
theorem row_ok (r : Rw) (st : Sto) (h : GoodR r) : pt (newF 11 F_RowD_initD) [tWs r.1, tWs r.2] st = .ok (rowO r) st := by
  refine make_eq (st2 := [.ins 11 [(3, tWs r.1), (4, tWs r.2)]]) (by simp only [clL, clL_strs, clD, Bool.and_self]) ?_ rfl (by simp only [clF, clL_strs, clD, Bool.and_self])
  rw [run_RowD_initD]
  refine out_of ?_
  unfold m_RowD_initD
  refine run_seq (run_if ?_)
  walk_at "st"
  refine giv (seq_tup _ _ (clL_strs _)) ?_
  walk_at "st"
  refine giv_lcMap (r.1.map Dt.str) (fun _ => .bl true) (by rw [List.length_map]; have := h.tl; show _ < 1000000; omega) (fun x hx => ?_) ?_
  · obtain ⟨t, ht, rfl⟩ := List.mem_map.mp hx
    refine ⟨_, rfl, ?_⟩
    show F_is_test [.str t] _ = _
    rw [test_ok t _ (Nat.le_trans (h.t t ht).2 (by decide)), (h.t t ht).1]
  walk_at "st"
  refine giv_all (bs := r.1.map fun _ => true) (by rw [List.map_map]; exact boolsD_map _ _) ?_
  rw [show (r.1.map fun _ => true).all id = true by simp]
  walk_at "st"
  refine run_nx ?_
  refine run_seq (run_if ?_)
  walk_at "st"
  refine giv (seq_tup _ _ (clL_strs _)) ?_
  walk_at "st"
  rw [List.length_map, show decide ((r.2.length : Int) = 0) = false by
    have := h.ne
    rw [decide_eq_false_iff_not]
    intro z
    exact this (List.length_eq_zero_iff.mp (by omega))]
  walk_at "st"
  refine giv_lcMap (r.2.map Dt.str) (fun _ => .bl true) (by rw [List.length_map]; have := h.dl; show _ < 1000000; omega) (fun x hx => ?_) ?_
  · obtain ⟨t, ht, rfl⟩ := List.mem_map.mp hx
    refine ⟨_, rfl, ?_⟩
    show F_is_word [.str t, c_DEEDS] _ = _
    rw [show c_DEEDS = tWs wDeeds from rfl, word_ok, decide_eq_true (show t ∈ wDeeds from h.d t ht)]
  walk_at "st"
  refine giv_all (bs := r.2.map fun _ => true) (by rw [List.map_map]; exact boolsD_map _ _) ?_
  rw [show (r.2.map fun _ => true).all id = true by simp]
  walk_at "st"
  refine run_nx ?_
  refine run_seq (run_fldSet ?_)
  walk_at "st"
  refine ⟨0, 11, [], rfl, rfl, rfl, by decide, ?_⟩
  refine run_fldSet ?_
  walk_at "st"
  exact ⟨0, 11, _, rfl, rfl, rfl, (show 1 < 900 by decide), rfl, rfl⟩
theorem clL_rowO {n : Nat} (rs : List Rw) : clL n (rs.map rowO) = true := clL_map rs fun r _ => cl_rowO r
abbrev toolO (rs : List Rw) (s : Bool) : Dt := .ob 12 [(5, .tup (rs.map rowO)), (6, .bl s)]
theorem cl_toolO {n : Nat} (rs : List Rw) (s : Bool) : clD n (toolO rs s) = true := by simp only [clD, clF, clL_rowO, Bool.and_self]
/-- a tool that is made -/
theorem tool_mk (d : Dt) (rs : List Rw) (s : Bool) (st : Sto) (hd : d = .tup (rs.map rowO) ∨ d = .li (rs.map rowO)) (hl : rs.length ≤ 100000) : pt (newF 12 F_ToolD_initD) [d, .bl s] st = .ok (toolO rs s) st := by
  have hc : clD 0 d = true := by rcases hd with rfl | rfl <;> simp only [clD, clL_rowO]
  refine make_eq (st2 := [.ins 12 [(5, .tup (rs.map rowO)), (6, .bl s)]]) (by simp only [clL, hc, clD, Bool.and_self]) ?_ rfl (by simp only [clF, clL_rowO, clD, Bool.and_self])
  rw [run_ToolD_initD]
  refine out_of ?_
  unfold m_ToolD_initD
  have hq : ∀ s', F_is_sequence [d] s' = .ok (.bl true) s' := fun s' => by
    rcases hd with rfl | rfl
    · exact seq_tup _ _ (clL_rowO _)
    · exact seq_li _ _ (clL_rowO _)
  have hi : ∀ s', itD d s' = .ok (wTup (rs.map rowO)) s' := fun s' => by rcases hd with rfl | rfl <;> rfl
  have ht : ∀ s', tupleD [d] s' = .ok (.tup (rs.map rowO)) s' := fun s' => by rcases hd with rfl | rfl <;> rfl
  refine run_seq (run_if ?_)
  walk_at "st"
  refine giv (hq _) ?_
  walk_at "st"
  refine giv (hi _) ?_
  refine giv_lcMap (rs.map rowO) (fun _ => .bl true) (by rw [List.length_map]; show _ < 1000000; omega) (fun x hx => ?_) ?_
  · obtain ⟨r, hr, rfl⟩ := List.mem_map.mp hx
    exact ⟨_, rfl, rfl⟩
  walk_at "st"
  refine giv_all (bs := rs.map fun _ => true) (by rw [List.map_map]; exact boolsD_map _ _) ?_
  rw [show (rs.map fun _ => true).all id = true by simp]
  walk_at "st"
  refine run_nx ?_
  refine run_seq (run_if ?_)
  walk_at "st"
  refine run_nx ?_
  refine run_seq (run_fldSet ?_)
  walk_at "st"
  refine giv (ht _) ?_
  walk_at "st"
  refine ⟨0, 12, [], rfl, rfl, rfl, by decide, ?_⟩
  refine run_fldSet ?_
  walk_at "st"
  exact ⟨0, 12, _, rfl, rfl, rfl, (show 1 < 900 by decide), rfl, rfl⟩
theorem cut_take {α : Type} (xs : List α) (k : Nat) : cutL xs none (some (k : Int)) = xs.take k := by
  unfold cutL
  rw [HT.sIx_none, HT.sIx_nat, List.drop_zero, Nat.sub_zero]
  by_cases h : k ≤ xs.length
  · rw [Nat.min_eq_left h]
  · rw [Nat.min_eq_right (Nat.le_of_not_le h), List.take_of_length_le (Nat.le_refl _), List.take_of_length_le (Nat.le_of_not_le h)]
theorem cut_drop {α : Type} (xs : List α) (k : Nat) : cutL xs (some (k : Int)) none = xs.drop k := by
  unfold cutL
  rw [HT.sIx_none, HT.sIx_nat]
  by_cases h : k ≤ xs.length
  · rw [Nat.min_eq_left h, List.take_of_length_le (by rw [List.length_drop]; exact Nat.le_refl _)]
  · rw [Nat.min_eq_right (Nat.le_of_not_le h), List.drop_of_length_le (Nat.le_refl _), List.drop_of_length_le (Nat.le_of_not_le h)]
    simp
def everyT : List (List Nat) := wTests ++ wTests.map (wNot ++ ·)
theorem every_iff (t : List Nat) : decide (t ∈ everyT) = isTestB t := by
  unfold isTestB everyT
  rw [decide_eq_decide]
  rw [show (some (4 : Int)) = some ((4 : Nat) : Int) from rfl, cut_take, cut_drop]
  have no : ∀ u ∈ wTests, u.take 4 ≠ wNot := by decide
  rw [List.mem_append, List.mem_map]
  by_cases h : t.take 4 = wNot
  · rw [if_pos (by simpa using h)]
    constructor
    · rintro (z | ⟨u, hu, rfl⟩)
      · exact absurd h (no t z)
      · exact hu
    · intro z
      refine .inr ⟨t.drop 4, z, ?_⟩
      rw [← h, List.take_append_drop]
  · rw [if_neg (by simpa using h)]
    constructor
    · rintro (z | ⟨u, hu, rfl⟩)
      · exact z
      · exact absurd rfl h
    · exact .inl
structure GoodRs (rs : List Rw) : Prop where
  g : ∀ r ∈ rs, GoodR r
  l : rs.length ≤ 60
theorem toolOf {rs : List Rw} {s : Bool} (st : Sto) (h : GoodRs rs) : F_law_tool_of [toolT rs s] st = .ok (toolO rs s) st := by
  rw [run_law_tool_of _ _ (by simp only [clL, cl_toolT, Bool.and_self])]
  refine pu_eq ?_
  unfold m_law_tool_of
  refine run_ret ?_
  have hl := h.l
  walk_at "st"
  refine giv_lcMapT rs rowT rowO (by show _ < 1000000; omega) (fun r hr => ⟨_, rfl, ?_⟩) ?_
  · show pt (newF 11 F_RowD_initD) [tWs r.1, tWs r.2] _ = _
    rw [row_ok r _ (h.g r hr)]
  · walk_at "st"
    exact giv (tool_mk _ rs s _ (.inr rfl) (by omega)) (puR_ok (cl_toolO rs s))
end Law
set_option Elab.async false
set_option linter.all false
set_option maxRecDepth 100000
set_option maxHeartbeats 1000000
namespace Law
open PySem PySem.Spec PyProof.Rows L2 LT
local macro_rules | `(tactic| walk_at "st") => `(tactic| repeat (first | with_reducible refine giv_call ?_ | with_reducible refine giv_cons ?_ | with_reducible refine giv_nil ?_ | with_reducible refine giv_cb ?_ | with_reducible refine giv_bin ?_ | with_reducible refine giv_b ?_ | with_reducible refine giv_ifE ?_ | with_reducible refine giv_tup ?_ | with_reducible refine giv_lstV ?_ | with_reducible refine giv_rng ?_ | with_reducible refine giv_it ?_ | with_reducible refine giv_lcV ?_ | with_reducible refine giv_sl ?_ | with_reducible refine giv_part ?_ | with_reducible refine giv_noPart ?_ | with_reducible refine giv_or ?_ | with_reducible refine giv_and ?_ | with_reducible refine giv_not ?_ | with_reducible refine giv_c ?_ | with_reducible refine giv_addI ?_ | with_reducible refine giv_subI ?_ | with_reducible refine giv_eqI ?_ | with_reducible refine giv_neI ?_ | with_reducible refine giv_eqS ?_ | with_reducible refine giv_neS ?_ | with_reducible refine giv_lenL ?_ | with_reducible refine giv_lenT ?_ | with_reducible refine giv_slL ?_ | with_reducible refine giv_slT ?_ | with_reducible refine giv_tuL ?_ | with_reducible refine giv_tuT ?_ | with_reducible refine giv_liL ?_ | with_reducible refine giv_liT ?_ | with_reducible refine giv_itT ?_ | with_reducible refine giv_itL ?_ | with_reducible refine giv_andE ?_ | with_reducible refine giv_orE ?_ | with_reducible refine giv_notE ?_ | with_reducible refine giv_makeV ?_ | with_reducible refine giv_isI ?_ | with_reducible refine giv_star ?_ | with_reducible refine giv_bm ?_ | with_reducible refine giv_bm0 ?_ | with_reducible refine giv_fldO ?_ | with_reducible refine giv_meth ?_ | with_reducible refine giv_chain ?_ | with_reducible refine giv_leI ?_ | with_reducible refine giv_ltI ?_ | with_reducible refine giv_geI ?_ | with_reducible refine giv_gtI ?_ | with_reducible refine giv_ix0 ?_ | with_reducible refine giv_ix1 ?_ | with_reducible refine giv_ix0L ?_ | with_reducible refine giv_ix1L ?_ | with_reducible refine giv_ix2L ?_ | with_reducible refine giv_lstV ?_ | with_reducible refine ifT ?_ | with_reducible refine ifF ?_ | with_reducible refine ifNT ?_ | with_reducible refine ifNF ?_ | with_reducible refine (Exists.intro _ (And.intro (Eq.refl (Dt.bl _)) ?_)) | with_reducible refine (Exists.intro _ (And.intro (Eq.refl (Dt.int _)) ?_)) | with_reducible refine (Exists.intro _ (And.intro (Eq.refl [Dt.int _]) ?_)) | ((with_reducible refine methG_id ?_); refine methG_i rfl rfl ?_) | ((with_reducible refine fldG_id ?_); refine fldG_i rfl rfl rfl ?_) | ((with_reducible refine isG_id ?_); first | refine isG_t rfl rfl ?_ | refine isG_f rfl rfl ?_) | ((with_reducible refine starG_id ?_); refine starG_i rfl ?_) | ((with_reducible refine giv_varG ?_); refine varG_i rfl ?_) | ((with_reducible refine And.intro ?_ ?_); first | exact rfl | exact Nat.le_of_ble_eq_true rfl)))
local macro_rules | `(tactic| walk_at "lt") => `(tactic| simp only [sSeq, sIf, sRet, sRetN, sNx, sSet, sAsg, gNm, sExpr, sPar, mVar, mC, mBin, mUn, mCons, mNil, mCB, mB, isB, mAnd, mOr, mNot, mAndV, mOrV, mNotV, mIf, mTup, mLst, mLstV, mCall, mKey, mBM, mBM0, mSl, mPart, mNoPart, mIt, mRng, mLcV, mStar, mFld, mMakeV, mMeth, mIsI, mTru, mJoined, mFs, mFmt, mChain, mRevV, mRev, sFor, sRaise, outF, Re.bind, Re.on, List.set, List.getElem?_cons_zero, List.getElem?_cons_succ, if_true, if_false, Bool.false_eq_true, reduceIte, Bool.not_true, Bool.not_false, List.length_nil, List.length_cons, List.append_nil, List.nil_append, List.cons_append, Nat.reduceAdd, Nat.zero_add, lim, Nat.reduceLeDiff, Nat.reduceEqDiff, Option.some.injEq, and_self, and_true, true_and, wipeE, wTup_fuel, wRng_fuel])
/-! ### forms -/
structure Fm where
  z : List Nat
  b : Bool
  m : Bool
  a : Bool
  h : Bool
  n : Int
  l : Bool
abbrev formD (f : Fm) : Dt := .tup [.str f.z, .bl f.b, .bl f.m, .bl f.a, .bl f.h, .int f.n, .bl f.l]
def befD : Option (Bool × Bool) → Dt
  | none => .tup []
  | some (x, y) => .tup [.bl x, .bl y]
abbrev sizes : List (List Nat) := [[111, 118, 101, 114], [101, 118, 101, 110], [119, 105, 100, 101], [116, 105, 103, 104, 116], [106, 117, 115, 116]]
theorem cl_form {n : Nat} (f : Fm) : clD n (formD f) = true := rfl
theorem cl_bef {n : Nat} (p : Option (Bool × Bool)) : clD n (befD p) = true := by cases p <;> rfl
theorem cl3 {n : Nat} (t : List Nat) (p : Option (Bool × Bool)) (f : Fm) : clL n [.str t, befD p, formD f] = true := by cases p <;> rfl
theorem long_both (f : Fm) (hz : f.z ∈ sizes) : ∃ b : Bool, (∀ st, F_is_long [formD f] st = .ok (.bl b) st) ∧ ∀ st, F_law_is_long_form [formD f] st = .ok (.bl b) st := by
  obtain ⟨z, b, m, a, h, n, l⟩ := f
  simp only [List.mem_cons, List.not_mem_nil, or_false] at hz
  rcases hz with rfl | rfl | rfl | rfl | rfl <;> cases m <;> cases h <;> exact ⟨_, fun st => (run_is_long _ _ rfl).trans (pu_out rfl rfl), fun st => (run_law_is_long_form _ _ rfl).trans (pu_out rfl rfl)⟩
abbrev Both (k j : Nat) (t : List Nat) (p : Option (Bool × Bool)) (f : Fm) : Prop := ∃ b : Bool, (∀ st, F_holds (k + 1) [.str t, befD p, formD f] st = .ok (.bl b) st) ∧ ∀ st, F_law_asks (j + 1) [.str t, befD p, formD f] st = .ok (.bl b) st
theorem holds_long {k : Nat} {p : Option (Bool × Bool)} {f : Fm} {b : Bool} (st : Sto) (h : ∀ st, F_is_long [formD f] st = .ok (.bl b) st) : F_holds (k + 1) [.str [108, 111, 110, 103], befD p, formD f] st = .ok (.bl b) st := by
  rw [run_holds k _ _ _ _ (cl3 _ _ _)]
  refine pu_eq ?_
  unfold m_holds
  refine run_seq (run_if ?_)
  walk_at "st"
  refine giv_slS (by decide) ?_
  walk_at "st"
  rw [show decide (cutL [108, 111, 110, 103] none (some 4) = [110, 111, 116, 32]) = false by decide]
  walk_at "st"
  refine run_nx ?_
  refine run_seq (run_match (giv_var rfl ⟨_, rfl, ?_⟩))
  refine (show Run (sRet (mCall 1 F_is_long (mCons (mVar 2) mNil) []) [some (.str [108, 111, 110, 103]), some (befD p), some (formD f)] []) _ _ from ?_)
  refine run_ret ?_
  walk_at "st"
  refine giv (h _) ?_
  exact puR_ok rfl
theorem asks_long {k : Nat} {p : Option (Bool × Bool)} {f : Fm} {b : Bool} (st : Sto) (h : ∀ st, F_law_is_long_form [formD f] st = .ok (.bl b) st) : F_law_asks (k + 1) [.str [108, 111, 110, 103], befD p, formD f] st = .ok (.bl b) st := by
  rw [run_law_asks k _ _ _ _ (cl3 _ _ _)]
  refine pu_eq ?_
  unfold m_law_asks
  refine run_seq (run_if ?_)
  walk_at "st"
  refine giv_slS (by decide) ?_
  walk_at "st"
  rw [show decide (cutL [108, 111, 110, 103] none (some 4) = [110, 111, 116, 32]) = false by decide]
  walk_at "st"
  refine run_nx ?_
  refine run_seq (run_if ?_)
  walk_at "st"
  refine giv (show inD (.str [108, 111, 110, 103]) (.tup [.str [102, 105, 114, 115, 116], .str [97, 102, 116, 101, 114, 98, 114, 111, 107, 101, 110], .str [97, 102, 116, 101, 114, 98, 101, 104, 105, 110, 100]]) _ = .ok (.bl false) _ from rfl) ?_
  walk_at "st"
  refine run_nx ?_
  refine run_seq (run_if ?_)
  walk_at "st"
  refine giv (show inD (.str [108, 111, 110, 103]) (.tup [.str [108, 111, 110, 103], .str [98, 108, 97, 110, 107]]) _ = .ok (.bl true) _ from rfl) ?_
  walk_at "st"
  refine run_ret ?_
  walk_at "st"
  rw [show decide (([108, 111, 110, 103] : List Nat) = [108, 111, 110, 103]) = true from rfl]
  walk_at "st"
  refine giv (h _) ?_
  exact puR_ok rfl
theorem base_both (k j : Nat) (p : Option (Bool × Bool)) (f : Fm) (hz : f.z ∈ sizes) : ∀ t ∈ wTests, Both k j t p f := fun t ht => by
  have ht' : t ∈ ([[98, 114, 111, 107, 101, 110], [109, 97, 114, 107, 101, 100], [108, 101, 102, 116], [97, 104, 101, 97, 100], [98, 101, 104, 105, 110, 100], [98, 108, 97, 110, 107], [108, 111, 110, 103], [102, 105, 114, 115, 116], [97, 102, 116, 101, 114, 98, 114, 111, 107, 101, 110], [97, 102, 116, 101, 114, 98, 101, 104, 105, 110, 100]] : List (List Nat)) := ht
  simp only [List.mem_cons, List.not_mem_nil, or_false] at ht'
  rcases ht' with rfl | rfl | rfl | rfl | rfl | rfl | rfl | rfl | rfl | rfl
  · cases p <;> exact ⟨_, fun st => (run_holds k _ _ _ _ rfl).trans (pu_out rfl rfl), fun st => (run_law_asks j _ _ _ _ rfl).trans (pu_out rfl rfl)⟩
  · cases p <;> exact ⟨_, fun st => (run_holds k _ _ _ _ rfl).trans (pu_out rfl rfl), fun st => (run_law_asks j _ _ _ _ rfl).trans (pu_out rfl rfl)⟩
  · cases p <;> exact ⟨_, fun st => (run_holds k _ _ _ _ rfl).trans (pu_out rfl rfl), fun st => (run_law_asks j _ _ _ _ rfl).trans (pu_out rfl rfl)⟩
  · cases p <;> exact ⟨_, fun st => (run_holds k _ _ _ _ rfl).trans (pu_out rfl rfl), fun st => (run_law_asks j _ _ _ _ rfl).trans (pu_out rfl rfl)⟩
  · cases p <;> exact ⟨_, fun st => (run_holds k _ _ _ _ rfl).trans (pu_out rfl rfl), fun st => (run_law_asks j _ _ _ _ rfl).trans (pu_out rfl rfl)⟩
  · cases p <;> exact ⟨_, fun st => (run_holds k _ _ _ _ rfl).trans (pu_out rfl rfl), fun st => (run_law_asks j _ _ _ _ rfl).trans (pu_out rfl rfl)⟩
  · obtain ⟨b, h1, h2⟩ := long_both f hz
    exact ⟨b, fun st => holds_long st h1, fun st => asks_long st h2⟩
  · cases p <;> exact ⟨_, fun st => (run_holds k _ _ _ _ rfl).trans (pu_out rfl rfl), fun st => (run_law_asks j _ _ _ _ rfl).trans (pu_out rfl rfl)⟩
  · cases p <;> exact ⟨_, fun st => (run_holds k _ _ _ _ rfl).trans (pu_out rfl rfl), fun st => (run_law_asks j _ _ _ _ rfl).trans (pu_out rfl rfl)⟩
  · cases p <;> exact ⟨_, fun st => (run_holds k _ _ _ _ rfl).trans (pu_out rfl rfl), fun st => (run_law_asks j _ _ _ _ rfl).trans (pu_out rfl rfl)⟩
theorem not_walk {k : Nat} {p : Option (Bool × Bool)} {f : Fm} {t : List Nat} {b : Bool} (st : Sto) (ht : t.length ≤ 20) (h : ∀ st, F_holds (k + 1) [.str t, befD p, formD f] st = .ok (.bl b) st) : F_holds (k + 2) [.str (wNot ++ t), befD p, formD f] st = .ok (.bl (!b)) st := by
  rw [run_holds (k + 1) _ _ _ _ (cl3 _ _ _)]
  refine pu_eq ?_
  unfold m_holds
  have hL : (wNot ++ t).length ≤ lim := by rw [List.length_append]; show 4 + t.length ≤ 1000000; omega
  refine run_seq (run_if ?_)
  walk_at "st"
  refine giv_slS hL ?_
  walk_at "st"
  rw [show cutL (wNot ++ t) none (some 4) = wNot from cut_take (wNot ++ t) 4, show decide (wNot = [110, 111, 116, 32]) = true from rfl]
  walk_at "st"
  refine run_ret ?_
  walk_at "st"
  refine giv_slS hL ?_
  rw [show cutL (wNot ++ t) (some 4) none = t from cut_drop (wNot ++ t) 4]
  walk_at "st"
  refine giv (h _) ?_
  walk_at "st"
  exact puR_ok rfl
theorem not_asks {k : Nat} {p : Option (Bool × Bool)} {f : Fm} {t : List Nat} {b : Bool} (st : Sto) (ht : t.length ≤ 20) (h : ∀ st, F_law_asks (k + 1) [.str t, befD p, formD f] st = .ok (.bl b) st) : F_law_asks (k + 2) [.str (wNot ++ t), befD p, formD f] st = .ok (.bl (!b)) st := by
  rw [run_law_asks (k + 1) _ _ _ _ (cl3 _ _ _)]
  refine pu_eq ?_
  unfold m_law_asks
  have hL : (wNot ++ t).length ≤ lim := by rw [List.length_append]; show 4 + t.length ≤ 1000000; omega
  refine run_seq (run_if ?_)
  walk_at "st"
  refine giv_slS hL ?_
  walk_at "st"
  rw [show cutL (wNot ++ t) none (some 4) = wNot from cut_take (wNot ++ t) 4, show decide (wNot = [110, 111, 116, 32]) = true from rfl]
  walk_at "st"
  refine run_ret ?_
  walk_at "st"
  refine giv_slS hL ?_
  rw [show cutL (wNot ++ t) (some 4) none = t from cut_drop (wNot ++ t) 4]
  walk_at "st"
  refine giv (h _) ?_
  walk_at "st"
  exact puR_ok rfl
theorem both (p : Option (Bool × Bool)) (f : Fm) (hz : f.z ∈ sizes) : ∀ t, GoodT t → Both 1 1 t p f := fun t ht => by
  have he : t ∈ everyT := by
    have := every_iff t
    rw [ht.1] at this
    exact of_decide_eq_true this
  unfold everyT at he
  rcases List.mem_append.mp he with h | h
  · exact base_both 1 1 p f hz t h
  · obtain ⟨u, hu, rfl⟩ := List.mem_map.mp h
    obtain ⟨b, h1, h2⟩ := base_both 0 0 p f hz u hu
    have hl : u.length ≤ 20 := (show ∀ w ∈ wTests, w.length ≤ 20 by decide) u hu
    exact ⟨!b, fun st => not_walk st hl h1, fun st => not_asks st hl h2⟩
/-- whether a test holds -/
noncomputable def tV (p : Option (Bool × Bool)) (f : Fm) (t : List Nat) : Bool := match F_holds 2 [.str t, befD p, formD f] [] with
  | .ok (.bl b) _ => b
  | _ => false
theorem holds_ok {p : Option (Bool × Bool)} {f : Fm} {t : List Nat} (st : Sto) (hz : f.z ∈ sizes) (ht : GoodT t) : F_holds 2 [.str t, befD p, formD f] st = .ok (.bl (tV p f t)) st ∧ F_law_asks 2 [.str t, befD p, formD f] st = .ok (.bl (tV p f t)) st := by
  obtain ⟨b, h1, h2⟩ := both p f hz t ht
  have e : tV p f t = b := by unfold tV; rw [h1]
  rw [e]
  exact ⟨h1 st, h2 st⟩
end Law
set_option Elab.async false
set_option linter.all false
set_option maxRecDepth 100000
set_option maxHeartbeats 1000000
namespace Law
open PySem PySem.Spec PyProof.Rows L2 LT
local macro_rules | `(tactic| walk_at "st") => `(tactic| repeat (first | with_reducible refine giv_call ?_ | with_reducible refine giv_cons ?_ | with_reducible refine giv_nil ?_ | with_reducible refine giv_cb ?_ | with_reducible refine giv_bin ?_ | with_reducible refine giv_b ?_ | with_reducible refine giv_ifE ?_ | with_reducible refine giv_tup ?_ | with_reducible refine giv_lstV ?_ | with_reducible refine giv_rng ?_ | with_reducible refine giv_it ?_ | with_reducible refine giv_lcV ?_ | with_reducible refine giv_sl ?_ | with_reducible refine giv_part ?_ | with_reducible refine giv_noPart ?_ | with_reducible refine giv_or ?_ | with_reducible refine giv_and ?_ | with_reducible refine giv_not ?_ | with_reducible refine giv_c ?_ | with_reducible refine giv_addI ?_ | with_reducible refine giv_subI ?_ | with_reducible refine giv_eqI ?_ | with_reducible refine giv_neI ?_ | with_reducible refine giv_eqS ?_ | with_reducible refine giv_neS ?_ | with_reducible refine giv_lenL ?_ | with_reducible refine giv_lenT ?_ | with_reducible refine giv_slL ?_ | with_reducible refine giv_slT ?_ | with_reducible refine giv_tuL ?_ | with_reducible refine giv_tuT ?_ | with_reducible refine giv_liL ?_ | with_reducible refine giv_liT ?_ | with_reducible refine giv_itT ?_ | with_reducible refine giv_itL ?_ | with_reducible refine giv_andE ?_ | with_reducible refine giv_orE ?_ | with_reducible refine giv_notE ?_ | with_reducible refine giv_makeV ?_ | with_reducible refine giv_isI ?_ | with_reducible refine giv_star ?_ | with_reducible refine giv_bm ?_ | with_reducible refine giv_bm0 ?_ | with_reducible refine giv_fldO ?_ | with_reducible refine giv_meth ?_ | with_reducible refine giv_chain ?_ | with_reducible refine giv_leI ?_ | with_reducible refine giv_ltI ?_ | with_reducible refine giv_geI ?_ | with_reducible refine giv_gtI ?_ | with_reducible refine giv_ix0 ?_ | with_reducible refine giv_ix1 ?_ | with_reducible refine giv_ix0L ?_ | with_reducible refine giv_ix1L ?_ | with_reducible refine giv_ix2L ?_ | with_reducible refine giv_lstV ?_ | with_reducible refine ifT ?_ | with_reducible refine ifF ?_ | with_reducible refine ifNT ?_ | with_reducible refine ifNF ?_ | with_reducible refine (Exists.intro _ (And.intro (Eq.refl (Dt.bl _)) ?_)) | with_reducible refine (Exists.intro _ (And.intro (Eq.refl (Dt.int _)) ?_)) | with_reducible refine (Exists.intro _ (And.intro (Eq.refl [Dt.int _]) ?_)) | ((with_reducible refine methG_id ?_); refine methG_i rfl rfl ?_) | ((with_reducible refine fldG_id ?_); refine fldG_i rfl rfl rfl ?_) | ((with_reducible refine isG_id ?_); first | refine isG_t rfl rfl ?_ | refine isG_f rfl rfl ?_) | ((with_reducible refine starG_id ?_); refine starG_i rfl ?_) | ((with_reducible refine giv_varG ?_); refine varG_i rfl ?_) | ((with_reducible refine And.intro ?_ ?_); first | exact rfl | exact Nat.le_of_ble_eq_true rfl)))
local macro_rules | `(tactic| walk_at "lt") => `(tactic| simp only [sSeq, sIf, sRet, sRetN, sNx, sSet, sAsg, gNm, sExpr, sPar, mVar, mC, mBin, mUn, mCons, mNil, mCB, mB, isB, mAnd, mOr, mNot, mAndV, mOrV, mNotV, mIf, mTup, mLst, mLstV, mCall, mKey, mBM, mBM0, mSl, mPart, mNoPart, mIt, mRng, mLcV, mStar, mFld, mMakeV, mMeth, mIsI, mTru, mJoined, mFs, mFmt, mChain, mRevV, mRev, sFor, sRaise, outF, Re.bind, Re.on, List.set, List.getElem?_cons_zero, List.getElem?_cons_succ, if_true, if_false, Bool.false_eq_true, reduceIte, Bool.not_true, Bool.not_false, List.length_nil, List.length_cons, List.append_nil, List.nil_append, List.cons_append, Nat.reduceAdd, Nat.zero_add, lim, Nat.reduceLeDiff, Nat.reduceEqDiff, Option.some.injEq, and_self, and_true, true_and, wipeE, wTup_fuel, wRng_fuel])
/-! ### deeds -/
abbrev wLift : List Nat := [108, 105, 102, 116]
def doneF (d : List Nat) (f : Fm) : Fm :=
  if d = [98, 114, 101, 97, 107] then { f with b := true } else if d = [106, 111, 105, 110] then { f with b := false } else if d = [109, 97, 114, 107] then { f with m := true } else if d = [117, 110, 109, 97, 114, 107] then { f with m := false }
  else if d = [115, 112, 97, 99, 101] then { f with n := 1 } else if d = [99, 108, 111, 115, 101] then { f with n := 0 } else if f.a = f.h ∨ f.h ≠ decide (d = wLift) then f else { f with a := f.h, h := f.a }
abbrev formL (f : Fm) : List Dt := [.str f.z, .bl f.b, .bl f.m, .bl f.a, .bl f.h, .int f.n, .bl f.l]
theorem deeds_all {P : List Nat → Prop} (h : P [98, 114, 101, 97, 107] ∧ P [106, 111, 105, 110] ∧ P [109, 97, 114, 107] ∧ P [117, 110, 109, 97, 114, 107] ∧ P [108, 105, 102, 116] ∧ P [108, 111, 119, 101, 114] ∧ P [115, 112, 97, 99, 101] ∧ P [99, 108, 111, 115, 101]) : ∀ d, GoodD d → P d := fun d hd => by
  have hd' : d ∈ ([[98, 114, 101, 97, 107], [106, 111, 105, 110], [109, 97, 114, 107], [117, 110, 109, 97, 114, 107], [108, 105, 102, 116], [108, 111, 119, 101, 114], [115, 112, 97, 99, 101], [99, 108, 111, 115, 101]] : List (List Nat)) := hd
  simp only [List.mem_cons, List.not_mem_nil, or_false] at hd'
  obtain ⟨h1, h2, h3, h4, h5, h6, h7, h8⟩ := h
  rcases hd' with rfl | rfl | rfl | rfl | rfl | rfl | rfl | rfl <;> assumption
theorem done_ok (f : Fm) (st : Sto) : ∀ d, GoodD d → F_done [.str d, formD f] st = .ok (formD (doneF d f)) st := by
  obtain ⟨z, b, m, a, h, n, l⟩ := f
  refine deeds_all ⟨?_, ?_, ?_, ?_, ?_, ?_, ?_, ?_⟩
  · exact (run_done _ _ _ rfl).trans (pu_out rfl rfl)
  · exact (run_done _ _ _ rfl).trans (pu_out rfl rfl)
  · exact (run_done _ _ _ rfl).trans (pu_out rfl rfl)
  · exact (run_done _ _ _ rfl).trans (pu_out rfl rfl)
  · cases a <;> cases h <;> exact (run_done _ _ _ rfl).trans (pu_out rfl rfl)
  · cases a <;> cases h <;> exact (run_done _ _ _ rfl).trans (pu_out rfl rfl)
  · exact (run_done _ _ _ rfl).trans (pu_out rfl rfl)
  · exact (run_done _ _ _ rfl).trans (pu_out rfl rfl)
noncomputable def mDeed : MS := (sIf (mB (mBin inD (mVar 6) (mTup (mCons (mC (.str [98, 114, 101, 97, 107])) (mCons (mC (.str [106, 111, 105, 110])) mNil))))) (sAsg (mBin eqD (mVar 6) (mC (.str [98, 114, 101, 97, 107]))) (gSubL (mVar 3) (mC (.int 1)))) (sIf (mB (mBin inD (mVar 6) (mTup (mCons (mC (.str [109, 97, 114, 107])) (mCons (mC (.str [117, 110, 109, 97, 114, 107])) mNil))))) (sAsg (mBin eqD (mVar 6) (mC (.str [109, 97, 114, 107]))) (gSubL (mVar 3) (mC (.int 2)))) (sIf (mB (mBin inD (mVar 6) (mTup (mCons (mC (.str [115, 112, 97, 99, 101])) (mCons (mC (.str [99, 108, 111, 115, 101])) mNil))))) (sAsg (mCB cintD (mCons (mBin eqD (mVar 6) (mC (.str [115, 112, 97, 99, 101]))) mNil)) (gSubL (mVar 3) (mC (.int 5)))) (sIf (mAnd (mB (mBin neD (mBin ixD (mVar 3) (mC (.int 3))) (mBin ixD (mVar 3) (mC (.int 4))))) (mB (mBin eqD (mBin ixD (mVar 3) (mC (.int 4))) (mBin eqD (mVar 6) (mC (.str [108, 105, 102, 116])))))) (sAsg (mTup (mCons (mBin ixD (mVar 3) (mC (.int 4))) (mCons (mBin ixD (mVar 3) (mC (.int 3))) mNil))) (gTp2 (gSubL (mVar 3) (mC (.int 3))) (gSubL (mVar 3) (mC (.int 4))))) sNx))))
theorem deed_ok (f : Fm) (x0 x1 x2 x4 x5 x7 : Option Dt) : ∀ d, GoodD d → mDeed [x0, x1, x2, some (.ref 0), x4, x5, some (.str d), x7] [.lst (formL f)] = .nx [x0, x1, x2, some (.ref 0), x4, x5, some (.str d), x7] [.lst (formL (doneF d f))] := by
  obtain ⟨z, b, m, a, h, n, l⟩ := f
  refine deeds_all ⟨?_, ?_, ?_, ?_, ?_, ?_, ?_, ?_⟩
  · rfl
  · rfl
  · rfl
  · rfl
  · cases a <;> cases h <;> rfl
  · cases a <;> cases h <;> rfl
  · rfl
  · rfl
def foldD (ds : List (List Nat)) (f : Fm) : Fm := ds.foldl (fun f d => doneF d f) f
noncomputable def layR (p : Option (Bool × Bool)) (f : Fm) (r : Rw) : Fm := if r.1.all (tV p f) then foldD r.2 f else f
noncomputable def layF (rs : List Rw) (p : Option (Bool × Bool)) (f : Fm) : Fm := rs.foldl (layR p) f
theorem done_z (d : List Nat) (f : Fm) : (doneF d f).z = f.z := by
  unfold doneF
  repeat (first | rfl | split)
theorem fold_z : ∀ (ds : List (List Nat)) (f : Fm), (foldD ds f).z = f.z
  | [], f => rfl
  | d :: ds, f => (fold_z ds (doneF d f)).trans (done_z d f)
theorem layR_z (p : Option (Bool × Bool)) (f : Fm) (r : Rw) : (layR p f r).z = f.z := by
  unfold layR
  split
  · exact fold_z _ _
  · rfl
theorem layF_z (p : Option (Bool × Bool)) : ∀ (rs : List Rw) (f : Fm), (layF rs p f).z = f.z
  | [], f => rfl
  | r :: rs, f => (layF_z p rs (layR p f r)).trans (layR_z p f r)
theorem fold_take {ds : List (List Nat)} {f : Fm} {i : Nat} (h : i < ds.length) : foldD (ds.take (i + 1)) f = doneF ds[i] (foldD (ds.take i) f) := by
  unfold foldD
  rw [← List.take_append_getElem h, List.foldl_append]
  rfl
theorem lay_take {rs : List Rw} {p : Option (Bool × Bool)} {f : Fm} {i : Nat} (h : i < rs.length) : layF (rs.take (i + 1)) p f = layR p (layF (rs.take i) p f) rs[i] := by
  unfold layF
  rw [← List.take_append_getElem h, List.foldl_append]
  rfl
/-! ### the program's way -/
theorem isDone {r : Rw} {p : Option (Bool × Bool)} {f : Fm} (st : Sto) (hr : GoodR r) (hz : f.z ∈ sizes) : F_is_done [rowO r, befD p, formD f] st = .ok (.bl (r.1.all (tV p f))) st := by
  rw [run_is_done _ _ _ _ (by simp only [clL, cl_rowO, cl_bef, cl_form, Bool.and_self])]
  refine pu_eq ?_
  unfold m_is_done
  refine run_ret ?_
  walk_at "st"
  refine giv_lcMapT r.1 Dt.str (fun t => .bl (tV p f t)) (by have := hr.tl; show _ < 1000000; omega) (fun t ht => ⟨_, rfl, ?_⟩) ?_
  · show F_holds 2 [.str t, befD p, formD f] _ = _
    exact (holds_ok _ hz (hr.t t ht)).1
  walk_at "st"
  refine giv_all (bs := r.1.map (tV p f)) (boolsD_map _ _) ?_
  rw [List.all_map]
  exact puR_ok rfl
theorem layBy {rs : List Rw} {p : Option (Bool × Bool)} {f : Fm} (st : Sto) (hg : ∀ r ∈ rs, GoodR r) (hl : rs.length ≤ 1000) (hz : f.z ∈ sizes) : F_lay_by [.tup (rs.map rowO), befD p, formD f] st = .ok (formD (layF rs p f)) st := by
  rw [run_lay_by _ _ _ _ (by simp only [clL, clD, clL_rowO, cl_bef, cl_form, Bool.and_self])]
  refine pu_eq ?_
  unfold m_lay_by
  refine run_seq (run_set ?_)
  walk_at "st"
  simp only [List.set]
  refine run_seq (run_for ?_)
  walk_at "st"
  rw [show (wTup (rs.map rowO)).fuel = (rs.map rowO).length + 1 from rfl]
  refine run_forT (rs.map rowO) (fun i e s => s = [] ∧ ∃ y4 y5, e = [some (.tup (rs.map rowO)), some (befD p), some (formD f), some (formD (layF (rs.take i) p f)), y4, y5]) ⟨rfl, _, _, rfl⟩ ?_ ?_
  · rintro i e s hi ⟨rfl, y4, y5, rfl⟩
    rw [List.length_map] at hi
    rw [List.getElem_map]
    refine ⟨_, _, rfl, ?_⟩
    simp only [List.set]
    have gr := hg rs[i] (List.getElem_mem hi)
    have hz2 : (layF (rs.take i) p f).z ∈ sizes := by rw [layF_z]; exact hz
    rw [lay_take hi]
    generalize layF (rs.take i) p f = g at hz2
    generalize rs[i] = r at gr
    refine run_if ?_
    walk_at "st"
    refine giv (isDone _ gr hz2) ?_
    walk_at "st"
    unfold layR
    cases ha : r.1.all (tV p g) with
    | false =>
      walk_at "st"
      exact run_nx ⟨rfl, _, _, rfl⟩
    | true =>
      walk_at "st"
      refine run_for ?_
      walk_at "st"
      rw [show (wTup (r.2.map Dt.str)).fuel = (r.2.map Dt.str).length + 1 from rfl]
      refine run_forT (r.2.map Dt.str) (fun j e s => s = [] ∧ ∃ y4 y5, e = [some (.tup (rs.map rowO)), some (befD p), some (formD f), some (formD (foldD (r.2.take j) g)), y4, y5]) ⟨rfl, _, _, rfl⟩ ?_ ?_
      · rintro j e s hj ⟨rfl, y4, y5, rfl⟩
        rw [List.length_map] at hj
        rw [List.getElem_map]
        refine ⟨_, _, rfl, ?_⟩
        simp only [List.set]
        refine run_set ?_
        walk_at "st"
        refine giv (done_ok _ _ _ (gr.d _ (List.getElem_mem hj))) ?_
        rw [fold_take hj]
        exact ⟨rfl, _, _, rfl⟩
      rintro e s ⟨rfl, y4, y5, rfl⟩
      rw [List.length_map, List.take_length, if_pos rfl]
      exact ⟨rfl, _, _, rfl⟩
  rintro e s ⟨rfl, y4, y5, rfl⟩
  rw [List.length_map, List.take_length]
  refine run_ret ?_
  walk_at "st"
  exact puR_ok rfl
theorem lay_ok {rs : List Rw} {s : Bool} {p : Option (Bool × Bool)} {f : Fm} (st : Sto) (hg : ∀ r ∈ rs, GoodR r) (hl : rs.length ≤ 1000) (hz : f.z ∈ sizes) : F_lay [toolO rs s, befD p, formD f] st = .ok (formD (layF rs p f)) st := by
  rw [run_lay _ _ _ _ (by simp only [clL, cl_toolO, cl_bef, cl_form, Bool.and_self])]
  refine pu_eq ?_
  unfold m_lay
  refine run_ret ?_
  walk_at "st"
  refine giv (layBy _ hg hl hz) ?_
  exact puR_ok rfl
/-! ### the law's own way -/
theorem bad_all {p : Option (Bool × Bool)} {f : Fm} (ts : List (List Nat)) : ((ts.filter fun t => !tV p f t).map Dt.str).isEmpty = ts.all (tV p f) := by
  induction ts with
  | nil => rfl
  | cons w ws ih =>
    rw [List.filter_cons, List.all_cons]
    cases h : tV p f w with
    | true => rw [if_neg (by simp), ih, Bool.true_and]
    | false => rw [if_pos (show (!false) = true from rfl), Bool.false_and]; rfl
theorem eq_nil {xs : List Dt} {s : Sto} : eqD (.li xs) (.li []) s = .ok (.bl xs.isEmpty) s := by cases xs <;> rfl
theorem laid_ok {rs : List Rw} {p : Option (Bool × Bool)} {f : Fm} (st : Sto) (hg : ∀ r ∈ rs, GoodR r) (hl : rs.length ≤ 1000) (hz : f.z ∈ sizes) : F_law_laid [.li (rs.map rowT), befD p, formD f] st = .ok (formD (layF rs p f)) st := by
  rw [run_law_laid _ _ _ _ (by simp only [clL, clD, clL_rows, cl_bef, cl_form, Bool.and_self])]
  refine pu_eq ?_
  unfold m_law_laid
  refine run_seq (run_set ?_)
  walk_at "st"
  refine giv (show listD [formD f] [] = .ok (.ref 0) [.lst (formL f)] from rfl) ?_
  simp only [List.set]
  refine run_seq (run_for ?_)
  walk_at "st"
  rw [show (wTup (rs.map rowT)).fuel = (rs.map rowT).length + 1 from rfl]
  refine run_forT (rs.map rowT) (fun i e s => s = [.lst (formL (layF (rs.take i) p f))] ∧ ∃ y4 y5 y6 y7, e = [some (.li (rs.map rowT)), some (befD p), some (formD f), some (.ref 0), y4, y5, y6, y7]) ⟨rfl, _, _, _, _, rfl⟩ ?_ ?_
  · rintro i e s hi ⟨rfl, y4, y5, y6, y7, rfl⟩
    rw [List.length_map] at hi
    rw [List.getElem_map]
    refine ⟨_, _, rfl, ?_⟩
    simp only [List.zip_cons_cons, List.zip_nil_right, List.foldl, List.set]
    have gr := hg rs[i] (List.getElem_mem hi)
    have hz2 : (layF (rs.take i) p f).z ∈ sizes := by rw [layF_z]; exact hz
    rw [lay_take hi]
    generalize layF (rs.take i) p f = g at hz2
    generalize rs[i] = r at gr
    refine run_if ?_
    walk_at "st"
    have e := lcV_pure (g := gNm 7) (tt := mNot (mB (mCall 3 (F_law_asks 2) (mCons (mVar 7) (mCons (mVar 1) (mCons (mCB tupleD (mCons (mVar 3) mNil)) mNil))) []))) (te := mVar 7) (env := wipeE [some (.li (rs.map rowT)), some (befD p), some (formD f), some (.ref 0), some (tWs r.1), some (tWs r.2), y6, y7] [7]) (st := [.lst (formL g)])
      (fun d => match d with | .str t => !tV p g t | _ => false) id (r.1.map Dt.str) (by have := gr.tl; rw [List.length_map]; show _ < 1000000; omega) (fun x hx => by
        obtain ⟨t, ht, rfl⟩ := List.mem_map.mp hx
        refine ⟨_, rfl, ?_, fun _ => rfl⟩
        have h2 := (holds_ok (p := p) [.lst (formL g)] hz2 (gr.t t ht)).2
        have e3 : tupleD [.ref 0] [.lst (formL g)] = .ok (formD g) [.lst (formL g)] := rfl
        show (mNot (mB (mCall 3 (F_law_asks 2) (mCons (mVar 7) (mCons (mVar 1) (mCons (mCB tupleD (mCons (mVar 3) mNil)) mNil))) []))) [some (.li (rs.map rowT)), some (befD p), some (formD f), some (.ref 0), some (tWs r.1), some (tWs r.2), y6, some (.str t)] [.lst (formL g)] = _
        simp only [mNot, mB, mCall, mCons, mCB, mNil, mVar, List.getElem?_cons_succ, List.getElem?_cons_zero, Re.bind, e3, List.length_cons, List.length_nil, List.append_nil, Nat.reduceAdd, if_true, h2, isB]) r.1.length 0 [] (by rw [List.length_map]; omega) (by simp)
    rw [show (wTup (r.1.map Dt.str)).fuel = r.1.length + 1 by show _ + 1 = _; rw [List.length_map]]
    refine giv e ?_
    rw [List.drop_zero, List.map_id, List.nil_append, List.filter_map]
    walk_at "st"
    refine giv eq_nil ?_
    rw [show (r.1.filter ((fun d => match d with | .str t => !tV p g t | _ => false) ∘ Dt.str)) = r.1.filter fun t => !tV p g t from rfl, bad_all]
    walk_at "st"
    unfold layR
    cases ha : r.1.all (tV p g) with
    | false =>
      walk_at "st"
      exact run_nx ⟨rfl, _, _, _, _, rfl⟩
    | true =>
      walk_at "st"
      refine run_for ?_
      walk_at "st"
      rw [show (wTup (r.2.map Dt.str)).fuel = (r.2.map Dt.str).length + 1 from rfl]
      refine run_forT (r.2.map Dt.str) (fun j e s => s = [.lst (formL (foldD (r.2.take j) g))] ∧ ∃ y4 y5 y6 y7, e = [some (.li (rs.map rowT)), some (befD p), some (formD f), some (.ref 0), y4, y5, y6, y7]) ⟨rfl, _, _, _, _, rfl⟩ ?_ ?_
      · rintro j e s hj ⟨rfl, y4, y5, y6, y7, rfl⟩
        rw [List.length_map] at hj
        rw [List.getElem_map]
        refine ⟨_, _, rfl, ?_⟩
        simp only [List.set]
        rw [fold_take hj]
        have dk := deed_ok (foldD (r.2.take j) g) (some (.li (rs.map rowT))) (some (befD p)) (some (formD f)) y4 y5 y7 r.2[j] (gr.d _ (List.getElem_mem hj))
        show Run (mDeed [some (.li (rs.map rowT)), some (befD p), some (formD f), some (.ref 0), y4, y5, some (.str r.2[j]), y7] [.lst (formL (foldD (r.2.take j) g))]) _ _
        rw [dk]
        exact ⟨rfl, _, _, _, _, rfl⟩
      rintro e s ⟨rfl, y4, y5, y6, y7, rfl⟩
      rw [List.length_map, List.take_length, if_pos rfl]
      exact ⟨rfl, _, _, _, _, rfl⟩
  rintro e s ⟨rfl, y4, y5, y6, y7, rfl⟩
  rw [List.length_map, List.take_length]
  refine run_ret ?_
  walk_at "st"
  refine giv (show tupleD [.ref 0] [.lst (formL (layF rs p f))] = .ok (formD (layF rs p f)) _ from rfl) ?_
  exact puR_ok rfl
end Law
set_option Elab.async false
set_option linter.all false
set_option maxRecDepth 100000
set_option maxHeartbeats 1000000
namespace Law
open PySem PySem.Spec PyProof.Rows L2 LT
local macro_rules | `(tactic| walk_at "st") => `(tactic| repeat (first | with_reducible refine giv_call ?_ | with_reducible refine giv_cons ?_ | with_reducible refine giv_nil ?_ | with_reducible refine giv_cb ?_ | with_reducible refine giv_bin ?_ | with_reducible refine giv_b ?_ | with_reducible refine giv_ifE ?_ | with_reducible refine giv_tup ?_ | with_reducible refine giv_lstV ?_ | with_reducible refine giv_rng ?_ | with_reducible refine giv_it ?_ | with_reducible refine giv_lcV ?_ | with_reducible refine giv_sl ?_ | with_reducible refine giv_part ?_ | with_reducible refine giv_noPart ?_ | with_reducible refine giv_or ?_ | with_reducible refine giv_and ?_ | with_reducible refine giv_not ?_ | with_reducible refine giv_c ?_ | with_reducible refine giv_addI ?_ | with_reducible refine giv_subI ?_ | with_reducible refine giv_eqI ?_ | with_reducible refine giv_neI ?_ | with_reducible refine giv_eqS ?_ | with_reducible refine giv_neS ?_ | with_reducible refine giv_lenL ?_ | with_reducible refine giv_lenT ?_ | with_reducible refine giv_slL ?_ | with_reducible refine giv_slT ?_ | with_reducible refine giv_tuL ?_ | with_reducible refine giv_tuT ?_ | with_reducible refine giv_liL ?_ | with_reducible refine giv_liT ?_ | with_reducible refine giv_itT ?_ | with_reducible refine giv_itL ?_ | with_reducible refine giv_andE ?_ | with_reducible refine giv_orE ?_ | with_reducible refine giv_notE ?_ | with_reducible refine giv_makeV ?_ | with_reducible refine giv_isI ?_ | with_reducible refine giv_star ?_ | with_reducible refine giv_bm ?_ | with_reducible refine giv_bm0 ?_ | with_reducible refine giv_fldO ?_ | with_reducible refine giv_meth ?_ | with_reducible refine giv_chain ?_ | with_reducible refine giv_leI ?_ | with_reducible refine giv_ltI ?_ | with_reducible refine giv_geI ?_ | with_reducible refine giv_gtI ?_ | with_reducible refine giv_ix0 ?_ | with_reducible refine giv_ix1 ?_ | with_reducible refine giv_ix0L ?_ | with_reducible refine giv_ix1L ?_ | with_reducible refine giv_ix2L ?_ | with_reducible refine giv_lstV ?_ | with_reducible refine ifT ?_ | with_reducible refine ifF ?_ | with_reducible refine ifNT ?_ | with_reducible refine ifNF ?_ | with_reducible refine (Exists.intro _ (And.intro (Eq.refl (Dt.bl _)) ?_)) | with_reducible refine (Exists.intro _ (And.intro (Eq.refl (Dt.int _)) ?_)) | with_reducible refine (Exists.intro _ (And.intro (Eq.refl [Dt.int _]) ?_)) | ((with_reducible refine methG_id ?_); refine methG_i rfl rfl ?_) | ((with_reducible refine fldG_id ?_); refine fldG_i rfl rfl rfl ?_) | ((with_reducible refine isG_id ?_); first | refine isG_t rfl rfl ?_ | refine isG_f rfl rfl ?_) | ((with_reducible refine starG_id ?_); refine starG_i rfl ?_) | ((with_reducible refine giv_varG ?_); refine varG_i rfl ?_) | ((with_reducible refine And.intro ?_ ?_); first | exact rfl | exact Nat.le_of_ble_eq_true rfl)))
local macro_rules | `(tactic| walk_at "lt") => `(tactic| simp only [sSeq, sIf, sRet, sRetN, sNx, sSet, sAsg, gNm, sExpr, sPar, mVar, mC, mBin, mUn, mCons, mNil, mCB, mB, isB, mAnd, mOr, mNot, mAndV, mOrV, mNotV, mIf, mTup, mLst, mLstV, mCall, mKey, mBM, mBM0, mSl, mPart, mNoPart, mIt, mRng, mLcV, mStar, mFld, mMakeV, mMeth, mIsI, mTru, mJoined, mFs, mFmt, mChain, mRevV, mRev, sFor, sRaise, outF, Re.bind, Re.on, List.set, List.getElem?_cons_zero, List.getElem?_cons_succ, if_true, if_false, Bool.false_eq_true, reduceIte, Bool.not_true, Bool.not_false, List.length_nil, List.length_cons, List.append_nil, List.nil_append, List.cons_append, Nat.reduceAdd, Nat.zero_add, lim, Nat.reduceLeDiff, Nat.reduceEqDiff, Option.some.injEq, and_self, and_true, true_and, wipeE, wTup_fuel, wRng_fuel])
/-! ### what is drawn -/
theorem pick_word {b : Nat} {st : Sto} (ws : List (List Nat)) (hB : Bq b st) (h0 : 0 < ws.length) (hl : ws.length < 1000) : ∃ w st', F_law_pick [.ref b, .li (ws.map Dt.str)] st = .ok (.str w) st' ∧ w ∈ ws ∧ Ds [b] (Bq b) st st' := by
  obtain ⟨x, st', e, hx, D⟩ := pick_ok hB (d := .li (ws.map Dt.str)) (Or.inl rfl) (clL_strs ws) (by rw [List.length_map]; exact h0) (by rw [List.length_map]; omega)
  obtain ⟨w, hw, rfl⟩ := List.mem_map.mp hx
  exact ⟨w, st', e, hw, D⟩
def someT : List (List Nat) := wTests ++ [[108, 111, 110, 103], [108, 111, 110, 103], [109, 97, 114, 107, 101, 100]]
theorem some_good : ∀ w ∈ someT, GoodT w ∧ GoodT (wNot ++ w) := by decide
theorem test_drawn {b : Nat} {st : Sto} (hB : Bq b st) : ∃ t st', F_law_test [.ref b] st = .ok (.str t) st' ∧ GoodT t ∧ Ds [b] (Bq b) st st' := by
  rw [runT_law_test _ _ (by simp [clL, clD])]
  suffices hr : Run (m_law_test [some (.ref b), none, none] st) (fun _ _ => False) (fun d st2 => (∃ t, d = .str t ∧ GoodT t) ∧ Xm [b] st st2 ∧ Bq b st2) by
    obtain ⟨d, st', e, ⟨t, rfl, h⟩, D⟩ := tr_run (bq_src b) hB (fun d ⟨t, hd, _⟩ => by rw [hd]; rfl) hr
    exact ⟨t, st', e, h, D⟩
  unfold m_law_test
  refine run_seq (run_set ?_)
  walk_at "st"
  simp only [List.set]
  obtain ⟨w, s1, e1, hw, D1⟩ := pick_word someT hB (by decide) (by decide)
  obtain ⟨q, s2, e2, q0, q1, D2⟩ := take_ok D1.inv (many := 3) (by decide) (by decide)
  obtain ⟨g1, g2⟩ := some_good w hw
  refine run_seq (run_set ?_)
  walk_at "st"
  refine giv_addL (by decide) ?_
  walk_at "st"
  refine giv e1 ?_
  simp only [List.set]
  refine run_ret ?_
  walk_at "st"
  refine giv e2 ?_
  walk_at "st"
  have X := D1.xm.trans D2.xm
  by_cases hq : q = 0
  · rw [decide_eq_true hq]
    walk_at "st"
    refine giv_addS (by have := g1.2; simp only [List.length_cons, List.length_nil]; show _ ≤ 1000000; omega) ?_
    exact ⟨⟨_, rfl, g2⟩, X, D2.inv⟩
  · rw [decide_eq_false hq]
    walk_at "st"
    exact ⟨⟨_, rfl, g1⟩, X, D2.inv⟩
theorem strs_of {Q : List Nat → Prop} {ys : List Dt} (h : ∀ d ∈ ys, ∃ t, d = .str t ∧ Q t) : ∃ ts : List (List Nat), ys = ts.map Dt.str ∧ ∀ t ∈ ts, Q t := by
  induction ys with
  | nil => exact ⟨[], rfl, fun t ht => absurd ht List.not_mem_nil⟩
  | cons y ys ih =>
    obtain ⟨ts, rfl, g⟩ := ih fun d hd => h d (List.mem_cons_of_mem _ hd)
    obtain ⟨t, rfl, ht⟩ := h y List.mem_cons_self
    exact ⟨t :: ts, rfl, fun x hx => by rcases List.mem_cons.mp hx with rfl | hx; exact ht; exact g x hx⟩
theorem row_drawn {b : Nat} {st : Sto} (hB : Bq b st) : ∃ r st', F_law_row [.ref b] st = .ok (rowT r) st' ∧ GoodR r ∧ Ds [b] (Bq b) st st' := by
  rw [runT_law_row _ _ (by simp [clL, clD])]
  suffices hr : Run (m_law_row [some (.ref b), none, none, none] st) (fun _ _ => False) (fun d st2 => (∃ r, d = rowT r ∧ GoodR r) ∧ Xm [b] st st2 ∧ Bq b st2) by
    obtain ⟨d, st', e, ⟨r, rfl, h⟩, D⟩ := tr_run (bq_src b) hB (fun d ⟨r, hd, _⟩ => by rw [hd]; exact cl_rowT r) hr
    exact ⟨r, st', e, h, D⟩
  unfold m_law_row
  refine run_seq (run_set ?_)
  walk_at "st"
  rw [show ([Dt.str [98, 114, 101, 97, 107], .str [106, 111, 105, 110], .str [109, 97, 114, 107], .str [117, 110, 109, 97, 114, 107], .str [108, 105, 102, 116], .str [108, 111, 119, 101, 114], .str [115, 112, 97, 99, 101], .str [99, 108, 111, 115, 101]] : List Dt) = wDeeds.map Dt.str from rfl]
  simp only [List.set]
  obtain ⟨q, s1, e1, q0, q1, D1⟩ := take_ok hB (many := 3) (by decide) (by decide)
  refine run_seq (run_set ?_)
  walk_at "st"
  refine giv e1 ?_
  walk_at "st"
  refine ⟨by omega, by omega, ?_⟩
  refine giv_lcGo q.toNat rfl (by show _ < 1000000; omega) (fun s => Xm [b] st s ∧ Bq b s) (fun d => ∃ t, d = .str t ∧ GoodT t) (fun s => wRng_stop) ⟨D1.xm, D1.inv⟩ (fun i s hi hs => ⟨_, wRng_item hi, _, rfl, ?_⟩) ?_
  · obtain ⟨t, s2, e2, ht, D2⟩ := test_drawn hs.2
    walk_at "st"
    exact giv e2 ⟨⟨t, rfl, ht⟩, hs.1.trans D2.xm, D2.inv⟩
  intro ys s2 hs2 hl hy
  obtain ⟨ts, rfl, hts⟩ := strs_of hy
  rw [List.length_map] at hl
  simp only [List.set]
  refine run_ret ?_
  walk_at "st"
  obtain ⟨q', s3, e3, p0, p1, D3⟩ := take_ok hs2.2 (many := 2) (by decide) (by decide)
  refine giv e3 ?_
  walk_at "st"
  refine ⟨by omega, by omega, ?_⟩
  refine giv_lcGo (1 + q').toNat rfl (by show _ < 1000000; omega) (fun s => Xm [b] st s ∧ Bq b s) (fun d => ∃ t, d = .str t ∧ GoodD t) (fun s => wRng_stop) ⟨hs2.1.trans D3.xm, D3.inv⟩ (fun i s hi hs => ⟨_, wRng_item hi, _, rfl, ?_⟩) ?_
  · obtain ⟨w, s4, e4, hw, D4⟩ := pick_word wDeeds hs.2 (by decide) (by decide)
    walk_at "st"
    exact giv e4 ⟨⟨w, rfl, hw⟩, hs.1.trans D4.xm, D4.inv⟩
  intro zs s4 hs4 hl4 hz
  obtain ⟨ds, rfl, hds⟩ := strs_of hz
  rw [List.length_map] at hl4
  walk_at "st"
  exact ⟨⟨(ts, ds), rfl, ⟨hts, hds, fun z => by rw [show ds = [] from z] at hl4; simp at hl4; omega, by show ts.length ≤ 4; omega, by show ds.length ≤ 4; omega⟩⟩, hs4.1, hs4.2⟩
end Law
set_option Elab.async false
set_option linter.all false
set_option maxRecDepth 100000
set_option maxHeartbeats 1000000
namespace Law
open PySem PySem.Spec PyProof.Rows L2 LT
local macro_rules | `(tactic| walk_at "st") => `(tactic| repeat (first | with_reducible refine giv_call ?_ | with_reducible refine giv_cons ?_ | with_reducible refine giv_nil ?_ | with_reducible refine giv_cb ?_ | with_reducible refine giv_bin ?_ | with_reducible refine giv_b ?_ | with_reducible refine giv_ifE ?_ | with_reducible refine giv_tup ?_ | with_reducible refine giv_lstV ?_ | with_reducible refine giv_rng ?_ | with_reducible refine giv_it ?_ | with_reducible refine giv_lcV ?_ | with_reducible refine giv_sl ?_ | with_reducible refine giv_part ?_ | with_reducible refine giv_noPart ?_ | with_reducible refine giv_or ?_ | with_reducible refine giv_and ?_ | with_reducible refine giv_not ?_ | with_reducible refine giv_c ?_ | with_reducible refine giv_addI ?_ | with_reducible refine giv_subI ?_ | with_reducible refine giv_eqI ?_ | with_reducible refine giv_neI ?_ | with_reducible refine giv_eqS ?_ | with_reducible refine giv_neS ?_ | with_reducible refine giv_lenL ?_ | with_reducible refine giv_lenT ?_ | with_reducible refine giv_slL ?_ | with_reducible refine giv_slT ?_ | with_reducible refine giv_tuL ?_ | with_reducible refine giv_tuT ?_ | with_reducible refine giv_liL ?_ | with_reducible refine giv_liT ?_ | with_reducible refine giv_itT ?_ | with_reducible refine giv_itL ?_ | with_reducible refine giv_andE ?_ | with_reducible refine giv_orE ?_ | with_reducible refine giv_notE ?_ | with_reducible refine giv_makeV ?_ | with_reducible refine giv_isI ?_ | with_reducible refine giv_star ?_ | with_reducible refine giv_bm ?_ | with_reducible refine giv_bm0 ?_ | with_reducible refine giv_fldO ?_ | with_reducible refine giv_meth ?_ | with_reducible refine giv_chain ?_ | with_reducible refine giv_leI ?_ | with_reducible refine giv_ltI ?_ | with_reducible refine giv_geI ?_ | with_reducible refine giv_gtI ?_ | with_reducible refine giv_ix0 ?_ | with_reducible refine giv_ix1 ?_ | with_reducible refine giv_ix0L ?_ | with_reducible refine giv_ix1L ?_ | with_reducible refine giv_ix2L ?_ | with_reducible refine giv_lstV ?_ | with_reducible refine ifT ?_ | with_reducible refine ifF ?_ | with_reducible refine ifNT ?_ | with_reducible refine ifNF ?_ | with_reducible refine (Exists.intro _ (And.intro (Eq.refl (Dt.bl _)) ?_)) | with_reducible refine (Exists.intro _ (And.intro (Eq.refl (Dt.int _)) ?_)) | with_reducible refine (Exists.intro _ (And.intro (Eq.refl [Dt.int _]) ?_)) | ((with_reducible refine methG_id ?_); refine methG_i rfl rfl ?_) | ((with_reducible refine fldG_id ?_); refine fldG_i rfl rfl rfl ?_) | ((with_reducible refine isG_id ?_); first | refine isG_t rfl rfl ?_ | refine isG_f rfl rfl ?_) | ((with_reducible refine starG_id ?_); refine starG_i rfl ?_) | ((with_reducible refine giv_varG ?_); refine varG_i rfl ?_) | ((with_reducible refine And.intro ?_ ?_); first | exact rfl | exact Nat.le_of_ble_eq_true rfl)))
local macro_rules | `(tactic| walk_at "lt") => `(tactic| simp only [sSeq, sIf, sRet, sRetN, sNx, sSet, sAsg, gNm, sExpr, sPar, mVar, mC, mBin, mUn, mCons, mNil, mCB, mB, isB, mAnd, mOr, mNot, mAndV, mOrV, mNotV, mIf, mTup, mLst, mLstV, mCall, mKey, mBM, mBM0, mSl, mPart, mNoPart, mIt, mRng, mLcV, mStar, mFld, mMakeV, mMeth, mIsI, mTru, mJoined, mFs, mFmt, mChain, mRevV, mRev, sFor, sRaise, outF, Re.bind, Re.on, List.set, List.getElem?_cons_zero, List.getElem?_cons_succ, if_true, if_false, Bool.false_eq_true, reduceIte, Bool.not_true, Bool.not_false, List.length_nil, List.length_cons, List.append_nil, List.nil_append, List.cons_append, Nat.reduceAdd, Nat.zero_add, lim, Nat.reduceLeDiff, Nat.reduceEqDiff, Option.some.injEq, and_self, and_true, true_and, wipeE, wTup_fuel, wRng_fuel])
theorem tr_rei {M : List Nat} {I : Sto → Prop} {st st2 : Sto} (S : Src M I) (h : I st) (x : Xm M st st2) (h2 : I st2) {d d' : Dt} (hr : rei st2 st.length 3 d = some d') : trR st (.ok d st2) = .ok d' (st2.take st.length) ∧ Ds M I st (st2.take st.length) := by
  obtain ⟨_, hD⟩ := trR_src S h x h2 (d := .non) rfl
  refine ⟨?_, hD⟩
  have ok : OldOk st st2 := ⟨x.len, fun i o hi ho => by
    by_cases hm : i ∈ M
    · exact .inr (S.cl st2 h2 i hm o _ ho (S.lt st h))
    · exact .inl (by rw [← x.get i hi hm]; exact ho)⟩
  unfold trR
  simp only
  rw [if_pos ok, hr]
theorem app_ref {p : Nat} {xs : List Dt} {y : Dt} {st : Sto} (h : st[p]? = some (.lst xs)) (hl : xs.length < 1000000) : appendD (.ref p) [y] st = .ok .non (st.set p (.lst (xs ++ [y]))) := by
  simp only [appendD, h]
  rw [if_pos (show xs.length < lim from hl)]
theorem chk_ref {p : Nat} {xs : List Dt} {st : Sto} (h : st[p]? = some (.lst xs)) : isL (.ref p) st = true := by
  simp only [isL, lstD, h, Option.isSome]
theorem pick_ref {b u : Nat} {st : Sto} {xs : List Dt} (hB : Bq b st) (hu : st[u]? = some (.lst xs)) (hne : u ≠ b) (hc : clL 0 xs = true) (h0 : 0 < xs.length) (hl : xs.length < 1073741824) :
    ∃ (x : Dt) (st' : Sto), F_law_pick [.ref b, .ref u] st = .ok x st' ∧ x ∈ xs ∧ Ds [b] (Bq b) st st' := by
  rw [runT_law_pick _ _ _ (by simp [clL, clD])]
  obtain ⟨r, st1, e1, r0, r1, D1⟩ := take_ok hB (many := (xs.length : Int)) (by omega) (by omega)
  obtain ⟨k, rfl⟩ := Int.eq_ofNat_of_zero_le r0
  have hk : k < xs.length := by omega
  have hu1 : st1[u]? = some (.lst xs) := D1.xm.at hu (by simp [hne])
  have hlen : lenD [.ref u] st = .ok (.int xs.length) st := len_any (by simp only [seqD, hu])
  have hix : ixD (.ref u) (.int (k : Int)) st1 = .ok xs[k] st1 := by
    have e : ixD (.ref u) (.int (k : Int)) st1 = ixD (.li xs) (.int (k : Int)) st1 := by simp only [ixD, seqD, hu1]
    rw [e]
    exact ixD_natL (List.getElem?_eq_getElem hk)
  suffices hr : Run (m_law_pick [some (.ref b), some (.ref u)] st) (fun _ _ => False) (fun d st2 => (d ∈ xs) ∧ Xm [b] st st2 ∧ Bq b st2) by
    exact tr_run (bq_src b) hB (fun d hd => clD_mono (Nat.zero_le _) (clL_mem.mp hc _ hd)) hr
  unfold m_law_pick
  refine run_ret ?_
  walk_at "st"
  refine giv hlen ?_
  walk_at "st"
  refine giv e1 ?_
  refine giv hix ?_
  exact ⟨List.getElem_mem hk, D1.xm, D1.inv⟩
def us1 : List Rw := [([[108, 111, 110, 103]], [[98, 114, 101, 97, 107], [109, 97, 114, 107]]), ([[109, 97, 114, 107, 101, 100]], [[98, 114, 101, 97, 107]]), ([[110, 111, 116, 32, 108, 111, 110, 103], [110, 111, 116, 32, 109, 97, 114, 107, 101, 100]], [[106, 111, 105, 110]])]
def us2 : List Rw := [([[108, 111, 110, 103], [98, 101, 104, 105, 110, 100]], [[108, 105, 102, 116]]), ([[110, 111, 116, 32, 108, 111, 110, 103], [97, 104, 101, 97, 100]], [[108, 111, 119, 101, 114]])]
def us3 : Rw := ([[97, 102, 116, 101, 114, 98, 114, 111, 107, 101, 110]], [[115, 112, 97, 99, 101]])
def us4 : List Rw := [([[110, 111, 116, 32, 98, 114, 111, 107, 101, 110]], [[117, 110, 109, 97, 114, 107]]), ([[98, 114, 111, 107, 101, 110]], [[109, 97, 114, 107]]), ([[98, 108, 97, 110, 107]], [[99, 108, 111, 115, 101]])]
def usAll : List Rw := us1 ++ us2 ++ [us3] ++ us4
theorem us_good : ∀ r ∈ usAll, GoodR r := by
  have key : ∀ r ∈ usAll, (∀ t ∈ r.1, GoodT t) ∧ (∀ d ∈ r.2, GoodD d) ∧ r.2 ≠ [] ∧ r.1.length ≤ 4 ∧ r.2.length ≤ 4 := by decide
  exact fun r hr => ⟨(key r hr).1, (key r hr).2.1, (key r hr).2.2.1, (key r hr).2.2.2.1, (key r hr).2.2.2.2⟩
theorem giv_addTD {x y : Dt} {xs ys : List Dt} {s : Sto} {P : Dt → Sto → Prop} (hx : lsD x s = some xs) (hy : lsD y s = some ys) (hl : xs.length + ys.length ≤ lim) (k : P (.ref s.length) (s ++ [.lst (xs ++ ys)])) : Giv (addTD x y s) P := by
  unfold addTD
  rw [hx, hy]
  simp only
  rw [if_pos hl]
  exact k
theorem tool_drawn {b : Nat} {st : Sto} (hB : Bq b st) : ∃ (rs : List Rw) (s : Bool) (st' : Sto), F_law_tool [.ref b] st = .ok (.tup [.li (rs.map rowT), .bl s]) st' ∧ rs.length ≤ 4 ∧ (∀ r ∈ rs, GoodR r) ∧ Ds [b] (Bq b) st st' := by
  rw [runT_law_tool _ _ (by simp [clL, clD])]
  have hbl : b < st.length := by obtain ⟨c, z, n, h⟩ := hB; exact (List.getElem?_eq_some_iff.mp h).1
  suffices hr : Run (m_law_tool [some (.ref b), none, none, none] st) (fun _ _ => False) (fun d st2 => ∃ (rs : List Rw) (s : Bool), d = .tup [.ref (st.length + 3), .bl s] ∧ st2[st.length + 3]? = some (.lst (rs.map rowT)) ∧ rs.length ≤ 4 ∧ (∀ r ∈ rs, GoodR r) ∧ Xm [b] st st2 ∧ Bq b st2) by
    cases hq : m_law_tool [some (.ref b), none, none, none] st <;> rw [hq] at hr <;> first | exact hr.elim | skip
    rename_i d st2
    obtain ⟨rs, s, rfl, h1, h2, h3, h4, h5⟩ := hr
    have hc : clD st.length (.ref (st.length + 3)) = false := by simp only [clD, decide_eq_false_iff_not]; omega
    have hct : clD st.length (.tup [.ref (st.length + 3), .bl s]) = false := by simp only [clD, clL, Bool.and_true, decide_eq_false_iff_not]; omega
    have e : rei st2 st.length 3 (.tup [.ref (st.length + 3), .bl s]) = some (.tup [.li (rs.map rowT), .bl s]) := by
      have a1 : clL st.length [.ref (st.length + 3), .bl s] = false := by simpa only [clD] using hct
      have a2 : decide (st.length + 3 < st.length) = false := by rw [decide_eq_false_iff_not]; omega
      simp only [rei, reiL, Bool.false_eq_true, if_false, h1, clL_rows, if_true, clD, Option.map, a1, a2]
    obtain ⟨e2, D⟩ := tr_rei (bq_src b) hB h4 h5 e
    exact ⟨rs, s, _, e2, h2, h3, D⟩
  have X0 : ∀ g : Sto, Xm [b] st (st ++ g) := fun g => Xm.app
  unfold m_law_tool
  refine run_seq (run_set ?_)
  refine giv_lstR ?_
  walk_at "st"
  rw [show ([.tup [.tup [.str [108, 111, 110, 103]], .tup [.str [98, 114, 101, 97, 107], .str [109, 97, 114, 107]]], .tup [.tup [.str [109, 97, 114, 107, 101, 100]], .tup [.str [98, 114, 101, 97, 107]]], .tup [.tup [.str [110, 111, 116, 32, 108, 111, 110, 103], .str [110, 111, 116, 32, 109, 97, 114, 107, 101, 100]], .tup [.str [106, 111, 105, 110]]]] : List Dt) = us1.map rowT from rfl]
  simp only [List.set]
  refine run_seq (run_set ?_)
  walk_at "st"
  refine giv_addTD (xs := us1.map rowT) (ys := us2.map rowT) (by simp [lsD]) rfl (by decide) ?_
  rw [← List.map_append]
  simp only [List.set]
  generalize hs1 : st ++ [Ob.lst (us1.map rowT)] ++ [Ob.lst ((us1 ++ us2).map rowT)] = s1
  have l1 : s1.length = st.length + 2 := by rw [← hs1]; simp
  have g1 : s1[st.length + 1]? = some (.lst ((us1 ++ us2).map rowT)) := by rw [← hs1]; simp
  have X1 : Xm [b] st s1 := by rw [← hs1, List.append_assoc]; exact X0 _
  rw [show (st ++ [Ob.lst (us1.map rowT)]).length = st.length + 1 by simp]
  refine run_seq (run_expr ?_)
  walk_at "st"
  refine ⟨chk_ref g1, ?_⟩
  walk_at "st"
  refine giv (app_ref g1 (by decide)) ?_
  rw [show ((us1 ++ us2).map rowT ++ [.tup [.tup [.str [97, 102, 116, 101, 114, 98, 114, 111, 107, 101, 110]], .tup [.str [115, 112, 97, 99, 101]]]] : List Dt) = (us1 ++ us2 ++ [us3]).map rowT from rfl]
  generalize hs2 : s1.set (st.length + 1) (Ob.lst ((us1 ++ us2 ++ [us3]).map rowT)) = s2
  have l2 : s2.length = st.length + 2 := by rw [← hs2, List.length_set]; exact l1
  have g2 : s2[st.length + 1]? = some (.lst ((us1 ++ us2 ++ [us3]).map rowT)) := by rw [← hs2]; exact List.getElem?_set_self (by omega)
  have X2 : Xm [b] st s2 := by rw [← hs2]; exact X1.setN (by omega)
  refine run_seq (run_set ?_)
  walk_at "st"
  refine giv_addTD (xs := (us1 ++ us2 ++ [us3]).map rowT) (ys := us4.map rowT) (by simp only [lsD, g2]) rfl (by decide) ?_
  rw [← List.map_append, show us1 ++ us2 ++ [us3] ++ us4 = usAll from rfl]
  simp only [List.set]
  refine run_seq (run_set ?_)
  refine giv_lstR ?_
  walk_at "st"
  simp only [List.set]
  rw [show s2.length = st.length + 2 from l2, show (s2 ++ [Ob.lst (usAll.map rowT)]).length = st.length + 3 by simp [l2]]
  generalize hs3 : s2 ++ [Ob.lst (usAll.map rowT)] ++ [Ob.lst []] = s3
  have g3 : s3[st.length + 2]? = some (.lst (usAll.map rowT)) := by rw [← hs3, ← l2]; simp
  have g4 : s3[st.length + 3]? = some (.lst []) := by rw [← hs3, show st.length + 3 = s2.length + 1 by omega]; simp
  have X3 : Xm [b] st s3 := by rw [← hs3, List.append_assoc]; exact X2.trans Xm.app
  have B3 : Bq b s3 := by
    have b2 : Bq b s2 := (bq_src b).fr st s2 (fun i hi => by
      have hib : i = b := by simpa using hi
      subst hib
      rw [← hs2, List.getElem?_set_ne (by omega), ← hs1, List.append_assoc, List.getElem?_append_left hbl]) hB
    rw [← hs3, List.append_assoc]
    exact (bq_src b).app b2 _
  refine run_seq (run_for ?_)
  walk_at "st"
  obtain ⟨q, s4, e4, q0, q1, D4⟩ := take_ok B3 (many := 5) (by decide) (by decide)
  refine giv e4 ?_
  walk_at "st"
  refine ⟨by omega, by omega, ?_⟩
  have nb2 : st.length + 2 ∉ [b] := by simp; omega
  have nb3 : st.length + 3 ∉ [b] := by simp; omega
  refine run_forR q.toNat (fun i e s => s[st.length + 2]? = some (.lst (usAll.map rowT)) ∧ Bq b s ∧ Xm [b] st s ∧ (∃ rs : List Rw, rs.length = i ∧ (∀ r ∈ rs, GoodR r) ∧ s[st.length + 3]? = some (.lst (rs.map rowT))) ∧ ∃ y3, e = [some (.ref b), some (.ref (st.length + 2)), some (.ref (st.length + 3)), y3])
    ⟨D4.xm.at g3 nb2, D4.inv, X3.trans D4.xm, ⟨[], rfl, fun r hr => absurd hr List.not_mem_nil, D4.xm.at g4 nb3⟩, _, rfl⟩ ?_ ?_
  · rintro i e s hi ⟨h1, h2, h3, ⟨rs, h4, h5, h6⟩, y3, rfl⟩
    refine ⟨_, s, rfl, ?_⟩
    simp only [List.set]
    obtain ⟨w, s5, e5, w0, w1, D5⟩ := take_ok h2 (many := 3) (by decide) (by decide)
    have more : ∀ (r : Rw) (s6 : Sto), GoodR r → Ds [b] (Bq b) s5 s6 → Giv (appendD (.ref (st.length + 3)) [rowT r] s6) fun _ s => s[st.length + 2]? = some (.lst (usAll.map rowT)) ∧ Bq b s ∧ Xm [b] st s ∧ (∃ rs : List Rw, rs.length = i + 1 ∧ (∀ r ∈ rs, GoodR r) ∧ s[st.length + 3]? = some (.lst (rs.map rowT))) ∧ ∃ y3, ([some (.ref b), some (.ref (st.length + 2)), some (.ref (st.length + 3)), some (.int (0 + (i : Int)))] : Lo) = [some (.ref b), some (.ref (st.length + 2)), some (.ref (st.length + 3)), y3] := fun r s6 hr D6 => by
      have k3 : s6[st.length + 3]? = some (.lst (rs.map rowT)) := D6.xm.at (D5.xm.at h6 nb3) nb3
      have k2 : s6[st.length + 2]? = some (.lst (usAll.map rowT)) := D6.xm.at (D5.xm.at h1 nb2) nb2
      have kl : st.length + 3 < s6.length := (List.getElem?_eq_some_iff.mp k3).1
      refine giv (app_ref k3 (by rw [List.length_map]; omega)) ?_
      refine ⟨by rw [List.getElem?_set_ne (by omega)]; exact k2, (bq_src b).set D6.inv nb3, ((h3.trans D5.xm).trans D6.xm).setN (by omega), ⟨rs ++ [r], by simp [h4], fun x hx => ?_, ?_⟩, _, rfl⟩
      · rcases List.mem_append.mp hx with z | z
        · exact h5 x z
        · rw [List.mem_singleton.mp z]; exact hr
      · rw [List.getElem?_set_self kl, List.map_append]
        rfl
    have h6' := D5.xm.at h6 nb3
    refine run_expr ?_
    refine giv_bm (giv_var rfl ⟨chk_ref h6, ?_⟩)
    walk_at "st"
    refine giv e5 ?_
    walk_at "st"
    by_cases hw : w > 0
    · rw [decide_eq_true hw]
      walk_at "st"
      obtain ⟨x, s6, e6, hx, D6⟩ := pick_ref D5.inv (D5.xm.at h1 nb2) (by omega) (clL_rows usAll) (by decide) (by decide)
      refine giv e6 ?_
      walk_at "st"
      obtain ⟨r, hr, rfl⟩ := List.mem_map.mp hx
      exact more r s6 (us_good r hr) D6
    · rw [decide_eq_false hw]
      walk_at "st"
      obtain ⟨r, s6, e6, hr, D6⟩ := row_drawn D5.inv
      refine giv e6 ?_
      walk_at "st"
      exact more r s6 hr D6
  rintro e s ⟨h1, h2, h3, ⟨rs, h4, h5, h6⟩, y3, rfl⟩
  obtain ⟨w, s5, e5, w0, w1, D5⟩ := take_ok h2 (many := 4) (by decide) (by decide)
  refine run_ret ?_
  walk_at "st"
  refine giv e5 ?_
  walk_at "st"
  exact ⟨rs, _, rfl, D5.xm.at h6 nb3, by omega, h5, h3.trans D5.xm, D5.inv⟩
end Law
set_option Elab.async false
set_option linter.all false
set_option maxRecDepth 100000
set_option maxHeartbeats 1000000
namespace Law
open PySem PySem.Spec PyProof.Rows L2 LT
local macro_rules | `(tactic| walk_at "st") => `(tactic| repeat (first | with_reducible refine giv_call ?_ | with_reducible refine giv_cons ?_ | with_reducible refine giv_nil ?_ | with_reducible refine giv_cb ?_ | with_reducible refine giv_bin ?_ | with_reducible refine giv_b ?_ | with_reducible refine giv_ifE ?_ | with_reducible refine giv_tup ?_ | with_reducible refine giv_lstV ?_ | with_reducible refine giv_rng ?_ | with_reducible refine giv_it ?_ | with_reducible refine giv_lcV ?_ | with_reducible refine giv_sl ?_ | with_reducible refine giv_part ?_ | with_reducible refine giv_noPart ?_ | with_reducible refine giv_or ?_ | with_reducible refine giv_and ?_ | with_reducible refine giv_not ?_ | with_reducible refine giv_c ?_ | with_reducible refine giv_addI ?_ | with_reducible refine giv_subI ?_ | with_reducible refine giv_eqI ?_ | with_reducible refine giv_neI ?_ | with_reducible refine giv_eqS ?_ | with_reducible refine giv_neS ?_ | with_reducible refine giv_lenL ?_ | with_reducible refine giv_lenT ?_ | with_reducible refine giv_slL ?_ | with_reducible refine giv_slT ?_ | with_reducible refine giv_tuL ?_ | with_reducible refine giv_tuT ?_ | with_reducible refine giv_liL ?_ | with_reducible refine giv_liT ?_ | with_reducible refine giv_itT ?_ | with_reducible refine giv_itL ?_ | with_reducible refine giv_andE ?_ | with_reducible refine giv_orE ?_ | with_reducible refine giv_notE ?_ | with_reducible refine giv_makeV ?_ | with_reducible refine giv_isI ?_ | with_reducible refine giv_star ?_ | with_reducible refine giv_bm ?_ | with_reducible refine giv_bm0 ?_ | with_reducible refine giv_fldO ?_ | with_reducible refine giv_meth ?_ | with_reducible refine giv_chain ?_ | with_reducible refine giv_leI ?_ | with_reducible refine giv_ltI ?_ | with_reducible refine giv_geI ?_ | with_reducible refine giv_gtI ?_ | with_reducible refine giv_ix0 ?_ | with_reducible refine giv_ix1 ?_ | with_reducible refine giv_ix0L ?_ | with_reducible refine giv_ix1L ?_ | with_reducible refine giv_ix2L ?_ | with_reducible refine giv_lstV ?_ | with_reducible refine ifT ?_ | with_reducible refine ifF ?_ | with_reducible refine ifNT ?_ | with_reducible refine ifNF ?_ | with_reducible refine (Exists.intro _ (And.intro (Eq.refl (Dt.bl _)) ?_)) | with_reducible refine (Exists.intro _ (And.intro (Eq.refl (Dt.int _)) ?_)) | with_reducible refine (Exists.intro _ (And.intro (Eq.refl [Dt.int _]) ?_)) | ((with_reducible refine methG_id ?_); refine methG_i rfl rfl ?_) | ((with_reducible refine fldG_id ?_); refine fldG_i rfl rfl rfl ?_) | ((with_reducible refine isG_id ?_); first | refine isG_t rfl rfl ?_ | refine isG_f rfl rfl ?_) | ((with_reducible refine starG_id ?_); refine starG_i rfl ?_) | ((with_reducible refine giv_varG ?_); refine varG_i rfl ?_) | ((with_reducible refine And.intro ?_ ?_); first | exact rfl | exact Nat.le_of_ble_eq_true rfl)))
local macro_rules | `(tactic| walk_at "lt") => `(tactic| simp only [sSeq, sIf, sRet, sRetN, sNx, sSet, sAsg, gNm, sExpr, sPar, mVar, mC, mBin, mUn, mCons, mNil, mCB, mB, isB, mAnd, mOr, mNot, mAndV, mOrV, mNotV, mIf, mTup, mLst, mLstV, mCall, mKey, mBM, mBM0, mSl, mPart, mNoPart, mIt, mRng, mLcV, mStar, mFld, mMakeV, mMeth, mIsI, mTru, mJoined, mFs, mFmt, mChain, mRevV, mRev, sFor, sRaise, outF, Re.bind, Re.on, List.set, List.getElem?_cons_zero, List.getElem?_cons_succ, if_true, if_false, Bool.false_eq_true, reduceIte, Bool.not_true, Bool.not_false, List.length_nil, List.length_cons, List.append_nil, List.nil_append, List.cons_append, Nat.reduceAdd, Nat.zero_add, lim, Nat.reduceLeDiff, Nat.reduceEqDiff, Option.some.injEq, and_self, and_true, true_and, wipeE, wTup_fuel, wRng_fuel])
/-! ### all forms -/
def Lq (c : Int) : Nat → Int
  | 0 => c
  | t + 1 => Lq c t / 2
def bitQ (c : Int) (t : Nat) : Bool := decide (Lq c t % 2 = 1)
def szs (c : Int) : List (List Nat) := [[111, 118, 101, 114], [101, 118, 101, 110], [119, 105, 100, 101]] ++ if (bitQ c 2 || bitQ c 3) = true then [[116, 105, 103, 104, 116], [106, 117, 115, 116]] else []
def formsC (c : Nat) : List Fm := (szs c).map fun z => ⟨z, bitQ c 0, bitQ c 1, bitQ c 2, bitQ c 3, Lq c 5, bitQ c 4⟩
def formsN (n : Nat) : List Fm := (List.range n).flatMap formsC
theorem formsN_succ (n : Nat) : formsN (n + 1) = formsN n ++ formsC n := by
  unfold formsN
  rw [List.range_succ, List.flatMap_append]
  simp
theorem forms_432 : (formsN 96).length = 432 := by decide +kernel
theorem szs_ok (c : Int) : ∀ z ∈ szs c, z ∈ sizes := fun z hz => by
  unfold szs at hz
  split at hz <;> simp only [List.mem_append, List.mem_cons, List.not_mem_nil, or_false] at hz ⊢
  · rcases hz with (h | h | h) | h | h <;> simp [h]
  · rcases hz with h | h | h <;> simp [h]
theorem Lq_le (c : Nat) : ∀ t, 0 ≤ Lq c t ∧ Lq c t ≤ c
  | 0 => ⟨by show (0 : Int) ≤ (c : Int); omega, by show (c : Int) ≤ (c : Int); omega⟩
  | t + 1 => by
    have := Lq_le c t
    show 0 ≤ Lq c t / 2 ∧ Lq c t / 2 ≤ (c : Int)
    omega
structure GoodF (f : Fm) : Prop where
  z : f.z ∈ sizes
  n0 : 0 ≤ f.n
  n1 : f.n ≤ 100
theorem forms_good : ∀ f ∈ formsN 96, GoodF f := fun f hf => by
  unfold formsN at hf
  obtain ⟨c, hc, hf⟩ := List.mem_flatMap.mp hf
  have hc' := List.mem_range.mp hc
  unfold formsC at hf
  obtain ⟨z, hz, rfl⟩ := List.mem_map.mp hf
  have := Lq_le c 5
  exact ⟨szs_ok _ z hz, this.1, by show Lq c 5 ≤ 100; omega⟩
theorem ix_ref {p : Nat} {xs : List Dt} {i : Dt} {s : Sto} (h : s[p]? = some (.lst xs)) : ixD (.ref p) i s = ixD (.li xs) i s := by
  cases i <;> simp only [ixD, seqD, h]
theorem run_par2 {i j : Nat} {a : MA} {env : Lo} {st : Sto} {N : Lo → Sto → Prop} {R : Dt → Sto → Prop} (h : Giv (a env st) fun ds s => ∃ x y, ds = [x, y] ∧ N ((env.set i (some x)).set j (some y)) s) : Run (sPar i j a env st) N R := by
  obtain ⟨ds, s, e, x, y, rfl, k⟩ := h.eq
  exact run_par e k
def bits (c : Int) (j : Nat) : List Dt := (List.range j).map fun t => .bl (bitQ c t)
theorem bits_succ (c : Int) (j : Nat) : bits c (j + 1) = bits c j ++ [.bl (bitQ c j)] := by
  unfold bits
  rw [List.range_succ, List.map_append]
  rfl
theorem ext_ref {p : Nat} {xs ys : List Dt} {s : Sto} (h : s[p]? = some (.lst xs)) (hl : xs.length + ys.length ≤ 1000000) : extendD (.ref p) [.li ys] s = .ok .non (s.set p (.lst (xs ++ ys))) := by
  simp only [extendD, h, lsD]
  rw [if_pos (show xs.length + ys.length ≤ lim from hl)]
theorem len_upto (n : Nat) (h : n ≤ 96) : (formsN n).length ≤ 480 := by
  have : ∀ n, (formsN n).length ≤ 5 * n := fun n => by
    induction n with
    | zero => simp [formsN]
    | succ n ih =>
      rw [formsN_succ, List.length_append]
      have : (formsC n).length ≤ 5 := by
        unfold formsC szs
        rw [List.length_map]
        split <;> simp
      omega
  have := this n
  omega
theorem forms_run {st : Sto} {XX : List Dt} (hX : (formsN 96).map formD = XX) (z0 z1 z2 z3 z4 z5 z6 z7 : Option Dt) : Run (m_law_forms [z0, z1, z2, z3, z4, z5, z6, z7] []) (fun _ _ => False) (fun d' s => puR st (.ok d' s) = .ok (.li XX) st) := by
  unfold m_law_forms
  with_reducible refine run_seq ?_
  with_reducible refine run_set ?_
  with_reducible refine giv_lstR ?_
  walk_at "st"
  simp only [List.set, List.nil_append, List.length_nil]
  with_reducible refine run_seq ?_
  with_reducible refine run_for ?_
  walk_at "st"
  refine ⟨by omega, by omega, ?_⟩
  rw [show ((96 : Int)).toNat = 96 from rfl, show (wRng 0 96).fuel = 96 + 1 from rfl]
  with_reducible refine run_forR 96 (fun i e s => s[0]? = some (.lst ((formsN i).map formD)) ∧ ∃ y1 y2 y3 y4 y5 y6 y7, e = [some (.ref 0), y1, y2, y3, y4, y5, y6, y7]) ⟨rfl, _, _, _, _, _, _, _, rfl⟩ ?_ ?_
  · rintro i e s hi ⟨h0, y1, y2, y3, y4, y5, y6, y7, rfl⟩
    refine ⟨_, s, rfl, ?_⟩
    simp only [List.set]
    rw [show (0 : Int) + (i : Int) = (i : Int) by omega]
    have hs0 : 0 < s.length := (List.getElem?_eq_some_iff.mp h0).1
    refine run_seq (run_par2 ?_)
    refine giv_cons (giv_lstR ?_)
    walk_at "st"
    refine giv_cint ?_
    walk_at "st"
    refine ⟨_, _, rfl, ?_⟩
    simp only [List.set]
    refine run_seq (run_for ?_)
    walk_at "st"
    refine ⟨by omega, by omega, ?_⟩
    refine run_forR 5 (fun j e s' => s'[0]? = some (.lst ((formsN i).map formD)) ∧ s'[s.length]? = some (.lst (bits i j)) ∧ ∃ y2 y3 y4 y7, e = [some (.ref 0), some (.int i), y2, y3, y4, some (.ref s.length), some (.int (Lq i j)), y7]) ⟨by rw [List.getElem?_append_left hs0]; exact h0, by simp [bits], _, _, _, _, rfl⟩ ?_ ?_
    · rintro j e s' hj ⟨g0, g1, y2, y3, y4, y7, rfl⟩
      refine ⟨_, s', rfl, ?_⟩
      simp only [List.set]
      have hp : s.length < s'.length := (List.getElem?_eq_some_iff.mp g1).1
      refine run_seq (run_expr ?_)
      walk_at "st"
      refine ⟨chk_ref g1, ?_⟩
      walk_at "st"
      refine giv_modI (by decide) ?_
      walk_at "st"
      refine giv (app_ref g1 (by unfold bits; rw [List.length_map, List.length_range]; omega)) ?_
      refine run_set ?_
      walk_at "st"
      refine giv_fdivI (by decide) (by decide) ?_
      simp only [List.set]
      refine ⟨by rw [List.getElem?_set_ne (by omega)]; exact g0, ?_, _, _, _, _, rfl⟩
      rw [List.getElem?_set_self hp, bits_succ]
      rfl
    rintro e s' ⟨g0, g1, y2, y3, y4, y7, rfl⟩
    have g1' : s'[s.length]? = some (.lst [.bl (bitQ i 0), .bl (bitQ i 1), .bl (bitQ i 2), .bl (bitQ i 3), .bl (bitQ i 4)]) := g1
    have ixs : ∀ k x, [Dt.bl (bitQ i 0), .bl (bitQ i 1), .bl (bitQ i 2), .bl (bitQ i 3), .bl (bitQ i 4)][k]? = some x → ixD (.ref s.length) (.int (k : Nat)) s' = .ok x s' := fun k x hx => by
      rw [ix_ref g1']
      exact ixD_natL hx
    refine run_seq (run_set ?_)
    walk_at "st"
    refine giv (ixs 0 _ rfl) ?_
    walk_at "st"
    refine giv (ixs 1 _ rfl) ?_
    walk_at "st"
    refine giv (ixs 2 _ rfl) ?_
    walk_at "st"
    refine giv (ixs 3 _ rfl) ?_
    walk_at "st"
    refine giv (ixs 4 _ rfl) ?_
    walk_at "st"
    simp only [List.set]
    refine run_seq (run_set ?_)
    walk_at "st"
    simp only [List.set]
    have fin : ∀ zs : List (List Nat), zs = szs i → Run (sExpr (mBM isL extendD (mVar 0) (mCons (mLcV (mIt (mVar 4)) (gNm 7) mYes (mBin addD (mTup (mCons (mVar 7) mNil)) (mVar 3)) [7]) mNil)) [some (.ref 0), some (.int i), y2, some (.tup [.bl (bitQ i 0), .bl (bitQ i 1), .bl (bitQ i 2), .bl (bitQ i 3), .int (Lq i 5), .bl (bitQ i 4)]), some (.li (zs.map Dt.str)), some (.ref s.length), some (.int (Lq i 5)), y7] s') (fun e s => s[0]? = some (.lst ((formsN (i + 1)).map formD)) ∧ ∃ y1 y2 y3 y4 y5 y6 y7, e = [some (.ref 0), y1, y2, y3, y4, y5, y6, y7]) (fun d' s => puR st (.ok d' s) = .ok (.li XX) st) := fun zs hzs => by
      have hz5 : zs.length ≤ 5 := by rw [hzs]; unfold szs; split <;> simp
      refine run_expr ?_
      walk_at "st"
      refine ⟨chk_ref g0, ?_⟩
      walk_at "st"
      refine giv_lcMapT zs Dt.str (fun z => formD ⟨z, bitQ i 0, bitQ i 1, bitQ i 2, bitQ i 3, Lq i 5, bitQ i 4⟩) (by show _ < 1000000; omega) (fun z hz => ⟨_, rfl, rfl⟩) ?_
      walk_at "st"
      have hl := len_upto i (by omega)
      refine giv (ext_ref g0 (by rw [List.length_map, List.length_map]; omega)) ?_
      have hlt : 0 < s'.length := (List.getElem?_eq_some_iff.mp g0).1
      refine ⟨?_, _, _, _, _, _, _, _, rfl⟩
      rw [List.getElem?_set_self hlt, formsN_succ, List.map_append, hzs]
      unfold formsC
      rw [List.map_map]
      rfl
    refine run_seq (run_if ?_)
    walk_at "st"
    refine giv (ixs 2 _ rfl) ?_
    walk_at "st"
    have more : ∀ hb : (bitQ i 2 || bitQ i 3) = true, szs i = [[111, 118, 101, 114], [101, 118, 101, 110], [119, 105, 100, 101]] ++ [[116, 105, 103, 104, 116], [106, 117, 115, 116]] := fun hb => by unfold szs; rw [if_pos hb]
    have less : ∀ hb : (bitQ i 2 || bitQ i 3) = false, szs i = [[111, 118, 101, 114], [101, 118, 101, 110], [119, 105, 100, 101]] := fun hb => by unfold szs; rw [if_neg (by rw [hb]; decide)]; rfl
    cases h2 : bitQ i 2 with
    | true =>
      rw [h2] at fin more
      walk_at "st"
      refine run_set ?_
      walk_at "st"
      refine giv_addL (by decide) ?_
      simp only [List.set]
      exact fin _ (more rfl).symm
    | false =>
      rw [h2] at fin more less
      walk_at "st"
      refine giv (ixs 3 _ rfl) ?_
      walk_at "st"
      cases h3 : bitQ i 3 with
      | true =>
        rw [h3] at fin more
        walk_at "st"
        refine run_set ?_
        walk_at "st"
        refine giv_addL (by decide) ?_
        simp only [List.set]
        exact fin _ (more rfl).symm
      | false =>
        rw [h3] at fin less
        walk_at "st"
        refine run_nx ?_
        exact fin _ (less rfl).symm
  rintro e s ⟨h0, y1, y2, y3, y4, y5, y6, y7, rfl⟩
  refine run_ret ?_
  walk_at "st"
  rw [hX] at h0
  exact puR_lst h0 (by rw [← hX]; exact clL_map _ fun f _ => cl_form f)
theorem pu_eqF {st : Sto} {r : Rs} {d : Dt} (h : Run r (fun _ _ => False) (fun d' s => puR st (.ok d' s) = .ok d st)) : puR st (outF r) = .ok d st := pu_eq (h.mono (fun _ _ z => z.elim) (fun _ _ z => z))
theorem forms_pu (st : Sto) {XX : List Dt} (hX : (formsN 96).map formD = XX) (z0 z1 z2 z3 z4 z5 z6 z7 : Option Dt) : puR st (outF (m_law_forms [z0, z1, z2, z3, z4, z5, z6, z7] [])) = .ok (.li XX) st := by
  with_reducible exact pu_eqF (forms_run hX z0 z1 z2 z3 z4 z5 z6 z7)
theorem forms_ok (st : Sto) : F_law_forms [] st = .ok (.li ((formsN 96).map formD)) st := by
  rw [run_law_forms, forms_pu st rfl]
end Law
set_option Elab.async false
set_option linter.all false
set_option maxRecDepth 100000
set_option maxHeartbeats 1000000
namespace Law
open PySem PySem.Spec PyProof.Rows L2 LT
local macro_rules | `(tactic| walk_at "st") => `(tactic| repeat (first | with_reducible refine giv_call ?_ | with_reducible refine giv_cons ?_ | with_reducible refine giv_nil ?_ | with_reducible refine giv_cb ?_ | with_reducible refine giv_bin ?_ | with_reducible refine giv_b ?_ | with_reducible refine giv_ifE ?_ | with_reducible refine giv_tup ?_ | with_reducible refine giv_lstV ?_ | with_reducible refine giv_rng ?_ | with_reducible refine giv_it ?_ | with_reducible refine giv_lcV ?_ | with_reducible refine giv_sl ?_ | with_reducible refine giv_part ?_ | with_reducible refine giv_noPart ?_ | with_reducible refine giv_or ?_ | with_reducible refine giv_and ?_ | with_reducible refine giv_not ?_ | with_reducible refine giv_c ?_ | with_reducible refine giv_addI ?_ | with_reducible refine giv_subI ?_ | with_reducible refine giv_eqI ?_ | with_reducible refine giv_neI ?_ | with_reducible refine giv_eqS ?_ | with_reducible refine giv_neS ?_ | with_reducible refine giv_lenL ?_ | with_reducible refine giv_lenT ?_ | with_reducible refine giv_slL ?_ | with_reducible refine giv_slT ?_ | with_reducible refine giv_tuL ?_ | with_reducible refine giv_tuT ?_ | with_reducible refine giv_liL ?_ | with_reducible refine giv_liT ?_ | with_reducible refine giv_itT ?_ | with_reducible refine giv_itL ?_ | with_reducible refine giv_andE ?_ | with_reducible refine giv_orE ?_ | with_reducible refine giv_notE ?_ | with_reducible refine giv_makeV ?_ | with_reducible refine giv_isI ?_ | with_reducible refine giv_star ?_ | with_reducible refine giv_bm ?_ | with_reducible refine giv_bm0 ?_ | with_reducible refine giv_fldO ?_ | with_reducible refine giv_meth ?_ | with_reducible refine giv_chain ?_ | with_reducible refine giv_leI ?_ | with_reducible refine giv_ltI ?_ | with_reducible refine giv_geI ?_ | with_reducible refine giv_gtI ?_ | with_reducible refine giv_ix0 ?_ | with_reducible refine giv_ix1 ?_ | with_reducible refine giv_ix0L ?_ | with_reducible refine giv_ix1L ?_ | with_reducible refine giv_ix2L ?_ | with_reducible refine giv_lstV ?_ | with_reducible refine ifT ?_ | with_reducible refine ifF ?_ | with_reducible refine ifNT ?_ | with_reducible refine ifNF ?_ | with_reducible refine (Exists.intro _ (And.intro (Eq.refl (Dt.bl _)) ?_)) | with_reducible refine (Exists.intro _ (And.intro (Eq.refl (Dt.int _)) ?_)) | with_reducible refine (Exists.intro _ (And.intro (Eq.refl [Dt.int _]) ?_)) | ((with_reducible refine methG_id ?_); refine methG_i rfl rfl ?_) | ((with_reducible refine fldG_id ?_); refine fldG_i rfl rfl rfl ?_) | ((with_reducible refine isG_id ?_); first | refine isG_t rfl rfl ?_ | refine isG_f rfl rfl ?_) | ((with_reducible refine starG_id ?_); refine starG_i rfl ?_) | ((with_reducible refine giv_varG ?_); refine varG_i rfl ?_) | ((with_reducible refine And.intro ?_ ?_); first | exact rfl | exact Nat.le_of_ble_eq_true rfl)))
local macro_rules | `(tactic| walk_at "lt") => `(tactic| simp only [sSeq, sIf, sRet, sRetN, sNx, sSet, sAsg, gNm, sExpr, sPar, mVar, mC, mBin, mUn, mCons, mNil, mCB, mB, isB, mAnd, mOr, mNot, mAndV, mOrV, mNotV, mIf, mTup, mLst, mLstV, mCall, mKey, mBM, mBM0, mSl, mPart, mNoPart, mIt, mRng, mLcV, mStar, mFld, mMakeV, mMeth, mIsI, mTru, mJoined, mFs, mFmt, mChain, mRevV, mRev, sFor, sRaise, outF, Re.bind, Re.on, List.set, List.getElem?_cons_zero, List.getElem?_cons_succ, if_true, if_false, Bool.false_eq_true, reduceIte, Bool.not_true, Bool.not_false, List.length_nil, List.length_cons, List.append_nil, List.nil_append, List.cons_append, Nat.reduceAdd, Nat.zero_add, lim, Nat.reduceLeDiff, Nat.reduceEqDiff, Option.some.injEq, and_self, and_true, true_and, wipeE, wTup_fuel, wRng_fuel])
theorem toolOfL {rs : List Rw} {s : Bool} (st : Sto) (h : GoodRs rs) : F_law_tool_of [.tup [.li (rs.map rowT), .bl s]] st = .ok (toolO rs s) st := by
  rw [run_law_tool_of _ _ (by simp only [clL, clD, clL_rows, Bool.and_self])]
  refine pu_eq ?_
  unfold m_law_tool_of
  refine run_ret ?_
  have hl := h.l
  walk_at "st"
  refine giv_lcMapT rs rowT rowO (by show _ < 1000000; omega) (fun r hr => ⟨_, rfl, ?_⟩) ?_
  · show pt (newF 11 F_RowD_initD) [tWs r.1, tWs r.2] _ = _
    rw [row_ok r _ (h.g r hr)]
  · walk_at "st"
    exact giv (tool_mk _ rs s _ (.inr rfl) (by omega)) (puR_ok (cl_toolO rs s))
theorem done_good {f : Fm} (d : List Nat) (h : GoodF f) : GoodF (doneF d f) := by
  refine ⟨by rw [done_z]; exact h.z, ?_, ?_⟩
  · unfold doneF
    repeat (first | exact h.n0 | (show (0 : Int) ≤ 1; decide) | (show (0 : Int) ≤ 0; decide) | split)
  · unfold doneF
    repeat (first | exact h.n1 | (show (1 : Int) ≤ 100; decide) | (show (0 : Int) ≤ 100; decide) | split)
theorem fold_good : ∀ (ds : List (List Nat)) {f : Fm}, GoodF f → GoodF (foldD ds f)
  | [], _, h => h
  | d :: ds, _, h => fold_good ds (done_good d h)
theorem lay_good (p : Option (Bool × Bool)) : ∀ (rs : List Rw) {f : Fm}, GoodF f → GoodF (layF rs p f)
  | [], _, h => h
  | r :: rs, f, h => by
    have k : GoodF (layR p f r) := by
      unfold layR
      split
      · exact fold_good _ h
      · exact h
    exact lay_good p rs k
theorem repr_form {f : Fm} (st : Sto) (h : GoodF f) : reprD [formD f] st = .ok (.str (shownD (formD f))) st := by
  obtain ⟨z, b, m, a, hh, n, l⟩ := f
  have hz := h.z
  have n0 := h.n0
  have n1 := h.n1
  simp only at n0 n1
  have hl : n.natAbs.log2 < 1920 := by
    by_cases e : n.natAbs = 0
    · rw [e]; decide
    · rw [Nat.log2_lt e]
      exact Nat.lt_of_lt_of_le (show n.natAbs < 2 ^ 7 by omega) (Nat.pow_le_pow_right (by decide) (by decide))
  have sh : shD (formD ⟨z, b, m, a, hh, n, l⟩) = true := by
    show (true && (true && (true && (true && (true && (decide (n.natAbs.log2 < 1920) && (true && true))))))) = true
    rw [decide_eq_true hl]
    rfl
  simp only [List.mem_cons, List.not_mem_nil, or_false] at hz
  rcases hz with rfl | rfl | rfl | rfl | rfl <;> exact repr_ok rfl sh (by simp only [wD, wL, List.length_cons, List.length_nil]; decide)
theorem ok_form {f : Fm} (h : GoodF f) : okD 38 (formD f) = true := by
  obtain ⟨z, b, m, a, hh, n, l⟩ := f
  have hz := h.z
  simp only [List.mem_cons, List.not_mem_nil, or_false] at hz
  rcases hz with rfl | rfl | rfl | rfl | rfl <;> rfl
theorem ne_form {f : Fm} (st : Sto) (h : GoodF f) : neD (formD f) (formD f) st = .ok (.bl false) st := by
  rw [neD_data (ok_form h) (ok_form h)]
  have e : deq (formD f) (formD f) = true := by simp [deq, deqL]
  rw [e]
  rfl
theorem ne_strS {a : List Nat} (st : Sto) : neD (.str a) (.str a) st = .ok (.bl false) st := by
  show Re.ok (Dt.bl (!decide (a = a))) st = _
  simp
theorem bef_of {x : Dt} (h : x ∈ [Dt.tup [], .tup [.bl false, .bl false], .tup [.bl false, .bl true], .tup [.bl true, .bl false], .tup [.bl true, .bl true]]) : ∃ p, x = befD p := by
  simp only [List.mem_cons, List.not_mem_nil, or_false] at h
  rcases h with rfl | rfl | rfl | rfl | rfl
  · exact ⟨none, rfl⟩
  · exact ⟨some (false, false), rfl⟩
  · exact ⟨some (false, true), rfl⟩
  · exact ⟨some (true, false), rfl⟩
  · exact ⟨some (true, true), rfl⟩
theorem law_true {ns : List Int} (hn : ns.length ≤ 63) : ∃ st', F_law [.rl (ns.map Dt.int)] [] = .ok (.bl true) st' := by
  rw [run_law]
  suffices h : Giv (outF (m_law [some (.rl (ns.map Dt.int)), none, none, none, none, none, none, none, none, none, none] [])) (fun d _ => d = .bl true) by
    obtain ⟨d, s, e, rfl⟩ := h.eq
    exact ⟨s, e⟩
  refine giv_out ?_
  unfold m_law
  have fok := fun st => forms_ok st
  have fl := forms_432
  have fg := forms_good
  generalize formsN 96 = FF at fok fl fg
  refine run_seq (run_for ?_)
  walk_at "st"
  refine giv (len_any (xs := ns.map Dt.int) rfl) ?_
  rw [List.length_map]
  walk_at "st"
  refine giv rfl ?_
  walk_at "st"
  refine giv rfl ?_
  walk_at "st"
  generalize hk : (if (if (ns.length : Int) < 3 then (ns.length : Int) else 3) > 1 then (if (ns.length : Int) < 3 then (ns.length : Int) else 3) else 1) = k
  have hk3 : 0 ≤ k ∧ k ≤ 3 := by rw [← hk]; split <;> split <;> omega
  refine ⟨by omega, by omega, ?_⟩
  refine run_forR k.toNat (fun i e s => ∃ x1 x2 x3 x4 x5 x6 x7 x8 x9 x10, e = [some (.rl (ns.map Dt.int)), x1, x2, x3, x4, x5, x6, x7, x8, x9, x10]) ⟨_, _, _, _, _, _, _, _, _, _, rfl⟩ ?_ ?_
  · rintro i e s hi ⟨x1, x2, x3, x4, x5, x6, x7, x8, x9, x10, rfl⟩
    refine ⟨_, s, rfl, ?_⟩
    simp only [List.set]
    obtain ⟨b, s1, e1, hb, X1, B1⟩ := box_ok (ns := ns) (k := 0 + (i : Int)) (own := 24) (st := s) (by omega)
    refine run_seq (run_asg ?_)
    walk_at "st"
    refine giv e1 ?_
    walk_at "st"
    refine giv (fok _) ?_
    walk_at "st"
    refine run_nx (env := [some (.rl (ns.map Dt.int)), some (.int (0 + (i : Int))), x2, some (.ref b), some (.li (FF.map formD)), x5, x6, x7, x8, x9, x10]) (st := s1) ?_
    refine run_for ?_
    walk_at "st"
    refine ⟨by omega, by omega, ?_⟩
    refine run_forR 4 (fun j e s => Bq b s ∧ ∃ x1 x2 x5 x6 x7 x8 x9 x10, e = [some (.rl (ns.map Dt.int)), x1, x2, some (.ref b), some (.li (FF.map formD)), x5, x6, x7, x8, x9, x10]) ⟨B1, _, _, _, _, _, _, _, _, rfl⟩ ?_ (fun e s h => by
      obtain ⟨_, x1, x2, x5, x6, x7, x8, x9, x10, rfl⟩ := h
      exact ⟨_, _, _, _, _, _, _, _, _, _, rfl⟩)
    rintro j e s hj ⟨hB, x1, x2, x5, x6, x7, x8, x9, x10, rfl⟩
    refine ⟨_, s, rfl, ?_⟩
    simp only [List.set]
    obtain ⟨rs0, sb, s2, e2, l0, g0, D2⟩ := tool_drawn hB
    refine run_seq (run_set ?_)
    walk_at "st"
    refine giv e2 ?_
    simp only [List.set]
    obtain ⟨q, s3, e3, q0, q1, D3⟩ := take_ok D2.inv (many := 5) (by decide) (by decide)
    refine run_seq (run_set ?_)
    walk_at "st"
    refine giv e3 ?_
    walk_at "st"
    refine ⟨by omega, by omega, ?_⟩
    refine giv_lcGo q.toNat rfl (by show _ < 1000000; omega) (Bq b) (fun d => ∃ r, d = rowT r ∧ GoodR r) (fun s => wRng_stop) D3.inv (fun i s hi hB => ⟨_, wRng_item hi, _, rfl, ?_⟩) ?_
    · obtain ⟨r, s4, e4, hr, D4⟩ := row_drawn hB
      walk_at "st"
      exact giv e4 ⟨⟨r, rfl, hr⟩, D4.inv⟩
    intro ys s4 hB4 hl4 hy
    obtain ⟨rs1, rfl, g1⟩ := rows_of hy
    rw [List.length_map] at hl4
    refine giv_addL (by simp only [List.length_map]; show _ ≤ 1000000; omega) ?_
    rw [← List.map_append]
    walk_at "st"
    have G : GoodRs (rs0 ++ rs1) := ⟨fun r hr => (List.mem_append.mp hr).elim (g0 r) (g1 r), by rw [List.length_append]; omega⟩
    generalize rs0 ++ rs1 = rs at G
    simp only [List.set]
    refine run_seq (run_set ?_)
    walk_at "st"
    refine giv (toolOfL _ G) ?_
    simp only [List.set]
    have gl := G.l
    refine run_for ?_
    walk_at "st"
    refine ⟨by omega, by omega, ?_⟩
    refine run_forR 40 (fun j e s => Bq b s ∧ ∃ x1 x2 x7 x8 x9 x10, e = [some (.rl (ns.map Dt.int)), x1, x2, some (.ref b), some (.li (FF.map formD)), some (.tup [.li (rs.map rowT), .bl sb]), some (toolO rs sb), x7, x8, x9, x10]) ⟨hB4, _, _, _, _, _, _, rfl⟩ ?_ (fun e s h => by
      obtain ⟨hB, x1, x2, x7, x8, x9, x10, rfl⟩ := h
      exact ⟨hB, _, _, _, _, _, _, _, _, rfl⟩)
    rintro j e s hj ⟨hB, x1, x2, x7, x8, x9, x10, rfl⟩
    refine ⟨_, s, rfl, ?_⟩
    simp only [List.set]
    obtain ⟨x, s5, e5, hx, D5⟩ := pick_ok hB (d := .li (FF.map formD)) (Or.inl rfl) (clL_map _ fun f _ => cl_form f) (by rw [List.length_map, fl]; decide) (by rw [List.length_map, fl]; decide)
    obtain ⟨f, hf, rfl⟩ := List.mem_map.mp hx
    have gf := fg f hf
    refine run_seq (run_set ?_)
    walk_at "st"
    refine giv e5 ?_
    simp only [List.set]
    obtain ⟨y, s6, e6, hy, D6⟩ := pick_ok D5.inv (d := .li [Dt.tup [], .tup [.bl false, .bl false], .tup [.bl false, .bl true], .tup [.bl true, .bl false], .tup [.bl true, .bl true]]) (Or.inl rfl) rfl (by decide) (by decide)
    obtain ⟨p, rfl⟩ := bef_of hy
    refine run_seq (run_set ?_)
    walk_at "st"
    refine giv e6 ?_
    simp only [List.set]
    refine run_seq (run_set ?_)
    walk_at "st"
    refine giv (laid_ok _ G.g (by omega) gf.z) ?_
    simp only [List.set]
    have lay := fun (st : Sto) (t : Bool) => lay_ok (s := t) (p := p) st G.g (by omega) gf.z
    have gg := lay_good p rs gf
    generalize layF rs p f = g at gg lay
    refine run_seq (run_if ?_)
    walk_at "st"
    refine giv (lay _ _) ?_
    walk_at "st"
    refine giv (repr_form _ gg) ?_
    walk_at "st"
    refine giv (repr_form _ gg) ?_
    refine giv (ne_strS _) ?_
    walk_at "st"
    refine giv (tool_mk (.tup (rs.map rowO)) rs false _ (.inl rfl) (by omega)) ?_
    walk_at "st"
    refine giv (lay _ _) ?_
    walk_at "st"
    refine giv (ne_form _ gg) ?_
    walk_at "st"
    refine run_nx ?_
    refine run_if ?_
    walk_at "st"
    refine giv (lay _ _) ?_
    walk_at "st"
    refine giv (repr_form _ gg) ?_
    walk_at "st"
    refine giv (repr_form _ gg) ?_
    refine giv (ne_strS _) ?_
    walk_at "st"
    exact run_nx ⟨D6.inv, _, _, _, _, _, _, rfl⟩
  · rintro e s ⟨x1, x2, x3, x4, x5, x6, x7, x8, x9, x10, rfl⟩
    refine run_ret ?_
    walk_at "st"
    refine giv (fok _) ?_
    walk_at "st"
    rw [List.length_map, fl]
    rfl
end Law
set_option Elab.async false
set_option linter.all false
set_option maxRecDepth 100000
set_option maxHeartbeats 4000000
namespace Law
open PySem PySem.Spec PyProof.Rows L2 LT
section
variable {P : Program} {w : World} {K : PySem.W.Frag} {mg : Str → Option Value} {base : Heap}
abbrev st_InvalidRowD_initD : Stmt := inClass (topS 11) 0
theorem sc_InvalidRowD_initD : FnScope ["self", "part"] ["self", "part"] (defScope st_InvalidRowD_initD) := ⟨rfl, rfl, rfl, by decide +kernel, rfl, by decide +kernel, by decide +kernel⟩
theorem ok_InvalidRowD_initD {f C0 : Addr} {fd : FuncData} (F : Fun K "__init__" "InvalidRow.__init__" st_InvalidRowD_initD f fd) (hm : mg "LayError" = some (.ref C0)) (hga : PySem.W.specialIn K (.ref C0) "__getattribute__" = some (some (.builtin "type.__getattribute__"))) (hrd : PySem.W.readsIn K C0 (.type "type") = true) (hty : PySem.W.typeIn K (.ref C0) = some (.type "type")) (vV : PySem.W.findCls K (.ref C0) (.type "type") "__init__" = some (.val (.builtin "ValueError.__init__"))) : FnOk P w K mg base (L2.CX P w) 1 f fd ["self", "part"] (spErr K "part") := by
  refine F.okX sc_InvalidRowD_initD (fun vs H Q E h => ?_) (fun cdv A outer s H vs Q E hr h => ?_)
  · obtain ⟨a, C, v, rfl, _⟩ := h
    rfl
  · obtain ⟨a, C, v, rfl, hT, hno, ha, k⟩ := h
    refine ⟨_, pss_cons (ps_expr (pe_binit rfl hm hga hrd hty vV (pa_cons (pv 0) (pa_cons pe_str pa_nil)))) (pss_one (ps_ost (pv 0) (pv 1))), ?_⟩
    exact ⟨_, rfl, a, C, _, rfl, by decide, hT, ha, _, rfl, _, rfl, a, C, rfl, hT, hno, .inl ⟨ha, fun dx hx hne => k dx hx hne⟩⟩
end
def tblF : List Str := (["word", "at", "part", "tests", "deeds", "rows", "sorts", "parts", "broken", "marked", "ahead", "behind", "blanks", "left", "text", "pieces", "lines", "need_row", "without", "bare"] : List Str) ++ (["told", "but", "written", "need_piece", "next_line", "all_pieces", "blank_rows", "remark_ahead", "next_piece", "end_of", "list_in", "broken_list", "read", "given", "old_stand", "old_past", "width", "at_hand", "past", "program"] : List Str) ++ (["tool", "stand", "go_on", "need_spot", "with_pieces", "put", "take", "change", "run", "use", "undo", "trial", "within", "used_tool", "used_width", "now", "say", "alone", "say_reach", "row_of"] : List Str) ++ (["go_back"] : List Str)
def tabT (C_LayError C_InvalidRow C_InvalidTool C_NoRow C_Row C_Tool : Addr) : Tz := ⟨fun i => match i with | 0 => C_LayError | 4 => C_InvalidRow | 5 => C_InvalidTool | 10 => C_NoRow | 11 => C_Row | _ => C_Tool, mkFld tblF, mkFld_inj (by decide +kernel)⟩
theorem all_mk {l : PySem.W.OpenLaw} {w : World} {K : PySem.W.Frag} {h : Heap} {mg : Str → Option Value} {fa : Addr} (X : K.In h) (G : h.Ns mainGlobals mg) (hfa : mg "law" = some (.ref fa))
    {C_LayError C_InvalidRow C_InvalidTool C_NoRow C_Row C_Tool A_TESTS A_DEEDS A_FORMS xN_InvalidRow fE_InvalidRow f_law_forms f_law_box f_law_take f_law_pick f_law_test f_law_row f_law_tool f_is_sequence f_ToolD_initD fd_ToolD_initD ft0_ToolD_initD f_is_test f_is_word f_RowD_initD fd_RowD_initD ft0_RowD_initD ft1_RowD_initD f_law_tool_of f_law_is_long_form f_law_asks f_law_laid f_is_long f_holds f_is_done f_done f_lay_by f_lay f_law : Addr} {t_NOT : Tok} {q_TESTS q_DEEDS q_FORMS xdd_InvalidRow eod_InvalidRow ean_InvalidRow od_law_forms an_law_forms od_law_box an_law_box od_law_take an_law_take od_law_pick an_law_pick od_law_test an_law_test od_law_row an_law_row od_law_tool an_law_tool od_is_sequence an_is_sequence od_ToolD_initD an_ToolD_initD fq_ToolD_initD fq0_ToolD_initD od_is_test an_is_test od_is_word an_is_word od_RowD_initD an_RowD_initD fq_RowD_initD fq0_RowD_initD fq1_RowD_initD od_law_tool_of an_law_tool_of od_law_is_long_form an_law_is_long_form od_law_asks an_law_asks od_law_laid an_law_laid od_is_long an_is_long od_holds an_holds od_is_done an_is_done od_done an_done od_lay_by an_lay_by od_lay an_lay od_law an_law : Option Addr} {i_TESTS i_DEEDS i_FORMS : Array Value} {m_TESTS m_DEEDS m_FORMS fn_ToolD_initD fn0_ToolD_initD fn_RowD_initD fn0_RowD_initD fn1_RowD_initD : Nat} {s_TESTS s_DEEDS s_FORMS esl_InvalidRow sl_law_forms sl_law_box sl_law_take sl_law_pick sl_law_test sl_law_row sl_law_tool sl_is_sequence sl_ToolD_initD fs_ToolD_initD fs0_ToolD_initD sl_is_test sl_is_word sl_RowD_initD fs_RowD_initD fs0_RowD_initD fs1_RowD_initD sl_law_tool_of sl_law_is_long_form sl_law_asks sl_law_laid sl_is_long sl_holds sl_is_done sl_done sl_lay_by sl_lay sl_law : Array (Option Value)} {xn_InvalidRow xq_InvalidRow : Str} {xbs_InvalidRow xbm_InvalidRow xsub_InvalidRow : List Value} {xsn_InvalidRow : List Str} {xab_InvalidRow : Bool} {xcol_InvalidRow : Option Bool} {x0_InvalidRow x1_InvalidRow x2_InvalidRow x3_InvalidRow x5_InvalidRow : Option Value} {eoc_InvalidRow ekV_InvalidRow edc_InvalidRow epm_InvalidRow ecd_InvalidRow ect_InvalidRow oc_law_forms kV_law_forms dc_law_forms pm_law_forms cd_law_forms ct_law_forms oc_law_box kV_law_box dc_law_box pm_law_box cd_law_box ct_law_box oc_law_take kV_law_take dc_law_take pm_law_take cd_law_take ct_law_take oc_law_pick kV_law_pick dc_law_pick pm_law_pick cd_law_pick ct_law_pick oc_law_test kV_law_test dc_law_test pm_law_test cd_law_test ct_law_test oc_law_row kV_law_row dc_law_row pm_law_row cd_law_row ct_law_row oc_law_tool kV_law_tool dc_law_tool pm_law_tool cd_law_tool ct_law_tool oc_is_sequence kV_is_sequence dc_is_sequence pm_is_sequence cd_is_sequence ct_is_sequence oc_ToolD_initD kV_ToolD_initD dc_ToolD_initD pm_ToolD_initD cd_ToolD_initD ct_ToolD_initD oc_is_test kV_is_test dc_is_test pm_is_test cd_is_test ct_is_test oc_is_word kV_is_word dc_is_word pm_is_word cd_is_word ct_is_word oc_RowD_initD kV_RowD_initD dc_RowD_initD pm_RowD_initD cd_RowD_initD ct_RowD_initD oc_law_tool_of kV_law_tool_of dc_law_tool_of pm_law_tool_of cd_law_tool_of ct_law_tool_of oc_law_is_long_form kV_law_is_long_form dc_law_is_long_form pm_law_is_long_form cd_law_is_long_form ct_law_is_long_form oc_law_asks kV_law_asks dc_law_asks pm_law_asks cd_law_asks ct_law_asks oc_law_laid kV_law_laid dc_law_laid pm_law_laid cd_law_laid ct_law_laid oc_is_long kV_is_long dc_is_long pm_is_long cd_is_long ct_is_long oc_holds kV_holds dc_holds pm_holds cd_holds ct_holds oc_is_done kV_is_done dc_is_done pm_is_done cd_is_done ct_is_done oc_done kV_done dc_done pm_done cd_done ct_done oc_lay_by kV_lay_by dc_lay_by pm_lay_by cd_lay_by ct_lay_by oc_lay kV_lay dc_lay pm_lay cd_lay ct_lay oc_law kV_law dc_law pm_law cd_law ct_law : Value}
    (aC_LayError : PySem.W.nsIn K mainGlobals "LayError" = some (some (.ref C_LayError)))
    (aC_InvalidRow : PySem.W.nsIn K mainGlobals "InvalidRow" = some (some (.ref C_InvalidRow)))
    (aC_InvalidTool : PySem.W.nsIn K mainGlobals "InvalidTool" = some (some (.ref C_InvalidTool)))
    (aC_NoRow : PySem.W.nsIn K mainGlobals "NoRow" = some (some (.ref C_NoRow)))
    (aC_Row : PySem.W.nsIn K mainGlobals "Row" = some (some (.ref C_Row)))
    (aC_Tool : PySem.W.nsIn K mainGlobals "Tool" = some (some (.ref C_Tool)))
    (z_abs : PySem.W.nsIn K mainGlobals "abs" = some none)
    (z_all : PySem.W.nsIn K mainGlobals "all" = some none)
    (z_bool : PySem.W.nsIn K mainGlobals "bool" = some none)
    (z_int : PySem.W.nsIn K mainGlobals "int" = some none)
    (z_isinstance : PySem.W.nsIn K mainGlobals "isinstance" = some none)
    (z_len : PySem.W.nsIn K mainGlobals "len" = some none)
    (z_list : PySem.W.nsIn K mainGlobals "list" = some none)
    (z_max : PySem.W.nsIn K mainGlobals "max" = some none)
    (z_min : PySem.W.nsIn K mainGlobals "min" = some none)
    (z_range : PySem.W.nsIn K mainGlobals "range" = some none)
    (z_repr : PySem.W.nsIn K mainGlobals "repr" = some none)
    (z_str : PySem.W.nsIn K mainGlobals "str" = some none)
    (z_tuple : PySem.W.nsIn K mainGlobals "tuple" = some none)
    (n_NOT : PySem.W.nsIn K mainGlobals "NOT" = some (some (.str "not " t_NOT)))
    (n_TESTS : PySem.W.nsIn K mainGlobals "TESTS" = some (some (.ref A_TESTS)))
    (l_TESTS : K.lookup A_TESTS = some ⟨.type "tuple", q_TESTS, .seq i_TESTS m_TESTS, s_TESTS⟩)
    (y_TESTS : i_TESTS.size ≤ sizeLine)
    (w_TESTS : strVs i_TESTS.toList = some (["broken", "marked", "left", "ahead", "behind", "blank", "long", "first", "afterbroken", "afterbehind"] : List Str))
    (n_DEEDS : PySem.W.nsIn K mainGlobals "DEEDS" = some (some (.ref A_DEEDS)))
    (l_DEEDS : K.lookup A_DEEDS = some ⟨.type "tuple", q_DEEDS, .seq i_DEEDS m_DEEDS, s_DEEDS⟩)
    (y_DEEDS : i_DEEDS.size ≤ sizeLine)
    (w_DEEDS : strVs i_DEEDS.toList = some (["break", "join", "mark", "unmark", "lift", "lower", "space", "close"] : List Str))
    (n_FORMS : PySem.W.nsIn K mainGlobals "FORMS" = some (some (.ref A_FORMS)))
    (l_FORMS : K.lookup A_FORMS = some ⟨.type "tuple", q_FORMS, .seq i_FORMS m_FORMS, s_FORMS⟩)
    (y_FORMS : i_FORMS.size ≤ sizeLine)
    (w_z_FORMS : i_FORMS.size = 432)
    (w_FORMS : allRef i_FORMS.toList = true)
    (pg_Row : PySem.W.plainGet K C_Row Str.empty = true)
    (hd_Row : PySem.W.hasDictIn K C_Row = true)
    (po_Row : PySem.W.plainOver K C_Row = true)
    (sa_Row : PySem.W.findIn K (.ref C_Row) "__setattr__" = some (some (.builtin "object.__setattr__")))
    (mk_Row : PySem.W.makesIn K C_Row = true)
    (kc_Row : PySem.W.keepIn K (.ref C_Row) = true)
    (pg_Tool : PySem.W.plainGet K C_Tool Str.empty = true)
    (hd_Tool : PySem.W.hasDictIn K C_Tool = true)
    (po_Tool : PySem.W.plainOver K C_Tool = true)
    (sa_Tool : PySem.W.findIn K (.ref C_Tool) "__setattr__" = some (some (.builtin "object.__setattr__")))
    (mk_Tool : PySem.W.makesIn K C_Tool = true)
    (kc_Tool : PySem.W.keepIn K (.ref C_Tool) = true)
    (ca_Row : PySem.W.findIn K (.ref C_Row) "__class__" = some (some (.builtin "object.__class__")))
    (cn_Row : PySem.W.specialIn K (.builtin "object.__class__") "__get__" = some (some (.builtin "getset_descriptor.__get__")))
    (ct_Row : PySem.W.takesIn K (.builtin "object.__class__") = some true)
    (cm_Row : PySem.W.mroIn K C_Row (.type "object") = some true)
    (ca_Tool : PySem.W.findIn K (.ref C_Tool) "__class__" = some (some (.builtin "object.__class__")))
    (cn_Tool : PySem.W.specialIn K (.builtin "object.__class__") "__get__" = some (some (.builtin "getset_descriptor.__get__")))
    (ct_Tool : PySem.W.takesIn K (.builtin "object.__class__") = some true)
    (cm_Tool : PySem.W.mroIn K C_Tool (.type "object") = some true)
    (sb_tuple_Row : PySem.W.subIn K (.ref C_Row) (.type "tuple") = some false)
    (sb_list_Row : PySem.W.subIn K (.ref C_Row) (.type "list") = some false)
    (sb_tuple_Tool : PySem.W.subIn K (.ref C_Tool) (.type "tuple") = some false)
    (sb_list_Tool : PySem.W.subIn K (.ref C_Tool) (.type "list") = some false)
    (sb_bool_Row : PySem.W.subIn K (.ref C_Row) (.type "bool") = some false)
    (sb_bool_Tool : PySem.W.subIn K (.ref C_Tool) (.type "bool") = some false)
    (sb_str_Row : PySem.W.subIn K (.ref C_Row) (.type "str") = some false)
    (sb_str_Tool : PySem.W.subIn K (.ref C_Tool) (.type "str") = some false)
    (ic_Row : PySem.W.isClsIn K C_Row = true)
    (ty_Row : PySem.W.typeIn K (.ref C_Row) = some (.type "type"))
    (oo_Row : PySem.W.subIn K (.ref C_Row) (.ref C_Row) = some true)
    (so_Tool_Row : PySem.W.subIn K (.ref C_Tool) (.ref C_Row) = some false)
    (nqo_Tool_Row : C_Tool ≠ C_Row)
    (bo_NoneType_Row : PySem.W.subIn K (.type "NoneType") (.ref C_Row) = some false)
    (bo_bool_Row : PySem.W.subIn K (.type "bool") (.ref C_Row) = some false)
    (bo_int_Row : PySem.W.subIn K (.type "int") (.ref C_Row) = some false)
    (bo_str_Row : PySem.W.subIn K (.type "str") (.ref C_Row) = some false)
    (bo_tuple_Row : PySem.W.subIn K (.type "tuple") (.ref C_Row) = some false)
    (bo_list_Row : PySem.W.subIn K (.type "list") (.ref C_Row) = some false)
    (bo_dict_Row : PySem.W.subIn K (.type "dict") (.ref C_Row) = some false)
    (no_rows_Tool : PySem.W.findIn K (.ref C_Tool) "rows" = some none)
    (no_sorts_Tool : PySem.W.findIn K (.ref C_Tool) "sorts" = some none)
    (no_tests_Row : PySem.W.findIn K (.ref C_Row) "tests" = some none)
    (no_deeds_Row : PySem.W.findIn K (.ref C_Row) "deeds" = some none)
    (xL_InvalidRow : K.lookup C_InvalidRow = some (excClassObj xn_InvalidRow xq_InvalidRow C_InvalidRow xN_InvalidRow xbs_InvalidRow xbm_InvalidRow true xsn_InvalidRow xsub_InvalidRow xab_InvalidRow xcol_InvalidRow xdd_InvalidRow x0_InvalidRow x1_InvalidRow x2_InvalidRow x3_InvalidRow x5_InvalidRow "ValueError.__new__"))
    (xr_InvalidRow : PySem.HandSPX.refsVE xbm_InvalidRow = true)
    (esa_InvalidRow : PySem.W.findIn K (.ref C_InvalidRow) "__setattr__" = some (some (.builtin "object.__setattr__")))
    (eex_InvalidRow : PySem.W.subIn K (.ref C_InvalidRow) (.type "BaseException") = some true)
    (ety_InvalidRow : PySem.W.typeIn K (.ref C_InvalidRow) = some (.type "type"))
    (ekc_InvalidRow : PySem.W.keepIn K (.ref C_InvalidRow) = true)
    (eno_InvalidRow : PySem.W.findIn K (.ref C_InvalidRow) "part" = some none)
    (ea_InvalidRow : PySem.W.findIn K (.ref C_InvalidRow) "__init__" = some (some (.ref fE_InvalidRow)))
    (et_InvalidRow : PySem.W.typeIn K (.ref fE_InvalidRow) = some (.type "function"))
    (el_InvalidRow : K.lookup fE_InvalidRow = some ⟨eoc_InvalidRow, eod_InvalidRow, .func (PySem.W.fnOf "__init__" "InvalidRow.__init__" (defArgs st_InvalidRowD_initD) (defBody st_InvalidRowD_initD) (defScope st_InvalidRowD_initD) .none ekV_InvalidRow edc_InvalidRow epm_InvalidRow ean_InvalidRow ecd_InvalidRow ect_InvalidRow), esl_InvalidRow⟩)
    (ec_InvalidRow : PySem.W.codeIn K ecd_InvalidRow "InvalidRow.__init__" = true)
    (ek_InvalidRow : PySem.W.keepIn K (.ref fE_InvalidRow) = true)
    (bga : PySem.W.specialIn K (.ref C_LayError) "__getattribute__" = some (some (.builtin "type.__getattribute__")))
    (brd : PySem.W.readsIn K C_LayError (.type "type") = true)
    (bty : PySem.W.typeIn K (.ref C_LayError) = some (.type "type"))
    (bvV : PySem.W.findCls K (.ref C_LayError) (.type "type") "__init__" = some (.val (.builtin "ValueError.__init__")))
    (a_law_forms : PySem.W.nsIn K mainGlobals "_law_forms" = some (some (.ref f_law_forms)))
    (l_law_forms : K.lookup f_law_forms = some ⟨oc_law_forms, od_law_forms, .func (PySem.W.fnOf "_law_forms" "_law_forms" (defArgs st_law_forms) (defBody st_law_forms) (defScope st_law_forms) .none kV_law_forms dc_law_forms pm_law_forms an_law_forms cd_law_forms ct_law_forms), sl_law_forms⟩)
    (c_law_forms : PySem.W.codeIn K cd_law_forms "_law_forms" = true)
    (k_law_forms : PySem.W.keepIn K (.ref f_law_forms) = true)
    (a_law_box : PySem.W.nsIn K mainGlobals "_law_box" = some (some (.ref f_law_box)))
    (l_law_box : K.lookup f_law_box = some ⟨oc_law_box, od_law_box, .func (PySem.W.fnOf "_law_box" "_law_box" (defArgs st_law_box) (defBody st_law_box) (defScope st_law_box) .none kV_law_box dc_law_box pm_law_box an_law_box cd_law_box ct_law_box), sl_law_box⟩)
    (c_law_box : PySem.W.codeIn K cd_law_box "_law_box" = true)
    (k_law_box : PySem.W.keepIn K (.ref f_law_box) = true)
    (a_law_take : PySem.W.nsIn K mainGlobals "_law_take" = some (some (.ref f_law_take)))
    (l_law_take : K.lookup f_law_take = some ⟨oc_law_take, od_law_take, .func (PySem.W.fnOf "_law_take" "_law_take" (defArgs st_law_take) (defBody st_law_take) (defScope st_law_take) .none kV_law_take dc_law_take pm_law_take an_law_take cd_law_take ct_law_take), sl_law_take⟩)
    (c_law_take : PySem.W.codeIn K cd_law_take "_law_take" = true)
    (k_law_take : PySem.W.keepIn K (.ref f_law_take) = true)
    (a_law_pick : PySem.W.nsIn K mainGlobals "_law_pick" = some (some (.ref f_law_pick)))
    (l_law_pick : K.lookup f_law_pick = some ⟨oc_law_pick, od_law_pick, .func (PySem.W.fnOf "_law_pick" "_law_pick" (defArgs st_law_pick) (defBody st_law_pick) (defScope st_law_pick) .none kV_law_pick dc_law_pick pm_law_pick an_law_pick cd_law_pick ct_law_pick), sl_law_pick⟩)
    (c_law_pick : PySem.W.codeIn K cd_law_pick "_law_pick" = true)
    (k_law_pick : PySem.W.keepIn K (.ref f_law_pick) = true)
    (a_law_test : PySem.W.nsIn K mainGlobals "_law_test" = some (some (.ref f_law_test)))
    (l_law_test : K.lookup f_law_test = some ⟨oc_law_test, od_law_test, .func (PySem.W.fnOf "_law_test" "_law_test" (defArgs st_law_test) (defBody st_law_test) (defScope st_law_test) .none kV_law_test dc_law_test pm_law_test an_law_test cd_law_test ct_law_test), sl_law_test⟩)
    (c_law_test : PySem.W.codeIn K cd_law_test "_law_test" = true)
    (k_law_test : PySem.W.keepIn K (.ref f_law_test) = true)
    (a_law_row : PySem.W.nsIn K mainGlobals "_law_row" = some (some (.ref f_law_row)))
    (l_law_row : K.lookup f_law_row = some ⟨oc_law_row, od_law_row, .func (PySem.W.fnOf "_law_row" "_law_row" (defArgs st_law_row) (defBody st_law_row) (defScope st_law_row) .none kV_law_row dc_law_row pm_law_row an_law_row cd_law_row ct_law_row), sl_law_row⟩)
    (c_law_row : PySem.W.codeIn K cd_law_row "_law_row" = true)
    (k_law_row : PySem.W.keepIn K (.ref f_law_row) = true)
    (a_law_tool : PySem.W.nsIn K mainGlobals "_law_tool" = some (some (.ref f_law_tool)))
    (l_law_tool : K.lookup f_law_tool = some ⟨oc_law_tool, od_law_tool, .func (PySem.W.fnOf "_law_tool" "_law_tool" (defArgs st_law_tool) (defBody st_law_tool) (defScope st_law_tool) .none kV_law_tool dc_law_tool pm_law_tool an_law_tool cd_law_tool ct_law_tool), sl_law_tool⟩)
    (c_law_tool : PySem.W.codeIn K cd_law_tool "_law_tool" = true)
    (k_law_tool : PySem.W.keepIn K (.ref f_law_tool) = true)
    (a_is_sequence : PySem.W.nsIn K mainGlobals "is_sequence" = some (some (.ref f_is_sequence)))
    (l_is_sequence : K.lookup f_is_sequence = some ⟨oc_is_sequence, od_is_sequence, .func (PySem.W.fnOf "is_sequence" "is_sequence" (defArgs st_is_sequence) (defBody st_is_sequence) (defScope st_is_sequence) .none kV_is_sequence dc_is_sequence pm_is_sequence an_is_sequence cd_is_sequence ct_is_sequence), sl_is_sequence⟩)
    (c_is_sequence : PySem.W.codeIn K cd_is_sequence "is_sequence" = true)
    (k_is_sequence : PySem.W.keepIn K (.ref f_is_sequence) = true)
    (a_ToolD_initD : PySem.W.findIn K (.ref C_Tool) "__init__" = some (some (.ref f_ToolD_initD)))
    (i_ToolD_initD : PySem.W.isFn K (.ref f_ToolD_initD) = true)
    (l_ToolD_initD : K.lookup f_ToolD_initD = some ⟨oc_ToolD_initD, od_ToolD_initD, .func (PySem.W.fnOf "__init__" "Tool.__init__" (defArgs st_ToolD_initD) (defBody st_ToolD_initD) (defScope st_ToolD_initD) (.ref fd_ToolD_initD) kV_ToolD_initD dc_ToolD_initD pm_ToolD_initD an_ToolD_initD cd_ToolD_initD ct_ToolD_initD), sl_ToolD_initD⟩)
    (c_ToolD_initD : PySem.W.codeIn K cd_ToolD_initD "Tool.__init__" = true)
    (k_ToolD_initD : PySem.W.keepIn K (.ref f_ToolD_initD) = true)
    (d_ToolD_initD : K.lookup fd_ToolD_initD = some ⟨.type "tuple", fq_ToolD_initD, .seq #[.ref ft0_ToolD_initD, .bool false] fn_ToolD_initD, fs_ToolD_initD⟩)
    (fl0_ToolD_initD : K.lookup ft0_ToolD_initD = some ⟨.type "tuple", fq0_ToolD_initD, .seq #[] fn0_ToolD_initD, fs0_ToolD_initD⟩)
    (a_is_test : PySem.W.nsIn K mainGlobals "is_test" = some (some (.ref f_is_test)))
    (l_is_test : K.lookup f_is_test = some ⟨oc_is_test, od_is_test, .func (PySem.W.fnOf "is_test" "is_test" (defArgs st_is_test) (defBody st_is_test) (defScope st_is_test) .none kV_is_test dc_is_test pm_is_test an_is_test cd_is_test ct_is_test), sl_is_test⟩)
    (c_is_test : PySem.W.codeIn K cd_is_test "is_test" = true)
    (k_is_test : PySem.W.keepIn K (.ref f_is_test) = true)
    (a_is_word : PySem.W.nsIn K mainGlobals "is_word" = some (some (.ref f_is_word)))
    (l_is_word : K.lookup f_is_word = some ⟨oc_is_word, od_is_word, .func (PySem.W.fnOf "is_word" "is_word" (defArgs st_is_word) (defBody st_is_word) (defScope st_is_word) .none kV_is_word dc_is_word pm_is_word an_is_word cd_is_word ct_is_word), sl_is_word⟩)
    (c_is_word : PySem.W.codeIn K cd_is_word "is_word" = true)
    (k_is_word : PySem.W.keepIn K (.ref f_is_word) = true)
    (a_RowD_initD : PySem.W.findIn K (.ref C_Row) "__init__" = some (some (.ref f_RowD_initD)))
    (i_RowD_initD : PySem.W.isFn K (.ref f_RowD_initD) = true)
    (l_RowD_initD : K.lookup f_RowD_initD = some ⟨oc_RowD_initD, od_RowD_initD, .func (PySem.W.fnOf "__init__" "Row.__init__" (defArgs st_RowD_initD) (defBody st_RowD_initD) (defScope st_RowD_initD) (.ref fd_RowD_initD) kV_RowD_initD dc_RowD_initD pm_RowD_initD an_RowD_initD cd_RowD_initD ct_RowD_initD), sl_RowD_initD⟩)
    (c_RowD_initD : PySem.W.codeIn K cd_RowD_initD "Row.__init__" = true)
    (k_RowD_initD : PySem.W.keepIn K (.ref f_RowD_initD) = true)
    (d_RowD_initD : K.lookup fd_RowD_initD = some ⟨.type "tuple", fq_RowD_initD, .seq #[.ref ft0_RowD_initD, .ref ft1_RowD_initD] fn_RowD_initD, fs_RowD_initD⟩)
    (fl0_RowD_initD : K.lookup ft0_RowD_initD = some ⟨.type "tuple", fq0_RowD_initD, .seq #[] fn0_RowD_initD, fs0_RowD_initD⟩)
    (fl1_RowD_initD : K.lookup ft1_RowD_initD = some ⟨.type "tuple", fq1_RowD_initD, .seq #[] fn1_RowD_initD, fs1_RowD_initD⟩)
    (a_law_tool_of : PySem.W.nsIn K mainGlobals "_law_tool_of" = some (some (.ref f_law_tool_of)))
    (l_law_tool_of : K.lookup f_law_tool_of = some ⟨oc_law_tool_of, od_law_tool_of, .func (PySem.W.fnOf "_law_tool_of" "_law_tool_of" (defArgs st_law_tool_of) (defBody st_law_tool_of) (defScope st_law_tool_of) .none kV_law_tool_of dc_law_tool_of pm_law_tool_of an_law_tool_of cd_law_tool_of ct_law_tool_of), sl_law_tool_of⟩)
    (c_law_tool_of : PySem.W.codeIn K cd_law_tool_of "_law_tool_of" = true)
    (k_law_tool_of : PySem.W.keepIn K (.ref f_law_tool_of) = true)
    (a_law_is_long_form : PySem.W.nsIn K mainGlobals "_law_is_long_form" = some (some (.ref f_law_is_long_form)))
    (l_law_is_long_form : K.lookup f_law_is_long_form = some ⟨oc_law_is_long_form, od_law_is_long_form, .func (PySem.W.fnOf "_law_is_long_form" "_law_is_long_form" (defArgs st_law_is_long_form) (defBody st_law_is_long_form) (defScope st_law_is_long_form) .none kV_law_is_long_form dc_law_is_long_form pm_law_is_long_form an_law_is_long_form cd_law_is_long_form ct_law_is_long_form), sl_law_is_long_form⟩)
    (c_law_is_long_form : PySem.W.codeIn K cd_law_is_long_form "_law_is_long_form" = true)
    (k_law_is_long_form : PySem.W.keepIn K (.ref f_law_is_long_form) = true)
    (a_law_asks : PySem.W.nsIn K mainGlobals "_law_asks" = some (some (.ref f_law_asks)))
    (l_law_asks : K.lookup f_law_asks = some ⟨oc_law_asks, od_law_asks, .func (PySem.W.fnOf "_law_asks" "_law_asks" (defArgs st_law_asks) (defBody st_law_asks) (defScope st_law_asks) .none kV_law_asks dc_law_asks pm_law_asks an_law_asks cd_law_asks ct_law_asks), sl_law_asks⟩)
    (c_law_asks : PySem.W.codeIn K cd_law_asks "_law_asks" = true)
    (k_law_asks : PySem.W.keepIn K (.ref f_law_asks) = true)
    (a_law_laid : PySem.W.nsIn K mainGlobals "_law_laid" = some (some (.ref f_law_laid)))
    (l_law_laid : K.lookup f_law_laid = some ⟨oc_law_laid, od_law_laid, .func (PySem.W.fnOf "_law_laid" "_law_laid" (defArgs st_law_laid) (defBody st_law_laid) (defScope st_law_laid) .none kV_law_laid dc_law_laid pm_law_laid an_law_laid cd_law_laid ct_law_laid), sl_law_laid⟩)
    (c_law_laid : PySem.W.codeIn K cd_law_laid "_law_laid" = true)
    (k_law_laid : PySem.W.keepIn K (.ref f_law_laid) = true)
    (a_is_long : PySem.W.nsIn K mainGlobals "is_long" = some (some (.ref f_is_long)))
    (l_is_long : K.lookup f_is_long = some ⟨oc_is_long, od_is_long, .func (PySem.W.fnOf "is_long" "is_long" (defArgs st_is_long) (defBody st_is_long) (defScope st_is_long) .none kV_is_long dc_is_long pm_is_long an_is_long cd_is_long ct_is_long), sl_is_long⟩)
    (c_is_long : PySem.W.codeIn K cd_is_long "is_long" = true)
    (k_is_long : PySem.W.keepIn K (.ref f_is_long) = true)
    (a_holds : PySem.W.nsIn K mainGlobals "holds" = some (some (.ref f_holds)))
    (l_holds : K.lookup f_holds = some ⟨oc_holds, od_holds, .func (PySem.W.fnOf "holds" "holds" (defArgs st_holds) (defBody st_holds) (defScope st_holds) .none kV_holds dc_holds pm_holds an_holds cd_holds ct_holds), sl_holds⟩)
    (c_holds : PySem.W.codeIn K cd_holds "holds" = true)
    (k_holds : PySem.W.keepIn K (.ref f_holds) = true)
    (a_is_done : PySem.W.nsIn K mainGlobals "is_done" = some (some (.ref f_is_done)))
    (l_is_done : K.lookup f_is_done = some ⟨oc_is_done, od_is_done, .func (PySem.W.fnOf "is_done" "is_done" (defArgs st_is_done) (defBody st_is_done) (defScope st_is_done) .none kV_is_done dc_is_done pm_is_done an_is_done cd_is_done ct_is_done), sl_is_done⟩)
    (c_is_done : PySem.W.codeIn K cd_is_done "is_done" = true)
    (k_is_done : PySem.W.keepIn K (.ref f_is_done) = true)
    (a_done : PySem.W.nsIn K mainGlobals "done" = some (some (.ref f_done)))
    (l_done : K.lookup f_done = some ⟨oc_done, od_done, .func (PySem.W.fnOf "done" "done" (defArgs st_done) (defBody st_done) (defScope st_done) .none kV_done dc_done pm_done an_done cd_done ct_done), sl_done⟩)
    (c_done : PySem.W.codeIn K cd_done "done" = true)
    (k_done : PySem.W.keepIn K (.ref f_done) = true)
    (a_lay_by : PySem.W.nsIn K mainGlobals "lay_by" = some (some (.ref f_lay_by)))
    (l_lay_by : K.lookup f_lay_by = some ⟨oc_lay_by, od_lay_by, .func (PySem.W.fnOf "lay_by" "lay_by" (defArgs st_lay_by) (defBody st_lay_by) (defScope st_lay_by) .none kV_lay_by dc_lay_by pm_lay_by an_lay_by cd_lay_by ct_lay_by), sl_lay_by⟩)
    (c_lay_by : PySem.W.codeIn K cd_lay_by "lay_by" = true)
    (k_lay_by : PySem.W.keepIn K (.ref f_lay_by) = true)
    (a_lay : PySem.W.nsIn K mainGlobals "lay" = some (some (.ref f_lay)))
    (l_lay : K.lookup f_lay = some ⟨oc_lay, od_lay, .func (PySem.W.fnOf "lay" "lay" (defArgs st_lay) (defBody st_lay) (defScope st_lay) .none kV_lay dc_lay pm_lay an_lay cd_lay ct_lay), sl_lay⟩)
    (c_lay : PySem.W.codeIn K cd_lay "lay" = true)
    (k_lay : PySem.W.keepIn K (.ref f_lay) = true)
    (a_law : PySem.W.nsIn K mainGlobals "law" = some (some (.ref f_law)))
    (l_law : K.lookup f_law = some ⟨oc_law, od_law, .func (PySem.W.fnOf "law" "law" (defArgs st_law) (defBody st_law) (defScope st_law) .none kV_law dc_law pm_law an_law cd_law ct_law), sl_law⟩)
    (c_law : PySem.W.codeIn K cd_law "law" = true)
    (k_law : PySem.W.keepIn K (.ref f_law) = true) :
    ∃ fd : FuncData, (∀ (s : Shared) (v : Value), BindsTo s fd ⟨[v], []⟩ [("_law_script", v)]) ∧ ∀ base : Heap, K.In base → base.Ns mainGlobals mg → FnG l.prog w K mg base 8 fa fd ["_law_script"] (spLaw K) := by
  have e := hfa.symm.trans (PySem.W.mg_of X G a_law)
  cases e
  refine ⟨PySem.W.fnOf "law" "law" (defArgs st_law) (defBody st_law) (defScope st_law) .none kV_law dc_law pm_law an_law cd_law ct_law, fun s v => .of_eq rfl, fun base _ _ => ?_⟩
  have b_abs : mg "abs" = none := PySem.W.mg_none_of X G z_abs
  have b_all : mg "all" = none := PySem.W.mg_none_of X G z_all
  have b_bool : mg "bool" = none := PySem.W.mg_none_of X G z_bool
  have b_int : mg "int" = none := PySem.W.mg_none_of X G z_int
  have b_isinstance : mg "isinstance" = none := PySem.W.mg_none_of X G z_isinstance
  have b_len : mg "len" = none := PySem.W.mg_none_of X G z_len
  have b_list : mg "list" = none := PySem.W.mg_none_of X G z_list
  have b_max : mg "max" = none := PySem.W.mg_none_of X G z_max
  have b_min : mg "min" = none := PySem.W.mg_none_of X G z_min
  have b_range : mg "range" = none := PySem.W.mg_none_of X G z_range
  have b_repr : mg "repr" = none := PySem.W.mg_none_of X G z_repr
  have b_str : mg "str" = none := PySem.W.mg_none_of X G z_str
  have b_tuple : mg "tuple" = none := PySem.W.mg_none_of X G z_tuple
  have C_NOT : ConstOk K mg "NOT" c_NOT := const_str (PySem.W.mg_of X G n_NOT) rfl
  have C_TESTS : ConstOk K mg "TESTS" c_TESTS := const_strs (PySem.W.mg_of X G n_TESTS) l_TESTS y_TESTS w_TESTS rfl
  have C_DEEDS : ConstOk K mg "DEEDS" c_DEEDS := const_strs (PySem.W.mg_of X G n_DEEDS) l_DEEDS y_DEEDS w_DEEDS rfl
  have Ln_FORMS : LenOk K mg "FORMS" 432 := ⟨A_FORMS, q_FORMS, i_FORMS, m_FORMS, s_FORMS, PySem.W.mg_of X G n_FORMS, l_FORMS, y_FORMS, w_z_FORMS, w_FORMS⟩
  have cl_Row : Cls K C_Row := ⟨pg_Row, hd_Row, po_Row, sa_Row⟩
  have cl_Tool : Cls K C_Tool := ⟨pg_Tool, hd_Tool, po_Tool, sa_Tool⟩
  have it_Row : InsT K C_Row := ⟨cl_Row, ca_Row, cn_Row, ct_Row, cm_Row⟩
  have it_Tool : InsT K C_Tool := ⟨cl_Tool, ca_Tool, cn_Tool, ct_Tool, cm_Tool⟩
  have I_seq_Row : PySem.W.kitAny K (.ref C_Row) [.type "list", .type "tuple"] = some false := (kit_no (kit_bt (by decide +kernel) sb_list_Row) (kit_no (kit_bt (by decide +kernel) sb_tuple_Row) rfl))
  have I_seq_Tool : PySem.W.kitAny K (.ref C_Tool) [.type "list", .type "tuple"] = some false := (kit_no (kit_bt (by decide +kernel) sb_list_Tool) (kit_no (kit_bt (by decide +kernel) sb_tuple_Tool) rfl))
  have I_seq : IsB K (tabT C_LayError C_InvalidRow C_InvalidTool C_NoRow C_Row C_Tool) [.type "list", .type "tuple"] isC := ⟨(fun c hc => by
    have hc2 := mem_of_contains hc
    simp only [isC, List.mem_cons, List.not_mem_nil, or_false] at hc2
    rcases hc2 with rfl | rfl
    · exact ⟨it_Row, I_seq_Row⟩
    · exact ⟨it_Tool, I_seq_Tool⟩)⟩
  have I_bool_Row : PySem.W.kitAny K (.ref C_Row) [.type "bool"] = some false := (kit_no (kit_bt (by decide +kernel) sb_bool_Row) rfl)
  have I_bool_Tool : PySem.W.kitAny K (.ref C_Tool) [.type "bool"] = some false := (kit_no (kit_bt (by decide +kernel) sb_bool_Tool) rfl)
  have I_bool : IsB K (tabT C_LayError C_InvalidRow C_InvalidTool C_NoRow C_Row C_Tool) [.type "bool"] isC := ⟨(fun c hc => by
    have hc2 := mem_of_contains hc
    simp only [isC, List.mem_cons, List.not_mem_nil, or_false] at hc2
    rcases hc2 with rfl | rfl
    · exact ⟨it_Row, I_bool_Row⟩
    · exact ⟨it_Tool, I_bool_Tool⟩)⟩
  have I_str_Row : PySem.W.kitAny K (.ref C_Row) [.type "str"] = some false := (kit_no (kit_bt (by decide +kernel) sb_str_Row) rfl)
  have I_str_Tool : PySem.W.kitAny K (.ref C_Tool) [.type "str"] = some false := (kit_no (kit_bt (by decide +kernel) sb_str_Tool) rfl)
  have I_str : IsB K (tabT C_LayError C_InvalidRow C_InvalidTool C_NoRow C_Row C_Tool) [.type "str"] isC := ⟨(fun c hc => by
    have hc2 := mem_of_contains hc
    simp only [isC, List.mem_cons, List.not_mem_nil, or_false] at hc2
    rcases hc2 with rfl | rfl
    · exact ⟨it_Row, I_str_Row⟩
    · exact ⟨it_Tool, I_str_Tool⟩)⟩
  have O_Row : IsO K mg (tabT C_LayError C_InvalidRow C_InvalidTool C_NoRow C_Row C_Tool) "Row" 11 isC := ⟨PySem.W.mg_of X G aC_Row, ⟨it_Row, kit_own ic_Row ty_Row oo_Row (fun _ => rfl)⟩, (fun c hne hc => by
    have hc2 := mem_of_contains hc
    simp only [isC, List.mem_cons, List.not_mem_nil, or_false] at hc2
    rcases hc2 with rfl | rfl
    · exact absurd rfl hne
    · exact ⟨it_Tool, kit_own ic_Row ty_Row so_Tool_Row (fun e => absurd e nqo_Tool_Row)⟩), kit_bts ic_Row ty_Row bo_NoneType_Row bo_bool_Row bo_int_Row bo_str_Row bo_tuple_Row bo_list_Row bo_dict_Row⟩
  have Fl_rows : FldOk K (tabT C_LayError C_InvalidRow C_InvalidTool C_NoRow C_Row C_Tool) [12] 5 "rows" := ⟨by rfl, fun c hc => by rw [contains_one hc]; exact ⟨cl_Tool, no_rows_Tool⟩⟩
  have Fl_sorts : FldOk K (tabT C_LayError C_InvalidRow C_InvalidTool C_NoRow C_Row C_Tool) [12] 6 "sorts" := ⟨by rfl, fun c hc => by rw [contains_one hc]; exact ⟨cl_Tool, no_sorts_Tool⟩⟩
  have Fl_tests : FldOk K (tabT C_LayError C_InvalidRow C_InvalidTool C_NoRow C_Row C_Tool) [11] 3 "tests" := ⟨by rfl, fun c hc => by rw [contains_one hc]; exact ⟨cl_Row, no_tests_Row⟩⟩
  have Fl_deeds : FldOk K (tabT C_LayError C_InvalidRow C_InvalidTool C_NoRow C_Row C_Tool) [11] 4 "deeds" := ⟨by rfl, fun c hc => by rw [contains_one hc]; exact ⟨cl_Row, no_deeds_Row⟩⟩
  have ox_InvalidRow : OexC K C_InvalidRow := ⟨⟨xn_InvalidRow, xq_InvalidRow, xN_InvalidRow, xbs_InvalidRow, xbm_InvalidRow, xsn_InvalidRow, xsub_InvalidRow, xab_InvalidRow, xcol_InvalidRow, xdd_InvalidRow, x0_InvalidRow, x1_InvalidRow, x2_InvalidRow, x3_InvalidRow, x5_InvalidRow, xL_InvalidRow, xr_InvalidRow⟩, esa_InvalidRow, eex_InvalidRow, ety_InvalidRow, ekc_InvalidRow⟩
  have FE_InvalidRow := fun_mk (st := st_InvalidRowD_initD) el_InvalidRow ec_InvalidRow ek_InvalidRow
  have BE_InvalidRow := FE_InvalidRow.binds (ps := ["self", "part"]) fun _ _ _ _ _ _ us hl => match us, hl with | [_, _], _ => rfl
  have E_InvalidRow : ErrOk l.prog w K mg base (tabT C_LayError C_InvalidRow C_InvalidTool C_NoRow C_Row C_Tool) "InvalidRow" "part" 4 2 1 := ⟨by rfl, PySem.W.mg_of X G aC_InvalidRow, ox_InvalidRow, eno_InvalidRow, fE_InvalidRow, _, ea_InvalidRow, et_InvalidRow, BE_InvalidRow, ok_InvalidRowD_initD FE_InvalidRow (PySem.W.mg_of X G aC_LayError) bga brd bty bvV⟩
  have U_law_forms := fun_mk (st := st_law_forms) l_law_forms c_law_forms k_law_forms
  have B_law_forms := U_law_forms.binds (ps := []) fun _ _ _ _ _ _ us hl => match us, hl with | [], _ => rfl
  have U_law_box := fun_mk (st := st_law_box) l_law_box c_law_box k_law_box
  have B_law_box := U_law_box.binds (ps := ["_law_script", "_law_k", "_law_own"]) fun _ _ _ _ _ _ us hl => match us, hl with | [_, _, _], _ => rfl
  have U_law_take := fun_mk (st := st_law_take) l_law_take c_law_take k_law_take
  have B_law_take := U_law_take.binds (ps := ["_law_box_here", "_law_many"]) fun _ _ _ _ _ _ us hl => match us, hl with | [_, _], _ => rfl
  have U_law_pick := fun_mk (st := st_law_pick) l_law_pick c_law_pick k_law_pick
  have B_law_pick := U_law_pick.binds (ps := ["_law_box_here", "_law_items"]) fun _ _ _ _ _ _ us hl => match us, hl with | [_, _], _ => rfl
  have U_law_test := fun_mk (st := st_law_test) l_law_test c_law_test k_law_test
  have B_law_test := U_law_test.binds (ps := ["_law_box_here"]) fun _ _ _ _ _ _ us hl => match us, hl with | [_], _ => rfl
  have U_law_row := fun_mk (st := st_law_row) l_law_row c_law_row k_law_row
  have B_law_row := U_law_row.binds (ps := ["_law_box_here"]) fun _ _ _ _ _ _ us hl => match us, hl with | [_], _ => rfl
  have U_law_tool := fun_mk (st := st_law_tool) l_law_tool c_law_tool k_law_tool
  have B_law_tool := U_law_tool.binds (ps := ["_law_box_here"]) fun _ _ _ _ _ _ us hl => match us, hl with | [_], _ => rfl
  have U_is_sequence := fun_mk (st := st_is_sequence) l_is_sequence c_is_sequence k_is_sequence
  have B_is_sequence := U_is_sequence.binds (ps := ["value"]) fun _ _ _ _ _ _ us hl => match us, hl with | [_], _ => rfl
  have U_ToolD_initD : FunD K "__init__" "Tool.__init__" (defArgs st_ToolD_initD) (defBody st_ToolD_initD) (defScope st_ToolD_initD) ([.ref ft0_ToolD_initD, .bl false] : List V) [] f_ToolD_initD _ := ⟨⟨_, _, _, _, _, _, _, _, _, _, rfl, l_ToolD_initD, c_ToolD_initD, .inr ⟨by simp, fd_ToolD_initD, _, [.ref ft0_ToolD_initD, .bool false], fn_ToolD_initD, rfl, d_ToolD_initD, rfl, (.cons rfl (.cons rfl .nil))⟩, .inl rfl⟩, k_ToolD_initD⟩
  obtain ⟨ds1_ToolD_initD, vd1_ToolD_initD, B1_ToolD_initD⟩ := U_ToolD_initD.binds1 (ps := ["self", "rows", "sorts"]) 2 1 (by simp) rfl fun _ _ _ _ _ _ _ us its h1 h2 => match us, h1, its, h2 with | [_, _], _, [_, _], _ => ⟨_, rfl, rfl⟩
  obtain ⟨ds_ToolD_initD, vd_ToolD_initD, B_ToolD_initD⟩ := U_ToolD_initD.binds1 (ps := ["self", "rows", "sorts"]) 3 2 (by simp) rfl fun _ _ _ _ _ _ _ us its h1 h2 => match us, h1, its, h2 with | [_, _, _], _, [_, _], _ => ⟨_, rfl, rfl⟩
  cases vd_ToolD_initD
  have U_is_test := fun_mk (st := st_is_test) l_is_test c_is_test k_is_test
  have B_is_test := U_is_test.binds (ps := ["value"]) fun _ _ _ _ _ _ us hl => match us, hl with | [_], _ => rfl
  have U_is_word := fun_mk (st := st_is_word) l_is_word c_is_word k_is_word
  have B_is_word := U_is_word.binds (ps := ["value", "some"]) fun _ _ _ _ _ _ us hl => match us, hl with | [_, _], _ => rfl
  have U_RowD_initD : FunD K "__init__" "Row.__init__" (defArgs st_RowD_initD) (defBody st_RowD_initD) (defScope st_RowD_initD) ([.ref ft0_RowD_initD, .ref ft1_RowD_initD] : List V) [] f_RowD_initD _ := ⟨⟨_, _, _, _, _, _, _, _, _, _, rfl, l_RowD_initD, c_RowD_initD, .inr ⟨by simp, fd_RowD_initD, _, [.ref ft0_RowD_initD, .ref ft1_RowD_initD], fn_RowD_initD, rfl, d_RowD_initD, rfl, (.cons rfl (.cons rfl .nil))⟩, .inl rfl⟩, k_RowD_initD⟩
  obtain ⟨ds_RowD_initD, vd_RowD_initD, B_RowD_initD⟩ := U_RowD_initD.binds1 (ps := ["self", "tests", "deeds"]) 3 2 (by simp) rfl fun _ _ _ _ _ _ _ us its h1 h2 => match us, h1, its, h2 with | [_, _, _], _, [_, _], _ => ⟨_, rfl, rfl⟩
  cases vd_RowD_initD
  have U_law_tool_of := fun_mk (st := st_law_tool_of) l_law_tool_of c_law_tool_of k_law_tool_of
  have B_law_tool_of := U_law_tool_of.binds (ps := ["_law_tool_here"]) fun _ _ _ _ _ _ us hl => match us, hl with | [_], _ => rfl
  have U_law_is_long_form := fun_mk (st := st_law_is_long_form) l_law_is_long_form c_law_is_long_form k_law_is_long_form
  have B_law_is_long_form := U_law_is_long_form.binds (ps := ["_law_form"]) fun _ _ _ _ _ _ us hl => match us, hl with | [_], _ => rfl
  have U_law_asks := fun_mk (st := st_law_asks) l_law_asks c_law_asks k_law_asks
  have B_law_asks := U_law_asks.binds (ps := ["_law_test_here", "_law_before", "_law_form"]) fun _ _ _ _ _ _ us hl => match us, hl with | [_, _, _], _ => rfl
  have U_law_laid := fun_mk (st := st_law_laid) l_law_laid c_law_laid k_law_laid
  have B_law_laid := U_law_laid.binds (ps := ["_law_rows", "_law_before", "_law_form"]) fun _ _ _ _ _ _ us hl => match us, hl with | [_, _, _], _ => rfl
  have U_is_long := fun_mk (st := st_is_long) l_is_long c_is_long k_is_long
  have B_is_long := U_is_long.binds (ps := ["form"]) fun _ _ _ _ _ _ us hl => match us, hl with | [_], _ => rfl
  have U_holds := fun_mk (st := st_holds) l_holds c_holds k_holds
  have B_holds := U_holds.binds (ps := ["test", "before", "form"]) fun _ _ _ _ _ _ us hl => match us, hl with | [_, _, _], _ => rfl
  have U_is_done := fun_mk (st := st_is_done) l_is_done c_is_done k_is_done
  have B_is_done := U_is_done.binds (ps := ["row", "before", "form"]) fun _ _ _ _ _ _ us hl => match us, hl with | [_, _, _], _ => rfl
  have U_done := fun_mk (st := st_done) l_done c_done k_done
  have B_done := U_done.binds (ps := ["deed", "form"]) fun _ _ _ _ _ _ us hl => match us, hl with | [_, _], _ => rfl
  have U_lay_by := fun_mk (st := st_lay_by) l_lay_by c_lay_by k_lay_by
  have B_lay_by := U_lay_by.binds (ps := ["rows", "before", "form"]) fun _ _ _ _ _ _ us hl => match us, hl with | [_, _, _], _ => rfl
  have U_lay := fun_mk (st := st_lay) l_lay c_lay k_lay
  have B_lay := U_lay.binds (ps := ["tool", "before", "form"]) fun _ _ _ _ _ _ us hl => match us, hl with | [_, _, _], _ => rfl
  have U_law := fun_mk (st := st_law) l_law c_law k_law
  have D_law_forms : DefOk l.prog w K mg base (tabT C_LayError C_InvalidRow C_InvalidTool C_NoRow C_Row C_Tool) "_law_forms" 1 0 F_law_forms [] := ⟨f_law_forms, _, [], [], [], PySem.W.mg_of X G a_law_forms, k_law_forms, B_law_forms, .nil, fun _ _ _ => .nil, ok_law_forms U_law_forms b_range b_int⟩
  have D_law_box : DefOk l.prog w K mg base (tabT C_LayError C_InvalidRow C_InvalidTool C_NoRow C_Row C_Tool) "_law_box" 1 3 F_law_box [] := ⟨f_law_box, _, ["_law_script", "_law_k", "_law_own"], [], [], PySem.W.mg_of X G a_law_box, k_law_box, B_law_box, .nil, fun _ _ _ => .nil, ok_law_box U_law_box b_len b_abs b_int⟩
  have D_law_take : DefOk l.prog w K mg base (tabT C_LayError C_InvalidRow C_InvalidTool C_NoRow C_Row C_Tool) "_law_take" 1 2 F_law_take [] := ⟨f_law_take, _, ["_law_box_here", "_law_many"], [], [], PySem.W.mg_of X G a_law_take, k_law_take, B_law_take, .nil, fun _ _ _ => .nil, ok_law_take U_law_take b_int⟩
  have D_law_pick : DefOk l.prog w K mg base (tabT C_LayError C_InvalidRow C_InvalidTool C_NoRow C_Row C_Tool) "_law_pick" 2 2 F_law_pick [] := ⟨f_law_pick, _, ["_law_box_here", "_law_items"], [], [], PySem.W.mg_of X G a_law_pick, k_law_pick, B_law_pick, .nil, fun _ _ _ => .nil, ok_law_pick U_law_pick b_len D_law_take⟩
  have D_law_test : DefOk l.prog w K mg base (tabT C_LayError C_InvalidRow C_InvalidTool C_NoRow C_Row C_Tool) "_law_test" 3 1 F_law_test [] := ⟨f_law_test, _, ["_law_box_here"], [], [], PySem.W.mg_of X G a_law_test, k_law_test, B_law_test, .nil, fun _ _ _ => .nil, ok_law_test U_law_test D_law_pick D_law_take⟩
  have D_law_row : DefOk l.prog w K mg base (tabT C_LayError C_InvalidRow C_InvalidTool C_NoRow C_Row C_Tool) "_law_row" 4 1 F_law_row [] := ⟨f_law_row, _, ["_law_box_here"], [], [], PySem.W.mg_of X G a_law_row, k_law_row, B_law_row, .nil, fun _ _ _ => .nil, ok_law_row U_law_row D_law_take b_range D_law_test D_law_pick b_tuple⟩
  have D_law_tool : DefOk l.prog w K mg base (tabT C_LayError C_InvalidRow C_InvalidTool C_NoRow C_Row C_Tool) "_law_tool" 5 1 F_law_tool [] := ⟨f_law_tool, _, ["_law_box_here"], [], [], PySem.W.mg_of X G a_law_tool, k_law_tool, B_law_tool, .nil, fun _ _ _ => .nil, ok_law_tool U_law_tool D_law_take b_range D_law_pick D_law_row⟩
  have D_is_sequence : DefOk l.prog w K mg base (tabT C_LayError C_InvalidRow C_InvalidTool C_NoRow C_Row C_Tool) "is_sequence" 1 1 F_is_sequence [] := ⟨f_is_sequence, _, ["value"], [], [], PySem.W.mg_of X G a_is_sequence, k_is_sequence, B_is_sequence, .nil, fun _ _ _ => .nil, ok_is_sequence U_is_sequence b_isinstance I_seq b_list b_tuple⟩
  have K_Tool_1 : MakeOk l.prog w K mg base (tabT C_LayError C_InvalidRow C_InvalidTool C_NoRow C_Row C_Tool) "Tool" 12 3 3 F_ToolD_initD [.bl false] := ⟨f_ToolD_initD, _, ["self", "rows", "sorts"], ds1_ToolD_initD, ([.bl false] : List V), ⟨mk_Tool, a_ToolD_initD, i_ToolD_initD, kc_Tool⟩, PySem.W.mg_of X G aC_Tool, B1_ToolD_initD, vd1_ToolD_initD, fun _ _ _ => (.cons (.bl false) .nil), ok_ToolD_initD U_ToolD_initD D_is_sequence b_isinstance O_Row b_all E_InvalidRow I_bool b_bool b_tuple Fl_rows Fl_sorts⟩
  have K_Tool : MakeOk l.prog w K mg base (tabT C_LayError C_InvalidRow C_InvalidTool C_NoRow C_Row C_Tool) "Tool" 12 3 3 F_ToolD_initD [] := ⟨f_ToolD_initD, _, ["self", "rows", "sorts"], [], [], ⟨mk_Tool, a_ToolD_initD, i_ToolD_initD, kc_Tool⟩, PySem.W.mg_of X G aC_Tool, B_ToolD_initD, .nil, fun _ _ _ => .nil, ok_ToolD_initD U_ToolD_initD D_is_sequence b_isinstance O_Row b_all E_InvalidRow I_bool b_bool b_tuple Fl_rows Fl_sorts⟩
  have D_is_test : DefOk l.prog w K mg base (tabT C_LayError C_InvalidRow C_InvalidTool C_NoRow C_Row C_Tool) "is_test" 1 1 F_is_test [] := ⟨f_is_test, _, ["value"], [], [], PySem.W.mg_of X G a_is_test, k_is_test, B_is_test, .nil, fun _ _ _ => .nil, ok_is_test U_is_test b_isinstance I_str b_str C_NOT b_len C_TESTS⟩
  have D_is_word : DefOk l.prog w K mg base (tabT C_LayError C_InvalidRow C_InvalidTool C_NoRow C_Row C_Tool) "is_word" 1 2 F_is_word [] := ⟨f_is_word, _, ["value", "some"], [], [], PySem.W.mg_of X G a_is_word, k_is_word, B_is_word, .nil, fun _ _ _ => .nil, ok_is_word U_is_word b_isinstance I_str b_str⟩
  have K_Row : MakeOk l.prog w K mg base (tabT C_LayError C_InvalidRow C_InvalidTool C_NoRow C_Row C_Tool) "Row" 11 3 3 F_RowD_initD [] := ⟨f_RowD_initD, _, ["self", "tests", "deeds"], [], [], ⟨mk_Row, a_RowD_initD, i_RowD_initD, kc_Row⟩, PySem.W.mg_of X G aC_Row, B_RowD_initD, .nil, fun _ _ _ => .nil, ok_RowD_initD U_RowD_initD D_is_sequence D_is_test b_all E_InvalidRow b_len C_DEEDS D_is_word b_tuple Fl_tests Fl_deeds⟩
  have D_law_tool_of : DefOk l.prog w K mg base (tabT C_LayError C_InvalidRow C_InvalidTool C_NoRow C_Row C_Tool) "_law_tool_of" 5 1 F_law_tool_of [] := ⟨f_law_tool_of, _, ["_law_tool_here"], [], [], PySem.W.mg_of X G a_law_tool_of, k_law_tool_of, B_law_tool_of, .nil, fun _ _ _ => .nil, ok_law_tool_of U_law_tool_of K_Row K_Tool⟩
  have D_law_is_long_form : DefOk l.prog w K mg base (tabT C_LayError C_InvalidRow C_InvalidTool C_NoRow C_Row C_Tool) "_law_is_long_form" 1 1 F_law_is_long_form [] := ⟨f_law_is_long_form, _, ["_law_form"], [], [], PySem.W.mg_of X G a_law_is_long_form, k_law_is_long_form, B_law_is_long_form, .nil, fun _ _ _ => .nil, ok_law_is_long_form U_law_is_long_form b_int⟩
  have D_law_asks : DefOk l.prog w K mg base (tabT C_LayError C_InvalidRow C_InvalidTool C_NoRow C_Row C_Tool) "_law_asks" 4 3 (F_law_asks 2) [] := ⟨f_law_asks, _, ["_law_test_here", "_law_before", "_law_form"], [], [], PySem.W.mg_of X G a_law_asks, k_law_asks, B_law_asks, .nil, fun _ _ _ => .nil, ok_law_asks U_law_asks (PySem.W.mg_of X G a_law_asks) B_law_asks b_int D_law_is_long_form 2 (by decide)⟩
  have D_law_laid : DefOk l.prog w K mg base (tabT C_LayError C_InvalidRow C_InvalidTool C_NoRow C_Row C_Tool) "_law_laid" 5 3 F_law_laid [] := ⟨f_law_laid, _, ["_law_rows", "_law_before", "_law_form"], [], [], PySem.W.mg_of X G a_law_laid, k_law_laid, B_law_laid, .nil, fun _ _ _ => .nil, ok_law_laid U_law_laid b_list b_tuple D_law_asks b_int⟩
  have D_is_long : DefOk l.prog w K mg base (tabT C_LayError C_InvalidRow C_InvalidTool C_NoRow C_Row C_Tool) "is_long" 1 1 F_is_long [] := ⟨f_is_long, _, ["form"], [], [], PySem.W.mg_of X G a_is_long, k_is_long, B_is_long, .nil, fun _ _ _ => .nil, ok_is_long U_is_long ⟩
  have D_holds : DefOk l.prog w K mg base (tabT C_LayError C_InvalidRow C_InvalidTool C_NoRow C_Row C_Tool) "holds" 4 3 (F_holds 2) [] := ⟨f_holds, _, ["test", "before", "form"], [], [], PySem.W.mg_of X G a_holds, k_holds, B_holds, .nil, fun _ _ _ => .nil, ok_holds U_holds (PySem.W.mg_of X G a_holds) B_holds D_is_long 2 (by decide)⟩
  have D_is_done : DefOk l.prog w K mg base (tabT C_LayError C_InvalidRow C_InvalidTool C_NoRow C_Row C_Tool) "is_done" 5 3 F_is_done [] := ⟨f_is_done, _, ["row", "before", "form"], [], [], PySem.W.mg_of X G a_is_done, k_is_done, B_is_done, .nil, fun _ _ _ => .nil, ok_is_done U_is_done Fl_tests D_holds b_all⟩
  have D_done : DefOk l.prog w K mg base (tabT C_LayError C_InvalidRow C_InvalidTool C_NoRow C_Row C_Tool) "done" 1 2 F_done [] := ⟨f_done, _, ["deed", "form"], [], [], PySem.W.mg_of X G a_done, k_done, B_done, .nil, fun _ _ _ => .nil, ok_done U_done ⟩
  have D_lay_by : DefOk l.prog w K mg base (tabT C_LayError C_InvalidRow C_InvalidTool C_NoRow C_Row C_Tool) "lay_by" 6 3 F_lay_by [] := ⟨f_lay_by, _, ["rows", "before", "form"], [], [], PySem.W.mg_of X G a_lay_by, k_lay_by, B_lay_by, .nil, fun _ _ _ => .nil, ok_lay_by U_lay_by D_is_done Fl_deeds D_done⟩
  have D_lay : DefOk l.prog w K mg base (tabT C_LayError C_InvalidRow C_InvalidTool C_NoRow C_Row C_Tool) "lay" 7 3 F_lay [] := ⟨f_lay, _, ["tool", "before", "form"], [], [], PySem.W.mg_of X G a_lay, k_lay, B_lay, .nil, fun _ _ _ => .nil, ok_lay U_lay Fl_rows D_lay_by⟩
  exact (ok_law U_law b_len b_min b_max b_range D_law_forms D_law_box D_law_tool D_law_take D_law_row D_law_tool_of D_law_pick D_law_laid D_lay b_repr Fl_rows K_Tool_1 Ln_FORMS).imp (law_imp fun ns hn => law_true hn)
theorem facts_mk {l : PySem.W.OpenLaw} {w : World} {K : PySem.W.Frag} {h : Heap} {mg : Str → Option Value} {fa : Addr} (X : K.In h) (G : h.Ns mainGlobals mg) (hfa : mg "law" = some (.ref fa)) (c : SaysQ LawR.fsQ LawR.fnQ K) :
    ∃ fd : FuncData, (∀ (s : Shared) (v : Value), BindsTo s fd ⟨[v], []⟩ [("_law_script", v)]) ∧ ∀ base : Heap, K.In base → base.Ns mainGlobals mg → FnG l.prog w K mg base 8 fa fd ["_law_script"] (spLaw K) := by
  have aC_LayError : PySem.W.nsIn K mainGlobals "LayError" = some (some (.ref (He.ga K "LayError"))) := of_decide_eq_true (c.fact 0 (f := LawR.fq0) rfl)
  have aC_InvalidRow : PySem.W.nsIn K mainGlobals "InvalidRow" = some (some (.ref (He.ga K "InvalidRow"))) := of_decide_eq_true (c.fact 1 (f := LawR.fq1) rfl)
  have aC_InvalidTool : PySem.W.nsIn K mainGlobals "InvalidTool" = some (some (.ref (He.ga K "InvalidTool"))) := of_decide_eq_true (c.fact 2 (f := LawR.fq2) rfl)
  have aC_NoRow : PySem.W.nsIn K mainGlobals "NoRow" = some (some (.ref (He.ga K "NoRow"))) := of_decide_eq_true (c.fact 3 (f := LawR.fq3) rfl)
  have aC_Row : PySem.W.nsIn K mainGlobals "Row" = some (some (.ref (He.ga K "Row"))) := of_decide_eq_true (c.fact 4 (f := LawR.fq4) rfl)
  have aC_Tool : PySem.W.nsIn K mainGlobals "Tool" = some (some (.ref (He.ga K "Tool"))) := of_decide_eq_true (c.fact 5 (f := LawR.fq5) rfl)
  have z_abs : PySem.W.nsIn K mainGlobals "abs" = some none := of_decide_eq_true (c.fact 6 (f := LawR.fq6) rfl)
  have z_all : PySem.W.nsIn K mainGlobals "all" = some none := of_decide_eq_true (c.fact 7 (f := LawR.fq7) rfl)
  have z_bool : PySem.W.nsIn K mainGlobals "bool" = some none := of_decide_eq_true (c.fact 8 (f := LawR.fq8) rfl)
  have z_int : PySem.W.nsIn K mainGlobals "int" = some none := of_decide_eq_true (c.fact 9 (f := LawR.fq9) rfl)
  have z_isinstance : PySem.W.nsIn K mainGlobals "isinstance" = some none := of_decide_eq_true (c.fact 10 (f := LawR.fq10) rfl)
  have z_len : PySem.W.nsIn K mainGlobals "len" = some none := of_decide_eq_true (c.fact 11 (f := LawR.fq11) rfl)
  have z_list : PySem.W.nsIn K mainGlobals "list" = some none := of_decide_eq_true (c.fact 12 (f := LawR.fq12) rfl)
  have z_max : PySem.W.nsIn K mainGlobals "max" = some none := of_decide_eq_true (c.fact 13 (f := LawR.fq13) rfl)
  have z_min : PySem.W.nsIn K mainGlobals "min" = some none := of_decide_eq_true (c.fact 14 (f := LawR.fq14) rfl)
  have z_range : PySem.W.nsIn K mainGlobals "range" = some none := of_decide_eq_true (c.fact 15 (f := LawR.fq15) rfl)
  have z_repr : PySem.W.nsIn K mainGlobals "repr" = some none := of_decide_eq_true (c.fact 16 (f := LawR.fq16) rfl)
  have z_str : PySem.W.nsIn K mainGlobals "str" = some none := of_decide_eq_true (c.fact 17 (f := LawR.fq17) rfl)
  have z_tuple : PySem.W.nsIn K mainGlobals "tuple" = some none := of_decide_eq_true (c.fact 18 (f := LawR.fq18) rfl)
  have n_NOT : PySem.W.nsIn K mainGlobals "NOT" = some (some (.str "not " (tokN K "NOT"))) := of_decide_eq_true (c.fact 19 (f := LawR.fq19) rfl)
  have n_TESTS : PySem.W.nsIn K mainGlobals "TESTS" = some (some (.ref (He.ga K "TESTS"))) := of_decide_eq_true (c.fact 20 (f := LawR.fq20) rfl)
  obtain ⟨_, _, _, l_TESTS⟩ := tup_look (K := K) (a := (He.ga K "TESTS")) (c.fact 21 (f := LawR.fq21) rfl)
  have y_TESTS : (itsAt K (He.ga K "TESTS")).size ≤ sizeLine := of_decide_eq_true (c.fact 22 (f := LawR.fq22) rfl)
  have w_TESTS : strVs (itsAt K (He.ga K "TESTS")).toList = some (["broken", "marked", "left", "ahead", "behind", "blank", "long", "first", "afterbroken", "afterbehind"] : List Str) := by
    rw [textsQ_eq]
    exact of_decide_eq_true (c.fact 23 (f := LawR.fq23) rfl)
  have n_DEEDS : PySem.W.nsIn K mainGlobals "DEEDS" = some (some (.ref (He.ga K "DEEDS"))) := of_decide_eq_true (c.fact 24 (f := LawR.fq24) rfl)
  obtain ⟨_, _, _, l_DEEDS⟩ := tup_look (K := K) (a := (He.ga K "DEEDS")) (c.fact 25 (f := LawR.fq25) rfl)
  have y_DEEDS : (itsAt K (He.ga K "DEEDS")).size ≤ sizeLine := of_decide_eq_true (c.fact 26 (f := LawR.fq26) rfl)
  have w_DEEDS : strVs (itsAt K (He.ga K "DEEDS")).toList = some (["break", "join", "mark", "unmark", "lift", "lower", "space", "close"] : List Str) := by
    rw [textsQ_eq]
    exact of_decide_eq_true (c.fact 27 (f := LawR.fq27) rfl)
  have n_FORMS : PySem.W.nsIn K mainGlobals "FORMS" = some (some (.ref (He.ga K "FORMS"))) := of_decide_eq_true (c.fact 28 (f := LawR.fq28) rfl)
  obtain ⟨_, _, _, l_FORMS⟩ := tup_look (K := K) (a := (He.ga K "FORMS")) (c.fact 29 (f := LawR.fq29) rfl)
  have y_FORMS : (itsAt K (He.ga K "FORMS")).size ≤ sizeLine := of_decide_eq_true (c.fact 30 (f := LawR.fq30) rfl)
  have w_z_FORMS : (itsAt K (He.ga K "FORMS")).size = 432 := of_decide_eq_true (c.fact 31 (f := LawR.fq31) rfl)
  have w_FORMS : allRef (itsAt K (He.ga K "FORMS")).toList = true := by
    rw [refsAllQ_eq]
    exact of_decide_eq_true (c.fact 32 (f := LawR.fq32) rfl)
  have pg_Row : PySem.W.plainGet K (He.ga K "Row") Str.empty = true := of_decide_eq_true (c.fact 33 (f := LawR.fq33) rfl)
  have hd_Row : PySem.W.hasDictIn K (He.ga K "Row") = true := of_decide_eq_true (c.fact 34 (f := LawR.fq34) rfl)
  have po_Row : PySem.W.plainOver K (He.ga K "Row") = true := of_decide_eq_true (c.fact 35 (f := LawR.fq35) rfl)
  have sa_Row : PySem.W.findIn K (.ref (He.ga K "Row")) "__setattr__" = some (some (.builtin "object.__setattr__")) := of_decide_eq_true (c.fact 36 (f := LawR.fq36) rfl)
  have mk_Row : PySem.W.makesIn K (He.ga K "Row") = true := of_decide_eq_true (c.fact 37 (f := LawR.fq37) rfl)
  have kc_Row : PySem.W.keepIn K (.ref (He.ga K "Row")) = true := of_decide_eq_true (c.fact 38 (f := LawR.fq38) rfl)
  have pg_Tool : PySem.W.plainGet K (He.ga K "Tool") Str.empty = true := of_decide_eq_true (c.fact 39 (f := LawR.fq39) rfl)
  have hd_Tool : PySem.W.hasDictIn K (He.ga K "Tool") = true := of_decide_eq_true (c.fact 40 (f := LawR.fq40) rfl)
  have po_Tool : PySem.W.plainOver K (He.ga K "Tool") = true := of_decide_eq_true (c.fact 41 (f := LawR.fq41) rfl)
  have sa_Tool : PySem.W.findIn K (.ref (He.ga K "Tool")) "__setattr__" = some (some (.builtin "object.__setattr__")) := of_decide_eq_true (c.fact 42 (f := LawR.fq42) rfl)
  have mk_Tool : PySem.W.makesIn K (He.ga K "Tool") = true := of_decide_eq_true (c.fact 43 (f := LawR.fq43) rfl)
  have kc_Tool : PySem.W.keepIn K (.ref (He.ga K "Tool")) = true := of_decide_eq_true (c.fact 44 (f := LawR.fq44) rfl)
  have ca_Row : PySem.W.findIn K (.ref (He.ga K "Row")) "__class__" = some (some (.builtin "object.__class__")) := of_decide_eq_true (c.fact 45 (f := LawR.fq45) rfl)
  have cn_Row : PySem.W.specialIn K (.builtin "object.__class__") "__get__" = some (some (.builtin "getset_descriptor.__get__")) := of_decide_eq_true (c.fact 46 (f := LawR.fq46) rfl)
  have ct_Row : PySem.W.takesIn K (.builtin "object.__class__") = some true := of_decide_eq_true (c.fact 47 (f := LawR.fq47) rfl)
  have cm_Row : PySem.W.mroIn K (He.ga K "Row") (.type "object") = some true := of_decide_eq_true (c.fact 48 (f := LawR.fq48) rfl)
  have ca_Tool : PySem.W.findIn K (.ref (He.ga K "Tool")) "__class__" = some (some (.builtin "object.__class__")) := of_decide_eq_true (c.fact 49 (f := LawR.fq49) rfl)
  have cn_Tool : PySem.W.specialIn K (.builtin "object.__class__") "__get__" = some (some (.builtin "getset_descriptor.__get__")) := of_decide_eq_true (c.fact 50 (f := LawR.fq50) rfl)
  have ct_Tool : PySem.W.takesIn K (.builtin "object.__class__") = some true := of_decide_eq_true (c.fact 51 (f := LawR.fq51) rfl)
  have cm_Tool : PySem.W.mroIn K (He.ga K "Tool") (.type "object") = some true := of_decide_eq_true (c.fact 52 (f := LawR.fq52) rfl)
  have sb_tuple_Row : PySem.W.subIn K (.ref (He.ga K "Row")) (.type "tuple") = some false := of_decide_eq_true (c.fact 53 (f := LawR.fq53) rfl)
  have sb_list_Row : PySem.W.subIn K (.ref (He.ga K "Row")) (.type "list") = some false := of_decide_eq_true (c.fact 54 (f := LawR.fq54) rfl)
  have sb_tuple_Tool : PySem.W.subIn K (.ref (He.ga K "Tool")) (.type "tuple") = some false := of_decide_eq_true (c.fact 55 (f := LawR.fq55) rfl)
  have sb_list_Tool : PySem.W.subIn K (.ref (He.ga K "Tool")) (.type "list") = some false := of_decide_eq_true (c.fact 56 (f := LawR.fq56) rfl)
  have sb_bool_Row : PySem.W.subIn K (.ref (He.ga K "Row")) (.type "bool") = some false := of_decide_eq_true (c.fact 57 (f := LawR.fq57) rfl)
  have sb_bool_Tool : PySem.W.subIn K (.ref (He.ga K "Tool")) (.type "bool") = some false := of_decide_eq_true (c.fact 58 (f := LawR.fq58) rfl)
  have sb_str_Row : PySem.W.subIn K (.ref (He.ga K "Row")) (.type "str") = some false := of_decide_eq_true (c.fact 59 (f := LawR.fq59) rfl)
  have sb_str_Tool : PySem.W.subIn K (.ref (He.ga K "Tool")) (.type "str") = some false := of_decide_eq_true (c.fact 60 (f := LawR.fq60) rfl)
  have ic_Row : PySem.W.isClsIn K (He.ga K "Row") = true := of_decide_eq_true (c.fact 61 (f := LawR.fq61) rfl)
  have ty_Row : PySem.W.typeIn K (.ref (He.ga K "Row")) = some (.type "type") := of_decide_eq_true (c.fact 62 (f := LawR.fq62) rfl)
  have oo_Row : PySem.W.subIn K (.ref (He.ga K "Row")) (.ref (He.ga K "Row")) = some true := of_decide_eq_true (c.fact 63 (f := LawR.fq63) rfl)
  have so_Tool_Row : PySem.W.subIn K (.ref (He.ga K "Tool")) (.ref (He.ga K "Row")) = some false := of_decide_eq_true (c.fact 64 (f := LawR.fq64) rfl)
  have nqo_Tool_Row : (He.ga K "Tool") ≠ (He.ga K "Row") := of_decide_eq_true (c.fact 65 (f := LawR.fq65) rfl)
  have bo_NoneType_Row : PySem.W.subIn K (.type "NoneType") (.ref (He.ga K "Row")) = some false := of_decide_eq_true (c.fact 66 (f := LawR.fq66) rfl)
  have bo_bool_Row : PySem.W.subIn K (.type "bool") (.ref (He.ga K "Row")) = some false := of_decide_eq_true (c.fact 67 (f := LawR.fq67) rfl)
  have bo_int_Row : PySem.W.subIn K (.type "int") (.ref (He.ga K "Row")) = some false := of_decide_eq_true (c.fact 68 (f := LawR.fq68) rfl)
  have bo_str_Row : PySem.W.subIn K (.type "str") (.ref (He.ga K "Row")) = some false := of_decide_eq_true (c.fact 69 (f := LawR.fq69) rfl)
  have bo_tuple_Row : PySem.W.subIn K (.type "tuple") (.ref (He.ga K "Row")) = some false := of_decide_eq_true (c.fact 70 (f := LawR.fq70) rfl)
  have bo_list_Row : PySem.W.subIn K (.type "list") (.ref (He.ga K "Row")) = some false := of_decide_eq_true (c.fact 71 (f := LawR.fq71) rfl)
  have bo_dict_Row : PySem.W.subIn K (.type "dict") (.ref (He.ga K "Row")) = some false := of_decide_eq_true (c.fact 72 (f := LawR.fq72) rfl)
  have no_rows_Tool : PySem.W.findIn K (.ref (He.ga K "Tool")) "rows" = some none := of_decide_eq_true (c.fact 73 (f := LawR.fq73) rfl)
  have no_sorts_Tool : PySem.W.findIn K (.ref (He.ga K "Tool")) "sorts" = some none := of_decide_eq_true (c.fact 74 (f := LawR.fq74) rfl)
  have no_tests_Row : PySem.W.findIn K (.ref (He.ga K "Row")) "tests" = some none := of_decide_eq_true (c.fact 75 (f := LawR.fq75) rfl)
  have no_deeds_Row : PySem.W.findIn K (.ref (He.ga K "Row")) "deeds" = some none := of_decide_eq_true (c.fact 76 (f := LawR.fq76) rfl)
  obtain ⟨_, _, _, _, _, _, _, _, _, _, _, _, _, _, _, xL_InvalidRow, xr_InvalidRow⟩ := exc_look (K := K) (C := He.ga K "InvalidRow") (c.fact 77 (f := LawR.fq77) rfl)
  have esa_InvalidRow : PySem.W.findIn K (.ref (He.ga K "InvalidRow")) "__setattr__" = some (some (.builtin "object.__setattr__")) := of_decide_eq_true (c.fact 78 (f := LawR.fq78) rfl)
  have eex_InvalidRow : PySem.W.subIn K (.ref (He.ga K "InvalidRow")) (.type "BaseException") = some true := of_decide_eq_true (c.fact 79 (f := LawR.fq79) rfl)
  have ety_InvalidRow : PySem.W.typeIn K (.ref (He.ga K "InvalidRow")) = some (.type "type") := of_decide_eq_true (c.fact 80 (f := LawR.fq80) rfl)
  have ekc_InvalidRow : PySem.W.keepIn K (.ref (He.ga K "InvalidRow")) = true := of_decide_eq_true (c.fact 81 (f := LawR.fq81) rfl)
  have eno_InvalidRow : PySem.W.findIn K (.ref (He.ga K "InvalidRow")) "part" = some none := of_decide_eq_true (c.fact 82 (f := LawR.fq82) rfl)
  have ea_InvalidRow : PySem.W.findIn K (.ref (He.ga K "InvalidRow")) "__init__" = some (some (.ref (He.ma K (He.ga K "InvalidRow") "__init__"))) := of_decide_eq_true (c.fact 83 (f := LawR.fq83) rfl)
  have et_InvalidRow : PySem.W.typeIn K (.ref (He.ma K (He.ga K "InvalidRow") "__init__")) = some (.type "function") := of_decide_eq_true (c.fact 84 (f := LawR.fq84) rfl)
  obtain ⟨_, _, _, _, _, _, _, _, el_InvalidRow⟩ := tx_look (K := K) (a := (He.ma K (He.ga K "InvalidRow") "__init__")) (nm := "__init__") (q := "InvalidRow.__init__") (st := st_InvalidRowD_initD) (dV := .none) (c.text 0 (d := LawR.dq0) rfl) (of_decide_eq_true (c.fact 85 (f := LawR.fq85) rfl))
  have ec_InvalidRow : PySem.W.codeIn K (fdAt K (He.ma K (He.ga K "InvalidRow") "__init__")).code "InvalidRow.__init__" = true := of_decide_eq_true (c.fact 86 (f := LawR.fq86) rfl)
  have ek_InvalidRow : PySem.W.keepIn K (.ref (He.ma K (He.ga K "InvalidRow") "__init__")) = true := of_decide_eq_true (c.fact 87 (f := LawR.fq87) rfl)
  have bga : PySem.W.specialIn K (.ref (He.ga K "LayError")) "__getattribute__" = some (some (.builtin "type.__getattribute__")) := of_decide_eq_true (c.fact 88 (f := LawR.fq88) rfl)
  have brd : PySem.W.readsIn K (He.ga K "LayError") (.type "type") = true := of_decide_eq_true (c.fact 89 (f := LawR.fq89) rfl)
  have bty : PySem.W.typeIn K (.ref (He.ga K "LayError")) = some (.type "type") := of_decide_eq_true (c.fact 90 (f := LawR.fq90) rfl)
  have bvV : PySem.W.findCls K (.ref (He.ga K "LayError")) (.type "type") "__init__" = some (.val (.builtin "ValueError.__init__")) := cf_look (c.fact 91 (f := LawR.fq91) rfl)
  have a_law_forms : PySem.W.nsIn K mainGlobals "_law_forms" = some (some (.ref (He.ga K "_law_forms"))) := of_decide_eq_true (c.fact 92 (f := LawR.fq92) rfl)
  obtain ⟨_, _, _, _, _, _, _, _, l_law_forms⟩ := tx_look (K := K) (a := (He.ga K "_law_forms")) (nm := "_law_forms") (q := "_law_forms") (st := st_law_forms) (dV := .none) (c.text 1 (d := LawR.dq1) rfl) (of_decide_eq_true (c.fact 93 (f := LawR.fq93) rfl))
  have c_law_forms : PySem.W.codeIn K (fdAt K (He.ga K "_law_forms")).code "_law_forms" = true := of_decide_eq_true (c.fact 94 (f := LawR.fq94) rfl)
  have k_law_forms : PySem.W.keepIn K (.ref (He.ga K "_law_forms")) = true := of_decide_eq_true (c.fact 95 (f := LawR.fq95) rfl)
  have a_law_box : PySem.W.nsIn K mainGlobals "_law_box" = some (some (.ref (He.ga K "_law_box"))) := of_decide_eq_true (c.fact 96 (f := LawR.fq96) rfl)
  obtain ⟨_, _, _, _, _, _, _, _, l_law_box⟩ := tx_look (K := K) (a := (He.ga K "_law_box")) (nm := "_law_box") (q := "_law_box") (st := st_law_box) (dV := .none) (c.text 2 (d := LawR.dq2) rfl) (of_decide_eq_true (c.fact 97 (f := LawR.fq97) rfl))
  have c_law_box : PySem.W.codeIn K (fdAt K (He.ga K "_law_box")).code "_law_box" = true := of_decide_eq_true (c.fact 98 (f := LawR.fq98) rfl)
  have k_law_box : PySem.W.keepIn K (.ref (He.ga K "_law_box")) = true := of_decide_eq_true (c.fact 99 (f := LawR.fq99) rfl)
  have a_law_take : PySem.W.nsIn K mainGlobals "_law_take" = some (some (.ref (He.ga K "_law_take"))) := of_decide_eq_true (c.fact 100 (f := LawR.fq100) rfl)
  obtain ⟨_, _, _, _, _, _, _, _, l_law_take⟩ := tx_look (K := K) (a := (He.ga K "_law_take")) (nm := "_law_take") (q := "_law_take") (st := st_law_take) (dV := .none) (c.text 3 (d := LawR.dq3) rfl) (of_decide_eq_true (c.fact 101 (f := LawR.fq101) rfl))
  have c_law_take : PySem.W.codeIn K (fdAt K (He.ga K "_law_take")).code "_law_take" = true := of_decide_eq_true (c.fact 102 (f := LawR.fq102) rfl)
  have k_law_take : PySem.W.keepIn K (.ref (He.ga K "_law_take")) = true := of_decide_eq_true (c.fact 103 (f := LawR.fq103) rfl)
  have a_law_pick : PySem.W.nsIn K mainGlobals "_law_pick" = some (some (.ref (He.ga K "_law_pick"))) := of_decide_eq_true (c.fact 104 (f := LawR.fq104) rfl)
  obtain ⟨_, _, _, _, _, _, _, _, l_law_pick⟩ := tx_look (K := K) (a := (He.ga K "_law_pick")) (nm := "_law_pick") (q := "_law_pick") (st := st_law_pick) (dV := .none) (c.text 4 (d := LawR.dq4) rfl) (of_decide_eq_true (c.fact 105 (f := LawR.fq105) rfl))
  have c_law_pick : PySem.W.codeIn K (fdAt K (He.ga K "_law_pick")).code "_law_pick" = true := of_decide_eq_true (c.fact 106 (f := LawR.fq106) rfl)
  have k_law_pick : PySem.W.keepIn K (.ref (He.ga K "_law_pick")) = true := of_decide_eq_true (c.fact 107 (f := LawR.fq107) rfl)
  have a_law_test : PySem.W.nsIn K mainGlobals "_law_test" = some (some (.ref (He.ga K "_law_test"))) := of_decide_eq_true (c.fact 108 (f := LawR.fq108) rfl)
  obtain ⟨_, _, _, _, _, _, _, _, l_law_test⟩ := tx_look (K := K) (a := (He.ga K "_law_test")) (nm := "_law_test") (q := "_law_test") (st := st_law_test) (dV := .none) (c.text 5 (d := LawR.dq5) rfl) (of_decide_eq_true (c.fact 109 (f := LawR.fq109) rfl))
  have c_law_test : PySem.W.codeIn K (fdAt K (He.ga K "_law_test")).code "_law_test" = true := of_decide_eq_true (c.fact 110 (f := LawR.fq110) rfl)
  have k_law_test : PySem.W.keepIn K (.ref (He.ga K "_law_test")) = true := of_decide_eq_true (c.fact 111 (f := LawR.fq111) rfl)
  have a_law_row : PySem.W.nsIn K mainGlobals "_law_row" = some (some (.ref (He.ga K "_law_row"))) := of_decide_eq_true (c.fact 112 (f := LawR.fq112) rfl)
  obtain ⟨_, _, _, _, _, _, _, _, l_law_row⟩ := tx_look (K := K) (a := (He.ga K "_law_row")) (nm := "_law_row") (q := "_law_row") (st := st_law_row) (dV := .none) (c.text 6 (d := LawR.dq6) rfl) (of_decide_eq_true (c.fact 113 (f := LawR.fq113) rfl))
  have c_law_row : PySem.W.codeIn K (fdAt K (He.ga K "_law_row")).code "_law_row" = true := of_decide_eq_true (c.fact 114 (f := LawR.fq114) rfl)
  have k_law_row : PySem.W.keepIn K (.ref (He.ga K "_law_row")) = true := of_decide_eq_true (c.fact 115 (f := LawR.fq115) rfl)
  have a_law_tool : PySem.W.nsIn K mainGlobals "_law_tool" = some (some (.ref (He.ga K "_law_tool"))) := of_decide_eq_true (c.fact 116 (f := LawR.fq116) rfl)
  obtain ⟨_, _, _, _, _, _, _, _, l_law_tool⟩ := tx_look (K := K) (a := (He.ga K "_law_tool")) (nm := "_law_tool") (q := "_law_tool") (st := st_law_tool) (dV := .none) (c.text 7 (d := LawR.dq7) rfl) (of_decide_eq_true (c.fact 117 (f := LawR.fq117) rfl))
  have c_law_tool : PySem.W.codeIn K (fdAt K (He.ga K "_law_tool")).code "_law_tool" = true := of_decide_eq_true (c.fact 118 (f := LawR.fq118) rfl)
  have k_law_tool : PySem.W.keepIn K (.ref (He.ga K "_law_tool")) = true := of_decide_eq_true (c.fact 119 (f := LawR.fq119) rfl)
  have a_is_sequence : PySem.W.nsIn K mainGlobals "is_sequence" = some (some (.ref (He.ga K "is_sequence"))) := of_decide_eq_true (c.fact 120 (f := LawR.fq120) rfl)
  obtain ⟨_, _, _, _, _, _, _, _, l_is_sequence⟩ := tx_look (K := K) (a := (He.ga K "is_sequence")) (nm := "is_sequence") (q := "is_sequence") (st := st_is_sequence) (dV := .none) (c.text 8 (d := LawR.dq8) rfl) (of_decide_eq_true (c.fact 121 (f := LawR.fq121) rfl))
  have c_is_sequence : PySem.W.codeIn K (fdAt K (He.ga K "is_sequence")).code "is_sequence" = true := of_decide_eq_true (c.fact 122 (f := LawR.fq122) rfl)
  have k_is_sequence : PySem.W.keepIn K (.ref (He.ga K "is_sequence")) = true := of_decide_eq_true (c.fact 123 (f := LawR.fq123) rfl)
  have a_ToolD_initD : PySem.W.findIn K (.ref (He.ga K "Tool")) "__init__" = some (some (.ref (He.ma K (He.ga K "Tool") "__init__"))) := of_decide_eq_true (c.fact 124 (f := LawR.fq124) rfl)
  have i_ToolD_initD : PySem.W.isFn K (.ref (He.ma K (He.ga K "Tool") "__init__")) = true := of_decide_eq_true (c.fact 125 (f := LawR.fq125) rfl)
  obtain ⟨_, _, _, _, _, _, _, _, l_ToolD_initD⟩ := tx_look (K := K) (a := (He.ma K (He.ga K "Tool") "__init__")) (nm := "__init__") (q := "Tool.__init__") (st := st_ToolD_initD) (dV := (.ref (dfA K (He.ma K (He.ga K "Tool") "__init__")))) (c.text 9 (d := LawR.dq9) rfl) (of_decide_eq_true (c.fact 126 (f := LawR.fq126) rfl))
  have c_ToolD_initD : PySem.W.codeIn K (fdAt K (He.ma K (He.ga K "Tool") "__init__")).code "Tool.__init__" = true := of_decide_eq_true (c.fact 127 (f := LawR.fq127) rfl)
  have k_ToolD_initD : PySem.W.keepIn K (.ref (He.ma K (He.ga K "Tool") "__init__")) = true := of_decide_eq_true (c.fact 128 (f := LawR.fq128) rfl)
  obtain ⟨_, _, _, d_ToolD_initD⟩ := tup_lookL (K := K) (a := (dfA K (He.ma K (He.ga K "Tool") "__init__"))) (l := [.ref (refO (itemAt K (dfA K (He.ma K (He.ga K "Tool") "__init__")) 0)), .bool false]) (c.fact 129 (f := LawR.fq129) rfl) (of_decide_eq_true (c.fact 130 (f := LawR.fq130) rfl))
  obtain ⟨_, _, _, fl0_ToolD_initD⟩ := tup_lookL (K := K) (a := (refO (itemAt K (dfA K (He.ma K (He.ga K "Tool") "__init__")) 0))) (l := []) (c.fact 131 (f := LawR.fq131) rfl) (of_decide_eq_true (c.fact 132 (f := LawR.fq132) rfl))
  have a_is_test : PySem.W.nsIn K mainGlobals "is_test" = some (some (.ref (He.ga K "is_test"))) := of_decide_eq_true (c.fact 133 (f := LawR.fq133) rfl)
  obtain ⟨_, _, _, _, _, _, _, _, l_is_test⟩ := tx_look (K := K) (a := (He.ga K "is_test")) (nm := "is_test") (q := "is_test") (st := st_is_test) (dV := .none) (c.text 10 (d := LawR.dq10) rfl) (of_decide_eq_true (c.fact 134 (f := LawR.fq134) rfl))
  have c_is_test : PySem.W.codeIn K (fdAt K (He.ga K "is_test")).code "is_test" = true := of_decide_eq_true (c.fact 135 (f := LawR.fq135) rfl)
  have k_is_test : PySem.W.keepIn K (.ref (He.ga K "is_test")) = true := of_decide_eq_true (c.fact 136 (f := LawR.fq136) rfl)
  have a_is_word : PySem.W.nsIn K mainGlobals "is_word" = some (some (.ref (He.ga K "is_word"))) := of_decide_eq_true (c.fact 137 (f := LawR.fq137) rfl)
  obtain ⟨_, _, _, _, _, _, _, _, l_is_word⟩ := tx_look (K := K) (a := (He.ga K "is_word")) (nm := "is_word") (q := "is_word") (st := st_is_word) (dV := .none) (c.text 11 (d := LawR.dq11) rfl) (of_decide_eq_true (c.fact 138 (f := LawR.fq138) rfl))
  have c_is_word : PySem.W.codeIn K (fdAt K (He.ga K "is_word")).code "is_word" = true := of_decide_eq_true (c.fact 139 (f := LawR.fq139) rfl)
  have k_is_word : PySem.W.keepIn K (.ref (He.ga K "is_word")) = true := of_decide_eq_true (c.fact 140 (f := LawR.fq140) rfl)
  have a_RowD_initD : PySem.W.findIn K (.ref (He.ga K "Row")) "__init__" = some (some (.ref (He.ma K (He.ga K "Row") "__init__"))) := of_decide_eq_true (c.fact 141 (f := LawR.fq141) rfl)
  have i_RowD_initD : PySem.W.isFn K (.ref (He.ma K (He.ga K "Row") "__init__")) = true := of_decide_eq_true (c.fact 142 (f := LawR.fq142) rfl)
  obtain ⟨_, _, _, _, _, _, _, _, l_RowD_initD⟩ := tx_look (K := K) (a := (He.ma K (He.ga K "Row") "__init__")) (nm := "__init__") (q := "Row.__init__") (st := st_RowD_initD) (dV := (.ref (dfA K (He.ma K (He.ga K "Row") "__init__")))) (c.text 12 (d := LawR.dq12) rfl) (of_decide_eq_true (c.fact 143 (f := LawR.fq143) rfl))
  have c_RowD_initD : PySem.W.codeIn K (fdAt K (He.ma K (He.ga K "Row") "__init__")).code "Row.__init__" = true := of_decide_eq_true (c.fact 144 (f := LawR.fq144) rfl)
  have k_RowD_initD : PySem.W.keepIn K (.ref (He.ma K (He.ga K "Row") "__init__")) = true := of_decide_eq_true (c.fact 145 (f := LawR.fq145) rfl)
  obtain ⟨_, _, _, d_RowD_initD⟩ := tup_lookL (K := K) (a := (dfA K (He.ma K (He.ga K "Row") "__init__"))) (l := [.ref (refO (itemAt K (dfA K (He.ma K (He.ga K "Row") "__init__")) 0)), .ref (refO (itemAt K (dfA K (He.ma K (He.ga K "Row") "__init__")) 1))]) (c.fact 146 (f := LawR.fq146) rfl) (of_decide_eq_true (c.fact 147 (f := LawR.fq147) rfl))
  obtain ⟨_, _, _, fl0_RowD_initD⟩ := tup_lookL (K := K) (a := (refO (itemAt K (dfA K (He.ma K (He.ga K "Row") "__init__")) 0))) (l := []) (c.fact 148 (f := LawR.fq148) rfl) (of_decide_eq_true (c.fact 149 (f := LawR.fq149) rfl))
  obtain ⟨_, _, _, fl1_RowD_initD⟩ := tup_lookL (K := K) (a := (refO (itemAt K (dfA K (He.ma K (He.ga K "Row") "__init__")) 1))) (l := []) (c.fact 150 (f := LawR.fq150) rfl) (of_decide_eq_true (c.fact 151 (f := LawR.fq151) rfl))
  have a_law_tool_of : PySem.W.nsIn K mainGlobals "_law_tool_of" = some (some (.ref (He.ga K "_law_tool_of"))) := of_decide_eq_true (c.fact 152 (f := LawR.fq152) rfl)
  obtain ⟨_, _, _, _, _, _, _, _, l_law_tool_of⟩ := tx_look (K := K) (a := (He.ga K "_law_tool_of")) (nm := "_law_tool_of") (q := "_law_tool_of") (st := st_law_tool_of) (dV := .none) (c.text 13 (d := LawR.dq13) rfl) (of_decide_eq_true (c.fact 153 (f := LawR.fq153) rfl))
  have c_law_tool_of : PySem.W.codeIn K (fdAt K (He.ga K "_law_tool_of")).code "_law_tool_of" = true := of_decide_eq_true (c.fact 154 (f := LawR.fq154) rfl)
  have k_law_tool_of : PySem.W.keepIn K (.ref (He.ga K "_law_tool_of")) = true := of_decide_eq_true (c.fact 155 (f := LawR.fq155) rfl)
  have a_law_is_long_form : PySem.W.nsIn K mainGlobals "_law_is_long_form" = some (some (.ref (He.ga K "_law_is_long_form"))) := of_decide_eq_true (c.fact 156 (f := LawR.fq156) rfl)
  obtain ⟨_, _, _, _, _, _, _, _, l_law_is_long_form⟩ := tx_look (K := K) (a := (He.ga K "_law_is_long_form")) (nm := "_law_is_long_form") (q := "_law_is_long_form") (st := st_law_is_long_form) (dV := .none) (c.text 14 (d := LawR.dq14) rfl) (of_decide_eq_true (c.fact 157 (f := LawR.fq157) rfl))
  have c_law_is_long_form : PySem.W.codeIn K (fdAt K (He.ga K "_law_is_long_form")).code "_law_is_long_form" = true := of_decide_eq_true (c.fact 158 (f := LawR.fq158) rfl)
  have k_law_is_long_form : PySem.W.keepIn K (.ref (He.ga K "_law_is_long_form")) = true := of_decide_eq_true (c.fact 159 (f := LawR.fq159) rfl)
  have a_law_asks : PySem.W.nsIn K mainGlobals "_law_asks" = some (some (.ref (He.ga K "_law_asks"))) := of_decide_eq_true (c.fact 160 (f := LawR.fq160) rfl)
  obtain ⟨_, _, _, _, _, _, _, _, l_law_asks⟩ := tx_look (K := K) (a := (He.ga K "_law_asks")) (nm := "_law_asks") (q := "_law_asks") (st := st_law_asks) (dV := .none) (c.text 15 (d := LawR.dq15) rfl) (of_decide_eq_true (c.fact 161 (f := LawR.fq161) rfl))
  have c_law_asks : PySem.W.codeIn K (fdAt K (He.ga K "_law_asks")).code "_law_asks" = true := of_decide_eq_true (c.fact 162 (f := LawR.fq162) rfl)
  have k_law_asks : PySem.W.keepIn K (.ref (He.ga K "_law_asks")) = true := of_decide_eq_true (c.fact 163 (f := LawR.fq163) rfl)
  have a_law_laid : PySem.W.nsIn K mainGlobals "_law_laid" = some (some (.ref (He.ga K "_law_laid"))) := of_decide_eq_true (c.fact 164 (f := LawR.fq164) rfl)
  obtain ⟨_, _, _, _, _, _, _, _, l_law_laid⟩ := tx_look (K := K) (a := (He.ga K "_law_laid")) (nm := "_law_laid") (q := "_law_laid") (st := st_law_laid) (dV := .none) (c.text 16 (d := LawR.dq16) rfl) (of_decide_eq_true (c.fact 165 (f := LawR.fq165) rfl))
  have c_law_laid : PySem.W.codeIn K (fdAt K (He.ga K "_law_laid")).code "_law_laid" = true := of_decide_eq_true (c.fact 166 (f := LawR.fq166) rfl)
  have k_law_laid : PySem.W.keepIn K (.ref (He.ga K "_law_laid")) = true := of_decide_eq_true (c.fact 167 (f := LawR.fq167) rfl)
  have a_is_long : PySem.W.nsIn K mainGlobals "is_long" = some (some (.ref (He.ga K "is_long"))) := of_decide_eq_true (c.fact 168 (f := LawR.fq168) rfl)
  obtain ⟨_, _, _, _, _, _, _, _, l_is_long⟩ := tx_look (K := K) (a := (He.ga K "is_long")) (nm := "is_long") (q := "is_long") (st := st_is_long) (dV := .none) (c.text 17 (d := LawR.dq17) rfl) (of_decide_eq_true (c.fact 169 (f := LawR.fq169) rfl))
  have c_is_long : PySem.W.codeIn K (fdAt K (He.ga K "is_long")).code "is_long" = true := of_decide_eq_true (c.fact 170 (f := LawR.fq170) rfl)
  have k_is_long : PySem.W.keepIn K (.ref (He.ga K "is_long")) = true := of_decide_eq_true (c.fact 171 (f := LawR.fq171) rfl)
  have a_holds : PySem.W.nsIn K mainGlobals "holds" = some (some (.ref (He.ga K "holds"))) := of_decide_eq_true (c.fact 172 (f := LawR.fq172) rfl)
  obtain ⟨_, _, _, _, _, _, _, _, l_holds⟩ := tx_look (K := K) (a := (He.ga K "holds")) (nm := "holds") (q := "holds") (st := st_holds) (dV := .none) (c.text 18 (d := LawR.dq18) rfl) (of_decide_eq_true (c.fact 173 (f := LawR.fq173) rfl))
  have c_holds : PySem.W.codeIn K (fdAt K (He.ga K "holds")).code "holds" = true := of_decide_eq_true (c.fact 174 (f := LawR.fq174) rfl)
  have k_holds : PySem.W.keepIn K (.ref (He.ga K "holds")) = true := of_decide_eq_true (c.fact 175 (f := LawR.fq175) rfl)
  have a_is_done : PySem.W.nsIn K mainGlobals "is_done" = some (some (.ref (He.ga K "is_done"))) := of_decide_eq_true (c.fact 176 (f := LawR.fq176) rfl)
  obtain ⟨_, _, _, _, _, _, _, _, l_is_done⟩ := tx_look (K := K) (a := (He.ga K "is_done")) (nm := "is_done") (q := "is_done") (st := st_is_done) (dV := .none) (c.text 19 (d := LawR.dq19) rfl) (of_decide_eq_true (c.fact 177 (f := LawR.fq177) rfl))
  have c_is_done : PySem.W.codeIn K (fdAt K (He.ga K "is_done")).code "is_done" = true := of_decide_eq_true (c.fact 178 (f := LawR.fq178) rfl)
  have k_is_done : PySem.W.keepIn K (.ref (He.ga K "is_done")) = true := of_decide_eq_true (c.fact 179 (f := LawR.fq179) rfl)
  have a_done : PySem.W.nsIn K mainGlobals "done" = some (some (.ref (He.ga K "done"))) := of_decide_eq_true (c.fact 180 (f := LawR.fq180) rfl)
  obtain ⟨_, _, _, _, _, _, _, _, l_done⟩ := tx_look (K := K) (a := (He.ga K "done")) (nm := "done") (q := "done") (st := st_done) (dV := .none) (c.text 20 (d := LawR.dq20) rfl) (of_decide_eq_true (c.fact 181 (f := LawR.fq181) rfl))
  have c_done : PySem.W.codeIn K (fdAt K (He.ga K "done")).code "done" = true := of_decide_eq_true (c.fact 182 (f := LawR.fq182) rfl)
  have k_done : PySem.W.keepIn K (.ref (He.ga K "done")) = true := of_decide_eq_true (c.fact 183 (f := LawR.fq183) rfl)
  have a_lay_by : PySem.W.nsIn K mainGlobals "lay_by" = some (some (.ref (He.ga K "lay_by"))) := of_decide_eq_true (c.fact 184 (f := LawR.fq184) rfl)
  obtain ⟨_, _, _, _, _, _, _, _, l_lay_by⟩ := tx_look (K := K) (a := (He.ga K "lay_by")) (nm := "lay_by") (q := "lay_by") (st := st_lay_by) (dV := .none) (c.text 21 (d := LawR.dq21) rfl) (of_decide_eq_true (c.fact 185 (f := LawR.fq185) rfl))
  have c_lay_by : PySem.W.codeIn K (fdAt K (He.ga K "lay_by")).code "lay_by" = true := of_decide_eq_true (c.fact 186 (f := LawR.fq186) rfl)
  have k_lay_by : PySem.W.keepIn K (.ref (He.ga K "lay_by")) = true := of_decide_eq_true (c.fact 187 (f := LawR.fq187) rfl)
  have a_lay : PySem.W.nsIn K mainGlobals "lay" = some (some (.ref (He.ga K "lay"))) := of_decide_eq_true (c.fact 188 (f := LawR.fq188) rfl)
  obtain ⟨_, _, _, _, _, _, _, _, l_lay⟩ := tx_look (K := K) (a := (He.ga K "lay")) (nm := "lay") (q := "lay") (st := st_lay) (dV := .none) (c.text 22 (d := LawR.dq22) rfl) (of_decide_eq_true (c.fact 189 (f := LawR.fq189) rfl))
  have c_lay : PySem.W.codeIn K (fdAt K (He.ga K "lay")).code "lay" = true := of_decide_eq_true (c.fact 190 (f := LawR.fq190) rfl)
  have k_lay : PySem.W.keepIn K (.ref (He.ga K "lay")) = true := of_decide_eq_true (c.fact 191 (f := LawR.fq191) rfl)
  have a_law : PySem.W.nsIn K mainGlobals "law" = some (some (.ref (He.ga K "law"))) := of_decide_eq_true (c.fact 192 (f := LawR.fq192) rfl)
  obtain ⟨_, _, _, _, _, _, _, _, l_law⟩ := tx_look (K := K) (a := (He.ga K "law")) (nm := "law") (q := "law") (st := st_law) (dV := .none) (c.text 23 (d := LawR.dq23) rfl) (of_decide_eq_true (c.fact 193 (f := LawR.fq193) rfl))
  have c_law : PySem.W.codeIn K (fdAt K (He.ga K "law")).code "law" = true := of_decide_eq_true (c.fact 194 (f := LawR.fq194) rfl)
  have k_law : PySem.W.keepIn K (.ref (He.ga K "law")) = true := of_decide_eq_true (c.fact 195 (f := LawR.fq195) rfl)
  exact all_mk X G hfa aC_LayError aC_InvalidRow aC_InvalidTool aC_NoRow aC_Row aC_Tool z_abs z_all z_bool z_int z_isinstance z_len z_list z_max z_min z_range z_repr z_str z_tuple n_NOT n_TESTS l_TESTS y_TESTS w_TESTS n_DEEDS l_DEEDS y_DEEDS w_DEEDS n_FORMS l_FORMS y_FORMS w_z_FORMS w_FORMS pg_Row hd_Row po_Row sa_Row mk_Row kc_Row pg_Tool hd_Tool po_Tool sa_Tool mk_Tool kc_Tool ca_Row cn_Row ct_Row cm_Row ca_Tool cn_Tool ct_Tool cm_Tool sb_tuple_Row sb_list_Row sb_tuple_Tool sb_list_Tool sb_bool_Row sb_bool_Tool sb_str_Row sb_str_Tool ic_Row ty_Row oo_Row so_Tool_Row nqo_Tool_Row bo_NoneType_Row bo_bool_Row bo_int_Row bo_str_Row bo_tuple_Row bo_list_Row bo_dict_Row no_rows_Tool no_sorts_Tool no_tests_Row no_deeds_Row xL_InvalidRow xr_InvalidRow esa_InvalidRow eex_InvalidRow ety_InvalidRow ekc_InvalidRow eno_InvalidRow ea_InvalidRow et_InvalidRow el_InvalidRow ec_InvalidRow ek_InvalidRow bga brd bty bvV a_law_forms l_law_forms c_law_forms k_law_forms a_law_box l_law_box c_law_box k_law_box a_law_take l_law_take c_law_take k_law_take a_law_pick l_law_pick c_law_pick k_law_pick a_law_test l_law_test c_law_test k_law_test a_law_row l_law_row c_law_row k_law_row a_law_tool l_law_tool c_law_tool k_law_tool a_is_sequence l_is_sequence c_is_sequence k_is_sequence a_ToolD_initD i_ToolD_initD l_ToolD_initD c_ToolD_initD k_ToolD_initD d_ToolD_initD fl0_ToolD_initD a_is_test l_is_test c_is_test k_is_test a_is_word l_is_word c_is_word k_is_word a_RowD_initD i_RowD_initD l_RowD_initD c_RowD_initD k_RowD_initD d_RowD_initD fl0_RowD_initD fl1_RowD_initD a_law_tool_of l_law_tool_of c_law_tool_of k_law_tool_of a_law_is_long_form l_law_is_long_form c_law_is_long_form k_law_is_long_form a_law_asks l_law_asks c_law_asks k_law_asks a_law_laid l_law_laid c_law_laid k_law_laid a_is_long l_is_long c_is_long k_is_long a_holds l_holds c_holds k_holds a_is_done l_is_done c_is_done k_is_done a_done l_done c_done k_done a_lay_by l_lay_by c_lay_by k_lay_by a_lay l_lay c_lay k_lay a_law l_law c_law k_law
end Law
open PySem PySem.W PySem.Calls PyProof.Rows
set_option maxRecDepth 100000 in
set_option maxHeartbeats 0 in
theorem PySem.Challenge.cw_laytwice_k24_forms_laid_out_holds : PySem.Challenge.rw_laytwice_k24_forms_laid_out.Holds := by
  w_on; o_law
  refine HandSHeadRun.head_any (r := OpenLaw.row PySem.Challenge.rw_laytwice_k24_forms_laid_out) (q := view (OpenLaw.row PySem.Challenge.rw_laytwice_k24_forms_laid_out).prog [37]) (H := LawR.hkQ) (ob := LawR.obQ) (M := 20000) (loose := LawR.looseQ) (d := HandSHeadRun.topDef (OpenLaw.row PySem.Challenge.rw_laytwice_k24_forms_laid_out).prog 37) (kwd := []) (fun s => LT.obQ_eq s)
    (by kernel_rfl) (fun s => by kernel_rfl) LawR.runQ (by kernel_rfl) (by kernel_rfl) (by kernel_rfl) (by rfl) (by first | assumption | decide +kernel) (by decide +kernel) ⟨rfl, rfl, rfl, rfl, rfl, by decide +kernel⟩ ?hw ?hc
  case hw => w_witness2
  case hc =>
    refine LT.walk_ltE (l := PySem.Challenge.rw_laytwice_k24_forms_laid_out) (k := 8) (x := "_law_script") rfl (by kernel_rfl) ⟨rfl, by decide, by decide⟩ ?F
    intro w mg fa h Y G hmg0
    obtain ⟨K, KX, c⟩ := Y
    have hmg : mg ("law" : PySem.Str) = some (.ref fa) := by
      have e : (HandSHeadRun.topDef (OpenLaw.row PySem.Challenge.rw_laytwice_k24_forms_laid_out).prog 37).name = ("law" : PySem.Str) := by kernel_rfl
      rw [← e]
      exact hmg0
    exact ⟨K, KX, Law.facts_mk (l := PySem.Challenge.rw_laytwice_k24_forms_laid_out) (w := w) KX G hmg c⟩
