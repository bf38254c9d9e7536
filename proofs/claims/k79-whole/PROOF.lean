import PyProof.Rows.All
import Wide.All
import OpenK.AllK
import Wide.FinOn
import HandS.Defaults
import HandS.DictComp
import HandS.ExcField
import HandS.ExcInit
import HandS.ExcInitHot
import HandS.ExcIs
import HandS.ForMost
import HandS.Head0
import HandS.Head1
import HandS.Head2
import HandS.HeadHook4
import HandS.HeadWalk
import HandS.HotCalls
import HandS.IsInst
import HandS.Lambda
import HandS.OwnEq
import HandS.Property
import HandS.RevRange
import HandS.SetFor
import HandS.Style
import HandS.Wide
import HandS.Zip
import KE.GoesNew
import KE.KExcIs
import KE.KStateDown
import PySem.Challenge.RW_notbehind_k79_whole_anytime_papers
set_option Elab.async false
set_option linter.all false
set_option maxRecDepth 100000
set_option exponentiation.threshold 10000
section -- T0
set_option maxHeartbeats 1000000
namespace Nb
open PySem PySem.Spec PyProof.Rows L2
def top (i : Nat) : Stmt := PySem.Challenge.pw_notbehind_k79_whole_anytime_papers.main.body.getD i (.Pass ⟨0, 0, 0, 0⟩)
def clsB : Stmt → List Stmt
  | .ClassDef (body := b) .. => b
  | _ => []
def mem (i j : Nat) : Stmt := (clsB (top i)).getD j (.Pass ⟨0, 0, 0, 0⟩)
/-- the texts that make exceptions -/
def kinNames : List Str := ["BadNumber", "DivisionByZero", "BadCount", "BadSize", "BadName", "BadText", "BadRow", "BadShare", "BadWeight", "Mismatch", "NoHelper", "NotExact", "Lacking", "GameOver", "NothingToTakeBack", "UnknownName", "TakenName", "WrongKind", "InUse"]
end Nb
end -- T0
section -- K1
set_option maxHeartbeats 1000000
namespace Nb
open PySem PySem.Spec PyProof.Rows L2
def dVals (g : Addr → Option Obj) (a : Addr) : List Addr := match g a with
  | some ⟨_, _, .dict es _, _⟩ => es.toList.flatMap fun e => He.refV e.val
  | _ => []
def aFun (g : Addr → Option Obj) (a : Addr) : List Addr := match g a with
  | some ⟨_, _, .func fd, _⟩ => a :: (He.refV fd.code ++ (He.refV fd.defaults ++ He.refV fd.kwdefaults))
  | _ => []
/-- what stands in a class's dict -/
def aMem (g : Addr → Option Obj) (a : Addr) : List Addr := match g a with
  | some ⟨_, _, .fields vs, _⟩ => a :: (vs.toList.take 1).flatMap fun v => (He.refV v).flatMap (aFun g)
  | some ⟨_, _, .func _, _⟩ => aFun g a
  | _ => []
/-- what stands under a name of the module -/
def aGlo (g : Addr → Option Obj) (a : Addr) : List Addr := match g a with
  | some ⟨_, _, .func _, _⟩ => aFun g a
  | some ⟨_, _, .cls cd, _⟩ => a :: cd.ns :: (dVals g cd.ns).flatMap (aMem g)
  | some ⟨_, _, .seq _ _, _⟩ => [a]
  | _ => []
def asN (g : Addr → Option Obj) : List Addr := mainGlobals :: (dVals g mainGlobals).flatMap (aGlo g)
def gEs (K : PySem.W.Frag) : List DictEntry := match K.lookup mainGlobals with
  | some ⟨_, _, .dict es _, _⟩ => es.toList
  | _ => []
/-- what stands under a name -/
inductive GK where
  | any
  | ref
  | int (i : Int)
  | str (s : Str)
def gkB : GK → Value → Bool
  | .any, _ => true
  | .ref, .ref _ => true
  | .int i, .int j _ => decide (i = j)
  | .str s, .str t _ => decide (s = t)
  | _, _ => false
def keysB : List DictEntry → List (Str × GK) → Bool
  | [], [] => true
  | e :: es, k :: ks => e.key.isStr k.1 && (gkB k.2 e.val && keysB es ks)
  | _, _ => false
theorem isStr_get {v : Value} {k : Str} (h : v.isStr k = true) : ∃ t, v = .str k t := by
  cases v with
  | str s t => exact ⟨t, by rw [beq_iff_eq.mp h]⟩
  | _ => cases h
theorem keysB_at : ∀ {es : List DictEntry} {ks : List (Str × GK)} {i : Nat} {k : Str × GK}, keysB es ks = true → ks[i]? = some k → ∃ e, es[i]? = some e ∧ e.key.isStr k.1 = true ∧ gkB k.2 e.val = true
  | [], [], _, _, _, h => by simp at h
  | e :: es, q :: ks, 0, k, hb, h => by
    obtain ⟨h1, h2⟩ := Bool.and_eq_true_iff.mp hb
    obtain ⟨h2, _⟩ := Bool.and_eq_true_iff.mp h2
    simp at h; subst h
    exact ⟨e, rfl, h1, h2⟩
  | e :: es, q :: ks, i + 1, k, hb, h => by
    obtain ⟨_, h2⟩ := Bool.and_eq_true_iff.mp hb
    obtain ⟨_, h2⟩ := Bool.and_eq_true_iff.mp h2
    obtain ⟨e', h3, h4⟩ := keysB_at (i := i) h2 (by simpa using h)
    exact ⟨e', by simpa using h3, h4⟩
  | [], _ :: _, _, _, hb, _ => by cases hb
  | _ :: _, [], _, _, hb, _ => by cases hb
theorem keysB_find : ∀ {es : List DictEntry} {ks : List (Str × GK)} {i : Nat} {k : Str × GK}, keysB es ks = true → (ks.map (·.1)).Nodup → ks[i]? = some k → es.find? (fun e => e.key.isStr k.1) = es[i]?
  | [], [], _, _, _, _, h => by simp at h
  | e :: es, q :: ks, 0, k, hb, _, h => by
    obtain ⟨h1, _⟩ := Bool.and_eq_true_iff.mp hb
    simp at h; subst h
    rw [List.find?_cons, h1]; rfl
  | e :: es, q :: ks, i + 1, k, hb, nd, h => by
    obtain ⟨h1, h2⟩ := Bool.and_eq_true_iff.mp hb
    obtain ⟨_, h2⟩ := Bool.and_eq_true_iff.mp h2
    obtain ⟨n1, n2⟩ := List.nodup_cons.mp (show (q.1 :: ks.map (·.1)).Nodup from nd)
    have h' : ks[i]? = some k := by simpa using h
    obtain ⟨t, e1⟩ := isStr_get h1
    have ne : e.key.isStr k.1 = false := by
      rw [e1]
      exact beq_eq_false_iff_ne.mpr fun z => n1 (z ▸ List.mem_map.mpr ⟨k, List.mem_of_getElem? h', rfl⟩)
    rw [List.find?_cons, ne, List.getElem?_cons_succ]
    exact keysB_find h2 n2 h'
  | [], _ :: _, _, _, hb, _, _ => by cases hb
  | _ :: _, [], _, _, hb, _, _ => by cases hb
theorem keysB_none : ∀ {es : List DictEntry} {ks : List (Str × GK)} {x : Str}, keysB es ks = true → x ∉ ks.map (·.1) → es.find? (fun e => e.key.isStr x) = none ∧ es.any (·.refKey) = false
  | [], [], _, _, _ => ⟨rfl, rfl⟩
  | e :: es, q :: ks, x, hb, hx => by
    obtain ⟨h1, h2⟩ := Bool.and_eq_true_iff.mp hb
    obtain ⟨_, h2⟩ := Bool.and_eq_true_iff.mp h2
    obtain ⟨t, e1⟩ := isStr_get h1
    have hx' : ¬ x = q.1 ∧ x ∉ ks.map (·.1) := by simpa using hx
    obtain ⟨r1, r2⟩ := keysB_none h2 hx'.2
    have ne : e.key.isStr x = false := by
      rw [e1]
      exact beq_eq_false_iff_ne.mpr fun z => hx'.1 z.symm
    refine ⟨by rw [List.find?_cons, ne]; exact r1, ?_⟩
    rw [List.any_cons, r2, Bool.or_false]
    unfold DictEntry.refKey
    rw [e1]
  | [], _ :: _, _, hb, _ => by cases hb
  | _ :: _, [], _, hb, _ => by cases hb
theorem gEs_get {K : PySem.W.Frag} (h : gEs K ≠ []) : ∃ c d es n sl, K.lookup mainGlobals = some ⟨c, d, .dict es n, sl⟩ ∧ gEs K = es.toList := by
  unfold gEs at h ⊢
  split at h
  · rename_i c d es n sl e
    exact ⟨c, d, es, n, sl, e, rfl⟩
  · exact absurd rfl h
theorem keysB_ne {es : List DictEntry} {k : Str × GK} {ks : List (Str × GK)} (h : keysB es (k :: ks) = true) : es ≠ [] := fun z => by rw [z] at h; cases h
theorem nsIn_at {K : PySem.W.Frag} {ks : List (Str × GK)} {k : Str × GK} {i : Nat} (hb : keysB (gEs K) ks = true) (nd : (ks.map (·.1)).Nodup) (h : ks[i]? = some k) : ∃ e, (gEs K)[i]? = some e ∧ PySem.W.nsIn K mainGlobals k.1 = some (some e.val) ∧ gkB k.2 e.val = true := by
  obtain ⟨e, h1, _, h3⟩ := keysB_at hb h
  have hf := keysB_find hb nd h
  rw [h1] at hf
  obtain ⟨c, d, es, n, sl, hl, he⟩ := gEs_get (K := K) (fun z => by rw [z] at h1; simp at h1)
  refine ⟨e, h1, ?_, h3⟩
  unfold PySem.W.nsIn
  rw [hl]
  show (match es.toList.find? (·.key.isStr k.1) with
    | some e => some (some e.val)
    | none => if es.toList.any (·.refKey) then none else some none) = _
  rw [← he, hf]
theorem nsIn_no {K : PySem.W.Frag} {k : Str × GK} {ks : List (Str × GK)} {x : Str} (hb : keysB (gEs K) (k :: ks) = true) (h : x ∉ (k :: ks).map (·.1)) : PySem.W.nsIn K mainGlobals x = some none := by
  obtain ⟨c, d, es, n, sl, hl, he⟩ := gEs_get (keysB_ne hb)
  obtain ⟨h1, h2⟩ := keysB_none hb h
  unfold PySem.W.nsIn
  rw [hl]
  show (match es.toList.find? (·.key.isStr x) with
    | some e => some (some e.val)
    | none => if es.toList.any (·.refKey) then none else some none) = _
  rw [← he, h1]
  show (if (gEs K).any (·.refKey) = true then none else some none) = _
  rw [h2]; rfl
abbrev Pth := PySem.W.Frag → Addr
def pI (i : Nat) : Pth := fun K => match (gEs K)[i]? with
  | some e => (match e.val with
    | .ref a => a
    | _ => 0)
  | none => 0
def pM (i : Nat) (m : Str) : Pth := fun K => He.ma K (pI i K) m
def getA (K : PySem.W.Frag) (p : Addr) : Addr := match PySem.W.recIn K p "property" with
  | some (.ref g :: _) => g
  | _ => 0
def pP (i : Nat) (f : Str) : Pth := fun K => getA K (He.ma K (pI i K) f)
/-- a def of the text: where it stands, its name, its qualified name, its place -/
structure DefN where
  at_ : Pth
  name : Str
  qual : Str
  st : Stmt
  kwd : List (Str × He.Dv) := []
def fnN (K : PySem.W.Frag) (a : Addr) : He.FnW := match K.lookup a with
  | some ⟨_, _, .func u, _⟩ => some (u.name, u.qualname, u.params, u.body, u.scope, u.globals, u.closure, u.builtins)
  | _ => none
def DefN.val (d : DefN) : He.FnW := some (d.name, d.qual, defArgs d.st, .stmts (defBody d.st), defScope d.st, mainGlobals, [], builtinsNs)
def DefN.kws (K : PySem.W.Frag) (d : DefN) : List (Str × V) := d.kwd.map fun q => (q.1, q.2.v K)
def DefN.ok (K : PySem.W.Frag) (d : DefN) : Bool := PySem.W.keepIn K (.ref (d.at_ K)) && (match K.lookup (d.at_ K) with
  | some ⟨_, _, .func fd, _⟩ => PySem.W.codeIn K fd.code d.qual && (He.dflB K fd.defaults [] && He.kwdB K fd.kwdefaults (d.kws K))
  | _ => false)
theorem DefN.funD {K : PySem.W.Frag} {d : DefN} (e : fnN K (d.at_ K) = d.val) (c : d.ok K = true) : ∃ fd, FunD K d.name d.qual (defArgs d.st) (defBody d.st) (defScope d.st) [] (d.kws K) (d.at_ K) fd := by
  obtain ⟨kp, c2⟩ := He.ba c
  unfold fnN at e
  cases q : K.lookup (d.at_ K) with
  | none => rw [q] at c2; cases c2
  | some o =>
    obtain ⟨oc, od, dt, osl⟩ := o
    rw [q] at c2 e
    cases dt with
    | func fd =>
      obtain ⟨nm, qn, pa, bo, sc, gl, cl, dV, kV, m10, m11, m12, cd, m14, bi⟩ := fd
      have e2 : (some (nm, qn, pa, bo, sc, gl, cl, bi) : He.FnW) = some (d.name, d.qual, defArgs d.st, .stmts (defBody d.st), defScope d.st, mainGlobals, [], builtinsNs) := e
      simp only [Prod.mk.injEq, Option.some.injEq] at e2
      obtain ⟨rfl, rfl, rfl, rfl, rfl, rfl, rfl, rfl⟩ := e2
      obtain ⟨k1, k2⟩ := He.ba (show (PySem.W.codeIn K cd d.qual && (He.dflB K dV [] && He.kwdB K kV (d.kws K))) = true from c2)
      obtain ⟨k3, k4⟩ := He.ba k2
      exact ⟨_, ⟨oc, od, dV, kV, m10, m11, m12, cd, m14, osl, rfl, q, k1, He.dflB_ok k3, He.kwdB_ok k4⟩, kp⟩
    | _ => cases c2
def cAt (K : PySem.W.Frag) (a : Addr) : Addr := match K.lookup a with
  | some ⟨_, _, .func u, _⟩ => (match u.code with
    | .ref c => c
    | _ => 0)
  | _ => 0
theorem cAt_eq {K : PySem.W.Frag} {a : Addr} {oc : Value} {od : Option Addr} {osl : Array (Option Value)} {fd : FuncData} {c : Addr} (lk : K.lookup a = some ⟨oc, od, .func fd, osl⟩) (e : fd.code = .ref c) : cAt K a = c := by
  unfold cAt
  rw [lk]
  simp only [e]
def tAt (K : PySem.W.Frag) (a : Addr) : Addr := He.tabOf K (cAt K a)
def emT (g : Addr → Option Obj) (K : PySem.W.Frag) (tf : List Pth) : Bool := tf.all fun p => (K.lookup (tAt K (p K))).isNone && (PySem.W.codeHdIn K (cAt K (p K)) (tAt K (p K)) && (match g (tAt K (p K)) with
  | some o => He.emptyTab o
  | none => false))
structure SaysN (fn : List DefN) (chk : PySem.W.Frag → Bool) (tf : List Pth) (h : Heap) (K : PySem.W.Frag) : Prop where
  fns : fn.map (fun d => fnN K (d.at_ K)) = fn.map DefN.val
  oks : ∀ d ∈ fn, d.ok K = true
  chk : chk K = true
  hd : ∀ p ∈ tf, PySem.W.codeHdIn K (cAt K (p K)) (tAt K (p K)) = true
  out : ∀ p ∈ tf, K.lookup (tAt K (p K)) = none
  empty : ∀ p ∈ tf, h.get? (tAt K (p K)) = some { cls := .none, data := .fields #[] }
abbrev AlN : Type := (Bool × Bool × Bool) × List He.FnW
def obsN (fn : List DefN) (chk : PySem.W.Frag → Bool) (tf : List Pth) (g : Addr → Option Obj) (K : PySem.W.Frag) : AlN := ((fn.all fun d => d.ok K, chk K, emT g K tf), fn.map fun d => fnN K (d.at_ K))
def valN (fn : List DefN) : AlN := ((true, true, true), fn.map DefN.val)
theorem saysN_of {fn : List DefN} {chk : PySem.W.Frag → Bool} {tf : List Pth} {h : Heap} {K : PySem.W.Frag} (e : obsN fn chk tf h.get? K = valN fn) : SaysN fn chk tf h K := by
  have e2 : fn.map (fun d => fnN K (d.at_ K)) = fn.map DefN.val := congrArg (fun z : AlN => z.2) e
  have h1 : (fn.all fun d => d.ok K) = true := congrArg (fun z : AlN => z.1.1) e
  have h3 : chk K = true := congrArg (fun z : AlN => z.1.2.1) e
  have h4 : emT h.get? K tf = true := congrArg (fun z : AlN => z.1.2.2) e
  have key : ∀ p ∈ tf, K.lookup (tAt K (p K)) = none ∧ PySem.W.codeHdIn K (cAt K (p K)) (tAt K (p K)) = true ∧ h.get? (tAt K (p K)) = some { cls := .none, data := .fields #[] } := fun p hp => by
    obtain ⟨k1, k2⟩ := He.ba (List.all_eq_true.mp h4 p hp)
    obtain ⟨k3, k4⟩ := He.ba k2
    refine ⟨Option.isNone_iff_eq_none.mp k1, k3, ?_⟩
    cases q : h.get? (tAt K (p K)) with
    | none => rw [q] at k4; cases k4
    | some o => rw [q] at k4; rw [He.emptyTab_eq k4]
  exact ⟨e2, fun d hd => List.all_eq_true.mp h1 d hd, h3, fun p hp => (key p hp).2.1, fun p hp => (key p hp).1, fun p hp => (key p hp).2.2⟩
theorem SaysN.def_ {fn : List DefN} {chk : PySem.W.Frag → Bool} {tf : List Pth} {h : Heap} {K : PySem.W.Frag} (c : SaysN fn chk tf h K) (i : Nat) {d : DefN} (hi : fn[i]? = some d) : ∃ fd, FunD K d.name d.qual (defArgs d.st) (defBody d.st) (defScope d.st) [] (d.kws K) (d.at_ K) fd := by
  have e := congrArg (fun l : List He.FnW => l[i]?) c.fns
  have e2 : (fn.map fun d => fnN K (d.at_ K))[i]? = (fn.map DefN.val)[i]? := e
  rw [List.getElem?_map, List.getElem?_map, hi] at e2
  exact DefN.funD (Option.some.inj e2) (c.oks d (List.mem_of_getElem? hi))
/-- what is looked at -/
def kN (g : Addr → Option Obj) : PySem.W.Frag := He.frG g (asN g)
def hookN (fn : List DefN) (chk : PySem.W.Frag → Bool) (tf : List Pth) : PySem.W.Hook where
  α := AlN
  obs := fun s => obsN fn chk tf s.heap.get? (kN s.heap.get?)
  val := fun _ => valN fn
  says := fun _ h => ∃ K : PySem.W.Frag, K.In h ∧ SaysN fn chk tf h K
  of := fun _ _ e => ⟨_, He.frG_in, saysN_of e⟩
  keeps := fun _ _ _ ⟨K, hK, c⟩ k => ⟨K, PySem.W.Frag.In.keeps hK k, ⟨c.fns, c.oks, c.chk, c.hd, c.out, fun p hp => k _ _ (c.empty p hp)⟩⟩
def obN (fn : List DefN) (chk : PySem.W.Frag → Bool) (tf : List Pth) (s : PySem.W.SharedT) : AlN := obsN fn chk tf (HandSHeadRun.getT s) (kN (HandSHeadRun.getT s))
theorem obN_eq (fn : List DefN) (chk : PySem.W.Frag → Bool) (tf : List Pth) (s : PySem.W.SharedT) : obN fn chk tf s = (hookN fn chk tf).obs s.abs := by
  have e : HandSHeadRun.getT s = s.abs.heap.get? := funext (HandSHeadRun.getT_eq s)
  show obsN fn chk tf (HandSHeadRun.getT s) (kN (HandSHeadRun.getT s)) = obsN fn chk tf s.abs.heap.get? (kN s.abs.heap.get?)
  rw [e]
end Nb
end -- K1
section -- K2
set_option maxHeartbeats 1000000
namespace Nb
open PySem PySem.Spec PyProof.Rows L2
def fnl0 : List DefN := [⟨pI 29, "is_integer_value", "is_integer_value", top 22, []⟩,
  ⟨pI 30, "parts_of", "parts_of", top 23, []⟩,
  ⟨pI 31, "common_divisor", "common_divisor", top 24, []⟩,
  ⟨pI 32, "fraction", "fraction", top 25, []⟩,
  ⟨pI 33, "sum_of_two", "sum_of_two", top 26, []⟩,
  ⟨pI 34, "product_of_two", "product_of_two", top 27, []⟩,
  ⟨pI 35, "opposite", "opposite", top 28, []⟩,
  ⟨pI 36, "order_of", "order_of", top 29, []⟩,
  ⟨pI 37, "add", "add", top 30, []⟩,
  ⟨pI 38, "sub", "sub", top 31, []⟩,
  ⟨pI 39, "mul", "mul", top 32, []⟩,
  ⟨pI 40, "div", "div", top 33, []⟩,
  ⟨pI 41, "compare", "compare", top 34, []⟩,
  ⟨pI 42, "total", "total", top 35, []⟩,
  ⟨pI 43, "check_some", "check_some", top 36, []⟩,
  ⟨pI 44, "farthest_value", "farthest_value", top 37, []⟩,
  ⟨pI 45, "least", "least", top 38, []⟩,
  ⟨pI 46, "greatest", "greatest", top 39, []⟩,
  ⟨pI 52, "check_shape", "check_shape", top 46, []⟩,
  ⟨pI 53, "has_only", "has_only", top 47, []⟩,
  ⟨pI 54, "check_text", "check_text", top 48, []⟩,
  ⟨pI 55, "check_row", "check_row", top 49, []⟩,
  ⟨pI 56, "count_texts", "count_texts", top 50, []⟩,
  ⟨pI 57, "next_texts", "next_texts", top 51, []⟩,
  ⟨pI 58, "index_of", "index_of", top 52, []⟩,
  ⟨pI 59, "most_rounds", "most_rounds", top 53, []⟩,
  ⟨pI 60, "letters", "letters", top 54, []⟩,
  ⟨pI 64, "check_same_shape", "check_same_shape", top 59, []⟩,
  ⟨pI 67, "check_size", "check_size", top 63, []⟩,
  ⟨pI 68, "share_parts", "share_parts", top 64, []⟩]
def fnl1 : List DefN := [⟨pI 69, "is_sharing", "is_sharing", top 65, []⟩,
  ⟨pI 70, "sharing_at", "sharing_at", top 66, []⟩,
  ⟨pI 73, "checked_levels", "checked_levels", top 70, []⟩,
  ⟨pI 74, "height", "height", top 71, []⟩,
  ⟨pI 75, "poured", "poured", top 72, []⟩,
  ⟨pI 76, "reached_places", "reached_places", top 73, []⟩,
  ⟨pI 77, "even_chances", "even_chances", top 74, []⟩,
  ⟨pI 78, "fill", "fill", top 75, []⟩,
  ⟨pI 79, "fill_shares", "fill_shares", top 76, []⟩,
  ⟨pI 80, "fill_chances", "fill_chances", top 77, []⟩,
  ⟨pI 82, "check_rounds", "check_rounds", top 81, []⟩,
  ⟨pI 83, "same_shape", "same_shape", top 82, []⟩,
  ⟨pI 87, "check_ladder", "check_ladder", top 87, []⟩,
  ⟨pI 88, "ladder_bounds", "ladder_bounds", top 88, []⟩,
  ⟨pI 89, "misses_behind", "misses_behind", top 89, []⟩,
  ⟨pI 90, "chances_behind", "chances_behind", top 90, []⟩,
  ⟨pI 91, "next_values", "next_values", top 91, []⟩,
  ⟨pI 92, "inner_many", "inner_many", top 92, []⟩,
  ⟨pI 93, "anytime_folds", "anytime_folds", top 93, []⟩,
  ⟨pI 94, "anytime_fold", "anytime_fold", top 94, []⟩,
  ⟨pI 95, "fold_levels", "fold_levels", top 95, []⟩,
  ⟨pI 96, "anytime_chooser", "anytime_chooser", top 96, []⟩,
  ⟨pI 97, "anytime_foe", "anytime_foe", top 97, []⟩,
  ⟨pI 98, "anytime_slack", "anytime_slack", top 98, []⟩,
  ⟨pI 99, "is_inner", "is_inner", top 99, []⟩,
  ⟨pI 100, "check_stops", "check_stops", top 100, []⟩,
  ⟨pI 101, "stop_marks", "stop_marks", top 101, []⟩,
  ⟨pI 103, "stopped_misses", "stopped_misses", top 103, []⟩,
  ⟨pI 104, "stopped_mean", "stopped_mean", top 104, []⟩,
  ⟨pI 105, "anytime_paper", "anytime_paper", top 105, []⟩]
def fnl2 : List DefN := [⟨pI 106, "is_anytime_paper", "is_anytime_paper", top 106, []⟩,
  ⟨pI 107, "_law_store", "_law_store", top 108, []⟩,
  ⟨pI 108, "_law_mixed", "_law_mixed", top 109, []⟩,
  ⟨pI 109, "_law_take", "_law_take", top 110, []⟩,
  ⟨pI 110, "_law_edge", "_law_edge", top 111, []⟩,
  ⟨pI 111, "_law_gcd", "_law_gcd", top 112, []⟩,
  ⟨pI 112, "_law_low", "_law_low", top 113, []⟩,
  ⟨pI 113, "_law_plus", "_law_plus", top 114, []⟩,
  ⟨pI 114, "_law_minus", "_law_minus", top 115, []⟩,
  ⟨pI 115, "_law_times", "_law_times", top 116, []⟩,
  ⟨pI 116, "_law_below", "_law_below", top 117, []⟩,
  ⟨pI 117, "_law_sum", "_law_sum", top 118, []⟩,
  ⟨pI 118, "_law_lowest", "_law_lowest", top 119, []⟩,
  ⟨pI 119, "_law_small", "_law_small", top 120, []⟩,
  ⟨pI 120, "_law_same", "_law_same", top 121, []⟩,
  ⟨pI 121, "_law_texts_b", "_law_texts_b", top 122, []⟩,
  ⟨pI 122, "_law_inner", "_law_inner", top 123, []⟩,
  ⟨pI 123, "_law_place", "_law_place", top 124, []⟩,
  ⟨pI 124, "_law_index", "_law_index", top 125, []⟩,
  ⟨pI 125, "_law_free", "_law_free", top 126, []⟩,
  ⟨pI 126, "_law_miss_cells_b", "_law_miss_cells_b", top 127, []⟩,
  ⟨pI 127, "_law_classes", "_law_classes", top 128, []⟩,
  ⟨pI 128, "_law_denied", "_law_denied", top 129, []⟩,
  ⟨pI 129, "_law_dealt", "_law_dealt", top 130, []⟩,
  ⟨pI 130, "_law_dealt_all", "_law_dealt_all", top 131, []⟩,
  ⟨pI 131, "_law_even", "_law_even", top 132, []⟩,
  ⟨pI 132, "_law_frame", "_law_frame", top 133, []⟩,
  ⟨pI 133, "_law_bounds", "_law_bounds", top 134, []⟩,
  ⟨pI 134, "_law_slack_of", "_law_slack_of", top 135, []⟩,
  ⟨pI 135, "_law_some", "_law_some", top 136, []⟩]
def fnl3 : List DefN := [⟨pI 136, "_law_are_sharings", "_law_are_sharings", top 137, []⟩,
  ⟨pI 137, "_law_stopped_walk", "_law_stopped_walk", top 138, []⟩,
  ⟨pI 138, "_law_mean_of", "_law_mean_of", top 139, []⟩,
  ⟨pI 139, "_law_worth_of", "_law_worth_of", top 140, []⟩,
  ⟨pI 140, "_law_form", "_law_form", top 141, []⟩,
  ⟨pI 141, "_law_drawn", "_law_drawn", top 142, []⟩,
  ⟨pI 142, "_law_holds", "_law_holds", top 143, []⟩,
  ⟨pI 143, "_law_judged", "_law_judged", top 144, []⟩,
  ⟨pI 144, "_law_unlike", "_law_unlike", top 145, []⟩,
  ⟨pI 145, "_law_wrong", "_law_wrong", top 146, []⟩,
  ⟨pI 146, "law", "law", top 147, []⟩,
  ⟨pI 51, "check_count", "check_count", top 44, []⟩,
  ⟨pI 81, "check_count", "check_count", top 79, []⟩,
  ⟨pI 61, "is_row", "is_row", top 55, [("width", .int 2)]⟩,
  ⟨pI 62, "beginnings_of", "beginnings_of", top 56, [("width", .int 2)]⟩,
  ⟨pI 63, "all_beginnings", "all_beginnings", top 57, [("width", .int 2)]⟩,
  ⟨pI 102, "endings", "endings", top 102, [("width", .int 2)]⟩,
  ⟨pM 65 "__init__", "__init__", "Table.__init__", mem 60 0, []⟩,
  ⟨pM 65 "__len__", "__len__", "Table.__len__", mem 60 5, []⟩,
  ⟨pM 71 "__init__", "__init__", "Plan.__init__", mem 67 0, []⟩,
  ⟨pM 71 "__eq__", "__eq__", "Plan.__eq__", mem 67 7, []⟩,
  ⟨pM 12 "__init__", "__init__", "BadCount.__init__", mem 4 0, []⟩,
  ⟨pM 16 "__init__", "__init__", "BadRow.__init__", mem 8 0, []⟩,
  ⟨pP 65 "width", "width", "Table.width", mem 60 1, []⟩,
  ⟨pP 65 "rounds", "rounds", "Table.rounds", mem 60 2, []⟩,
  ⟨pP 65 "cells", "cells", "Table.cells", mem 60 3, []⟩,
  ⟨pP 71 "width", "width", "Plan.width", mem 67 1, []⟩,
  ⟨pP 71 "rounds", "rounds", "Plan.rounds", mem 67 2, []⟩,
  ⟨pP 71 "shares", "shares", "Plan.shares", mem 67 3, []⟩]
def fnl : List DefN := fnl0 ++ (fnl1 ++ (fnl2 ++ (fnl3)))
def kyl0 : List (Str × GK) := [("__name__", .any),
  ("__doc__", .any),
  ("__package__", .any),
  ("__loader__", .any),
  ("__spec__", .any),
  ("__annotations__", .any),
  ("__builtins__", .any),
  ("__file__", .any),
  ("__cached__", .any),
  ("NotBehindError", .ref),
  ("BadNumber", .ref),
  ("DivisionByZero", .ref),
  ("BadCount", .ref),
  ("BadSize", .ref),
  ("BadName", .ref),
  ("BadText", .ref),
  ("BadRow", .ref),
  ("BadShare", .ref),
  ("BadWeight", .ref),
  ("Mismatch", .ref),
  ("NoHelper", .ref),
  ("NotExact", .ref),
  ("Lacking", .ref),
  ("GameOver", .ref),
  ("NothingToTakeBack", .ref),
  ("UnknownName", .ref),
  ("TakenName", .ref),
  ("WrongKind", .ref),
  ("InUse", .ref),
  ("is_integer_value", .ref)]
def kyl1 : List (Str × GK) := [("parts_of", .ref),
  ("common_divisor", .ref),
  ("fraction", .ref),
  ("sum_of_two", .ref),
  ("product_of_two", .ref),
  ("opposite", .ref),
  ("order_of", .ref),
  ("add", .ref),
  ("sub", .ref),
  ("mul", .ref),
  ("div", .ref),
  ("compare", .ref),
  ("total", .ref),
  ("check_some", .ref),
  ("farthest_value", .ref),
  ("least", .ref),
  ("greatest", .ref),
  ("OUTCOMES", .str "01234"),
  ("WIDEST", .int 5),
  ("MOST_ROUNDS", .ref),
  ("check_count", .any),
  ("check_count_rows", .ref),
  ("check_shape", .ref),
  ("has_only", .ref),
  ("check_text", .ref),
  ("check_row", .ref),
  ("count_texts", .ref),
  ("next_texts", .ref),
  ("index_of", .ref),
  ("most_rounds", .ref)]
def kyl2 : List (Str × GK) := [("letters", .ref),
  ("is_row", .ref),
  ("beginnings_of", .ref),
  ("all_beginnings", .ref),
  ("check_same_shape", .ref),
  ("Table", .ref),
  ("WHOLE_SHARE", .ref),
  ("check_size", .ref),
  ("share_parts", .ref),
  ("is_sharing", .ref),
  ("sharing_at", .ref),
  ("Plan", .ref),
  ("MOST_LEVELS", .int 5),
  ("checked_levels", .ref),
  ("height", .ref),
  ("poured", .ref),
  ("reached_places", .ref),
  ("even_chances", .ref),
  ("fill", .ref),
  ("fill_shares", .ref),
  ("fill_chances", .ref),
  ("check_count_horizons", .ref),
  ("check_rounds", .ref),
  ("same_shape", .ref),
  ("GOES_ON", .int 0),
  ("ENDS", .int 1),
  ("IS_OVER", .int 2),
  ("check_ladder", .ref),
  ("ladder_bounds", .ref),
  ("misses_behind", .ref)]
def kyl3 : List (Str × GK) := [("chances_behind", .ref),
  ("next_values", .ref),
  ("inner_many", .ref),
  ("anytime_folds", .ref),
  ("anytime_fold", .ref),
  ("fold_levels", .ref),
  ("anytime_chooser", .ref),
  ("anytime_foe", .ref),
  ("anytime_slack", .ref),
  ("is_inner", .ref),
  ("check_stops", .ref),
  ("stop_marks", .ref),
  ("endings", .ref),
  ("stopped_misses", .ref),
  ("stopped_mean", .ref),
  ("anytime_paper", .ref),
  ("is_anytime_paper", .ref),
  ("_law_store", .ref),
  ("_law_mixed", .ref),
  ("_law_take", .ref),
  ("_law_edge", .ref),
  ("_law_gcd", .ref),
  ("_law_low", .ref),
  ("_law_plus", .ref),
  ("_law_minus", .ref),
  ("_law_times", .ref),
  ("_law_below", .ref),
  ("_law_sum", .ref),
  ("_law_lowest", .ref),
  ("_law_small", .ref)]
def kyl4 : List (Str × GK) := [("_law_same", .ref),
  ("_law_texts_b", .ref),
  ("_law_inner", .ref),
  ("_law_place", .ref),
  ("_law_index", .ref),
  ("_law_free", .ref),
  ("_law_miss_cells_b", .ref),
  ("_law_classes", .ref),
  ("_law_denied", .ref),
  ("_law_dealt", .ref),
  ("_law_dealt_all", .ref),
  ("_law_even", .ref),
  ("_law_frame", .ref),
  ("_law_bounds", .ref),
  ("_law_slack_of", .ref),
  ("_law_some", .ref),
  ("_law_are_sharings", .ref),
  ("_law_stopped_walk", .ref),
  ("_law_mean_of", .ref),
  ("_law_worth_of", .ref),
  ("_law_form", .ref),
  ("_law_drawn", .ref),
  ("_law_holds", .ref),
  ("_law_judged", .ref),
  ("_law_unlike", .ref),
  ("_law_wrong", .ref),
  ("law", .ref)]
def kyl : List (Str × GK) := kyl0 ++ (kyl1 ++ (kyl2 ++ (kyl3 ++ (kyl4))))
abbrev iTable : Nat := 65
abbrev iPlan : Nat := 71
abbrev iNotBehindError : Nat := 9
abbrev iBadNumber : Nat := 10
abbrev iBadCount : Nat := 12
abbrev iBadRow : Nat := 16
abbrev iMismatch : Nat := 19
abbrev iMOSTROUNDS : Nat := 49
abbrev iWHOLESHARE : Nat := 66
abbrev ilawunlike : Nat := 144
abbrev ilawwrong : Nat := 145
abbrev ilaw : Nat := 146
/-- the places of the classes that make exceptions -/
def kinl : List (Str × Nat) := [("BadNumber", 10), ("DivisionByZero", 11), ("BadCount", 12), ("BadSize", 13), ("BadName", 14), ("BadText", 15), ("BadRow", 16), ("BadShare", 17), ("BadWeight", 18), ("Mismatch", 19), ("NoHelper", 20), ("NotExact", 21), ("Lacking", 22), ("GameOver", 23), ("NothingToTakeBack", 24), ("UnknownName", 25), ("TakenName", 26), ("WrongKind", 27), ("InUse", 28)]
theorem kyl_nodup : (kyl.map (·.1)).Nodup := by decide +kernel
end Nb
end -- K2
section -- K3
set_option maxHeartbeats 1000000
namespace Nb
open PySem PySem.Spec PyProof.Rows L2
def propB (K : PySem.W.Frag) (C : Addr) (f : Str) : Bool := He.eqO (PySem.W.findIn K (.ref C) f) (some (some (.ref (He.ma K C f)))) && (He.eqO (PySem.W.specialIn K (.ref (He.ma K C f)) "__get__") (some (some (.builtin "property.__get__"))) && (decide (PySem.W.takesIn K (.ref (He.ma K C f)) = some true) && (match PySem.W.recIn K (He.ma K C f) "property" with
  | some (.ref _ :: _) => true
  | _ => false)))
theorem propB_ok {K : PySem.W.Frag} {C : Addr} {f : Str} (h : propB K C f = true) : PropOf K C f (He.ma K C f) (getA K (He.ma K C f)) := by
  obtain ⟨h1, h⟩ := He.ba h
  obtain ⟨h2, h⟩ := He.ba h
  obtain ⟨h3, h4⟩ := He.ba h
  refine ⟨He.eqO_ok h1, He.eqO_ok h2, of_decide_eq_true h3, ?_⟩
  unfold getA
  split at h4
  · rename_i g rest e
    exact ⟨rest, by rw [e]⟩
  · cases h4
def oexB (K : PySem.W.Frag) (C : Addr) : Bool := (match K.lookup C with
  | some ⟨.type t, _, .cls cd, sl⟩ => (match cd.mro, sl.toList with
    | .ref C' :: bm, [_, _, _, _, some (.builtin n), _] => decide (t = "type") && (decide (C' = C) && (decide (n = "ValueError.__new__") && (!cd.hasDel && (cd.hasDict && PySem.HandSPX.refsVE bm))))
    | _, _ => false)
  | _ => false) && (He.eqO (PySem.W.findIn K (.ref C) "__setattr__") (some (some (.builtin "object.__setattr__"))) && (decide (PySem.W.subIn K (.ref C) (.type "BaseException") = some true) && (decide (PySem.W.typeIn K (.ref C) = some (.type "type")) && PySem.W.keepIn K (.ref C))))
theorem oexB_ok {K : PySem.W.Frag} {C : Addr} (h : oexB K C = true) : OexC K C := by
  obtain ⟨h0, h⟩ := He.ba h
  obtain ⟨h1, h⟩ := He.ba h
  obtain ⟨h2, h⟩ := He.ba h
  obtain ⟨h3, h4⟩ := He.ba h
  refine ⟨?_, He.eqO_ok h1, of_decide_eq_true h2, of_decide_eq_true h3, h4⟩
  split at h0
  · rename_i t dd cd sl ho
    split at h0
    · rename_i C' bm k0 k1 k2 k3 n k5 hm hs
      obtain ⟨e1, h0⟩ := He.ba h0
      obtain ⟨e2, h0⟩ := He.ba h0
      obtain ⟨e3, h0⟩ := He.ba h0
      obtain ⟨e4, h0⟩ := He.ba h0
      obtain ⟨e5, e6⟩ := He.ba h0
      have e1 := of_decide_eq_true e1
      have e2 := of_decide_eq_true e2
      have e3 := of_decide_eq_true e3
      subst e1 e2 e3
      obtain ⟨nm, bs, mro, ns, qn, hd, sl0, sub, ab, col, del⟩ := cd
      dsimp only at hm e4 e5
      subst hm e5
      obtain rfl : del = false := by simpa using e4
      have hsl : sl = #[k0, k1, k2, k3, some (.builtin "ValueError.__new__"), k5] := by
        obtain ⟨l⟩ := sl
        rw [show l = _ from hs]
      subst hsl
      exact ⟨_, _, _, _, _, _, _, _, _, _, _, _, _, _, _, ho, e6⟩
    · cases h0
  · cases h0
def iniB (K : PySem.W.Frag) (C : Addr) : Bool := He.eqO (PySem.W.findIn K (.ref C) "__init__") (some (some (.ref (He.ma K C "__init__")))) && decide (PySem.W.typeIn K (.ref (He.ma K C "__init__")) = some (.type "function"))
def excqB (K : PySem.W.Frag) (C : Addr) : Bool := (PySem.W.clsIn K C).isSome && (He.eqO (PySem.W.findIn K (.ref C) "__getattribute__") (some (some (.builtin "BaseException.__getattribute__"))) && (He.eqO (PySem.W.findIn K (.ref C) "__getattr__") (some none) && (decide (PySem.W.subIn K (.ref C) (.type "BaseException") = some true) && (He.eqO (PySem.W.findIn K (.ref C) "__class__") (some (some (.builtin "object.__class__"))) &&
  (He.eqO (PySem.W.specialIn K (.builtin "object.__class__") "__get__") (some (some (.builtin "getset_descriptor.__get__"))) && (decide (PySem.W.takesIn K (.builtin "object.__class__") = some true) && decide (PySem.W.mroIn K C (.type "object") = some true)))))))
def kinB (K : PySem.W.Frag) (x0 : Str) (C : Addr) : Bool := kinl.all fun x => decide (PySem.W.kitOne K (.ref C) (.ref (pI x.2 K)) = some (decide (x.1 = x0)))
def veB (K : PySem.W.Frag) (C : Addr) : Bool := decide (PySem.W.kitOne K (.ref C) (.type "ValueError") = some true)
def clB (K : PySem.W.Frag) (C : Addr) : Bool := PySem.W.plainGet K C Str.empty && (PySem.W.hasDictIn K C && (PySem.W.plainOver K C && He.eqO (PySem.W.findIn K (.ref C) "__setattr__") (some (some (.builtin "object.__setattr__")))))
def mkB (K : PySem.W.Frag) (C : Addr) : Bool := PySem.W.makesIn K C && (He.eqO (PySem.W.findIn K (.ref C) "__init__") (some (some (.ref (He.ma K C "__init__")))) && (PySem.W.isFn K (.ref (He.ma K C "__init__")) && PySem.W.keepIn K (.ref C)))
def meB (K : PySem.W.Frag) (C : Addr) (m : Str) : Bool := He.eqO (PySem.W.findIn K (.ref C) m) (some (some (.ref (He.ma K C m)))) && (PySem.W.isFn K (.ref (He.ma K C m)) && PySem.W.keepIn K (.ref (He.ma K C m)))
def noB (K : PySem.W.Frag) (C : Addr) (fs : List Str) : Bool := fs.all fun f => He.eqO (PySem.W.findIn K (.ref C) f) (some none)
def exB (K : PySem.W.Frag) (C : Addr) : Bool := PySem.W.excIn K C He.veBase "ValueError.__new__" && (PySem.W.keepIn K (.ref C) && (decide (PySem.W.subIn K (.ref C) (.type "BaseException") = some true) && decide (PySem.W.typeIn K (.ref C) = some (.type "type"))))
def emB (K : PySem.W.Frag) (C D : Addr) : Bool := decide (PySem.W.exmOne K (.ref C) (.ref D) = some true)
/-- the module's name is a tuple of these -/
def tuB (K : PySem.W.Frag) (a : Addr) (vs : List He.Dv) : Bool := match K.lookup a with
  | some ⟨.type c, _, .seq its _, _⟩ => decide (c = "tuple") && (decide (its.size ≤ sizeLine) && He.relAll (vs.map (He.Dv.v K)) its.toList)
  | _ => false
theorem tuB_ok {K : PySem.W.Frag} {a : Addr} {vs : List He.Dv} (h : tuB K a vs = true) (H : Hp) : SqT K H a (vs.map (He.Dv.v K)) := by
  unfold tuB at h
  split at h
  · rename_i c d its n sl q
    obtain ⟨h1, h2⟩ := He.ba h
    obtain ⟨h3, h4⟩ := He.ba h2
    exact .inr ⟨_, its, n, q, congrArg Value.type (of_decide_eq_true h1), rfl, of_decide_eq_true h3, He.relAll_ok h4⟩
  · cases h
def planB (K : PySem.W.Frag) (C : Addr) (e : Addr) : Bool := He.eqO (PySem.W.findIn K (.ref C) "__class__") (some (some (.builtin "object.__class__"))) && (He.eqO (PySem.W.specialIn K (.builtin "object.__class__") "__get__") (some (some (.builtin "getset_descriptor.__get__"))) && (decide (PySem.W.takesIn K (.builtin "object.__class__") = some true) && (decide (PySem.W.mroIn K C (.type "object") = some true) &&
  (decide (PySem.W.kitOne K (.ref C) (.ref C) = some true) && (He.eqO (PySem.W.findIn K (.ref C) "__eq__") (some (some (.ref e))) && PySem.W.isFn K (.ref e))))))
def tfl : List Pth := [pI ilawunlike, pI ilawwrong]
def exl (K : PySem.W.Frag) : List Bool := [propB K (pI iTable K) "width", propB K (pI iTable K) "rounds", propB K (pI iTable K) "cells", propB K (pI iPlan K) "width", propB K (pI iPlan K) "rounds", propB K (pI iPlan K) "shares",
  planB K (pI iPlan K) (He.ma K (pI iPlan K) "__eq__"), oexB K (pI iBadCount K), oexB K (pI iBadRow K), iniB K (pI iBadCount K), iniB K (pI iBadRow K), excqB K (pI iBadNumber K), excqB K (pI iMismatch K), excqB K (pI iBadCount K), excqB K (pI iBadRow K),
  kinB K "BadNumber" (pI iBadNumber K), kinB K "Mismatch" (pI iMismatch K), kinB K "BadCount" (pI iBadCount K), kinB K "BadRow" (pI iBadRow K), veB K (pI iBadNumber K), veB K (pI iMismatch K), veB K (pI iBadCount K), veB K (pI iBadRow K), PySem.W.hasDictIn K (pI iBadCount K), PySem.W.hasDictIn K (pI iBadRow K),
  tuB K (pI iMOSTROUNDS K) [.int 8, .int 8, .int 5, .int 4, .int 3], tuB K (pI iWHOLESHARE K) [.int 1, .int 1], !decide (tAt K (pI ilawunlike K) = tAt K (pI ilawwrong K)),
  clB K (pI iTable K), clB K (pI iPlan K), mkB K (pI iTable K), mkB K (pI iPlan K), meB K (pI iTable K) "__len__", noB K (pI iTable K) ["own_width", "own_rounds", "own_cells"], noB K (pI iPlan K) ["held_width", "held_rounds", "held_shares", "held_places"], noB K (pI iBadCount K) ["found", "low", "high"], noB K (pI iBadRow K) ["found"],
  exB K (pI iBadNumber K), exB K (pI iMismatch K), emB K (pI iBadNumber K) (pI iNotBehindError K), emB K (pI iMismatch K) (pI iNotBehindError K), emB K (pI iBadCount K) (pI iNotBehindError K), emB K (pI iBadRow K) (pI iNotBehindError K)]
def chkN (K : PySem.W.Frag) : Bool := keysB (gEs K) kyl && (exl K).all id
end Nb
end -- K3
section -- KR0
set_option maxHeartbeats 0
namespace HR
open PySem PySem.W PySem.Calls PyProof.Rows Nb
abbrev R : OpenRow := OpenLaw.row PySem.Challenge.rw_notbehind_k79_whole_anytime_papers
abbrev qv : Program := view R.prog [147]
def names0 : List PySem.Str := ["NotBehindError", "BadNumber", "DivisionByZero", "BadCount", "BadSize", "BadName", "BadText", "BadRow", "BadShare", "BadWeight", "Mismatch", "NoHelper", "NotExact", "Lacking", "GameOver", "NothingToTakeBack", "UnknownName", "TakenName", "WrongKind", "InUse", "is_integer_value", "parts_of", "common_divisor", "fraction", "sum_of_two", "product_of_two", "opposite", "order_of", "add", "sub"]
def names1 : List PySem.Str := ["mul", "div", "compare", "total", "check_some", "farthest_value", "least", "greatest", "OUTCOMES", "WIDEST", "MOST_ROUNDS", "check_count", "check_count_rows", "check_shape", "has_only", "check_text", "check_row", "count_texts", "next_texts", "index_of", "most_rounds", "letters", "is_row", "beginnings_of", "all_beginnings", "check_same_shape", "Table", "WHOLE_SHARE", "check_size", "share_parts"]
def names2 : List PySem.Str := ["is_sharing", "sharing_at", "Plan", "MOST_LEVELS", "checked_levels", "height", "poured", "reached_places", "even_chances", "fill", "fill_shares", "fill_chances", "check_count_horizons", "check_rounds", "same_shape", "GOES_ON", "ENDS", "IS_OVER", "check_ladder", "ladder_bounds", "misses_behind", "chances_behind", "next_values", "inner_many", "anytime_folds", "anytime_fold", "fold_levels", "anytime_chooser", "anytime_foe", "anytime_slack"]
def names3 : List PySem.Str := ["is_inner", "check_stops", "stop_marks", "endings", "stopped_misses", "stopped_mean", "anytime_paper", "is_anytime_paper", "_law_store", "_law_mixed", "_law_take", "_law_edge", "_law_gcd", "_law_low", "_law_plus", "_law_minus", "_law_times", "_law_below", "_law_sum", "_law_lowest", "_law_small", "_law_same", "_law_texts_b", "_law_inner", "_law_place", "_law_index", "_law_free", "_law_miss_cells_b", "_law_classes", "_law_denied"]
def names4 : List PySem.Str := ["_law_dealt", "_law_dealt_all", "_law_even", "_law_frame", "_law_bounds", "_law_slack_of", "_law_some", "_law_are_sharings", "_law_stopped_walk", "_law_mean_of", "_law_worth_of", "_law_form", "_law_drawn", "_law_holds", "_law_judged", "_law_unlike", "_law_wrong"]
def names : List PySem.Str := names0 ++ names1 ++ names2 ++ names3 ++ names4
/-- the state behind the top -/
noncomputable def EF (w : World) (os : OsState) : Option SharedT := HandSHeadRun.endF (HandSHeadRun.stepQ (HandSHeadRun.denQ HandSHeadRun.tabQ) R.prog w) 20000 R.prog w os
noncomputable def seenF (s : SharedT) := HandSHeadRun.seenQ qv names (importedModules R.prog.main.body) (fun s => xlAt qv [] s && recOk R.toRowW.records s) s.abs
end HR
end -- KR0
section -- KR1
set_option maxHeartbeats 0
namespace HR
open PySem PySem.W PySem.Calls PyProof.Rows Nb
theorem run1 (w : World) (os : OsState) : (EF w os).map (fun s => HandSHeadRun.looksF R.prog (boot_heap w.params) s.abs) = some true := by kernel_rfl
end HR
end -- KR1
section -- KR2
set_option maxHeartbeats 0
namespace HR
open PySem PySem.W PySem.Calls PyProof.Rows Nb
theorem run2 (w : World) (os : OsState) : (EF w os).map seenF = some (openGood qv names) := by kernel_rfl
end HR
end -- KR2
section -- KR3
set_option maxHeartbeats 0
namespace HR
open PySem PySem.W PySem.Calls PyProof.Rows Nb
theorem run3 (w : World) (os : OsState) : (EF w os).map (fun s => (chkN (kN (HandSHeadRun.getT s)), emT (HandSHeadRun.getT s) (kN (HandSHeadRun.getT s)) tfl, fnl.map fun d => fnN (kN (HandSHeadRun.getT s)) (d.at_ (kN (HandSHeadRun.getT s))))) = some (true, true, fnl.map DefN.val) := by kernel_rfl
end HR
end -- KR3
section -- KR4
set_option maxHeartbeats 0
namespace HR
open PySem PySem.W PySem.Calls PyProof.Rows Nb
theorem run4 (w : World) (os : OsState) : (EF w os).map (fun s => fnl.all fun d => d.ok (kN (HandSHeadRun.getT s))) = some true := by kernel_rfl
end HR
end -- KR4
section -- NbA
set_option maxHeartbeats 1000000
namespace Nb
abbrev St := L2.St
open PySem PySem.Spec PyProof.Rows L2
inductive All2 {α β : Type} (R : α → β → Prop) : List α → List β → Prop where
  | nil : All2 R [] []
  | cons {a b as bs} (h : R a b) (t : All2 R as bs) : All2 R (a :: as) (b :: bs)
namespace All2
variable {α β : Type} {R S : α → β → Prop}
theorem length : ∀ {as : List α} {bs : List β}, All2 R as bs → as.length = bs.length
  | _, _, .nil => rfl
  | _, _, .cons _ t => congrArg Nat.succ t.length
theorem imp (f : ∀ a b, R a b → S a b) : ∀ {as : List α} {bs : List β}, All2 R as bs → All2 S as bs
  | _, _, .nil => .nil
  | _, _, .cons h t => .cons (f _ _ h) (t.imp f)
theorem get : ∀ {as : List α} {bs : List β} {i : Nat} {b : β}, All2 R as bs → bs[i]? = some b → ∃ a, as[i]? = some a ∧ R a b
  | _, _, _, _, .nil, e => by simp at e
  | _, _, 0, _, .cons h _, e => by simp at e; subst e; exact ⟨_, rfl, h⟩
  | _, _, i + 1, b, .cons _ t, e => by
    obtain ⟨a, e1, e2⟩ := get (i := i) (b := b) t (by simpa using e)
    exact ⟨a, by simpa using e1, e2⟩
theorem getL : ∀ {as : List α} {bs : List β} {i : Nat} {a : α}, All2 R as bs → as[i]? = some a → ∃ b, bs[i]? = some b ∧ R a b
  | _, _, _, _, .nil, e => by simp at e
  | _, _, 0, _, .cons h _, e => by simp at e; subst e; exact ⟨_, rfl, h⟩
  | _, _, i + 1, b, .cons _ t, e => by
    obtain ⟨a, e1, e2⟩ := getL (i := i) (a := b) t (by simpa using e)
    exact ⟨a, by simpa using e1, e2⟩
theorem set {a : α} {b : β} (h : R a b) : ∀ {as : List α} {bs : List β} (i : Nat), All2 R as bs → All2 R (as.set i a) (bs.set i b)
  | _, _, _, .nil => .nil
  | _, _, 0, .cons _ t => .cons h t
  | _, _, i + 1, .cons q t => .cons q (set h i t)
theorem append : ∀ {as cs : List α} {bs ds : List β}, All2 R as bs → All2 R cs ds → All2 R (as ++ cs) (bs ++ ds)
  | _, _, _, _, .nil, s => s
  | _, _, _, _, .cons h t, s => .cons h (append t s)
theorem take : ∀ {as : List α} {bs : List β} (n : Nat), All2 R as bs → All2 R (as.take n) (bs.take n)
  | _, _, 0, _ => .nil
  | _, _, _ + 1, .nil => .nil
  | _, _, n + 1, .cons h t => .cons h (take n t)
theorem drop : ∀ {as : List α} {bs : List β} (n : Nat), All2 R as bs → All2 R (as.drop n) (bs.drop n)
  | _, _, 0, h => h
  | _, _, _ + 1, .nil => .nil
  | _, _, n + 1, .cons _ t => drop n t
theorem reverse : ∀ {as : List α} {bs : List β}, All2 R as bs → All2 R as.reverse bs.reverse
  | _, _, .nil => .nil
  | _, _, .cons h t => by
    rw [List.reverse_cons, List.reverse_cons]
    exact append (reverse t) (.cons h .nil)
theorem of_eq {as : List α} {bs cs : List β} (h : All2 R as bs) (e : bs = cs) : All2 R as cs := e ▸ h
theorem mapL {γ : Type} (f : γ → α) : ∀ {l : List γ} {bs : List β}, (∀ (i : Nat) c b, l[i]? = some c → bs[i]? = some b → R (f c) b) → l.length = bs.length → All2 R (l.map f) bs
  | [], [], _, _ => .nil
  | c :: l, b :: bs, h, e => .cons (h 0 c b rfl rfl) (mapL f (fun i c' b' e1 e2 => h (i + 1) c' b' (by simpa using e1) (by simpa using e2)) (by simpa using e))
  | [], _ :: _, _, e => by simp at e
  | _ :: _, [], _, e => by simp at e
end All2
def Ex (H G : Hp) : Prop := ∀ a o, H a = some o → G a = some o
theorem Ex.refl (G : Hp) : Ex G G := fun _ _ h => h
theorem Ex.trans {G G1 G2 : Hp} (a : Ex G G1) (b : Ex G1 G2) : Ex G G2 := fun x o h => b x o (a x o h)
theorem Ex.new {p : Addr} {o : HO} {H : Hp} (h : H p = none) : Ex H (upd H p o) := fun a u e => by
  rw [upd_ne (ne_of_none e h)]
  exact e
theorem Ex.free {H H' : Hp} (e : Ex H H') {p : Addr} (h : H' p = none) : H p = none := by
  cases q : H p with
  | none => rfl
  | some o => rw [e p o q] at h; cases h
/-- the heap without the hidden ones -/
def hid (M : Addr → Bool) (H : Hp) : Hp := fun a => match M a with
  | true => none
  | false => H a
theorem hid_some {M : Addr → Bool} {H : Hp} {a : Addr} {o : HO} (h : hid M H a = some o) : M a = false ∧ H a = some o := by
  unfold hid at h
  cases e : M a with
  | true => rw [e] at h; cases h
  | false => rw [e] at h; exact ⟨rfl, h⟩
theorem hid_of {M : Addr → Bool} {H : Hp} {a : Addr} {o : HO} (m : M a = false) (h : H a = some o) : hid M H a = some o := by
  unfold hid; rw [m]; exact h
theorem hid_le {M : Addr → Bool} {H : Hp} : Ex (hid M H) H := fun _ _ h => (hid_some h).2
theorem hid_ex {M : Addr → Bool} {H H' : Hp} (e : ∀ a o, M a = false → H a = some o → H' a = some o) : Ex (hid M H) (hid M H') := fun a o h => by
  obtain ⟨m, q⟩ := hid_some h
  exact hid_of m (e a o m q)
theorem hid_mono {M : Addr → Bool} {H H' : Hp} (e : Ex H H') : Ex (hid M H) (hid M H') := hid_ex fun a o _ q => e a o q
theorem hid_less {M M' : Addr → Bool} {H : Hp} (e : ∀ a, M a = true → M' a = true) : Ex (hid M' H) (hid M H) := fun a o h => by
  obtain ⟨m, q⟩ := hid_some h
  refine hid_of ?_ q
  cases z : M a with
  | false => rfl
  | true => rw [e a z] at m; cases m
structure Ty where
  P : Hp → V → Prop
  mono : ∀ {H H' : Hp} {v : V}, Ex H H' → P H v → P H' v
/-- a known value -/
def tC (c : V) : Ty := ⟨fun _ v => v = c, fun _ h => h⟩
abbrev tI (i : Int) : Ty := tC (.int i)
abbrev tS (s : Str) : Ty := tC (.str s)
abbrev tB (b : Bool) : Ty := tC (.bl b)
abbrev tN : Ty := tC .non
abbrev tR (a : Addr) : Ty := tC (.ref a)
/-- any value -/
def tAny : Ty := ⟨fun _ _ => True, fun _ h => h⟩
def TyAll (H : Hp) (xs : List V) (Ts : List Ty) : Prop := All2 (fun v (T : Ty) => T.P H v) xs Ts
theorem TyAll.mono {H H' : Hp} {xs : List V} {Ts : List Ty} (e : Ex H H') (h : TyAll H xs Ts) : TyAll H' xs Ts := h.imp fun _ T q => T.mono e q
/-- a list of the program's own, a tuple -/
def tLst (Ts : List Ty) : Ty := ⟨fun H v => ∃ a xs, v = .ref a ∧ H a = some (.lst xs) ∧ TyAll H xs Ts, fun e ⟨a, xs, h1, h2, h3⟩ => ⟨a, xs, h1, e _ _ h2, h3.mono e⟩⟩
theorem sqT_ex {K : PySem.W.Frag} {H H' : Hp} {a : Addr} {xs : List V} (e : Ex H H') (h : SqT K H a xs) : SqT K H' a xs := by
  rcases h with (h | ⟨o, h⟩) | h
  · exact .inl (.inl (e _ _ h))
  · exact .inl (.inr ⟨o, e _ _ h⟩)
  · exact .inr h
theorem sqL_ex {K : PySem.W.Frag} {H H' : Hp} {a : Addr} {xs : List V} (e : Ex H H') (h : SqL K H a xs) : SqL K H' a xs := by
  rcases h with (h | ⟨o, h⟩) | h
  · exact .inl (.inl (e _ _ h))
  · exact .inl (.inr ⟨o, e _ _ h⟩)
  · exact .inr h
def tTup (K : PySem.W.Frag) (Ts : List Ty) : Ty := ⟨fun H v => ∃ a xs, v = .ref a ∧ SqT K H a xs ∧ TyAll H xs Ts, fun e ⟨a, xs, h1, h2, h3⟩ => ⟨a, xs, h1, sqT_ex e h2, h3.mono e⟩⟩
/-- a list or a tuple -/
def tSeq (K : PySem.W.Frag) (Ts : List Ty) : Ty := ⟨fun H v => (tLst Ts).P H v ∨ (tTup K Ts).P H v, fun e h => h.imp (Ty.mono _ e) (Ty.mono _ e)⟩
/-- some z with p z -/
def tEx {α : Type} (p : α → Prop) (T : α → Ty) : Ty := ⟨fun H v => ∃ z, p z ∧ (T z).P H v, fun e ⟨z, h, q⟩ => ⟨z, h, (T z).mono e q⟩⟩
def tOr (T U : Ty) : Ty := ⟨fun H v => T.P H v ∨ U.P H v, fun e h => h.imp (T.mono e) (U.mono e)⟩
/-- H0: the heap at the entry; M: the hidden addresses (lists that change); S: those of H0 that may change; Om: what holds of the hidden ones -/
structure HC where
  H0 : Hp
  M : Addr → Bool
  S : Addr → Bool
  /-- of the heap, and of the heap without the hidden -/
  Om : Hp → Hp → Prop
  om : ∀ {H H' D D' : Hp}, Ex H H' → Ex D D' → Om H D → Om H' D'
  loc : ∀ {p : Addr} {H H' D : Hp}, M p = false → (∀ a, a ≠ p → H' a = H a) → Om H D → Om H' D
  sm : ∀ a, S a = true → M a = true
structure Base (C : HC) (H : Hp) : Prop where
  old : ∀ a o, C.S a = false → C.H0 a = some o → H a = some o
  hidd : ∀ a, C.M a = true → ∃ o, H a = some o
  om : C.Om H (hid C.M H)
def Slot (G : Hp) : Option V → Option Ty → Prop
  | _, none => True
  | some v, some T => T.P G v
  | none, some _ => False
abbrev Env := List (Option Ty)
structure EnvOk (C : HC) (G : Env) (σ : St) (H : Hp) : Prop where
  base : Base C H
  env : All2 (Slot (hid C.M H)) σ G
theorem Slot.mono {G G' : Hp} (e : Ex G G') : ∀ {o : Option V} {T : Option Ty}, Slot G o T → Slot G' o T
  | _, none, _ => trivial
  | some _, some T, h => T.mono e h
  | none, some _, h => h.elim
theorem Base.ex {C : HC} {H H' : Hp} (b : Base C H) (e : Ex H H') : Base C H' :=
  ⟨fun a o s h => e a o (b.old a o s h), fun a m => let ⟨o, h⟩ := b.hidd a m; ⟨o, e a o h⟩, C.om e (hid_mono e) b.om⟩
theorem EnvOk.ex {C : HC} {G : Env} {σ : St} {H H' : Hp} (x : EnvOk C G σ H) (e : Ex H H') : EnvOk C G σ H' := ⟨x.base.ex e, x.env.imp fun _ _ h => h.mono (hid_mono e)⟩
theorem EnvOk.var {C : HC} {G : Env} {σ : St} {H : Hp} {i : Nat} {T : Ty} (x : EnvOk C G σ H) (h : G[i]? = some (some T)) : ∃ v, σ[i]? = some (some v) ∧ T.P (hid C.M H) v := by
  obtain ⟨o, e, q⟩ := x.env.get h
  cases o with
  | none => exact q.elim
  | some v => exact ⟨v, e, q⟩
theorem EnvOk.set {C : HC} {G : Env} {σ : St} {H : Hp} {i : Nat} {T : Ty} {v : V} (x : EnvOk C G σ H) (h : T.P (hid C.M H) v) : EnvOk C (G.set i (some T)) (σ.set i (some v)) H := ⟨x.base, x.env.set (b := some T) (a := some v) h i⟩
def tX (C : HC) (G : Env) (T : Ty) : TE := fun σ H Q => EnvOk C G σ H ∧ ∀ v H2, EnvOk C G σ H2 → Ex (hid C.M H) (hid C.M H2) → T.P (hid C.M H2) v → Q v H2
theorem PE.imp {X : Cx} {e : Expr} {t t' : TE} (h : PE X e t) (f : ∀ σ H Q, t' σ H Q → t σ H Q) : PE X e t' := ⟨fun pins s σ H Q I q => h.run pins s σ H Q I (f σ H Q q)⟩
def PX (X : Cx) (C : HC) (G : Env) (e : Expr) (T : Ty) : Prop := PE X e (tX C G T)
section
variable {X : Cx} {C : HC} {G : Env} {a b c e : Expr} {T U W : Ty} {pos : Pos}
theorem PX.sub (h : PX X C G e T) (f : ∀ H v, T.P H v → U.P H v) : PX X C G e U := PE.imp h fun σ H Q ⟨x, q⟩ => ⟨x, fun v H2 x2 e2 p => q v H2 x2 e2 (f _ _ p)⟩
theorem PX.cast (h : PX X C G e T) (f : T = U) : PX X C G e U := f ▸ h
/-- the env may be weakened -/
def EnvLe (G G' : Env) : Prop := ∀ (D : Hp) (σ : St), All2 (Slot D) σ G → All2 (Slot D) σ G'
theorem px_var {i : Nat} {x : Str} (h : G[i]? = some (some T)) (hN : X.N[i]? = some x) (hv : Vis X.env.scope x) (hd : (x == ("__debug__" : Str)) = false := by decide) (hcd : (x == ("__classdict__" : Str)) = false := by decide) : PX X C G (.Name x pos) T :=
  PE.imp (pe_var hN hv hd hcd) fun σ H Q ⟨x, q⟩ => let ⟨v, e, p⟩ := x.var h; ⟨v, e, q v H x (Ex.refl _) p⟩
theorem px_int {i j} : PX X C G (.Constant (.int i) j pos) (tI i) := PE.imp pe_int fun _ H _ ⟨x, q⟩ => q _ H x (Ex.refl _) rfl
theorem px_bl {i j} : PX X C G (.Constant (.bool i) j pos) (tB i) := PE.imp pe_bl fun _ H _ ⟨x, q⟩ => q _ H x (Ex.refl _) rfl
theorem px_str {i j} : PX X C G (.Constant (.str i) j pos) (tS i) := PE.imp pe_str fun _ H _ ⟨x, q⟩ => q _ H x (Ex.refl _) rfl
theorem px_non {j} : PX X C G (.Constant .none j pos) tN := PE.imp pe_non fun _ H _ ⟨x, q⟩ => q _ H x (Ex.refl _) rfl
/-- a module's constant -/
theorem px_glob {x : Str} {v : V} {u : Value} (hm : X.mg x = some u) (r : RelV v u) (hg : Gl X x := by rfl) (hd : (x == ("__debug__" : Str)) = false := by decide) : PX X C G (.Name x pos) (tC v) :=
  PE.imp (pe_glob hg hm r hd) fun _ H _ ⟨x, q⟩ => q _ H x (Ex.refl _) rfl
/-- a two-place step by values: what is asked of it -/
def R2Ok (C : HC) (r : R2) (T U W : Ty) : Prop := ∀ (H : Hp) (x y : V) (Q : VK), Base C H → T.P (hid C.M H) x → U.P (hid C.M H) y → (∀ v H2, Ex H H2 → W.P (hid C.M H2) v → Q v H2) → r x y H Q
theorem tOp_ok {r : R2} {ta tb : TE} (hr : R2Ok C r T U W) {σ : St} {H : Hp} {Q : VK} (h : tX C G W σ H Q) (ha : ∀ Q, tX C G T σ H Q → ta σ H Q) (hb : ∀ H Q, tX C G U σ H Q → tb σ H Q) : tOp r ta tb σ H Q := by
  obtain ⟨x, q⟩ := h
  refine ha _ ⟨x, fun v1 H1 x1 e1 p1 => hb H1 _ ⟨x1, fun v2 H2 x2 e2 p2 => hr H2 v1 v2 Q x2.base (T.mono e2 p1) p2 fun v H3 e3 p3 => ?_⟩⟩
  exact q v H3 (x2.ex e3) ((e1.trans e2).trans (hid_mono e3)) p3
theorem px_op {op : Operator} {r : R2} (ho : OpR X (binaryOp op) r) (hr : R2Ok C r T U W) (ha : PX X C G a T) (hb : PX X C G b U) : PX X C G (.BinOp a op b pos) W :=
  PE.imp (pe_op ho ha hb) fun _ _ _ h => tOp_ok hr h (fun _ q => q) fun _ _ q => q
theorem px_cmp {op : CmpOp} {r : R2} (ho : OpR X (compareOp op) r) (hr : R2Ok C r T U W) (ha : PX X C G a T) (hb : PX X C G b U) (hm : behindInMarks op b = false) : PX X C G (.Compare a [op] [b] pos) W :=
  PE.imp (pe_cmpR ho ha hb hm) fun _ _ _ h => tOp_ok hr h (fun _ q => q) fun _ _ q => q
theorem px_ixR {r : R2} (ho : IxR X r) (hr : R2Ok C r T U W) (ha : PX X C G a T) (hb : PX X C G b U) (hs : PlainIx b) : PX X C G (.Subscript a b pos) W :=
  PE.imp (pe_ix ho ha hb hs) fun _ _ _ h => tOp_ok hr h (fun _ q => q) fun _ _ q => q
/-- a one-place step -/
theorem px_un {op : UnaryOp} {r : V → Hp → VK → Prop} (ho : UnR X (unaryOp op) r) (hr : ∀ (H : Hp) (x : V) (Q : VK), T.P (hid C.M H) x → (∀ v, W.P (hid C.M H) v → Q v H) → r x H Q) (ha : PX X C G a T) : PX X C G (.UnaryOp op a pos) W :=
  PE.imp (pe_un ho ha) fun _ H Q ⟨x, q⟩ => ⟨x, fun v H2 x2 e2 p => hr H2 v Q p fun v' p' => q v' H2 x2 e2 p'⟩
end
end Nb
end -- NbA
section -- NbB
set_option maxHeartbeats 1000000
namespace Nb
open PySem PySem.Spec PyProof.Rows L2
def tXs (C : HC) (G : Env) (Ts : List Ty) : TA := fun σ H Q => EnvOk C G σ H ∧ ∀ vs H2, EnvOk C G σ H2 → Ex (hid C.M H) (hid C.M H2) → TyAll (hid C.M H2) vs Ts → Q vs H2
theorem PA.imp {X : Cx} {es : List Expr} {t t' : TA} (h : PA X es t) (f : ∀ σ H Q, t' σ H Q → t σ H Q) : PA X es t' := ⟨fun pos pins s σ H Q I q => h.run pos pins s σ H Q I (f σ H Q q)⟩
theorem PK.imp {X : Cx} {es : List Keyword} {t t' : TA} (h : PK X es t) (f : ∀ σ H Q, t' σ H Q → t σ H Q) : PK X es t' := ⟨fun pos pins s σ H Q I q => h.run pos pins s σ H Q I (f σ H Q q)⟩
theorem PT.imp {X : Cx} {e : Expr} {t t' : TT} (h : PT X e t) (f : ∀ σ H Q, t' σ H Q → t σ H Q) : PT X e t' := ⟨fun pins s σ H Q I q => h.run pins s σ H Q I (f σ H Q q)⟩
theorem PW.imp {X : Cx} {e : Expr} {t t' : TT} (h : PW X e t) (f : ∀ σ H Q, t' σ H Q → t σ H Q) : PW X e t' := ⟨fun wh pins s σ H Q I q => h.run wh pins s σ H Q I (f σ H Q q)⟩
theorem PSs.imp {X : Cx} {e : List Stmt} {t t' : TS} (h : PSs X e t) (f : ∀ D σ H, t' D σ H → t D σ H) : PSs X e t' := ⟨fun pins s σ H Q I q => h.run pins s σ H Q I (f Q σ H q)⟩
theorem PS.imp {X : Cx} {e : Stmt} {t t' : TS} (h : PS X e t) (f : ∀ D σ H, t' D σ H → t D σ H) : PS X e t' := ⟨fun pins s σ H Q I q => h.run pins s σ H Q I (f Q σ H q)⟩
theorem PG.imp {X : Cx} {e : Expr} {t t' : TG} (h : PG X e t) (f : ∀ v σ H Q, t' v σ H Q → t v σ H Q) : PG X e t' := ⟨fun pins s σ H v u Q I r q => h.run pins s σ H v u Q I r (f v σ H Q q)⟩
theorem PI.imp {X : Cx} {tg e : Expr} {t t' : TI} (h : PI X tg e t) (f : ∀ σ H Q, t' σ H Q → t σ H Q) : PI X tg e t' := ⟨fun pins s σ H R I q => h.run pins s σ H R I (f σ H R q)⟩
def PXs (X : Cx) (C : HC) (G : Env) (es : List Expr) (Ts : List Ty) : Prop := PA X es (tXs C G Ts)
def PXk (X : Cx) (C : HC) (G : Env) (es : List Keyword) (Ts : List Ty) : Prop := PK X es (tXs C G Ts)
section
variable {X : Cx} {C : HC} {G : Env} {a b c e : Expr} {es : List Expr} {T U W : Ty} {Ts : List Ty} {pos p pos2 : Pos}
theorem tCons_ok {ta : TE} {tr : TA} {σ : St} {H : Hp} {Q : List V → Hp → Prop} (h : tXs C G (T :: Ts) σ H Q) (ha : ∀ Q, tX C G T σ H Q → ta σ H Q) (hr : ∀ H Q, tXs C G Ts σ H Q → tr σ H Q) : tCons ta tr σ H Q := by
  obtain ⟨x, q⟩ := h
  exact ha _ ⟨x, fun v H1 x1 e1 p1 => hr H1 _ ⟨x1, fun vs H2 x2 e2 p2 => q (v :: vs) H2 x2 (e1.trans e2) (.cons (T.mono e2 p1) p2)⟩⟩
theorem pxs_nil : PXs X C G [] [] := PA.imp pa_nil fun _ H _ ⟨x, q⟩ => q [] H x (Ex.refl _) .nil
theorem pxs_cons (ha : PX X C G e T) (hr : PXs X C G es Ts) (hs : starEach (e :: es) X.env = (false, eval e X.env) :: starEach es X.env := by rfl) : PXs X C G (e :: es) (T :: Ts) :=
  PA.imp (pa_cons ha hr hs) fun _ _ _ h => tCons_ok h (fun _ q => q) fun _ _ q => q
theorem pxk_nil : PXk X C G [] [] := PK.imp pk_nil fun _ H _ ⟨x, q⟩ => q [] H x (Ex.refl _) .nil
theorem pxk_cons {nm : Option Str} {kpos : Pos} {kws : List Keyword} (ha : PX X C G e T) (hr : PXk X C G kws Ts) : PXk X C G (⟨nm, e, kpos⟩ :: kws) (T :: Ts) :=
  PK.imp (pk_cons ha hr) fun _ _ _ h => tCons_ok h (fun _ q => q) fun _ _ q => q
/-- the promise: M the hidden addresses (by the caller), z the arguments as data -/
def Pur {α : Type} (args : α → List Ty) (pre : α → Prop) (res : α → Ty) : Sp := fun vs H Q _ => ∃ (M : Addr → Bool) (z : α), (∀ a, M a = true → ∃ o, H a = some o) ∧ TyAll (hid M H) vs (args z) ∧ pre z ∧ ∀ v H', Ex H H' → (res z).P (hid M H') v → Q v H'
structure Ok (P : Program) (w : World) (K : PySem.W.Frag) (mg : Str → Option Value) (base : Heap) (k : Nat) (x : Str) (ps : List Str) (sp : Sp) : Prop where
  ex : ∃ f fd, mg x = some (.ref f) ∧ PySem.W.keepIn K (.ref f) = true ∧ Binds K fd ps [] ∧ FnOk P w K mg base CX0 k f fd ps sp
/-- .. called with keywords ks -/
structure OkK (P : Program) (w : World) (K : PySem.W.Frag) (mg : Str → Option Value) (base : Heap) (k : Nat) (x : Str) (ps ks : List Str) (sp : Sp) : Prop where
  ex : ∃ f fd, mg x = some (.ref f) ∧ PySem.W.keepIn K (.ref f) = true ∧ KBinds K fd ps ks (fun us ws => us ++ ws) (fun vs zs => vs ++ zs) ∧ FnOk P w K mg base CX0 k f fd ps sp
theorem pur_call {α : Type} {args : α → List Ty} {pre : α → Prop} {res : α → Ty} {σ : St} {H : Hp} {Q : VK} {E : XK} {vs : List V} (z : α) (hp : pre z) (x : EnvOk C G σ H) (hv : TyAll (hid C.M H) vs (args z))
    (q : ∀ v H2, EnvOk C G σ H2 → Ex (hid C.M H) (hid C.M H2) → (res z).P (hid C.M H2) v → Q v H2) : Pur args pre res vs H Q E :=
  ⟨C.M, z, x.base.hidd, hv, hp, fun v H' e p => q v H' (x.ex e) (hid_mono e) p⟩
theorem px_call {α : Type} {args : α → List Ty} {pre : α → Prop} {res : α → Ty} {x : Str} {j k : Nat} {ps : List Str} (F : Ok X.prog X.w X.K X.mg X.base j x ps (Pur args pre res)) (z : α) (hT : res z = T) (hr : Room k X.A) (ha : PXs X C G (e :: es) (args z)) (hp : pre z)
    (hj : j ≤ k := by decide) (hg : Gl X x := by rfl) (hdb : (x == ("__debug__" : Str)) = false := by decide) (he : starEach (e :: es) X.env = (false, eval e X.env) :: starEach es X.env := by rfl) (hpl : (backTo pos (starEach es X.env)).any (·.1) = false := by rfl) :
    PX X C G (.Call (.Name x p) (e :: es) [] pos) T := by
  obtain ⟨f, fd, hm, hk, hb, hF⟩ := F.ex
  subst hT
  refine PE.imp (pe_call (dvs := []) hF (hr.mono hj) hg hm hk hb .nil pass0 ha hdb he hpl) fun σ H Q ⟨x, q⟩ => ⟨x, fun vs H1 x1 e1 p1 => ?_⟩
  show Pur args pre res (vs ++ []) H1 Q E0
  rw [List.append_nil]
  exact pur_call z hp x1 p1 fun v H2 x2 e2 p2 => q v H2 x2 (e1.trans e2) p2
theorem px_callK {α : Type} {args : α → List Ty} {pre : α → Prop} {res : α → Ty} {x : Str} {j k : Nat} {ps ks : List Str} {kws : List Keyword} {Us : List Ty} (F : OkK X.prog X.w X.K X.mg X.base j x ps ks (Pur args pre res)) (z : α) (hT : res z = T) (hr : Room k X.A) (ha : PXs X C G (e :: es) Ts) (hkw : PXk X C G kws Us) (hTU : Ts ++ Us = args z) (hp : pre z)
    (hall : (backToKw pos (keywordEach kws X.env)).all (·.1.isSome) = true := by rfl) (hks : (backToKw pos (keywordEach kws X.env)).filterMap (·.1) = ks := by rfl)
    (hj : j ≤ k := by decide) (hg : Gl X x := by rfl) (hdb : (x == ("__debug__" : Str)) = false := by decide) (he : starEach (e :: es) X.env = (false, eval e X.env) :: starEach es X.env := by rfl) (hpl : ((backTo pos (starEach (e :: es) X.env)).any (·.1) || (backToKw pos (keywordEach kws X.env)).any (·.1.isNone)) = false := by rfl) :
    PX X C G (.Call (.Name x p) (e :: es) kws pos) T := by
  obtain ⟨f, fd, hm, hk, hb, hF⟩ := F.ex
  subst hT
  refine PE.imp (pe_callK hF (hr.mono hj) hg hm hk hb pass0 ha hkw hall hks hdb he hpl) fun σ H Q ⟨x, q⟩ => ⟨x, fun vs H1 x1 e1 p1 => ⟨x1, fun zs H2 x2 e2 p2 => ?_⟩⟩
  refine pur_call z hp x2 ?_ fun v H3 x3 e3 p3 => q v H3 x3 ((e1.trans e2).trans e3) p3
  rw [← hTU]
  exact (TyAll.mono e2 p1).append p2
/-- a built-in function or type that leaves the heap as it stands (or lays new objects) -/
def RCOk (C : HC) (r : List V → Hp → VK → Prop) (Ts : List Ty) (W : Ty) : Prop := ∀ (H : Hp) (vs : List V) (Q : VK), Base C H → TyAll (hid C.M H) vs Ts → (∀ v H2, Ex H H2 → W.P (hid C.M H2) v → Q v H2) → r vs H Q
theorem tCB_ok {r : List V → Hp → VK → Prop} (hr : RCOk C r Ts W) {σ : St} {H : Hp} {Q : VK} (h : tX C G W σ H Q) : tCB r (tXs C G Ts) σ H Q :=
  ⟨h.1, fun vs H1 x1 e1 p1 => hr H1 vs Q x1.base p1 fun v H2 e2 p2 => h.2 v H2 (x1.ex e2) (e1.trans (hid_mono e2)) p2⟩
theorem px_callB {id : String} {x : Str} {r : List V → Hp → VK → Prop} (hc : CallR X (.builtin id) r) (hr : RCOk C r Ts W) (hm : X.mg x = none) (hv : bootBuiltins x = some (.builtin id)) (ha : PXs X C G (e :: es) Ts) (hg : Gl X x := by rfl) (hn : x ≠ "__name__" := by decide) (hdb : (x == ("__debug__" : Str)) = false := by decide)
    (he : starEach (e :: es) X.env = (false, eval e X.env) :: starEach es X.env := by rfl) (hpl : (backTo pos (starEach es X.env)).any (·.1) = false := by rfl) : PX X C G (.Call (.Name x p) (e :: es) [] pos) W :=
  PE.imp (pe_callB hc hg hm hv ha hn hdb he hpl) fun _ _ _ h => tCB_ok hr h
theorem px_callTy {id : String} {x : Str} {r : List V → Hp → VK → Prop} (hc : CallR X (.type id) r) (hr : RCOk C r Ts W) (hm : X.mg x = none) (hv : bootBuiltins x = some (.type id)) (ha : PXs X C G (e :: es) Ts) (hg : Gl X x := by rfl) (hn : x ≠ "__name__" := by decide) (hdb : (x == ("__debug__" : Str)) = false := by decide)
    (he : starEach (e :: es) X.env = (false, eval e X.env) :: starEach es X.env := by rfl) (hpl : (backTo pos (starEach es X.env)).any (·.1) = false := by rfl) : PX X C G (.Call (.Name x p) (e :: es) [] pos) W :=
  PE.imp (pe_callTy hc hg hm hv ha hn hdb he hpl) fun _ _ _ h => tCB_ok hr h
theorem few {n : Nat} (h : Nat.ble n 100000 = true) : n ≤ sizeLine := Nat.le_trans (Nat.le_of_ble_eq_true h) (by decide)
theorem px_tup {k} (h : PXs X C G es Ts) (hl : Nat.ble Ts.length 100000 = true := by rfl) : PX X C G (.Tuple es k pos) (tTup X.K Ts) :=
  PE.imp (pe_tup h) fun σ H Q ⟨x, q⟩ => ⟨x, fun vs H1 x1 e1 p1 => ⟨by rw [p1.length]; exact few hl, fun p hp => by
    have e2 : Ex H1 (upd H1 p (.tup vs)) := Ex.new hp
    have mp : C.M p = false := by
      cases z : C.M p with
      | false => rfl
      | true => obtain ⟨o, ho⟩ := x1.base.hidd p z; rw [hp] at ho; cases ho
    exact q _ _ (x1.ex e2) (e1.trans (hid_mono e2)) ⟨p, vs, rfl, SqT.of (hid_of mp upd_same), p1.mono (hid_mono e2)⟩⟩⟩
theorem px_lst (h : PXs X C G es Ts) (hl : Nat.ble Ts.length 100000 = true := by rfl) : PX X C G (.List es pos) (tLst Ts) :=
  PE.imp (pe_lst h) fun σ H Q ⟨x, q⟩ => ⟨x, fun vs H1 x1 e1 p1 => ⟨by rw [p1.length]; exact few hl, fun p hp => by
    have e2 : Ex H1 (upd H1 p (.lst vs)) := Ex.new hp
    have mp : C.M p = false := by
      cases z : C.M p with
      | false => rfl
      | true => obtain ⟨o, ho⟩ := x1.base.hidd p z; rw [hp] at ho; cases ho
    exact q _ _ (x1.ex e2) (e1.trans (hid_mono e2)) ⟨p, vs, rfl, hid_of mp upd_same, p1.mono (hid_mono e2)⟩⟩⟩
end
theorem Base.fresh {C : HC} {H : Hp} (b : Base C H) {p : Addr} (h : H p = none) : C.M p = false := by
  cases z : C.M p with
  | false => rfl
  | true => obtain ⟨o, ho⟩ := b.hidd p z; rw [h] at ho; cases ho
section
variable {C : HC} {i j : Int} {T U W : Ty}
theorem r2_I0 {g : Int → Int → V} : R2Ok C (rI0 g) (tI i) (tI j) (tC (g i j)) := fun H x y Q _ hx hy q => ⟨i, j, hx, hy, q _ H (Ex.refl H) rfl⟩
theorem r2_I {D : Int → Int → Prop} {g : Int → Int → V} (hc : D i j) : R2Ok C (rI D g) (tI i) (tI j) (tC (g i j)) := fun H x y Q _ hx hy q => ⟨i, j, hx, hy, hc, q _ H (Ex.refl H) rfl⟩
theorem r2_eq {x y : V} (h : scal x y = true) : R2Ok C rEq (tC x) (tC y) (tB (decide (x = y))) := fun H x' y' Q _ hx hy q => by
  rw [show x' = x from hx, show y' = y from hy]
  exact ⟨h, q _ H (Ex.refl H) rfl⟩
theorem r2_ne {x y : V} (h : scal x y = true) : R2Ok C rNe (tC x) (tC y) (tB (!decide (x = y))) := fun H x' y' Q _ hx hy q => by
  rw [show x' = x from hx, show y' = y from hy]
  exact ⟨h, q _ H (Ex.refl H) rfl⟩
end
section
variable {X : Cx} {C : HC} {G : Env} {a b c e : Expr} {es : List Expr} {T U W : Ty} {Ts : List Ty} {pos p pos2 : Pos} {i j : Int} {s t : Str} {x y : Bool}
theorem px_add (ha : PX X C G a (tI i)) (hb : PX X C G b (tI j)) : PX X C G (.BinOp a .Add b pos) (tI (i + j)) := px_op op_add r2_I0 ha hb
theorem px_sub (ha : PX X C G a (tI i)) (hb : PX X C G b (tI j)) : PX X C G (.BinOp a .Sub b pos) (tI (i - j)) := px_op op_sub r2_I0 ha hb
theorem px_mulW (ha : PX X C G a (tI i)) (hb : PX X C G b (tI j)) (hc : CMulW i j) : PX X C G (.BinOp a .Mult b pos) (tI (i * j)) := px_op op_mulW (r2_I hc) ha hb
theorem px_mul (ha : PX X C G a (tI i)) (hb : PX X C G b (tI j)) (hc : CMul i j) : PX X C G (.BinOp a .Mult b pos) (tI (i * j)) := px_op op_mul (r2_I hc) ha hb
theorem px_fdivW (ha : PX X C G a (tI i)) (hb : PX X C G b (tI j)) (hc : CDivW i j) : PX X C G (.BinOp a .FloorDiv b pos) (tI (i / j)) := px_op op_fdivW (r2_I hc) ha hb
theorem px_fdiv (ha : PX X C G a (tI i)) (hb : PX X C G b (tI j)) (hc : CDiv i j) : PX X C G (.BinOp a .FloorDiv b pos) (tI (i / j)) := px_op op_fdiv (r2_I hc) ha hb
theorem px_mod (ha : PX X C G a (tI i)) (hb : PX X C G b (tI j)) (hc : 0 < j) : PX X C G (.BinOp a .Mod b pos) (tI (i % j)) := px_op op_mod (r2_I hc) ha hb
theorem px_pow (ha : PX X C G a (tI i)) (hb : PX X C G b (tI j)) (hc : CPow i j) : PX X C G (.BinOp a .Pow b pos) (tI (i ^ j.toNat)) := px_op op_pow (r2_I hc) ha hb
theorem px_neg (ha : PX X C G a (tI i)) : PX X C G (.UnaryOp .USub a pos) (tI (-i)) := px_un un_neg (fun H x Q hx q => ⟨i, hx, q _ rfl⟩) ha
theorem px_lt (ha : PX X C G a (tI i)) (hb : PX X C G b (tI j)) : PX X C G (.Compare a [.Lt] [b] pos) (tB (decide (i < j))) := px_cmp op_lt r2_I0 ha hb (nomark _)
theorem px_le (ha : PX X C G a (tI i)) (hb : PX X C G b (tI j)) : PX X C G (.Compare a [.LtE] [b] pos) (tB (decide (i ≤ j))) := px_cmp op_le r2_I0 ha hb (nomark _)
theorem px_gt (ha : PX X C G a (tI i)) (hb : PX X C G b (tI j)) : PX X C G (.Compare a [.Gt] [b] pos) (tB (decide (j < i))) := px_cmp op_gt r2_I0 ha hb (nomark _)
theorem px_ge (ha : PX X C G a (tI i)) (hb : PX X C G b (tI j)) : PX X C G (.Compare a [.GtE] [b] pos) (tB (decide (j ≤ i))) := px_cmp op_ge r2_I0 ha hb (nomark _)
theorem eq_dec_int : decide (V.int i = V.int j) = decide (i = j) := by
  by_cases h : i = j
  · subst h; simp
  · rw [decide_eq_false h, decide_eq_false (fun q => h (V.int.inj q))]
theorem eq_dec_str : decide (V.str s = V.str t) = decide (s = t) := by
  by_cases h : s = t
  · subst h; simp
  · rw [decide_eq_false h, decide_eq_false (fun q => h (V.str.inj q))]
theorem px_eq (ha : PX X C G a (tI i)) (hb : PX X C G b (tI j)) : PX X C G (.Compare a [.Eq] [b] pos) (tB (decide (i = j))) := (px_cmp op_eq (r2_eq rfl) ha hb (nomark _)).cast (by rw [eq_dec_int])
theorem px_ne (ha : PX X C G a (tI i)) (hb : PX X C G b (tI j)) : PX X C G (.Compare a [.NotEq] [b] pos) (tB (!decide (i = j))) := (px_cmp op_ne (r2_ne rfl) ha hb (nomark _)).cast (by rw [eq_dec_int])
theorem px_eqS (ha : PX X C G a (tS s)) (hb : PX X C G b (tS t)) : PX X C G (.Compare a [.Eq] [b] pos) (tB (decide (s = t))) := (px_cmp op_eq (r2_eq rfl) ha hb (nomark _)).cast (by rw [eq_dec_str])
def tXt (C : HC) (G : Env) (b : Bool) : TT := fun σ H Q => EnvOk C G σ H ∧ ∀ H2, EnvOk C G σ H2 → Ex (hid C.M H) (hid C.M H2) → Q b H2
def PXt (X : Cx) (C : HC) (G : Env) (e : Expr) (b : Bool) : Prop := PT X e (tXt C G b)
def PXw (X : Cx) (C : HC) (G : Env) (e : Expr) (b : Bool) : Prop := PW X e (tXt C G b)
theorem pt_when {e : Expr} {t : TT} {P : Prop} (h : P → PT X e t) : PT X e (fun σ H Q => P ∧ t σ H Q) := ⟨fun pins s σ H Q I ⟨p, q⟩ => (h p).run pins s σ H Q I q⟩
theorem pw_when {e : Expr} {t : TT} {P : Prop} (h : P → PW X e t) : PW X e (fun σ H Q => P ∧ t σ H Q) := ⟨fun wh pins s σ H Q I ⟨p, q⟩ => (h p).run wh pins s σ H Q I q⟩
theorem pe_when {e : Expr} {t : TE} {P : Prop} (h : P → PE X e t) : PE X e (fun σ H Q => P ∧ t σ H Q) := ⟨fun pins s σ H Q I ⟨p, q⟩ => (h p).run pins s σ H Q I q⟩
theorem PXt.cast (h : PXt X C G e x) (f : x = y) : PXt X C G e y := f ▸ h
theorem pxt_val (h : PX X C G e (tB x)) (he : ∀ whole, isTrue e X.env whole = (do let v ← whole; standAt e.pos; holding [v] (truthy v)) := by intro _; rfl) : PXt X C G e x :=
  PT.imp (pt_val h he) fun σ H Q ⟨ok, q⟩ => ⟨ok, fun v H2 x2 e2 p => ⟨x, p, q H2 x2 e2⟩⟩
theorem pxt_cmpR {op : CmpOp} {r : R2} (ho : OpR X (compareOp op) r) (hr : R2Ok C r T U (tB x)) (ha : PX X C G a T) (hb : PX X C G b U) (hm : behindInMarks op b = false) : PXt X C G (.Compare a [op] [b] pos) x :=
  PT.imp (pt_cmpR ho ha hb hm) fun σ H Q ⟨ok, q⟩ => tOp_ok hr (W := tB x) (Q := fun v H' => ∃ k, v = .bl k ∧ Q k H') ⟨ok, fun v H2 x2 e2 p => ⟨x, p, q H2 x2 e2⟩⟩ (fun _ q => q) fun _ _ q => q
theorem pxt_lt (ha : PX X C G a (tI i)) (hb : PX X C G b (tI j)) : PXt X C G (.Compare a [.Lt] [b] pos) (decide (i < j)) := pxt_cmpR op_lt r2_I0 ha hb (nomark _)
theorem pxt_le (ha : PX X C G a (tI i)) (hb : PX X C G b (tI j)) : PXt X C G (.Compare a [.LtE] [b] pos) (decide (i ≤ j)) := pxt_cmpR op_le r2_I0 ha hb (nomark _)
theorem pxt_gt (ha : PX X C G a (tI i)) (hb : PX X C G b (tI j)) : PXt X C G (.Compare a [.Gt] [b] pos) (decide (j < i)) := pxt_cmpR op_gt r2_I0 ha hb (nomark _)
theorem pxt_ge (ha : PX X C G a (tI i)) (hb : PX X C G b (tI j)) : PXt X C G (.Compare a [.GtE] [b] pos) (decide (j ≤ i)) := pxt_cmpR op_ge r2_I0 ha hb (nomark _)
theorem pxt_eq (ha : PX X C G a (tI i)) (hb : PX X C G b (tI j)) : PXt X C G (.Compare a [.Eq] [b] pos) (decide (i = j)) := (pxt_cmpR op_eq (r2_eq rfl) ha hb (nomark _)).cast eq_dec_int
theorem pxt_ne (ha : PX X C G a (tI i)) (hb : PX X C G b (tI j)) : PXt X C G (.Compare a [.NotEq] [b] pos) (!decide (i = j)) := (pxt_cmpR op_ne (r2_ne rfl) ha hb (nomark _)).cast (by rw [eq_dec_int])
theorem pxt_not (h : PXt X C G a x) : PXt X C G (.UnaryOp .Not a pos) (!x) := PT.imp (pt_not h) fun σ H Q ⟨ok, q⟩ => ⟨ok, fun H2 x2 e2 => q H2 x2 e2⟩
theorem pxw_and1 (h : PXt X C G a x) : PXw X C G (.BoolOp .And [a] pos) x := pw_and1 h
theorem pxw_or1 (h : PXt X C G a x) : PXw X C G (.BoolOp .Or [a] pos) x := pw_or1 h
theorem pxw_and {rest : List Expr} (h : PXt X C G a x) (hb : x = true → PXw X C G (.BoolOp .And (b :: rest) pos) y) : PXw X C G (.BoolOp .And (a :: b :: rest) pos) (x && y) :=
  PW.imp (pw_and h (pw_when hb)) fun σ H Q ⟨ok, q⟩ => ⟨ok, fun H1 x1 e1 => by
    cases x with
    | true => exact ⟨rfl, x1, fun H2 x2 e2 => q H2 x2 (e1.trans e2)⟩
    | false => exact q H1 x1 e1⟩
theorem pxw_or {rest : List Expr} (h : PXt X C G a x) (hb : x = false → PXw X C G (.BoolOp .Or (b :: rest) pos) y) : PXw X C G (.BoolOp .Or (a :: b :: rest) pos) (x || y) :=
  PW.imp (pw_or h (pw_when hb)) fun σ H Q ⟨ok, q⟩ => ⟨ok, fun H1 x1 e1 => by
    cases x with
    | false => exact ⟨rfl, x1, fun H2 x2 e2 => q H2 x2 (e1.trans e2)⟩
    | true => exact q H1 x1 e1⟩
theorem pxt_w (h : PXw X C G e x) : PXt X C G e x := h.pt
/-- as values -/
theorem px_one {op} (h : PX X C G a T) : PX X C G (.BoolOp op [a] pos) T := PE.imp (pe_one h) fun _ _ _ q => q
theorem px_and {rest : List Expr} (h : PX X C G a (tB x)) (hb : x = true → PX X C G (.BoolOp .And (b :: rest) pos) (tB y)) : PX X C G (.BoolOp .And (a :: b :: rest) pos) (tB (x && y)) :=
  PE.imp (pe_and h (pe_when hb)) fun σ H Q ⟨ok, q⟩ => ⟨ok, fun v H1 x1 e1 p => ⟨x, p, by
    cases x with
    | true => exact ⟨rfl, x1, fun v H2 x2 e2 p2 => q v H2 x2 (e1.trans e2) p2⟩
    | false => exact q _ H1 x1 e1 rfl⟩⟩
theorem px_or {rest : List Expr} (h : PX X C G a (tB x)) (hb : x = false → PX X C G (.BoolOp .Or (b :: rest) pos) (tB y)) : PX X C G (.BoolOp .Or (a :: b :: rest) pos) (tB (x || y)) :=
  PE.imp (pe_or h (pe_when hb)) fun σ H Q ⟨ok, q⟩ => ⟨ok, fun v H1 x1 e1 p => ⟨x, p, by
    cases x with
    | false => exact ⟨rfl, x1, fun v H2 x2 e2 p2 => q v H2 x2 (e1.trans e2) p2⟩
    | true => exact q _ H1 x1 e1 rfl⟩⟩
theorem px_not (h : PX X C G a (tB x)) : PX X C G (.UnaryOp .Not a pos) (tB (!x)) := PE.imp (pe_not h) fun σ H Q ⟨ok, q⟩ => ⟨ok, fun v H1 x1 e1 p => ⟨x, p, q _ H1 x1 e1 rfl⟩⟩
theorem px_if {c : Expr} (hc : PXt X C G c x) (ha : x = true → PX X C G a T) (hb : x = false → PX X C G b T) : PX X C G (.IfExp c a b pos) T :=
  PE.imp (pe_ifExp hc (pe_when ha) (pe_when hb)) fun σ H Q ⟨ok, q⟩ => ⟨ok, fun H1 x1 e1 => by
    cases x with
    | true => exact ⟨rfl, x1, fun v H2 x2 e2 p2 => q v H2 x2 (e1.trans e2) p2⟩
    | false => exact ⟨rfl, x1, fun v H2 x2 e2 p2 => q v H2 x2 (e1.trans e2) p2⟩⟩
theorem ixT_ok {K : PySem.W.Frag} {n : Int} (h : atI Ts n = some T) : R2Ok C (rIxT K) (tTup K Ts) (tI n) T := fun H x y Q _ hx hy q => by
  obtain ⟨a, xs, rfl, h2, h3⟩ := hx
  obtain ⟨j, e1, e2, _, _, _⟩ := atI_get h
  obtain ⟨v, e3, e4⟩ := h3.get e2
  refine ⟨a, xs, n, v, rfl, hy, sqT_ex hid_le h2, ?_, q v H (Ex.refl H) e4⟩
  unfold atI at h ⊢
  rw [h3.length]
  cases z : ixN Ts.length n with
  | none => rw [z] at h; cases h
  | some j' =>
    have : j' = j := by
      have := (ixN_seq z).1
      rw [e1] at this
      exact (Option.some.inj this).symm
    subst this
    exact e3
theorem ixL_ok {K : PySem.W.Frag} {n : Int} (h : atI Ts n = some T) : R2Ok C (rIxL K) (tLst Ts) (tI n) T := fun H x y Q _ hx hy q => by
  obtain ⟨a, xs, rfl, h2, h3⟩ := hx
  obtain ⟨j, e1, e2, _, _, _⟩ := atI_get h
  obtain ⟨v, e3, e4⟩ := h3.get e2
  refine ⟨a, xs, n, v, rfl, hy, SqL.of (hid_le _ _ h2), ?_, q v H (Ex.refl H) e4⟩
  unfold atI at h ⊢
  rw [h3.length]
  cases z : ixN Ts.length n with
  | none => rw [z] at h; cases h
  | some j' =>
    have : j' = j := by
      have := (ixN_seq z).1
      rw [e1] at this
      exact (Option.some.inj this).symm
    subst this
    exact e3
theorem px_ixT {n : Int} (ha : PX X C G a (tTup X.K Ts)) (hb : PX X C G b (tI n)) (h : atI Ts n = some T) (hs : PlainIx b := by intro _ _; rfl) : PX X C G (.Subscript a b pos) T := px_ixR ix_tup (ixT_ok h) ha hb hs
theorem px_ixL {n : Int} (ha : PX X C G a (tLst Ts)) (hb : PX X C G b (tI n)) (h : atI Ts n = some T) (hs : PlainIx b := by intro _ _; rfl) : PX X C G (.Subscript a b pos) T := px_ixR ix_list (ixL_ok h) ha hb hs
theorem px_ixQ {n : Int} (ha : PX X C G a (tSeq X.K Ts)) (hb : PX X C G b (tI n)) (h : atI Ts n = some T) (hs : PlainIx b := by intro _ _; rfl) : PX X C G (.Subscript a b pos) T :=
  px_ixR (ix_list.or ix_tup) (T := tSeq X.K Ts) (U := tI n) (fun H x y Q bs hx hy q => hx.elim (fun hx => .inl (ixL_ok h H x y Q bs hx hy q)) fun hx => .inr (ixT_ok h H x y Q bs hx hy q)) ha hb hs
theorem len_ok {K : PySem.W.Frag} : RCOk C (fun xs H Q => ∃ p ys, xs = [.ref p] ∧ (SqL K H p ys ∨ SqT K H p ys) ∧ Q (.int (ys.length : Nat)) H) [tSeq K Ts] (tI (Ts.length : Nat)) := fun H vs Q _ h q => by
  cases h with
  | cons h t =>
    cases t
    rcases h with ⟨a, xs, rfl, h2, h3⟩ | ⟨a, xs, rfl, h2, h3⟩
    · exact ⟨a, xs, rfl, .inl (SqL.of (hid_le _ _ h2)), q _ H (Ex.refl H) (by rw [h3.length]; rfl)⟩
    · exact ⟨a, xs, rfl, .inr (sqT_ex hid_le h2), q _ H (Ex.refl H) (by rw [h3.length]; rfl)⟩
theorem px_lenQ (hm : X.mg "len" = none) (ha : PX X C G e (tSeq X.K Ts)) (hg : Gl X "len" := by rfl) (he : starEach [e] X.env = (false, eval e X.env) :: starEach [] X.env := by rfl) : PX X C G (.Call (.Name "len" p) [e] [] pos) (tI (Ts.length : Nat)) :=
  px_callB call_len_seq len_ok hm PySem.boot_len (pxs_cons ha pxs_nil he) hg (he := he)
theorem PX.seqL (h : PX X C G e (tLst Ts)) : PX X C G e (tSeq X.K Ts) := h.sub fun _ _ h => .inl h
theorem PX.seqT (h : PX X C G e (tTup X.K Ts)) : PX X C G e (tSeq X.K Ts) := h.sub fun _ _ h => .inr h
theorem px_lenL (hm : X.mg "len" = none) (ha : PX X C G e (tLst Ts)) (hg : Gl X "len" := by rfl) (he : starEach [e] X.env = (false, eval e X.env) :: starEach [] X.env := by rfl) : PX X C G (.Call (.Name "len" p) [e] [] pos) (tI (Ts.length : Nat)) := px_lenQ hm ha.seqL hg he
theorem px_lenT (hm : X.mg "len" = none) (ha : PX X C G e (tTup X.K Ts)) (hg : Gl X "len" := by rfl) (he : starEach [e] X.env = (false, eval e X.env) :: starEach [] X.env := by rfl) : PX X C G (.Call (.Name "len" p) [e] [] pos) (tI (Ts.length : Nat)) := px_lenQ hm ha.seqT hg he
theorem px_lenS (hm : X.mg "len" = none) (ha : PX X C G e (tS s)) (hs : s.length ≤ sizeLine) (hg : Gl X "len" := by rfl) (he : starEach [e] X.env = (false, eval e X.env) :: starEach [] X.env := by rfl) : PX X C G (.Call (.Name "len" p) [e] [] pos) (tI (s.length : Nat)) :=
  px_callB call_len_str (Ts := [tS s]) (fun H vs Q _ h q => by
    cases h with
    | cons h t => cases t; exact ⟨s, by rw [show _ = V.str s from h], hs, q _ H (Ex.refl H) rfl⟩) hm PySem.boot_len (pxs_cons ha pxs_nil he) hg (he := he)
theorem px_abs (hm : X.mg "abs" = none) (hv : bootBuiltins "abs" = some (.builtin "abs")) (ha : PX X C G e (tI i)) (hg : Gl X "abs" := by rfl) (he : starEach [e] X.env = (false, eval e X.env) :: starEach [] X.env := by rfl) : PX X C G (.Call (.Name "abs" p) [e] [] pos) (tI (if i < 0 then -i else i)) :=
  px_callB call_abs (Ts := [tI i]) (fun H vs Q _ h q => by
    cases h with
    | cons h t => cases t; exact ⟨i, by rw [show _ = V.int i from h], q _ H (Ex.refl H) rfl⟩) hm hv (pxs_cons ha pxs_nil he) hg (he := he)
theorem px_toInt (hm : X.mg "int" = none) (hv : bootBuiltins "int" = some (.type "int")) (ha : PX X C G e (tI i)) (hg : Gl X "int" := by rfl) (he : starEach [e] X.env = (false, eval e X.env) :: starEach [] X.env := by rfl) : PX X C G (.Call (.Name "int" p) [e] [] pos) (tI i) :=
  px_callTy call_int1 (Ts := [tI i]) (fun H vs Q _ h q => by
    cases h with
    | cons h t => cases t; exact .inl ⟨i, by rw [show _ = V.int i from h], q _ H (Ex.refl H) rfl⟩) hm hv (pxs_cons ha pxs_nil he) hg (he := he)
theorem px_toIntB (hm : X.mg "int" = none) (hv : bootBuiltins "int" = some (.type "int")) (ha : PX X C G e (tB x)) (hg : Gl X "int" := by rfl) (he : starEach [e] X.env = (false, eval e X.env) :: starEach [] X.env := by rfl) : PX X C G (.Call (.Name "int" p) [e] [] pos) (tI (if x then 1 else 0)) :=
  px_callTy call_int1 (Ts := [tB x]) (fun H vs Q _ h q => by
    cases h with
    | cons h t => cases t; exact .inr ⟨x, by rw [show _ = V.bl x from h], q _ H (Ex.refl H) rfl⟩) hm hv (pxs_cons ha pxs_nil he) hg (he := he)
end
end Nb
end -- NbB
section -- NbC
set_option maxHeartbeats 1000000
namespace Nb
open PySem PySem.Spec PyProof.Rows L2
theorem PB_when {X : Cx} {ss : List Stmt} {t : TS} {P : Prop} (h : P → PSs X ss t) : PSs X ss (fun D σ H => P ∧ t D σ H) := ⟨fun pins s σ H Q I ⟨p, q⟩ => (h p).run pins s σ H Q I q⟩
theorem PB_ex {X : Cx} {ss : List Stmt} {β : Type} {t : β → TS} (h : ∀ z, PSs X ss (t z)) : PSs X ss (fun D σ H => ∃ z, t z D σ H) := ⟨fun pins s σ H Q I ⟨z, q⟩ => (h z).run pins s σ H Q I q⟩
theorem PG_ex {X : Cx} {tg : Expr} {β : Type} {t : β → TG} (h : ∀ z, PG X tg (t z)) : PG X tg (fun v σ H Q => ∃ z, t z v σ H Q) := ⟨fun pins s σ H v u Q I r ⟨z, q⟩ => (h z).run pins s σ H v u Q I r q⟩
theorem PG_when {X : Cx} {tg : Expr} {t : TG} {P : Prop} (h : P → PG X tg t) : PG X tg (fun v σ H Q => P ∧ t v σ H Q) := ⟨fun pins s σ H v u Q I r ⟨p, q⟩ => (h p).run pins s σ H v u Q I r q⟩
theorem PE_ex {X : Cx} {e : Expr} {β : Type} {t : β → TE} (h : ∀ z, PE X e (t z)) : PE X e (fun σ H Q => ∃ z, t z σ H Q) := ⟨fun pins s σ H Q I ⟨z, q⟩ => (h z).run pins s σ H Q I q⟩
theorem PTs_ex {X : Cx} {e : List Expr} {β : Type} {t : β → TT} (h : ∀ z, PTs X e (t z)) : PTs X e (fun σ H Q => ∃ z, t z σ H Q) := ⟨fun pins s σ H Q I ⟨z, q⟩ => (h z).run pins s σ H Q I q⟩
theorem PTs_when {X : Cx} {e : List Expr} {t : TT} {P : Prop} (h : P → PTs X e t) : PTs X e (fun σ H Q => P ∧ t σ H Q) := ⟨fun pins s σ H Q I ⟨p, q⟩ => (h p).run pins s σ H Q I q⟩
abbrev NX := St → Hp → Prop
abbrev RT := V → Hp → Prop
def tSS (C : HC) (G : Env) (Nx : NX) (Rt : RT) : TS := fun D σ H => EnvOk C G σ H ∧ (∀ σ' H', Nx σ' H' → Ex (hid C.M H) (hid C.M H') → D.nx σ' H') ∧ ∀ v H', Rt v H' → D.rt v H'
def PB (X : Cx) (C : HC) (G : Env) (ss : List Stmt) (Nx : NX) (Rt : RT) : Prop := PSs X ss (tSS C G Nx Rt)
/-- name = .. : T comes to slot i -/
def PXset (X : Cx) (C : HC) (G : Env) (st : Stmt) (i : Nat) (T : Ty) : Prop := PS X st (tAsg (tX C G T) (gName i))
section
variable {X : Cx} {C C' : HC} {G G' : Env} {a b c e : Expr} {es : List Expr} {T U W : Ty} {Ts : List Ty} {pos p pos2 : Pos} {st : Stmt} {rest : List Stmt} {Nx : NX} {Rt : RT} {x : Bool}
theorem set_e {i : Nat} {y : Str} {pos' : Pos} (hN : X.N.Nodup) (hi : X.N[i]? = some y) (hx : Loc X.env.scope y) (he : PX X C G e T) (hs : swapsWith e (some (.Name y pos')) pos.line X.env = pure false := by rfl) (hf : X.fn y = true ∨ X.env.scope.names.lookup y = some .local := by first | exact .inl rfl | exact .inr rfl | assumption) :
    PXset X C G (.Assign [.Name y pos'] e pos) i T := ps_set hN hi hx he hs hf
theorem pb_let {i : Nat} (h : PXset X C G st i T) (hr : PB X C (G.set i (some T)) rest Nx Rt) : PB X C G (st :: rest) Nx Rt :=
  PSs.imp (pss_cons h hr) fun D σ H ⟨ok, q1, q2⟩ => ⟨ok, fun v H1 x1 e1 p => ⟨x1.set p, fun σ' H' n e => q1 σ' H' n (e1.trans e), q2⟩⟩
theorem pb_letEx {i : Nat} {β : Type} {P : β → Prop} {T : β → Ty} (h : PXset X C G st i (tEx P T)) (hr : ∀ z, P z → PB X C (G.set i (some (T z))) rest Nx Rt) : PB X C G (st :: rest) Nx Rt :=
  PSs.imp (pss_cons h (PB_ex fun z => PB_when (hr z))) fun D σ H ⟨ok, q1, q2⟩ => ⟨ok, fun v H1 x1 e1 ⟨z, hz, p⟩ => ⟨z, hz, x1.set p, fun σ' H' n e => q1 σ' H' n (e1.trans e), q2⟩⟩
theorem pb_nil (h : ∀ σ H, EnvOk C G σ H → Nx σ H) : PB X C G [] Nx Rt := PSs.imp pss_nil fun D σ H ⟨ok, q1, _⟩ => q1 σ H (h σ H ok) (Ex.refl _)
theorem pb_end : PB X C G [] (EnvOk C G) Rt := pb_nil fun _ _ h => h
/-- e as a statement -/
theorem pb_expr (he : PX X C G e T) (hr : PB X C G rest Nx Rt) (hs : swapsWith e none pos.line X.env = pure false := by rfl) : PB X C G (.Expr e pos :: rest) Nx Rt :=
  PSs.imp (pss_cons (ps_expr he hs) hr) fun D σ H ⟨ok, q1, q2⟩ => ⟨ok, fun v H1 x1 e1 p => ⟨x1, fun σ' H' n e => q1 σ' H' n (e1.trans e), q2⟩⟩
theorem pb_ret (he : PX X C G e T) (hq : ∀ v H, Base C H → T.P (hid C.M H) v → Rt v H) : PB X C G [.Return (some e) pos] Nx Rt :=
  PSs.imp (pss_one (ps_ret he)) fun D σ H ⟨ok, _, q2⟩ => ⟨ok, fun v H1 x1 e1 p => q2 v H1 (hq v H1 x1.base p)⟩
theorem pb_if (hc : PXt X C G c x) {A B : List Stmt} (hA : x = true → PB X C G A (EnvOk C' G') Rt) (hB : x = false → PB X C G B (EnvOk C' G') Rt) (hr : PB X C' G' rest Nx Rt) (hM : C'.M = C.M := by rfl) : PB X C G (.If c A B pos :: rest) Nx Rt :=
  PSs.imp (pss_cons (ps_if hc (PB_when hA) (PB_when hB)) hr) fun D σ H ⟨ok, q1, q2⟩ => ⟨ok, fun H1 x1 e1 => by
    have k : ∀ b : Bool, b = x → tSS C G (EnvOk C' G') Rt { D with nx := tSS C' G' Nx Rt D } σ H1 := fun _ _ =>
      ⟨x1, fun σ' H' n e => ⟨n, fun σ2 H2 n2 e2 => q1 σ2 H2 n2 ((e1.trans e).trans (hM ▸ e2)), q2⟩, q2⟩
    cases x with
    | true => exact ⟨rfl, k true rfl⟩
    | false => exact ⟨rfl, k false rfl⟩⟩
/-- if c: .. (that leaves); the rest where c is false -/
theorem pb_guard (hc : PXt X C G c x) {A : List Stmt} (hA : x = true → PB X C G A (fun _ _ => False) Rt) (hr : x = false → PB X C G rest Nx Rt) : PB X C G (.If c A [] pos :: rest) Nx Rt :=
  PSs.imp (pss_cons (ps_if hc (PB_when hA) pss_nil) (PB_when hr)) fun D σ H ⟨ok, q1, q2⟩ => ⟨ok, fun H1 x1 e1 => by
    cases x with
    | true => exact ⟨rfl, x1, fun _ _ f => f.elim, q2⟩
    | false => exact ⟨rfl, x1, fun σ' H' n e => q1 σ' H' n (e1.trans e), q2⟩⟩
theorem pb_ifLast (hc : PXt X C G c x) {A B : List Stmt} (hA : x = true → PB X C G A Nx Rt) (hB : x = false → PB X C G B Nx Rt) : PB X C G [.If c A B pos] Nx Rt :=
  PSs.imp (pss_one (ps_if hc (PB_when hA) (PB_when hB))) fun D σ H ⟨ok, q1, q2⟩ => ⟨ok, fun H1 x1 e1 => by
    cases x with
    | true => exact ⟨rfl, x1, fun σ' H' n e => q1 σ' H' n (e1.trans e), q2⟩
    | false => exact ⟨rfl, x1, fun σ' H' n e => q1 σ' H' n (e1.trans e), q2⟩⟩
theorem PB.post {Nx' : NX} {ss : List Stmt} (h : PB X C G ss Nx Rt) (f : ∀ σ H, Nx σ H → Nx' σ H) : PB X C G ss Nx' Rt := PSs.imp h fun D σ H ⟨ok, q1, q2⟩ => ⟨ok, fun σ' H' n e => q1 σ' H' (f _ _ n) e, q2⟩
theorem PB.pre {ss : List Stmt} (h : PB X C' G' ss Nx Rt) (f : ∀ σ H, EnvOk C G σ H → EnvOk C' G' σ H) (hM : C'.M = C.M := by rfl) : PB X C G ss Nx Rt := PSs.imp h fun D σ H ⟨ok, q1, q2⟩ => ⟨f σ H ok, fun σ' H' n e => q1 σ' H' n (hM ▸ e), q2⟩
end
/-- a list of one's own at o, hidden -/
def HC.own (C : HC) (o : Addr) (Ts : List Ty) : HC where
  H0 := C.H0
  M := fun a => a == o || C.M a
  S := C.S
  Om := fun H D => C.Om H D ∧ C.M o = false ∧ C.H0 o = none ∧ ∃ xs, H o = some (.lst xs) ∧ TyAll D xs Ts
  om := fun e d ⟨h1, h2, h3, xs, h4, h5⟩ => ⟨C.om e d h1, h2, h3, xs, e _ _ h4, h5.mono d⟩
  loc := fun {p H H' D} m k ⟨h1, h2, h3, xs, h4, h5⟩ => by
    have m1 : (p == o || C.M p) = false := m
    rw [Bool.or_eq_false_iff] at m1
    have ne : o ≠ p := fun z => by subst z; simp at m1
    exact ⟨C.loc m1.2 k h1, h2, h3, xs, by rw [k o ne]; exact h4, h5⟩
  sm := fun a s => by show (a == o || C.M a) = true; rw [C.sm a s, Bool.or_true]
theorem own_M {C : HC} {o a : Addr} {Ts : List Ty} (h : C.M a = true) : (C.own o Ts).M a = true := by show (a == o || C.M a) = true; rw [h, Bool.or_true]
theorem own_self {C : HC} {o : Addr} {Ts : List Ty} : (C.own o Ts).M o = true := by show (o == o || C.M o) = true; simp
theorem own_le {C : HC} {o : Addr} {Ts : List Ty} {H : Hp} : Ex (hid (C.own o Ts).M H) (hid C.M H) := hid_less fun _ h => own_M h
theorem Base.of_own {C : HC} {o : Addr} {Ts : List Ty} {H : Hp} (b : Base (C.own o Ts) H) : Base C H := ⟨b.old, fun a h => b.hidd a (own_M h), C.om (Ex.refl H) own_le b.om.1⟩
theorem EnvOk.of_own {C : HC} {o : Addr} {Ts : List Ty} {G : Env} {σ : St} {H : Hp} (x : EnvOk (C.own o Ts) G σ H) : EnvOk C G σ H := ⟨x.base.of_own, x.env.imp fun _ _ h => h.mono own_le⟩
theorem Base.h0 {C : HC} {H : Hp} (b : Base C H) {p : Addr} (h : H p = none) : C.H0 p = none := by
  cases q : C.H0 p with
  | none => rfl
  | some u =>
    cases z : C.S p with
    | false => rw [b.old p u z q] at h; cases h
    | true => obtain ⟨o, ho⟩ := b.hidd p (C.sm p z); rw [h] at ho; cases ho
/-- a new list is laid, one's own from now on -/
theorem mkown_le {C : HC} {H : Hp} {o : Addr} {u : HO} {Ts : List Ty} (ho : H o = none) : Ex (hid C.M H) (hid (C.own o Ts).M (upd H o u)) := fun a u q => by
  obtain ⟨m, q'⟩ := hid_some q
  have ne : a ≠ o := ne_of_none q' ho
  refine hid_of ?_ (Ex.new ho _ _ q')
  show (a == o || C.M a) = false
  rw [m, Bool.or_false]
  exact beq_eq_false_iff_ne.mpr ne
theorem EnvOk.mkown {C : HC} {G : Env} {σ : St} {H : Hp} {o : Addr} {xs : List V} {Ts : List Ty} (x : EnvOk C G σ H) (ho : H o = none) (hx : TyAll (hid C.M H) xs Ts) : EnvOk (C.own o Ts) G σ (upd H o (.lst xs)) := by
  have e : Ex H (upd H o (.lst xs)) := Ex.new ho
  have le : Ex (hid C.M H) (hid (C.own o Ts).M (upd H o (.lst xs))) := mkown_le ho
  refine ⟨⟨fun a u s q => e a u (x.base.old a u s q), fun a m => ?_, C.om e le x.base.om, x.base.fresh ho, x.base.h0 ho, xs, upd_same, hx.mono le⟩, x.env.imp fun _ _ h => h.mono le⟩
  by_cases h : a = o
  · subst h; exact ⟨_, upd_same⟩
  · have m' : C.M a = true := by
      have : (a == o || C.M a) = true := m
      rw [beq_eq_false_iff_ne.mpr h, Bool.false_or] at this
      exact this
    obtain ⟨u, hu⟩ := x.base.hidd a m'
    exact ⟨u, e _ _ hu⟩
theorem wrown_le {C : HC} {H : Hp} {o : Addr} {u : HO} {Ts Us : List Ty} : Ex (hid (C.own o Ts).M H) (hid (C.own o Us).M (upd H o u)) := fun a w q => by
  obtain ⟨m, q'⟩ := hid_some q
  have ne : a ≠ o := fun z => by
    subst z
    have : (a == a || C.M a) = false := m
    simp at this
  exact hid_of m (by rw [upd_ne ne]; exact q')
/-- one's own list is written -/
theorem EnvOk.wrown {C : HC} {G : Env} {σ : St} {H : Hp} {o : Addr} {xs : List V} {Ts Us : List Ty} (x : EnvOk (C.own o Ts) G σ H) (hx : TyAll (hid (C.own o Ts).M H) xs Us) : EnvOk (C.own o Us) G σ (upd H o (.lst xs)) := by
  obtain ⟨h1, h2, h3, ys, h4, h5⟩ := x.base.om
  have k : ∀ a, a ≠ o → upd H o (.lst xs) a = H a := fun a h => upd_ne h
  have le : Ex (hid (C.own o Ts).M H) (hid (C.own o Us).M (upd H o (.lst xs))) := wrown_le
  refine ⟨⟨fun a u s q => ?_, fun a m => ?_, C.om (Ex.refl _) le (C.loc h2 k h1), h2, h3, xs, upd_same, hx.mono le⟩, x.env.imp fun _ _ h => h.mono le⟩
  · have ne : a ≠ o := fun z => by
      subst z
      have q' : C.H0 a = some u := q
      rw [h3] at q'; cases q'
    rw [k a ne]
    exact x.base.old a u s q
  · by_cases h : a = o
    · subst h; exact ⟨_, upd_same⟩
    · rw [k a h]
      exact x.base.hidd a m
section
variable {X : Cx} {C C' : HC} {G G' : Env} {a b c e : Expr} {es : List Expr} {T U W : Ty} {Ts Us : List Ty} {pos p pos2 apos : Pos} {st : Stmt} {rest : List Stmt} {Nx : NX} {Rt : RT} {x : Bool} {o : Addr} {i : Nat}
/-- name = [..]: from now on a list of one's own -/
theorem pb_new {y : Str} {pos' : Pos} (h : PXs X C G es Ts) (hr : ∀ o, PB X (C.own o Ts) (G.set i (some (tR o))) rest Nx Rt) (hN : X.N.Nodup) (hi : X.N[i]? = some y) (hx : Loc X.env.scope y) (hl : Nat.ble Ts.length 100000 = true := by rfl)
    (hs : swapsWith (.List es pos2) (some (.Name y pos')) pos.line X.env = pure false := by rfl) (hf : X.fn y = true ∨ X.env.scope.names.lookup y = some .local := by first | exact .inl rfl | exact .inr rfl | assumption) :
    PB X C G (.Assign [.Name y pos'] (.List es pos2) pos :: rest) Nx Rt :=
  PSs.imp (pss_cons (ps_set hN hi hx (pe_lst h) hs hf) (PB_ex hr)) fun D σ H ⟨ok, q1, q2⟩ => ⟨ok, fun vs H1 x1 e1 p1 => ⟨by rw [p1.length]; exact few hl, fun o ho => ⟨o, (x1.mkown ho p1).set (T := tR o) rfl, fun σ' H' n e => q1 σ' H' n (fun a u q => own_le _ _ (e _ _ (mkown_le ho _ _ (e1 _ _ q)))), q2⟩⟩⟩
/-- .. and from now on a plain list again -/
theorem freeze_ok {σ : St} {H : Hp} (x : EnvOk (C.own o Ts) G σ H) (h : G[i]? = some (some (tR o))) : EnvOk C (G.set i (some (tLst Ts))) σ H := by
  obtain ⟨v, e, p⟩ := x.var h
  obtain rfl : v = .ref o := p
  obtain ⟨_, m, _, xs, h4, h5⟩ := x.base.om
  have z := x.of_own.set (i := i) (T := tLst Ts) (v := .ref o) ⟨o, xs, rfl, hid_of m h4, h5.mono own_le⟩
  have hi : i < σ.length := (List.getElem?_eq_some_iff.mp e).1
  have e2 : σ.set i (some (.ref o)) = σ := by
    apply List.ext_getElem?
    intro k
    by_cases hk : i = k
    · subst hk
      rw [List.getElem?_set_self hi, e]
    · rw [List.getElem?_set_ne hk]
  rw [e2] at z
  exact z
theorem pb_freeze {ss : List Stmt} (h : G[i]? = some (some (tR o))) (hr : PB X C (G.set i (some (tLst Ts))) ss Nx Rt) : PB X (C.own o Ts) G ss Nx Rt :=
  PSs.imp hr fun D σ H ⟨ok, q1, q2⟩ => ⟨freeze_ok ok h, fun σ' H' n e => q1 σ' H' n (fun a u q => by
    obtain ⟨m, _⟩ := hid_some q
    exact hid_of m (hid_some (e _ _ (own_le _ _ q))).2), q2⟩
/-- xs.append(e), xs one's own (in slot i) -/
theorem pb_app {cl : Expr} (hp : PE X cl (tBM X.K "list" rAppend (tVar i) (tXs (C.own o Ts) G [T]))) (hl : G[i]? = some (some (tR o))) (hz : Ts.length < sizeLine) (hr : PB X (C.own o (Ts ++ [T])) G rest Nx Rt) (hs : swapsWith cl none pos.line X.env = pure false := by rfl) :
    PB X (C.own o Ts) G (.Expr cl pos :: rest) Nx Rt :=
  PSs.imp (pss_cons (ps_expr hp hs) hr) fun D σ H ⟨ok, q1, q2⟩ => by
    obtain ⟨v, e, p⟩ := ok.var hl
    obtain rfl : v = .ref o := p
    obtain ⟨_, _, _, xs, h4, h5⟩ := id ok.base.om
    refine ⟨.ref o, e, .inl ⟨rfl, xs, SqL.of h4⟩, ok, fun vs H1 x1 e1 p1 => ?_⟩
    cases p1 with
    | cons p1 t =>
      cases t
      obtain ⟨_, _, _, ys, h4, h5⟩ := id x1.base.om
      refine ⟨o, ys, _, rfl, rfl, h4, by rw [h5.length]; exact hz, x1.wrown (h5.append (.cons p1 .nil)), fun σ' H' n e => q1 σ' H' n ((e1.trans wrown_le).trans e), q2⟩
/-- xs.extend(e), xs one's own, e a list -/
theorem pb_ext {cl : Expr} (hp : PE X cl (tBM X.K "list" rExtend (tVar i) (tXs (C.own o Ts) G [tLst Us]))) (hl : G[i]? = some (some (tR o))) (hz : Ts.length + Us.length ≤ sizeLine) (hr : PB X (C.own o (Ts ++ Us)) G rest Nx Rt) (hs : swapsWith cl none pos.line X.env = pure false := by rfl) :
    PB X (C.own o Ts) G (.Expr cl pos :: rest) Nx Rt :=
  PSs.imp (pss_cons (ps_expr hp hs) hr) fun D σ H ⟨ok, q1, q2⟩ => by
    obtain ⟨v, e, p⟩ := ok.var hl
    obtain rfl : v = .ref o := p
    obtain ⟨_, _, _, xs, h4, h5⟩ := id ok.base.om
    refine ⟨.ref o, e, .inl ⟨rfl, xs, SqL.of h4⟩, ok, fun vs H1 x1 e1 p1 => ?_⟩
    cases p1 with
    | cons p1 t =>
      cases t
      obtain ⟨b, zs, rfl, hb, hz'⟩ := p1
      obtain ⟨_, _, _, ys, h4, h5⟩ := id x1.base.om
      refine ⟨o, b, ys, zs, rfl, rfl, h4, (hid_some hb).2, by rw [h5.length, hz'.length]; exact hz, x1.wrown (h5.append hz'), fun σ' H' n e => q1 σ' H' n ((e1.trans wrown_le).trans e), q2⟩
/-- xs[j] = e, xs one's own (in slot i) -/
theorem pb_setIx {j : Nat} (hp : PS X st (tAsg (tX (C.own o Ts) G T) (gSub (tVar i) (tX (C.own o Ts) G (tI (j : Nat))) rSetL))) (hl : G[i]? = some (some (tR o))) (hj : j < Ts.length) (hr : PB X (C.own o (Ts.set j T)) G rest Nx Rt) :
    PB X (C.own o Ts) G (st :: rest) Nx Rt :=
  PSs.imp (pss_cons hp hr) fun D σ H ⟨ok, q1, q2⟩ => ⟨ok, fun v H1 x1 e1 p1 => by
    obtain ⟨v', e, p⟩ := x1.var hl
    obtain rfl : v' = .ref o := p
    refine ⟨.ref o, e, x1, fun w H2 x2 e2 p2 => ?_⟩
    obtain rfl : w = .int (j : Nat) := p2
    obtain ⟨_, _, _, ys, h4, h5⟩ := id x2.base.om
    refine ⟨o, ys, ((j : Nat) : Int), j, rfl, rfl, h4, ?_, x2.wrown (h5.set (b := T) (a := v) (T.mono e2 p1) j), fun σ' H' n e => q1 σ' H' n (((e1.trans e2).trans wrown_le).trans e), q2⟩
    unfold ixN
    rw [h5.length, if_pos (by omega), if_pos (by omega)]
    simp⟩
/-- an item of one's own list -/
theorem px_ixO {n : Int} {ix : Expr} (hl : G[i]? = some (some (tR o))) {y : Str} {p1 : Pos} (hN : X.N[i]? = some y) (hv : Vis X.env.scope y) (hb : PX X (C.own o Ts) G ix (tI n)) (h : atI Ts n = some T) (hs : PlainIx ix := by intro _ _; rfl) (h1 : (y == ("__debug__" : Str)) = false := by decide) (h2 : (y == ("__classdict__" : Str)) = false := by decide) :
    PX X (C.own o Ts) G (.Subscript (.Name y p1) ix pos) T :=
  PE.imp (pe_ix ix_list (pe_var hN hv h1 h2) hb hs) fun σ H Q ⟨ok, q⟩ => by
    obtain ⟨v, e, p⟩ := ok.var hl
    obtain rfl : v = .ref o := p
    refine ⟨.ref o, e, ok, fun w H1 x1 e1 p1 => ?_⟩
    obtain rfl : w = .int n := p1
    obtain ⟨_, _, _, xs, h4, h5⟩ := id x1.base.om
    obtain ⟨j, e1', e2', _, _, _⟩ := atI_get h
    obtain ⟨v, e3, e4⟩ := h5.get e2'
    refine ⟨o, xs, n, v, rfl, rfl, SqL.of h4, ?_, q v H1 x1 e1 e4⟩
    unfold atI at h ⊢
    rw [h5.length]
    cases z : ixN Ts.length n with
    | none => rw [z] at h; cases h
    | some j' =>
      have : j' = j := by
        have := (ixN_seq z).1
        rw [e1'] at this
        exact (Option.some.inj this).symm
      subst this
      exact e3
end
end Nb
end -- NbC
section -- NbD
set_option maxHeartbeats 1000000
namespace Nb
open PySem PySem.Spec PyProof.Rows L2
/-- the slots js alone are stored -/
def Fix (js : List Nat) (σ σ' : St) : Prop := σ'.length = σ.length ∧ ∀ k : Nat, k ∉ js → σ'[k]? = σ[k]?
theorem Fix.trans {js ks : List Nat} {σ σ1 σ2 : St} (a : Fix js σ σ1) (b : Fix ks σ1 σ2) : Fix (js ++ ks) σ σ2 := ⟨b.1.trans a.1, fun k h => by
  rw [List.mem_append, not_or] at h
  exact (b.2 k h.2).trans (a.2 k h.1)⟩
theorem Fix.set {σ : St} {j : Nat} {o : Option V} : Fix [j] σ (σ.set j o) := ⟨List.length_set, fun k h => List.getElem?_set_ne (by simpa using fun e => h (by simp [e]))⟩
def tGX (C : HC) (G : Env) (T : Ty) (G' : Env) (js : List Nat) : TG := fun v σ H Q => EnvOk C G σ H ∧ T.P (hid C.M H) v ∧ ∀ σ', EnvOk C G' σ' H → Fix js σ σ' → Q σ' H
def PGX (X : Cx) (C : HC) (G : Env) (tg : Expr) (T : Ty) (G' : Env) (js : List Nat) : Prop := PG X tg (tGX C G T G' js)
def tGs (C : HC) (G : Env) (Ts : List Ty) (G' : Env) (js : List Nat) : TGs := fun vs σ H Q => EnvOk C G σ H ∧ TyAll (hid C.M H) vs Ts ∧ ∀ σ', EnvOk C G' σ' H → Fix js σ σ' → Q σ' H
def PGXs (X : Cx) (C : HC) (G : Env) (tgs : List Expr) (Ts : List Ty) (G' : Env) (js : List Nat) : Prop := PGs X tgs (tGs C G Ts G' js)
theorem PGs.imp {X : Cx} {e : List Expr} {t t' : TGs} (h : PGs X e t) (f : ∀ v σ H Q, t' v σ H Q → t v σ H Q) : PGs X e t' := ⟨fun pins s σ H v u Q I r q => h.run pins s σ H v u Q I r (f v σ H Q q)⟩
section
variable {X : Cx} {C C' : HC} {G G' G'' : Env} {a b c e tg : Expr} {es tgs : List Expr} {T U W : Ty} {Ts Us : List Ty} {pos p pos2 apos : Pos} {st : Stmt} {rest : List Stmt} {Nx : NX} {Rt : RT} {x : Bool} {o : Addr} {i : Nat} {js ks : List Nat}
theorem pgx_name {y : Str} (hN : X.N.Nodup) (hi : X.N[i]? = some y) (hx : Loc X.env.scope y) (hf : X.fn y = true ∨ X.env.scope.names.lookup y = some .local := by first | exact .inl rfl | exact .inr rfl | assumption) : PGX X C G (.Name y pos) T (G.set i (some T)) [i] :=
  PG.imp (pg_name hN hi hx hf) fun v σ H Q ⟨ok, p, q⟩ => q _ (ok.set p) Fix.set
theorem pgxs_nil : PGXs X C G [] [] G [] := PGs.imp pgs_nil fun v σ H Q ⟨ok, p, q⟩ => by
  cases p
  exact ⟨rfl, q σ ok ⟨rfl, fun _ _ => rfl⟩⟩
theorem pgxs_cons (h1 : PGX X C G e T G' js) (h2 : PGXs X C G' es Ts G'' ks) (hs : (assignEach (e :: es) X.env).map (·.2) = assign e X.env :: (assignEach es X.env).map (·.2) := by rfl) : PGXs X C G (e :: es) (T :: Ts) G'' (js ++ ks) :=
  PGs.imp (pgs_cons h1 h2 hs) fun v σ H Q ⟨ok, p, q⟩ => by
    cases p with
    | cons p t => exact ⟨_, _, rfl, ok, p, fun σ1 ok1 f1 => ⟨ok1, t, fun σ2 ok2 f2 => q σ2 ok2 (f1.trans f2)⟩⟩
theorem pgx_tup {k : Nat} (hc : X.calm = true) (h : PGXs X C G es Ts G' js) (hn : (assignEach es X.env).length = Ts.length := by rfl) (hst : (assignEach es X.env).findIdx? (·.1) = none := by rfl) : PGX X C G (.Tuple es k pos) (tTup X.K Ts) G' js :=
  PG.imp (pg_tup hc h hn hst) fun v σ H Q ⟨ok, ⟨a, xs, e1, e2, e3⟩, q⟩ => ⟨a, xs, e1, sqT_ex hid_le e2, e3.length, ok, e3, q⟩
/-- target = e -/
theorem pb_asg (he : PX X C G e T) (hg : PGX X C G tg T G' js) (hr : PB X C G' rest Nx Rt) (hs : swapsWithSole [tg] e pos.line X.env = pure false := by rfl) (hw : swappedStores [tg] e X.env = pure none := by rfl)
    (h1 : (assignEach [tg] X.env).map (·.2) = [assign tg X.env] := by rfl) : PB X C G (.Assign [tg] e pos :: rest) Nx Rt :=
  PSs.imp (pss_cons (ps_asg he hg hs hw h1) hr) fun D σ H ⟨ok, q1, q2⟩ => ⟨ok, fun v H1 x1 e1 p1 => ⟨x1, p1, fun σ1 ok1 _ => ⟨ok1, fun σ' H' n e => q1 σ' H' n (e1.trans e), q2⟩⟩⟩
/-- x, y = a, b -/
theorem pb_par {j : Nat} {y z : Str} {px py pt : Pos} {kt k2 pt2} (hc : X.calm = true) (hN : X.N.Nodup) (hi : X.N[i]? = some y) (hj : X.N[j]? = some z) (hij : i ≠ j) (hx : X.env.scope.names.lookup y = some .local) (hy : X.env.scope.names.lookup z = some .local)
    (ha : PX X C G a T) (hb : PX X C G b U) (hr : PB X C ((G.set i (some T)).set j (some U)) rest Nx Rt) (hw : swappedStores [.Tuple [.Name y px, .Name z py] kt pt] (.Tuple [a, b] k2 pt2) X.env = pure (some [y, z]))
    (he1 : starEach [a, b] X.env = (false, eval a X.env) :: starEach [b] X.env := by rfl) (he2 : starEach [b] X.env = (false, eval b X.env) :: starEach [] X.env := by rfl)
    (hs : swapsWithSole [.Tuple [.Name y px, .Name z py] kt pt] (.Tuple [a, b] k2 pt2) pos.line X.env = pure false := by rfl) : PB X C G (.Assign [.Tuple [.Name y px, .Name z py] kt pt] (.Tuple [a, b] k2 pt2) pos :: rest) Nx Rt :=
  PSs.imp (pss_cons (ps_par hc hN hi hj hij hx hy (pxs_cons ha (pxs_cons hb pxs_nil he2) he1) hw hs) hr) fun D σ H ⟨ok, q1, q2⟩ => ⟨ok, fun vs H1 x1 e1 p1 => by
    cases p1 with
    | cons pa t =>
      cases t with
      | cons pb t =>
        cases t
        exact ⟨_, _, rfl, (x1.set pa).set pb, fun σ' H' n e => q1 σ' H' n (e1.trans e), q2⟩⟩
end
/-- J gives values of the types ys, D known -/
def Yld (ys : List Ty) (J : It) (D : Hp) : Prop := ∀ (M : Addr → Bool) (H' : Hp), Ex D (hid M H') → (∀ a, M a = true → ∃ o, H' a = some o) → ∀ i : Nat,
  (∀ T, ys[i]? = some T → J.go i H' ∧ ∀ x H'', J.yld i H' x H'' → Ex H' H'' ∧ T.P (hid M H'') x) ∧ (ys.length = i → J.stop i H')
def tIX (C : HC) (G : Env) (ys : List Ty) : TI := fun σ H R => EnvOk C G σ H ∧ ∀ J H2, EnvOk C G σ H2 → Ex (hid C.M H) (hid C.M H2) → Yld ys J (hid C.M H2) → R J H2
def PIX (X : Cx) (C : HC) (G : Env) (tg e : Expr) (ys : List Ty) : Prop := PI X tg e (tIX C G ys)
section
variable {X : Cx} {C C' : HC} {G G' G'' : Env} {a b c e tg : Expr} {es tgs : List Expr} {T U W : Ty} {Ts Us : List Ty} {pos p pos2 apos tpos : Pos} {kk : Nat} {i : Nat}
theorem sqL_of_hid {K : PySem.W.Frag} {M : Addr → Bool} {H : Hp} {a : Addr} {xs : List V} (h : hid M H a = some (.lst xs)) : SqL K H a xs := SqL.of (hid_le _ _ h)
theorem yld_list {K : PySem.W.Frag} {D : Hp} {a : Addr} {xs : List V} (h2 : D a = some (.lst xs)) (h3 : TyAll D xs Ts) : Yld Ts (Itl K a) D := fun M H' e _ i => by
  refine ⟨fun T hT => ?_, fun hl => ⟨xs, sqL_of_hid (e _ _ h2), by rw [h3.length]; omega⟩⟩
  obtain ⟨v, e1, e2⟩ := h3.get hT
  refine ⟨⟨xs, v, sqL_of_hid (e _ _ h2), e1⟩, fun x H'' y => ?_⟩
  obtain ⟨rfl, f⟩ := y
  have := f xs (sqL_of_hid (e _ _ h2))
  rw [e1] at this
  cases this
  exact ⟨Ex.refl _, T.mono e e2⟩
theorem yld_tup {K : PySem.W.Frag} {D : Hp} {a : Addr} {xs : List V} (h2 : SqT K D a xs) (h3 : TyAll D xs Ts) : Yld Ts (Itt K a) D := fun M H' e _ i => by
  have s : SqT K H' a xs := sqT_ex hid_le (sqT_ex e h2)
  refine ⟨fun T hT => ?_, fun hl => ⟨xs, s, by rw [h3.length]; omega⟩⟩
  obtain ⟨v, e1, e2⟩ := h3.get hT
  refine ⟨⟨xs, v, s, e1⟩, fun x H'' y => ?_⟩
  obtain ⟨rfl, f⟩ := y
  have := f xs s
  rw [e1] at this
  cases this
  exact ⟨Ex.refl _, T.mono e e2⟩
theorem pix_list (h : PX X C G e (tLst Ts)) : PIX X C G tg e Ts := PI.imp (pi_list h) fun σ H R ⟨ok, q⟩ => ⟨ok, fun v H1 x1 e1 ⟨a, xs, h1, h2, h3⟩ => ⟨a, h1, ⟨xs, sqL_of_hid h2⟩, q _ H1 x1 e1 (yld_list h2 h3)⟩⟩
theorem pix_tup (h : PX X C G e (tTup X.K Ts)) : PIX X C G tg e Ts := PI.imp (pi_tup h) fun σ H R ⟨ok, q⟩ => ⟨ok, fun v H1 x1 e1 ⟨a, xs, h1, h2, h3⟩ => ⟨a, h1, ⟨xs, sqT_ex hid_le h2⟩, q _ H1 x1 e1 (yld_tup h2 h3)⟩⟩
/-- two ways to be walked -/
theorem PI.or {w1 w2 : TI} (h1 : PI X tg e w1) (h2 : PI X tg e w2) : PI X tg e (fun σ H R => w1 σ H R ∨ w2 σ H R) := ⟨fun pins s σ H R I q => q.elim (h1.run pins s σ H R I) (h2.run pins s σ H R I)⟩
/-- a name that holds a list or a tuple -/
theorem pix_seqV {y : Str} {p1 : Pos} (hg : G[i]? = some (some (tSeq X.K Ts))) (hN : X.N[i]? = some y) (hv : Vis X.env.scope y) (h1 : (y == ("__debug__" : Str)) = false := by decide) (h2 : (y == ("__classdict__" : Str)) = false := by decide) : PIX X C G tg (.Name y p1) Ts :=
  PI.imp (PI.or (pi_list (pe_var hN hv h1 h2)) (pi_tup (pe_var hN hv h1 h2))) fun σ H R ⟨ok, q⟩ => by
    obtain ⟨v, e1, p⟩ := ok.var hg
    rcases p with ⟨a, xs, rfl, h2, h3⟩ | ⟨a, xs, rfl, h2, h3⟩
    · exact .inl ⟨_, e1, a, rfl, ⟨xs, sqL_of_hid h2⟩, q _ H ok (Ex.refl _) (yld_list h2 h3)⟩
    · exact .inr ⟨_, e1, a, rfl, ⟨xs, sqT_ex hid_le h2⟩, q _ H ok (Ex.refl _) (yld_tup h2 h3)⟩
theorem getElem?_range {n i : Nat} {T : Nat → Ty} {U : Ty} (h : ((List.range n).map T)[i]? = some U) : i < n ∧ U = T i := by
  rw [List.getElem?_map] at h
  by_cases hi : i < n
  · rw [List.getElem?_range hi] at h
    exact ⟨hi, (Option.some.inj h).symm⟩
  · rw [List.getElem?_eq_none (by rw [List.length_range]; omega)] at h
    cases h
theorem pix_range1 {n : Nat} (hm : X.mg "range" = none) (ha : PX X C G a (tI (n : Nat))) (hn : n ≤ 1000000) (hg : Gl X "range" := by rfl) (hs : starEach [a] X.env = [(false, eval a X.env)] := by rfl) (hs2 : starEach [a] X.env = (false, eval a X.env) :: starEach [] X.env := by rfl) :
    PIX X C G tg (.Call (.Name "range" p) [a] [] pos) ((List.range n).map fun i => tI ((i : Nat) : Int)) :=
  PI.imp (pi_range1 hg hm (pxs_cons ha pxs_nil hs2) hs) fun σ H R ⟨ok, q⟩ => ⟨ok, fun vs H1 x1 e1 p1 => by
    cases p1 with
    | cons p1 t =>
      cases t
      refine ⟨(n : Int), by rw [show _ = V.int _ from p1], by omega, by omega, q _ H1 x1 e1 fun M H' e _ i => ?_⟩
      refine ⟨fun T hT => ?_, fun hl => ?_⟩
      · obtain ⟨h1, rfl⟩ := getElem?_range hT
        refine ⟨show i < (n : Int).toNat by omega, fun x H'' y => ?_⟩
        obtain ⟨rfl, rfl⟩ := y
        exact ⟨Ex.refl _, by rw [Int.zero_add]; rfl⟩
      · rw [List.length_map, List.length_range] at hl
        show (n : Int).toNat ≤ i
        omega⟩
theorem pb_for {α : Type} {l : List α} {tA : α → Ty} {iter : Expr} {body : List Stmt} (hp : PassesOwn (model X.prog X.w) X.A X.env X.xe) (hc : X.calm = true) (hi : PIX X C G tg iter (l.map tA)) (Ci : Nat → HC) (Gi : Nat → Env) (Gt : Nat → α → Env) {js : List Nat}
    (hM : ∀ i, (Ci i).M = C.M) (h0 : ∀ σ H, EnvOk C G σ H → EnvOk (Ci 0) (Gi 0) σ H) (hg : ∀ i a, PGX X (Ci i) (Gi i) tg (tA a) (Gt i a) js)
    {Nx : NX} {Rt : RT} {rest : List Stmt} (hb : ∀ (i : Nat) a, l[i]? = some a → PB X (Ci i) (Gt i a) body (EnvOk (Ci (i + 1)) (Gi (i + 1))) Rt) (hr : PB X (Ci l.length) (Gi l.length) rest Nx Rt) (hs : ∀ x, foldedSetIterable iter X.env x = pure x := by intro _; rfl) : PB X C G (.For tg iter body [] pos :: rest) Nx Rt := by
  refine PSs.imp (pss_cons (ps_for (tb := fun D σ H => ∃ z : Nat × α, l[z.1]? = some z.2 ∧ tSS (Ci z.1) (Gt z.1 z.2) (EnvOk (Ci (z.1 + 1)) (Gi (z.1 + 1))) Rt D σ H) hp hc hi (PG_ex fun z : Nat × α => hg z.1 z.2) (PB_ex fun z => PB_when fun h => hb z.1 z.2 h) hs) hr) fun D σ H ⟨ok, q1, q2⟩ => ⟨ok, fun J H1 x1 e1 y1 => ?_⟩
  refine ⟨fun i m σ' H' => m + i = l.length ∧ EnvOk (Ci i) (Gi i) σ' H' ∧ Ex (hid C.M H1) (hid C.M H'), ⟨l.length, rfl, h0 σ H1 x1, Ex.refl _⟩, ?_⟩
  rintro i m σ' H' ⟨hm, x2, e2⟩
  have tr : ∀ a, C.M a = true → ∃ o, H' a = some o := fun a h => x2.base.hidd a (by rw [hM]; exact h)
  obtain ⟨y2, y3⟩ := y1 C.M H' e2 tr i
  by_cases hi : i < l.length
  · have ha : l[i]? = some l[i] := List.getElem?_eq_getElem hi
    obtain ⟨go, yl⟩ := y2 (tA l[i]) (by rw [List.getElem?_map, ha]; rfl)
    refine .inr ⟨go, fun σ2 H2 => EnvOk (Ci (i + 1)) (Gi (i + 1)) σ2 H2 ∧ Ex (hid C.M H1) (hid C.M H2), fun σ2 H2 ⟨x3, e3⟩ => ⟨m - 1, by omega, by omega, x3, e3⟩, fun v H2 hy => ?_⟩
    obtain ⟨e3, p3⟩ := yl v H2 hy
    refine ⟨(i, l[i]), x2.ex e3, (hM i).symm ▸ p3, fun σ3 x3 _ => ⟨(i, l[i]), ha, x3, fun σ4 H4 x4 e4 => ⟨x4, (e2.trans (hid_mono e3)).trans ((hM i) ▸ e4)⟩, q2⟩⟩
  · have hl : i = l.length := by omega
    refine .inl ⟨y3 (by rw [List.length_map]; exact hl.symm), ?_⟩
    subst hl
    exact ⟨x2, fun σ4 H4 n e4 => q1 σ4 H4 n ((e1.trans e2).trans ((hM _) ▸ e4)), q2⟩
/-- .. the target a name -/
theorem pb_forN {α : Type} {l : List α} {tA : α → Ty} {iter : Expr} {body : List Stmt} {j : Nat} {y : Str} {p1 : Pos} (hp : PassesOwn (model X.prog X.w) X.A X.env X.xe) (hc : X.calm = true) (hi : PIX X C G (.Name y p1) iter (l.map tA)) (Ci : Nat → HC) (Gi : Nat → Env) (hN : X.N.Nodup) (hj : X.N[j]? = some y) (hx : Loc X.env.scope y)
    (hM : ∀ i, (Ci i).M = C.M) (h0 : ∀ σ H, EnvOk C G σ H → EnvOk (Ci 0) (Gi 0) σ H) {Nx : NX} {Rt : RT} {rest : List Stmt} (hb : ∀ (i : Nat) a, l[i]? = some a → PB X (Ci i) ((Gi i).set j (some (tA a))) body (EnvOk (Ci (i + 1)) (Gi (i + 1))) Rt) (hr : PB X (Ci l.length) (Gi l.length) rest Nx Rt)
    (hf : X.fn y = true ∨ X.env.scope.names.lookup y = some .local := by first | exact .inl rfl | exact .inr rfl | assumption) (hs : ∀ x, foldedSetIterable iter X.env x = pure x := by intro _; rfl) : PB X C G (.For (.Name y p1) iter body [] pos :: rest) Nx Rt :=
  pb_for hp hc hi Ci Gi (fun i a => (Gi i).set j (some (tA a))) hM h0 (fun i a => pgx_name hN hj hx hf) hb hr hs
theorem pb_while {β : Type} (I : β → Prop) (Gs : β → Env) (t : β → Bool) (μ : β → Nat) (b0 : β) (i0 : I b0) {body : List Stmt} (hp : PassesOwn (model X.prog X.w) X.A X.env X.xe) (h0 : ∀ σ H, EnvOk C G σ H → EnvOk C (Gs b0) σ H) (hc : ∀ b, I b → PXt X C (Gs b) c (t b)) {Nx : NX} {Rt : RT} {rest : List Stmt}
    (hb : ∀ b, I b → t b = true → PB X C (Gs b) body (fun σ H => ∃ b', I b' ∧ μ b' < μ b ∧ EnvOk C (Gs b') σ H) Rt) (hr : ∀ b, I b → t b = false → PB X C (Gs b) rest Nx Rt) : PB X C G (.While c body [] pos :: rest) Nx Rt := by
  refine PSs.imp (pss_cons (ps_while (tc := fun σ H Q => ∃ b, I b ∧ tXt C (Gs b) (t b) σ H Q) (tb := fun D σ H => ∃ b, (I b ∧ t b = true) ∧ tSS C (Gs b) (fun σ H => ∃ b', I b' ∧ μ b' < μ b ∧ EnvOk C (Gs b') σ H) Rt D σ H) hp ?_ (PB_ex fun b => PB_when fun h => hb b h.1 h.2))
    (PB_ex fun b => PB_when fun h : I b ∧ t b = false => hr b h.1 h.2)) fun D σ H ⟨ok, q1, q2⟩ => ?_
  · exact ⟨fun pins s σ H Q Iv ⟨b, h1, h2⟩ => (hc b h1).run pins s σ H Q Iv h2⟩
  · refine ⟨fun m σ' H' => ∃ b, I b ∧ m = μ b ∧ EnvOk C (Gs b) σ' H' ∧ Ex (hid C.M H) (hid C.M H'), ⟨_, b0, i0, rfl, h0 σ H ok, Ex.refl _⟩, ?_⟩
    rintro m σ' H' ⟨b, ib, rfl, x1, e1⟩
    refine ⟨b, ib, x1, fun H2 x2 e2 => ?_⟩
    cases tb : t b with
    | true =>
      refine ⟨fun σ3 H3 => (∃ b', I b' ∧ μ b' < μ b ∧ EnvOk C (Gs b') σ3 H3) ∧ Ex (hid C.M H) (hid C.M H3), fun σ3 H3 ⟨⟨b', i', l', x3⟩, e3⟩ => ⟨μ b', l', b', i', rfl, x3, e3⟩, b, ⟨ib, tb⟩, x2, fun σ3 H3 n e3 => ⟨n, (e1.trans e2).trans e3⟩, q2⟩
    | false => exact ⟨b, ⟨ib, tb⟩, x2, fun σ3 H3 n e3 => q1 σ3 H3 n ((e1.trans e2).trans e3), q2⟩
end
def wipeG (G : Env) : List Nat → Env
  | [] => G
  | v :: vs => (wipeG G vs).set v none
theorem wipe_env {D : Hp} : ∀ {vs : List Nat} {σ : St} {G : Env}, All2 (Slot D) σ G → All2 (Slot D) (wipe σ vs) (wipeG G vs)
  | [], _, _, h => h
  | v :: vs, _, _, h => (wipe_env (vs := vs) h).set (a := none) (b := none) trivial v
theorem EnvOk.wipe {C : HC} {G : Env} {σ : St} {H : Hp} (x : EnvOk C G σ H) (vs : List Nat) : EnvOk C (wipeG G vs) (L2.wipe σ vs) H := ⟨x.base, wipe_env x.env⟩
theorem wipe_get {σ : St} : ∀ {vs : List Nat} {k : Nat}, (L2.wipe σ vs)[k]? = if k ∈ vs then (if k < σ.length then some none else none) else σ[k]?
  | [], k => by simp [L2.wipe]
  | v :: vs, k => by
    show ((L2.wipe σ vs).set v none)[k]? = _
    by_cases hk : v = k
    · subst hk
      rw [if_pos List.mem_cons_self]
      by_cases hl : v < σ.length
      · rw [if_pos hl, List.getElem?_set_self (by rw [wipe_length]; exact hl)]
      · rw [if_neg hl, List.getElem?_eq_none (by rw [List.length_set, wipe_length]; omega)]
    · rw [List.getElem?_set_ne hk, wipe_get]
      have : (k ∈ v :: vs) ↔ k ∈ vs := by
        rw [List.mem_cons]
        exact ⟨fun h => h.elim (fun e => absurd e.symm hk) id, .inr⟩
      simp only [this]
theorem wipe_fix {σ σ' : St} {vs js : List Nat} (f : Fix js (L2.wipe σ vs) σ') (h : ∀ k ∈ js, k ∈ vs) : L2.wipe σ' vs = L2.wipe σ vs := by
  apply List.ext_getElem?
  intro k
  have hl : σ'.length = σ.length := by rw [f.1, wipe_length]
  rw [wipe_get, wipe_get, hl]
  by_cases hk : k ∈ vs
  · rw [if_pos hk, if_pos hk]
  · rw [if_neg hk, if_neg hk, f.2 k (fun z => hk (h k z)), wipe_get, if_neg hk]
section
variable {X : Cx} {C C' : HC} {G G' G'' : Env} {a b c e tg : Expr} {es tgs : List Expr} {T U W : Ty} {Ts Us : List Ty} {pos p pos2 apos tpos : Pos} {kk : Nat} {i : Nat}
/-- the reading of [e for x in l if t] comes to this -/
theorem lc_ok {α : Type} {l : List α} {tA : α → Ty} {t : α → Bool} {E : α → Ty} {Gt : α → Env} {vs js : List Nat} {σ : St} {H : Hp} {Q : VK} (hj : ∀ k ∈ js, k ∈ vs) (hl : l.length ≤ 1000000) (h : tX C G (tLst ((l.filter t).map E)) σ H Q) :
    tLc (tIX C G (l.map tA)) (fun v σ H Q => ∃ z : Addr × List Ty × α, (z.2.2 ∈ l ∧ C.M z.1 = false) ∧ tGX (C.own z.1 z.2.1) (wipeG G vs) (tA z.2.2) (Gt z.2.2) js v σ H Q)
      (fun σ H Q => ∃ z : Addr × List Ty × α, (z.2.2 ∈ l ∧ C.M z.1 = false) ∧ tXt (C.own z.1 z.2.1) (Gt z.2.2) (t z.2.2) σ H Q)
      (fun σ H Q => ∃ z : Addr × List Ty × α, (z.2.2 ∈ l ∧ C.M z.1 = false ∧ t z.2.2 = true) ∧ tX (C.own z.1 z.2.1) (Gt z.2.2) (E z.2.2) σ H Q) vs σ H Q := by
  obtain ⟨ok, q⟩ := h
  refine ⟨ok, fun J H1 x1 e1 y1 D hD => ?_⟩
  have mD := x1.base.fresh hD
  refine ⟨fun i m H' => m + i = l.length ∧ EnvOk (C.own D (((l.take i).filter t).map E)) G σ H' ∧ Ex (hid C.M H1) (hid (C.own D []).M H'), ⟨l.length, rfl, x1.mkown hD .nil, mkown_le hD⟩, ?_⟩
  rintro i m H' ⟨hm, x2, e2⟩
  obtain ⟨y2, y3⟩ := y1 (C.own D []).M H' e2 (fun a h => x2.base.hidd a h) i
  by_cases hi : i < l.length
  · have ha : l[i]? = some l[i] := List.getElem?_eq_getElem hi
    have hmem : l[i] ∈ l := List.getElem_mem hi
    obtain ⟨go, yl⟩ := y2 (tA l[i]) (by rw [List.getElem?_map, ha]; rfl)
    have tk : l.take (i + 1) = l.take i ++ [l[i]] := by rw [List.take_add_one, ha]; rfl
    refine .inr ⟨go, fun H2 => EnvOk (C.own D (((l.take (i + 1)).filter t).map E)) G σ H2 ∧ Ex (hid C.M H1) (hid (C.own D []).M H2), fun H2 ⟨x3, e3⟩ => ⟨m - 1, by omega, by omega, x3, e3⟩, fun v H2 hy => ?_⟩
    obtain ⟨e3, p3⟩ := yl v H2 hy
    have x3 := x2.ex e3
    refine ⟨(D, ((l.take i).filter t).map E, l[i]), ⟨hmem, mD⟩, x3.wipe vs, p3, fun σ2 x4 f4 => ⟨wipe_fix f4 hj, (D, ((l.take i).filter t).map E, l[i]), ⟨hmem, mD⟩, x4, fun H3 x5 e5 => ?_⟩⟩
    have e6 : Ex (hid C.M H1) (hid (C.own D []).M H3) := (e2.trans (hid_mono e3)).trans e5
    have back : ∀ {H4 : Hp} {σ4 : St} {G4 : Env}, EnvOk (C.own D (((l.take i).filter t).map E)) G4 σ4 H4 → Ex (hid (C.own D []).M H2) (hid (C.own D []).M H4) → EnvOk (C.own D (((l.take i).filter t).map E)) G σ H4 := fun x e => ⟨x.base, x3.env.imp fun _ _ h => h.mono e⟩
    cases ht : t l[i] with
    | true =>
      refine ⟨(D, ((l.take i).filter t).map E, l[i]), ⟨hmem, mD, ht⟩, x5, fun y H4 x7 e7 p7 => ?_⟩
      obtain ⟨_, _, _, xs, h4, h5⟩ := id x7.base.om
      refine ⟨xs, h4, ?_, ?_, e6.trans (e7.trans (wrown_le (Ts := []) (Us := [])))⟩
      · rw [h5.length, List.length_map]
        have h6 := List.length_filter_le t (l.take i)
        rw [List.length_take] at h6
        exact Nat.lt_of_le_of_lt (Nat.le_trans h6 (Nat.le_trans (Nat.min_le_right _ _) hl)) (by decide)
      · have x8 := (back x7 (e5.trans e7)).wrown (Us := ((l.take (i + 1)).filter t).map E) (xs := xs ++ [y]) (by
          rw [tk, List.filter_append, List.map_append, List.filter_cons, if_pos ht]
          exact h5.append (.cons p7 .nil))
        exact x8
    | false =>
      refine ⟨?_, e6⟩
      rw [tk, List.filter_append, List.filter_cons, if_neg (by rw [ht]; decide)]
      show EnvOk (C.own D ((List.filter t (List.take i l) ++ []).map E)) G σ H3
      rw [List.append_nil]
      exact back x5 e5
  · have hl : i = l.length := by omega
    refine .inl ⟨y3 (by rw [List.length_map]; exact hl.symm), ?_⟩
    subst hl
    rw [List.take_length] at x2
    obtain ⟨_, m, _, xs, h4, h5⟩ := id x2.base.om
    exact q _ H' x2.of_own ((e1.trans e2).trans own_le) ⟨D, xs, rfl, hid_of m h4, h5.mono own_le⟩
end
end Nb
end -- NbD
section -- NbE
set_option maxHeartbeats 1000000
namespace Nb
open PySem PySem.Spec PyProof.Rows L2
section
variable {X : Cx} {C C' : HC} {G G' G'' : Env} {a b c e tg : Expr} {es tgs : List Expr} {T U W : Ty} {Ts Us : List Ty} {pos p pos2 apos tpos spos : Pos} {kk : Nat} {i : Nat}
theorem yld_new {H' : Hp} {M : Addr → Bool} {K : PySem.W.Frag} {q : Addr} {xs : List V} (tr : ∀ a, M a = true → ∃ o, H' a = some o) (n : H' q = none) (h : TyAll (hid M H') xs Ts) : Ex H' (upd H' q (.tup xs)) ∧ (tTup K Ts).P (hid M (upd H' q (.tup xs))) (.ref q) := by
  have e : Ex H' (upd H' q (.tup xs)) := Ex.new n
  have m : M q = false := by
    cases z : M q with
    | false => rfl
    | true => obtain ⟨o, ho⟩ := tr q z; rw [n] at ho; cases ho
  exact ⟨e, q, xs, rfl, SqT.of (hid_of m upd_same), h.mono (hid_mono e)⟩
theorem pix_enum {elts : List Expr} (hm : X.mg "enumerate" = none) (h : PX X C G e (tLst Ts)) (hg : Gl X "enumerate" := by rfl) (hs : starEach [e] X.env = [(false, eval e X.env)] := by rfl) (hs2 : starEach [e] X.env = (false, eval e X.env) :: starEach [] X.env := by rfl) :
    PIX X C G (.Tuple elts kk tpos) (.Call (.Name "enumerate" p) [e] [] pos) (Ts.zipIdx.map fun z => tTup X.K [tI ((z.2 : Nat) : Int), z.1]) :=
  PI.imp (pi_enum hg hm (pxs_cons h pxs_nil hs2) hs) fun σ H R ⟨ok, q⟩ => ⟨ok, fun vs H1 x1 e1 p1 => by
    cases p1 with
    | cons p1 t =>
      cases t
      obtain ⟨a, xs, rfl, h2, h3⟩ := p1
      refine ⟨a, xs, rfl, sqL_of_hid h2, q _ H1 x1 e1 fun M H' e tr i => ?_⟩
      have sL : SqL X.K H' a xs := sqL_of_hid (e _ _ h2)
      refine ⟨fun U hU => ?_, fun hl => ⟨xs, sL, by rw [List.length_map, List.length_zipIdx] at hl; rw [h3.length]; omega⟩⟩
      rw [List.getElem?_map, List.getElem?_zipIdx] at hU
      cases hT : Ts[i]? with
      | none => rw [hT] at hU; cases hU
      | some T =>
        rw [hT] at hU
        have hU' : tTup X.K [tI ((0 + i : Nat) : Int), T] = U := Option.some.inj hU
        rw [Nat.zero_add] at hU'
        subst hU'
        obtain ⟨v, e2, e3⟩ := h3.get hT
        refine ⟨⟨xs, v, sL, e2⟩, fun x H'' y => ?_⟩
        obtain ⟨q, w, rfl, n, rfl, f⟩ := y
        have := f xs sL
        rw [e2] at this
        cases this
        exact yld_new tr n (.cons rfl (.cons (T.mono e e3) .nil))⟩
theorem getElem?_zipMap {α β : Type} {f : α × β → Ty} {l : List α} {r : List β} {i : Nat} {U : Ty} (h : ((l.zip r).map f)[i]? = some U) : ∃ x y, l[i]? = some x ∧ r[i]? = some y ∧ U = f (x, y) := by
  rw [List.getElem?_map] at h
  cases z : (l.zip r)[i]? with
  | none => rw [z] at h; cases h
  | some w =>
    rw [z] at h
    obtain ⟨h1, h2⟩ := List.getElem?_zip_eq_some.mp z
    exact ⟨w.1, w.2, h1, h2, (Option.some.inj h).symm⟩
theorem pix_zip {elts : List Expr} (hm : X.mg "zip" = none) (ha : PX X C G a (tLst Ts)) (hb : PX X C G b (tLst Us)) (hg : Gl X "zip" := by rfl) (hs : starEach [a, b] X.env = (false, eval a X.env) :: starEach [b] X.env := by rfl) (hs2 : starEach [b] X.env = (false, eval b X.env) :: starEach [] X.env := by rfl) (hpl : (backTo pos (starEach [b] X.env)).any (·.1) = false := by rfl) :
    PIX X C G (.Tuple elts kk tpos) (.Call (.Name "zip" p) [a, b] [] pos) ((Ts.zip Us).map fun z => tTup X.K [z.1, z.2]) :=
  PI.imp (pi_zip hg hm (pxs_cons ha (pxs_cons hb pxs_nil hs2) hs) hs hpl) fun σ H R ⟨ok, q⟩ => ⟨ok, fun vs H1 x1 e1 p1 => by
    cases p1 with
    | cons p1 t =>
      cases t with
      | cons p2 t =>
        cases t
        obtain ⟨a, xs, rfl, h2, h3⟩ := p1
        obtain ⟨b, ys, rfl, h4, h5⟩ := p2
        refine ⟨a, b, xs, ys, rfl, sqL_of_hid h2, sqL_of_hid h4, q _ H1 x1 e1 fun M H' e tr i => ?_⟩
        have sL : SqL X.K H' a xs := sqL_of_hid (e _ _ h2)
        have sM : SqL X.K H' b ys := sqL_of_hid (e _ _ h4)
        refine ⟨fun U hU => ?_, fun hl => ⟨xs, ys, sL, sM, by rw [List.length_map, List.length_zip] at hl; rw [h3.length, h5.length]; omega⟩⟩
        obtain ⟨T1, T2, hT1, hT2, rfl⟩ := getElem?_zipMap hU
        obtain ⟨v, e2, e3⟩ := h3.get hT1
        obtain ⟨w, e4, e5⟩ := h5.get hT2
        refine ⟨⟨xs, ys, v, w, sL, sM, e2, e4⟩, fun x H'' y => ?_⟩
        obtain ⟨q, v', w', rfl, n, rfl, f1, f2⟩ := y
        have z1 := f1 xs sL
        have z2 := f2 ys sM
        rw [e2] at z1
        rw [e4] at z2
        cases z1
        cases z2
        exact yld_new tr n (.cons (T1.mono e e3) (.cons (T2.mono e e5) .nil))⟩
/-- reversed(range(n)) -/
theorem pix_rev {n : Nat} (hm : X.mg "range" = none) (hm2 : X.mg "reversed" = none) (ha : PX X C G a (tI (n : Nat))) (hn : n ≤ 1000000) (hg : Gl X "range" := by rfl) (hg2 : Gl X "reversed" := by rfl) {p2 pos3 : Pos}
    (hR : PI X tg (.Call (.Name "reversed" p2) [.Call (.Name "range" p) [a] [] pos] [] pos3) (iRevR (tRg1 (tX C G (tI (n : Nat)))))) :
    PIX X C G tg (.Call (.Name "reversed" p2) [.Call (.Name "range" p) [a] [] pos] [] pos3) ((List.range n).map fun i => tI (((n - 1 - i : Nat) : Int))) :=
  PI.imp hR fun σ H R ⟨ok, q⟩ => ⟨ok, fun v H1 x1 e1 p1 => by
    refine ⟨(n : Int), p1, by omega, by omega, by omega, by omega, q _ H1 x1 e1 fun M H' e _ i => ?_⟩
    refine ⟨fun T hT => ?_, fun hl => ?_⟩
    · obtain ⟨h1, rfl⟩ := getElem?_range hT
      refine ⟨show i < ((n : Int) - 0).toNat by omega, fun x H'' y => ?_⟩
      obtain ⟨rfl, rfl⟩ := y
      refine ⟨Ex.refl _, ?_⟩
      show V.int _ = V.int _
      congr 1
      omega
    · rw [List.length_map, List.length_range] at hl
      show ((n : Int) - 0).toNat ≤ i
      omega⟩
theorem PIX.cast' {ys : List Ty} {zs : List Ty} (h : PIX X C G tg e ys) (f : ys = zs) : PIX X C G tg e zs := f ▸ h
/-- the signs of a text -/
theorem pix_str {s : Str} (h : PX X C G e (tS s)) : PIX X C G tg e (s.cps.toList.map fun c => tS ⟨#[c]⟩) :=
  PI.imp (pi_str h) fun σ H R ⟨ok, q⟩ => ⟨ok, fun v H1 x1 e1 p1 => ⟨s, p1, q _ H1 x1 e1 fun M H' e tr i => by
    refine ⟨fun T hT => ?_, fun hl => ?_⟩
    · rw [List.getElem?_map] at hT
      cases z : s.cps.toList[i]? with
      | none => rw [z] at hT; cases hT
      | some c =>
        rw [z] at hT
        have hT' : tS ⟨#[c]⟩ = T := Option.some.inj hT
        subst hT'
        have zc : s.cps[i]? = some c := by rw [← Array.getElem?_toList]; exact z
        refine ⟨show i < s.cps.size from (Array.getElem?_eq_some_iff.mp zc).1, fun x H'' y => ?_⟩
        obtain ⟨rfl, c', hc', rfl⟩ := y
        rw [zc] at hc'
        cases hc'
        exact ⟨Ex.refl _, rfl⟩
    · rw [List.length_map, Array.length_toList] at hl
      show s.cps.size ≤ i
      omega⟩⟩
abbrev bk (X : Cx) (s : Shared) (H : Hp) (scope : Scope) (D : Addr) (cl : List (Str × Addr)) (fp : List Addr) : Cx := X.blk s H scope (compEnvC scope cl D X.env) fp
variable {α : Type} {l : List α} {tA E : α → Ty} {t : α → Bool} {Gt : α → Env} {js : List Nat} {own : List (Str × Nat)} {iter elt : Expr} {ifs : List Expr} {scope : Scope}
theorem px_lc (hc : X.calm = true) (hN : X.N.Nodup) (hi : PIX X C G tg iter (l.map tA)) (ok : BlkOk X.N X.env.scope scope own) (hj : ∀ k ∈ js, k ∈ own.map (·.2)) (hl : l.length ≤ 1000000)
    (hg : ∀ s H D cl fp d Vs a, PGX (bk X s H scope D cl fp) (C.own d Vs) (wipeG G (own.map (·.2))) tg (tA a) (Gt a) js)
    (ht : ∀ s H D cl fp d Vs a, a ∈ l → C.M d = false → PTs (bk X s H scope D cl fp) ifs (tXt (C.own d Vs) (Gt a) (t a)))
    (he : ∀ s H D cl fp d Vs a, a ∈ l → C.M d = false → t a = true → PX (bk X s H scope D cl fp) (C.own d Vs) (Gt a) elt (E a)) (hs : ∀ x, foldedSetIterable iter X.env x = pure x := by intro _; rfl) :
    PX X C G (.ListComp elt [⟨tg, iter, ifs, 0⟩] scope pos) (tLst ((l.filter t).map E)) :=
  PE.imp (pe_lc hc hN hi ok (fun s H D cl fp => PG_ex fun z : Addr × List Ty × α => PG_when fun h => hg s H D cl fp z.1 z.2.1 z.2.2) (fun s H D cl fp => PTs_ex fun z : Addr × List Ty × α => PTs_when fun h => ht s H D cl fp z.1 z.2.1 z.2.2 h.1 h.2)
    (fun s H D cl fp => PE_ex fun z : Addr × List Ty × α => pe_when fun h => he s H D cl fp z.1 z.2.1 z.2.2 h.1 h.2.1 h.2.2) hs) fun σ H Q h => lc_ok hj hl h
theorem set_lc {y : Str} {py : Pos} (hc : X.calm = true) (hN : X.N.Nodup) (hy : X.N[i]? = some y) (hyl : X.env.scope.names.lookup y = some .local) (hsw : swapsWith (.ListComp elt [⟨tg, iter, ifs, 0⟩] scope pos) (some (.Name y py)) spos.line X.env = pure true)
    (hi : PIX X C G tg iter (l.map tA)) (ok : BlkOk X.N X.env.scope scope own) (hj : ∀ k ∈ js, k ∈ own.map (·.2)) (hl : l.length ≤ 1000000)
    (hg : ∀ s H D cl fp d Vs a, PGX (bk X s H scope D cl fp) (C.own d Vs) (wipeG G (own.map (·.2))) tg (tA a) (Gt a) js)
    (ht : ∀ s H D cl fp d Vs a, a ∈ l → C.M d = false → PTs (bk X s H scope D cl fp) ifs (tXt (C.own d Vs) (Gt a) (t a)))
    (he : ∀ s H D cl fp d Vs a, a ∈ l → C.M d = false → t a = true → PX (bk X s H scope D cl fp) (C.own d Vs) (Gt a) elt (E a)) (hs : ∀ x, foldedSetIterable iter X.env x = pure x := by intro _; rfl) :
    PXset X C G (.Assign [.Name y py] (.ListComp elt [⟨tg, iter, ifs, 0⟩] scope pos) spos) i (tLst ((l.filter t).map E)) :=
  PS.imp (ps_setLc hc hN hy hyl hsw hi ok (fun s H D cl fp => PG_ex fun z : Addr × List Ty × α => PG_when fun h => hg s H D cl fp z.1 z.2.1 z.2.2) (fun s H D cl fp => PTs_ex fun z : Addr × List Ty × α => PTs_when fun h => ht s H D cl fp z.1 z.2.1 z.2.2 h.1 h.2)
    (fun s H D cl fp => PE_ex fun z : Addr × List Ty × α => pe_when fun h => he s H D cl fp z.1 z.2.1 z.2.2 h.1 h.2.1 h.2.2) hs) fun D σ H h => lc_ok hj hl h
theorem pts_yes : PTs X [] (tXt C G true) := ⟨fun pins s σ H Q I ⟨ok, q⟩ => pts_nil.run pins s σ H Q I (q H ok (Ex.refl _))⟩
theorem pts_if {x : Bool} (h : PXt X C G c x) : PTs X [c] (tXt C G x) := pts_one h
theorem filter_yes (l : List α) : l.filter (fun _ => true) = l := List.filter_eq_self.mpr fun _ _ => rfl
/-- no test, the target a name -/
theorem px_lcN {j : Nat} {y : Str} {p1 : Pos} (hc : X.calm = true) (hN : X.N.Nodup) (hi : PIX X C G (.Name y p1) iter (l.map tA)) (ok : BlkOk X.N X.env.scope scope own) (hj : j ∈ own.map (·.2)) (hl : l.length ≤ 1000000)
    (hg : ∀ s H D cl fp d Vs a, PGX (bk X s H scope D cl fp) (C.own d Vs) (wipeG G (own.map (·.2))) (.Name y p1) (tA a) ((wipeG G (own.map (·.2))).set j (some (tA a))) [j])
    (he : ∀ s H D cl fp d Vs a, a ∈ l → C.M d = false → PX (bk X s H scope D cl fp) (C.own d Vs) ((wipeG G (own.map (·.2))).set j (some (tA a))) elt (E a)) (hs : ∀ x, foldedSetIterable iter X.env x = pure x := by intro _; rfl) :
    PX X C G (.ListComp elt [⟨.Name y p1, iter, [], 0⟩] scope pos) (tLst (l.map E)) :=
  (px_lc (t := fun _ => true) hc hN hi ok (js := [j]) (fun k hk => by rw [List.mem_singleton.mp hk]; exact hj) hl hg (fun s H D cl fp d Vs a _ _ => pts_yes) (fun s H D cl fp d Vs a h1 h2 _ => he s H D cl fp d Vs a h1 h2) hs).cast (by rw [filter_yes])
theorem set_lcN {y z : Str} {py p1 : Pos} {j : Nat} (hc : X.calm = true) (hN : X.N.Nodup) (hy : X.N[i]? = some y) (hyl : X.env.scope.names.lookup y = some .local) (hsw : swapsWith (.ListComp elt [⟨.Name z p1, iter, [], 0⟩] scope pos) (some (.Name y py)) spos.line X.env = pure true)
    (hi : PIX X C G (.Name z p1) iter (l.map tA)) (ok : BlkOk X.N X.env.scope scope own) (hj : j ∈ own.map (·.2)) (hl : l.length ≤ 1000000)
    (hg : ∀ s H D cl fp d Vs a, PGX (bk X s H scope D cl fp) (C.own d Vs) (wipeG G (own.map (·.2))) (.Name z p1) (tA a) ((wipeG G (own.map (·.2))).set j (some (tA a))) [j])
    (he : ∀ s H D cl fp d Vs a, a ∈ l → C.M d = false → PX (bk X s H scope D cl fp) (C.own d Vs) ((wipeG G (own.map (·.2))).set j (some (tA a))) elt (E a)) (hs : ∀ x, foldedSetIterable iter X.env x = pure x := by intro _; rfl) :
    PXset X C G (.Assign [.Name y py] (.ListComp elt [⟨.Name z p1, iter, [], 0⟩] scope pos) spos) i (tLst (l.map E)) := by
  have h := set_lc (t := fun _ => true) hc hN hy hyl hsw hi ok (js := [j]) (fun k hk => by rw [List.mem_singleton.mp hk]; exact hj) hl hg (fun s H D cl fp d Vs a _ _ => pts_yes) (fun s H D cl fp d Vs a h1 h2 _ => he s H D cl fp d Vs a h1 h2) hs
  rw [filter_yes] at h
  exact h
end
/-- the context at a def's entry -/
def HC.at_ (H : Hp) (M : Addr → Bool) : HC := ⟨H, M, fun _ => false, fun _ _ => True, fun _ _ h => h, fun _ _ h => h, fun _ h => nomatch h⟩
/-- the context behind, as far as the caller sees -/
def RtOf (C : HC) (T : Ty) : RT := fun v H => (∀ a o, C.H0 a = some o → H a = some o) ∧ T.P (hid C.M H) v
structure Ext0 (C0 C : HC) : Prop where
  m : ∀ a, C0.M a = true → C.M a = true
  h : C.H0 = C0.H0
  s : C.S = fun _ => false
theorem Ext0.own {C0 C : HC} {o : Addr} {Ts : List Ty} (x : Ext0 C0 C) : Ext0 C0 (C.own o Ts) := ⟨fun a h => own_M (x.m a h), x.h, x.s⟩
theorem RtOf.of {C0 C : HC} {T : Ty} {v : V} {H : Hp} (x : Ext0 C0 C) (b : Base C H) (h : T.P (hid C.M H) v) : RtOf C0 T v H := ⟨fun a o e => b.old a o (by rw [x.s]) (by rw [x.h]; exact e), T.mono (hid_less x.m) h⟩
def startG (n : Nat) (Ts : List Ty) : Env := Ts.map some ++ List.replicate (n - Ts.length) none
theorem start_env {N : List Str} {vs : List V} {Ts : List Ty} {D : Hp} (h : TyAll D vs Ts) : All2 (Slot D) (L2.start N vs) (startG N.length Ts) := by
  unfold L2.start startG
  rw [h.length]
  refine All2.append ?_ ?_
  · induction h with
    | nil => exact .nil
    | cons h t ih => exact .cons h ih
  · generalize N.length - Ts.length = n
    induction n with
    | zero => exact .nil
    | succ n ih =>
      rw [List.replicate_succ, List.replicate_succ]
      exact .cons trivial ih
section
variable {K : PySem.W.Frag} {mg : Str → Option Value} {base : Heap} {P : Program} {w : World}
theorem pur_ok {α : Type} {args : α → List Ty} {pre : α → Prop} {res : α → Ty} {x qual : Str} {params : Arguments} {body : List Stmt} {scope : Scope} {dvs : List V} {kws : List (Str × V)} {f : Addr} {fd : FuncData} {N ps : List Str} {k : Nat}
    (F : FunD K x qual params body scope dvs kws f fd) (S : FnScope N ps scope) (hl : ∀ z, (args z).length = ps.length)
    (hb : ∀ (cdv : Value) (A : Around) (outer : List PySem.Env) (s : Shared) (H : Hp) (E : XK) (C0 C : HC) (z : α), Room k (A.deeper (envOfC qual scope s.heap.objs.size f cdv)) → Ext0 C0 C → pre z →
      PB (cxOf CX0 P w K mg base N qual scope f cdv A outer s H E).nox C (startG N.length (args z)) body (fun _ H' => RtOf C0 (res z) .non H') (RtOf C0 (res z))) :
    FnOk P w K mg base CX0 (k + 1) f fd ps (Pur args pre res) := by
  refine FunD.ok F S (fun vs H Q E ⟨M, z, _, h, _⟩ => by rw [h.length, hl]) (fun cdv A outer s H vs Q E hr ⟨M, z, tr, h, hp, q⟩ => ?_)
  refine ⟨_, PSs.nox (hb cdv A outer s H E (HC.at_ H M) (HC.at_ H M) z hr ⟨fun _ h => h, rfl, rfl⟩ hp), ⟨⟨fun a o _ e => e, tr, trivial⟩, start_env h⟩, fun σ' H' ⟨n1, n2⟩ _ => q _ H' n1 n2, fun v H' ⟨n1, n2⟩ => q v H' n1 n2⟩
end
end Nb
end -- NbE
section -- NbF
set_option maxHeartbeats 1000000
namespace Nb
open PySem PySem.Spec PyProof.Rows L2
/-- a def of the module -/
def Def (K : PySem.W.Frag) (mg : Str → Option Value) (x : Str) (st : Stmt) : Prop := ∃ f fd, mg x = some (.ref f) ∧ FunD K x x (defArgs st) (defBody st) (defScope st) [] [] f fd
section
variable {K : PySem.W.Frag} {mg : Str → Option Value} {base : Heap} {P : Program} {w : World}
theorem Def.ok {α : Type} {args : α → List Ty} {pre : α → Prop} {res : α → Ty} {x : Str} {st : Stmt} {N ps : List Str} {k : Nat} (D : Def K mg x st) (S : FnScope N ps (defScope st)) (hl : ∀ z, (args z).length = ps.length)
    (hbind : ∀ (kV doc pm : Value) (an : Option Addr) (cdv ct : Value) (us : List Value), us.length = ps.length → bindArgs (PySem.W.fnOf x x (defArgs st) (defBody st) (defScope st) .none kV doc pm an cdv ct) ⟨us, []⟩ = pure (ps.zip us))
    (hb : ∀ (f : Addr) (cdv : Value) (A : Around) (outer : List PySem.Env) (s : Shared) (H : Hp) (E : XK) (C0 C : HC) (z : α), Room k (A.deeper (envOfC x (defScope st) s.heap.objs.size f cdv)) → Ext0 C0 C → pre z →
      PB (cxOf CX0 P w K mg base N x (defScope st) f cdv A outer s H E).nox C (startG N.length (args z)) (defBody st) (fun _ H' => RtOf C0 (res z) .non H') (RtOf C0 (res z))) :
    Ok P w K mg base (k + 1) x ps (Pur args pre res) := by
  obtain ⟨f, fd, hm, F⟩ := D
  exact ⟨f, fd, hm, F.kp, F.bindsN hbind, pur_ok F S hl fun cdv A outer s H E C0 C z hr hx hp => hb f cdv A outer s H E C0 C z hr hx hp⟩
end
/-- less is known -/
def GLe (G G' : Env) : Prop := All2 (fun a b => b = none ∨ a = b) G G'
theorem GLe.env {D : Hp} : ∀ {G G' : Env} {σ : St}, GLe G G' → All2 (Slot D) σ G → All2 (Slot D) σ G'
  | _, _, _, .nil, h => h
  | _, _, _, .cons h t, .cons q r => .cons (by rcases h with rfl | rfl; exact trivial; exact q) (GLe.env t r)
theorem EnvOk.weak {C : HC} {G G' : Env} {σ : St} {H : Hp} (x : EnvOk C G σ H) (h : GLe G G') : EnvOk C G' σ H := ⟨x.base, h.env x.env⟩
theorem gle_keep {o : Option Ty} {G G' : Env} (h : GLe G G') : GLe (o :: G) (o :: G') := .cons (.inr rfl) h
theorem gle_drop {o : Option Ty} {G G' : Env} (h : GLe G G') : GLe (o :: G) (none :: G') := .cons (.inl rfl) h
theorem gle_nil : GLe [] [] := .nil
local macro_rules | `(tactic| walk_at "gle") => `(tactic| repeat' first | exact gle_nil | refine gle_keep ?_ | refine gle_drop ?_)
/-- return e -/
theorem pb_retP {X : Cx} {C0 C : HC} {G : Env} {e : Expr} {T : Ty} {pos : Pos} {Nx : NX} (x : Ext0 C0 C) (he : PX X C G e T) : PB X C G [.Return (some e) pos] Nx (RtOf C0 T) := pb_ret he fun v H b h => RtOf.of x b h
end Nb
end -- NbF
section -- NbG
set_option maxHeartbeats 1000000
namespace Nb
open PySem PySem.Spec PyProof.Rows L2
section
variable {X : Cx} {C C' : HC} {G G' : Env} {a b c e : Expr} {es : List Expr} {T U W : Ty} {Ts Us : List Ty} {pos p p2 pos2 : Pos} {rest : List Stmt} {Nx : NX} {Rt : RT} {x : Str}
theorem va (i : Nat) (h : G[i]? = some (some T)) (hN : X.N[i]? = some x := by rfl) (hv : Vis X.env.scope x := by first | exact .inl rfl | exact .inr (.inl rfl) | exact .inr (.inr rfl)) (hd : (x == ("__debug__" : Str)) = false := by decide) (hcd : (x == ("__classdict__" : Str)) = false := by decide) : PX X C G (.Name x pos) T := px_var h hN hv hd hcd
theorem plet (nd : X.N.Nodup) (i : Nat) (he : PX X C G e T) (hr : PB X C (G.set i (some T)) rest Nx Rt) (hi : X.N[i]? = some x := by rfl) (hx : Loc X.env.scope x := by first | exact .inl rfl | exact .inr rfl) (hs : swapsWith e (some (.Name x pos2)) pos.line X.env = pure false := by rfl)
    (hf : X.fn x = true ∨ X.env.scope.names.lookup x = some .local := by first | exact .inl rfl | exact .inr rfl) : PB X C G (.Assign [.Name x pos2] e pos :: rest) Nx Rt := pb_let (set_e nd hi hx he hs hf) hr
theorem pletEx (nd : X.N.Nodup) (i : Nat) {β : Type} {P : β → Prop} {T : β → Ty} (he : PX X C G e (tEx P T)) (hr : ∀ z, P z → PB X C (G.set i (some (T z))) rest Nx Rt) (hi : X.N[i]? = some x := by rfl) (hx : Loc X.env.scope x := by first | exact .inl rfl | exact .inr rfl) (hs : swapsWith e (some (.Name x pos2)) pos.line X.env = pure false := by rfl)
    (hf : X.fn x = true ∨ X.env.scope.names.lookup x = some .local := by first | exact .inl rfl | exact .inr rfl) : PB X C G (.Assign [.Name x pos2] e pos :: rest) Nx Rt := pb_letEx (set_e nd hi hx he hs hf) hr
theorem psq {tg : Expr} (i : Nat) (h : G[i]? = some (some (tSeq X.K Ts))) (hN : X.N[i]? = some x := by rfl) (hv : Vis X.env.scope x := by first | exact .inl rfl | exact .inr (.inl rfl) | exact .inr (.inr rfl)) (h1 : (x == ("__debug__" : Str)) = false := by decide) (h2 : (x == ("__classdict__" : Str)) = false := by decide) : PIX X C G tg (.Name x pos) Ts := pix_seqV h hN hv h1 h2
theorem nm (nd : X.N.Nodup) (i : Nat) (hi : X.N[i]? = some x := by rfl) (hx : Loc X.env.scope x := by first | exact .inl rfl | exact .inr rfl) (hf : X.fn x = true ∨ X.env.scope.names.lookup x = some .local := by first | exact .inl rfl | exact .inr rfl) : PGX X C G (.Name x pos) T (G.set i (some T)) [i] := pgx_name nd hi hx hf
def HasTy (K : PySem.W.Frag) (T : Ty) (n : String) : Prop := ∀ H v, T.P H v → TyX K H v (.type n)
theorem hasI {K : PySem.W.Frag} {i : Int} : HasTy K (tI i) "int" := fun H v h => by rw [show v = V.int i from h]; exact .base (.int i)
theorem hasB {K : PySem.W.Frag} {i : Bool} : HasTy K (tB i) "bool" := fun H v h => by rw [show v = V.bl i from h]; exact .base (.bl i)
theorem hasS {K : PySem.W.Frag} {i : Str} : HasTy K (tS i) "str" := fun H v h => by rw [show v = V.str i from h]; exact .base (.str i)
theorem hasN {K : PySem.W.Frag} : HasTy K tN "NoneType" := fun H v h => by rw [show v = V.non from h]; exact .base .non
theorem hasT {K : PySem.W.Frag} : HasTy K (tTup K Ts) "tuple" := fun H v h => by
  obtain ⟨a, xs, rfl, h2, _⟩ := h
  rcases h2 with (h | ⟨o, h⟩) | ⟨o, its, n, h, hc, _⟩
  · exact .base (.tup h)
  · exact .fTuple h
  · exact .kTuple h hc
theorem hasL {K : PySem.W.Frag} : HasTy K (tLst Ts) "list" := fun H v h => by
  obtain ⟨a, xs, rfl, h2, _⟩ := h
  exact .base (.lst h2)
theorem px_isi {cn : Str} {n m : String} {r : Bool} (hT : HasTy X.K T n) (hk : kitB n m = some r) (hm : X.mg "isinstance" = none) (hm2 : X.mg cn = none) (hb : bootBuiltins cn = some (.type m)) (ha : PX X C G e T) (hg : Gl X "isinstance" := by rfl) (hg2 : Gl X cn := by rfl) (hn : cn ≠ "__name__" := by decide) (hdb : (cn == ("__debug__" : Str)) = false := by decide)
    (h1 : starEach [e, .Name cn p2] X.env = (false, eval e X.env) :: starEach [.Name cn p2] X.env := by rfl) (h2 : starEach [.Name cn p2] X.env = (false, eval (.Name cn p2) X.env) :: starEach [] X.env := by rfl) (hpl : (backTo pos (starEach [.Name cn p2] X.env)).any (·.1) = false := by rfl) :
    PX X C G (.Call (.Name "isinstance" p) [e, .Name cn p2] [] pos) (tB r) :=
  px_callB call_isi (Ts := [T, tC (.ty m)]) (fun H vs Q bs h q => by
    cases h with
    | cons ha t =>
      cases t with
      | cons hb t =>
        cases t
        exact ⟨_, .ty m, .type n, .type m, r, by rw [show _ = V.ty m from hb], .ty m, hT H _ (T.mono hid_le ha), kit_ty hk, q _ H (Ex.refl H) rfl⟩) hm boot_isinstance (pxs_cons ha (pxs_cons (PE.imp (pe_bltn (v := .ty m) hg2 hm2 hb rfl hn hdb) fun _ H _ ⟨x, q⟩ => q _ H x (Ex.refl _) rfl) pxs_nil h2) h1) hg (he := h1) (hpl := hpl)
end
def SZ : Nat := 2 ^ 2000
def Sz (q : Rat) : Prop := q.num.natAbs < SZ ∧ q.den < SZ
abbrev tQ (K : PySem.W.Frag) (q : Rat) : Ty := tTup K [tI q.num, tI (q.den : Int)]
/-- a number in any of its forms -/
def tNum (K : PySem.W.Frag) (q : Rat) : Ty := ⟨fun H v => (∃ i : Int, v = .int i ∧ i.natAbs < SZ ∧ q = (i : Rat)) ∨ ∃ n d : Int, (tTup K [tI n, tI d]).P H v ∧ 0 < d ∧ n.natAbs < SZ ∧ d.natAbs < SZ ∧ q = Rat.divInt n d,
  fun e h => h.imp id fun ⟨n, d, h, r⟩ => ⟨n, d, Ty.mono _ e h, r⟩⟩
section
variable {X : Cx} {C C' : HC} {G G' : Env} {a b c e : Expr}
theorem PX.num {q : Rat} (h : PX X C G e (tQ X.K q)) (s : Sz q) : PX X C G e (tNum X.K q) := h.sub fun H v h => .inr ⟨q.num, q.den, h, by have := q.den_pos; omega, s.1, by simpa using s.2, (Rat.num_divInt_den q).symm⟩
theorem PX.numI {i : Int} (h : PX X C G e (tI i)) (s : i.natAbs < SZ) : PX X C G e (tNum X.K (i : Rat)) := h.sub fun H v h => .inl ⟨i, h, s, rfl⟩
end
theorem szMul {i j : Int} (hi : i.natAbs < 2 ^ 8000) (hj : j.natAbs < 2 ^ 8000) : CMulW i j := wide_mul hi hj (by omega) (by omega) (by omega)
theorem szMul0 {i j : Int} (hi : i.natAbs < SZ) (hj : j.natAbs < SZ) : CMulW i j := wide_mul (a := 2000) (b := 2000) hi hj (by omega) (by omega) (by omega)
theorem szDiv {i j : Int} (h : 0 < j) (hj : j.natAbs < 2 ^ 8000) : CDivW i j := wide_div h hj (by omega) (by omega)
theorem SZ_le {n k : Nat} (h : n < SZ) (hk : 2000 ≤ k) : n < 2 ^ k := Nat.lt_of_lt_of_le h (Nat.pow_le_pow_right (by omega) hk)
theorem szProd {i j : Int} (hi : i.natAbs < SZ) (hj : j.natAbs < SZ) : (i * j).natAbs < 2 ^ 4000 := by
  rw [Int.natAbs_mul, show (4000 : Nat) = 2000 + 2000 from rfl, Nat.pow_add]
  exact Nat.mul_lt_mul'' hi hj
theorem szSum {i j : Int} {n : Nat} (hi : i.natAbs < 2 ^ n) (hj : j.natAbs < 2 ^ n) : (i + j).natAbs < 2 ^ (n + 1) := by
  rw [Nat.pow_succ]
  omega
theorem szUp {i : Int} {n m : Nat} (h : i.natAbs < 2 ^ n) (hm : n ≤ m) : i.natAbs < 2 ^ m := Nat.lt_of_lt_of_le h (Nat.pow_le_pow_right (by omega) hm)
theorem low_num {n d : Int} (h : 0 < d) : n / (Int.gcd n d : Int) = (Rat.divInt n d).num := by
  rw [Rat.num_divInt, Int.sign_eq_one_of_pos h, Int.one_mul, Int.gcd_comm]
theorem low_den {n d : Int} (h : 0 < d) : d / (Int.gcd n d : Int) = ((Rat.divInt n d).den : Int) := by
  rw [Rat.den_divInt, if_neg (by omega), Int.gcd_comm]
  obtain ⟨m, rfl⟩ : ∃ m : Nat, d = (m : Int) := ⟨d.toNat, by omega⟩
  rw [Int.natAbs_natCast]
  exact (Int.natCast_ediv _ _).symm
theorem plus_divInt (p q : Rat) : Rat.divInt (p.num * (q.den : Int) + q.num * (p.den : Int)) ((p.den : Int) * (q.den : Int)) = p + q := by
  rw [Rat.add_def', ← Rat.divInt_ofNat]
  push_cast
  rfl
theorem minus_divInt (p q : Rat) : Rat.divInt (p.num * (q.den : Int) - q.num * (p.den : Int)) ((p.den : Int) * (q.den : Int)) = p - q := by
  rw [Rat.sub_def', ← Rat.divInt_ofNat]
  push_cast
  rfl
theorem times_divInt (p q : Rat) : Rat.divInt (p.num * q.num) ((p.den : Int) * (q.den : Int)) = p * q := by
  rw [Rat.mul_def', ← Rat.divInt_ofNat]
  push_cast
  rfl
theorem den_pos' (p : Rat) : (0 : Int) < (p.den : Int) := by have := p.den_pos; omega
end Nb
end -- NbG
section -- NbT
set_option maxHeartbeats 1000000
namespace Nb
open PySem PySem.Spec PyProof.Rows L2
/-- a def of the module under the name g -/
def DefA (K : PySem.W.Frag) (mg : Str → Option Value) (g x : Str) (st : Stmt) (kws : List (Str × V)) : Prop := ∃ f fd, mg g = some (.ref f) ∧ FunD K x x (defArgs st) (defBody st) (defScope st) [] kws f fd
structure Txt (K : PySem.W.Frag) (mg : Str → Option Value) : Prop where
  d_is_integer_value : Def K mg "is_integer_value" (top 22)
  d_parts_of : Def K mg "parts_of" (top 23)
  d_common_divisor : Def K mg "common_divisor" (top 24)
  d_fraction : Def K mg "fraction" (top 25)
  d_sum_of_two : Def K mg "sum_of_two" (top 26)
  d_product_of_two : Def K mg "product_of_two" (top 27)
  d_opposite : Def K mg "opposite" (top 28)
  d_order_of : Def K mg "order_of" (top 29)
  d_add : Def K mg "add" (top 30)
  d_sub : Def K mg "sub" (top 31)
  d_mul : Def K mg "mul" (top 32)
  d_div : Def K mg "div" (top 33)
  d_compare : Def K mg "compare" (top 34)
  d_total : Def K mg "total" (top 35)
  d_check_some : Def K mg "check_some" (top 36)
  d_farthest_value : Def K mg "farthest_value" (top 37)
  d_least : Def K mg "least" (top 38)
  d_greatest : Def K mg "greatest" (top 39)
  d_check_shape : Def K mg "check_shape" (top 46)
  d_has_only : Def K mg "has_only" (top 47)
  d_check_text : Def K mg "check_text" (top 48)
  d_check_row : Def K mg "check_row" (top 49)
  d_count_texts : Def K mg "count_texts" (top 50)
  d_next_texts : Def K mg "next_texts" (top 51)
  d_index_of : Def K mg "index_of" (top 52)
  d_most_rounds : Def K mg "most_rounds" (top 53)
  d_letters : Def K mg "letters" (top 54)
  d_check_same_shape : Def K mg "check_same_shape" (top 59)
  d_check_size : Def K mg "check_size" (top 63)
  d_share_parts : Def K mg "share_parts" (top 64)
  d_is_sharing : Def K mg "is_sharing" (top 65)
  d_sharing_at : Def K mg "sharing_at" (top 66)
  d_checked_levels : Def K mg "checked_levels" (top 70)
  d_height : Def K mg "height" (top 71)
  d_poured : Def K mg "poured" (top 72)
  d_reached_places : Def K mg "reached_places" (top 73)
  d_even_chances : Def K mg "even_chances" (top 74)
  d_fill : Def K mg "fill" (top 75)
  d_fill_shares : Def K mg "fill_shares" (top 76)
  d_fill_chances : Def K mg "fill_chances" (top 77)
  d_check_rounds : Def K mg "check_rounds" (top 81)
  d_same_shape : Def K mg "same_shape" (top 82)
  d_check_ladder : Def K mg "check_ladder" (top 87)
  d_ladder_bounds : Def K mg "ladder_bounds" (top 88)
  d_misses_behind : Def K mg "misses_behind" (top 89)
  d_chances_behind : Def K mg "chances_behind" (top 90)
  d_next_values : Def K mg "next_values" (top 91)
  d_inner_many : Def K mg "inner_many" (top 92)
  d_anytime_folds : Def K mg "anytime_folds" (top 93)
  d_anytime_fold : Def K mg "anytime_fold" (top 94)
  d_fold_levels : Def K mg "fold_levels" (top 95)
  d_anytime_chooser : Def K mg "anytime_chooser" (top 96)
  d_anytime_foe : Def K mg "anytime_foe" (top 97)
  d_anytime_slack : Def K mg "anytime_slack" (top 98)
  d_is_inner : Def K mg "is_inner" (top 99)
  d_check_stops : Def K mg "check_stops" (top 100)
  d_stop_marks : Def K mg "stop_marks" (top 101)
  d_stopped_misses : Def K mg "stopped_misses" (top 103)
  d_stopped_mean : Def K mg "stopped_mean" (top 104)
  d_anytime_paper : Def K mg "anytime_paper" (top 105)
  d_is_anytime_paper : Def K mg "is_anytime_paper" (top 106)
  d__law_store : Def K mg "_law_store" (top 108)
  d__law_mixed : Def K mg "_law_mixed" (top 109)
  d__law_take : Def K mg "_law_take" (top 110)
  d__law_edge : Def K mg "_law_edge" (top 111)
  d__law_gcd : Def K mg "_law_gcd" (top 112)
  d__law_low : Def K mg "_law_low" (top 113)
  d__law_plus : Def K mg "_law_plus" (top 114)
  d__law_minus : Def K mg "_law_minus" (top 115)
  d__law_times : Def K mg "_law_times" (top 116)
  d__law_below : Def K mg "_law_below" (top 117)
  d__law_sum : Def K mg "_law_sum" (top 118)
  d__law_lowest : Def K mg "_law_lowest" (top 119)
  d__law_small : Def K mg "_law_small" (top 120)
  d__law_same : Def K mg "_law_same" (top 121)
  d__law_texts_b : Def K mg "_law_texts_b" (top 122)
  d__law_inner : Def K mg "_law_inner" (top 123)
  d__law_place : Def K mg "_law_place" (top 124)
  d__law_index : Def K mg "_law_index" (top 125)
  d__law_free : Def K mg "_law_free" (top 126)
  d__law_miss_cells_b : Def K mg "_law_miss_cells_b" (top 127)
  d__law_classes : Def K mg "_law_classes" (top 128)
  d__law_denied : Def K mg "_law_denied" (top 129)
  d__law_dealt : Def K mg "_law_dealt" (top 130)
  d__law_dealt_all : Def K mg "_law_dealt_all" (top 131)
  d__law_even : Def K mg "_law_even" (top 132)
  d__law_frame : Def K mg "_law_frame" (top 133)
  d__law_bounds : Def K mg "_law_bounds" (top 134)
  d__law_slack_of : Def K mg "_law_slack_of" (top 135)
  d__law_some : Def K mg "_law_some" (top 136)
  d__law_are_sharings : Def K mg "_law_are_sharings" (top 137)
  d__law_stopped_walk : Def K mg "_law_stopped_walk" (top 138)
  d__law_mean_of : Def K mg "_law_mean_of" (top 139)
  d__law_worth_of : Def K mg "_law_worth_of" (top 140)
  d__law_form : Def K mg "_law_form" (top 141)
  d__law_drawn : Def K mg "_law_drawn" (top 142)
  d__law_holds : Def K mg "_law_holds" (top 143)
  d__law_judged : Def K mg "_law_judged" (top 144)
  d__law_unlike : Def K mg "_law_unlike" (top 145)
  d__law_wrong : Def K mg "_law_wrong" (top 146)
  d_law : Def K mg "law" (top 147)
  d_check_count_rows : DefA K mg "check_count_rows" "check_count" (top 44) []
  d_check_count_horizons : DefA K mg "check_count_horizons" "check_count" (top 79) []
  d_is_row : DefA K mg "is_row" "is_row" (top 55) [("width", .int 2)]
  d_beginnings_of : DefA K mg "beginnings_of" "beginnings_of" (top 56) [("width", .int 2)]
  d_all_beginnings : DefA K mg "all_beginnings" "all_beginnings" (top 57) [("width", .int 2)]
  d_endings : DefA K mg "endings" "endings" (top 102) [("width", .int 2)]
  f_abs : mg "abs" = none
  f_int : mg "int" = none
  f_len : mg "len" = none
  f_isinstance : mg "isinstance" = none
  f_range : mg "range" = none
  f_list : mg "list" = none
  f_tuple : mg "tuple" = none
  f_str : mg "str" = none
  f_sum : mg "sum" = none
  f_enumerate : mg "enumerate" = none
  f_zip : mg "zip" = none
  f_reversed : mg "reversed" = none
  f_all : mg "all" = none
  f_min : mg "min" = none
  f_bool : mg "bool" = none
  f_ValueError : mg "ValueError" = none
  c_OUTCOMES : ∃ t, mg "OUTCOMES" = some (.str "01234" t)
  c_WIDEST : ∃ t, mg "WIDEST" = some (.int 5 t)
  c_MOST_LEVELS : ∃ t, mg "MOST_LEVELS" = some (.int 5 t)
  c_GOES_ON : ∃ t, mg "GOES_ON" = some (.int 0 t)
  c_ENDS : ∃ t, mg "ENDS" = some (.int 1 t)
  c_IS_OVER : ∃ t, mg "IS_OVER" = some (.int 2 t)
  c_MOST_ROUNDS : ∃ a, mg "MOST_ROUNDS" = some (.ref a) ∧ ∀ H, SqT K H a [.int 8, .int 8, .int 5, .int 4, .int 3]
  c_WHOLE_SHARE : ∃ a, mg "WHOLE_SHARE" = some (.ref a) ∧ ∀ H, SqT K H a [.int 1, .int 1]
end Nb
end -- NbT
section -- L1
set_option maxHeartbeats 1000000
namespace Nb
open PySem PySem.Spec PyProof.Rows L2
section
variable {K : PySem.W.Frag} {mg : Str → Option Value} {base : Heap} {P : Program} {w : World}
theorem sc112 : FnScope ["_law_left", "_law_right", "_law_rest"] ["_law_left", "_law_right"] (defScope (top 112)) := ⟨rfl, rfl, rfl, by decide +kernel, rfl, by decide +kernel, by decide +kernel⟩
theorem ok_gcd (T : Txt K mg) : Ok P w K mg base 1 "_law_gcd" ["_law_left", "_law_right"] (Pur (fun z : Int × Int => [tI z.1, tI z.2]) (fun z => True) (fun z => tI (Int.gcd z.1 z.2))) := by
  refine T.d__law_gcd.ok sc112 (fun _ => rfl) (fun _ _ _ _ _ _ us hl => match us, hl with | [_, _], _ => rfl) fun f cdv A outer s H E C0 C z hr x hp => ?_
  obtain ⟨a, b'⟩ := z
  show PB _ C [some (tI a), some (tI b'), none] _ _ _
  refine plet sc112.nd 0 (px_abs T.f_abs boot_abs (va 0 rfl)) ?_
  refine plet sc112.nd 1 (px_abs T.f_abs boot_abs (va 1 rfl)) ?_
  refine pb_while (β := Int × Int) (fun b => 0 ≤ b.1 ∧ 0 ≤ b.2 ∧ Int.gcd b.1 b.2 = Int.gcd a b') (fun b => [some (tI b.1), some (tI b.2), none]) (fun b => decide (0 < b.2)) (fun b => b.2.toNat) (if a < 0 then -a else a, if b' < 0 then -b' else b') ?_ PassesOwn.never (fun _ _ h => h)
    (fun b _ => pxt_gt (va 1 rfl) px_int) (fun b hb ht => ?_) (fun b hb ht => ?_)
  · refine ⟨by split <;> omega, by split <;> omega, ?_⟩
    show Int.gcd (if a < 0 then -a else a) (if b' < 0 then -b' else b') = _
    split <;> split <;> simp [Int.gcd]
  · obtain ⟨h1, h2, h3⟩ := hb
    have h4 : 0 < b.2 := of_decide_eq_true ht
    refine plet sc112.nd 2 (px_mod (px_toInt T.f_int boot_int (va 0 rfl)) (va 1 rfl) h4) ?_
    refine plet sc112.nd 0 (va 1 rfl) ?_
    refine plet sc112.nd 1 (va 2 rfl) ?_
    refine pb_nil fun σ H h => ⟨(b.2, b.1 % b.2), ⟨h2, Int.emod_nonneg _ (by omega), ?_⟩, ?_, h.weak (gle_keep (gle_keep (gle_drop gle_nil)))⟩
    · rw [← h3]
      show Int.gcd b.2 (b.1 % b.2) = Int.gcd b.1 b.2
      rw [Int.gcd_comm b.1 b.2]
      unfold Int.gcd
      rw [Nat.gcd_rec b.2.natAbs b.1.natAbs, Int.natAbs_emod_of_nonneg h1, Nat.gcd_comm]
    · have := Int.emod_lt_of_pos b.1 h4
      show (b.1 % b.2).toNat < b.2.toNat
      omega
  · obtain ⟨h1, h2, h3⟩ := hb
    have h4 : b.2 = 0 := by have := of_decide_eq_false ht; omega
    refine pb_retP x ((va 0 rfl).cast ?_)
    rw [← h3, h4]
    show tI b.1 = tI ((Int.gcd b.1 0 : Nat) : Int)
    rw [Int.gcd_zero_right]
    congr 2
    omega
theorem sc113 : FnScope ["_law_top", "_law_bottom", "_law_part"] ["_law_top", "_law_bottom"] (defScope (top 113)) := ⟨rfl, rfl, rfl, by decide +kernel, rfl, by decide +kernel, by decide +kernel⟩
abbrev spLow (K : PySem.W.Frag) : Sp := Pur (fun z : Int × Int => [tI z.1, tI z.2]) (fun z => 0 < z.2 ∧ z.1.natAbs < 2 ^ 8000 ∧ z.2.natAbs < 2 ^ 8000) (fun z => tQ K (Rat.divInt z.1 z.2))
theorem ok_low (T : Txt K mg) : Ok P w K mg base 2 "_law_low" ["_law_top", "_law_bottom"] (spLow K) := by
  refine T.d__law_low.ok sc113 (fun _ => rfl) (fun _ _ _ _ _ _ us hl => match us, hl with | [_, _], _ => rfl) fun f cdv A outer s H E C0 C z hr x hp => ?_
  obtain ⟨n, d⟩ := z
  obtain ⟨h0, h1, h2⟩ := hp
  replace h0 : 0 < d := h0
  have g0 : 0 < (Int.gcd n d : Int) := by have := Int.gcd_pos_of_ne_zero_right n (show d ≠ 0 by omega); omega
  have g1 : ((Int.gcd n d : Int)).natAbs < 2 ^ 8000 := by
    have := Int.gcd_le_natAbs_right (a := n) (b := d) (by omega)
    rw [Int.natAbs_natCast]
    exact Nat.lt_of_le_of_lt this h2
  show PB _ C [some (tI n), some (tI d), none] _ _ _
  refine pb_guard (pxt_eq (va 1 rfl) px_int) (fun h => absurd (of_decide_eq_true h) (by omega)) fun _ => ?_
  refine pb_if (C' := C) (G' := [some (tI n), some (tI d), none]) (pxt_lt (va 1 rfl) px_int) (fun h => absurd (of_decide_eq_true h) (by omega)) (fun _ => pb_end) ?_
  refine plet sc113.nd 2 (px_call (ok_gcd T) (n, d) rfl hr (pxs_cons (va 0 rfl) (pxs_cons (va 1 rfl) pxs_nil)) trivial) ?_
  refine pb_retP x ((px_tup (pxs_cons (px_fdivW (va 0 rfl) (va 2 rfl) (szDiv g0 g1)) (pxs_cons (px_fdivW (va 1 rfl) (va 2 rfl) (szDiv g0 g1)) pxs_nil))).cast ?_)
  show tTup K [tI (n / _), tI (d / _)] = tTup K [tI _, tI _]
  rw [low_num h0, low_den h0]
theorem sc114 : FnScope ["_law_left", "_law_right"] ["_law_left", "_law_right"] (defScope (top 114)) := ⟨rfl, rfl, rfl, by decide +kernel, rfl, by decide +kernel, by decide +kernel⟩
theorem sc115 : FnScope ["_law_left", "_law_right"] ["_law_left", "_law_right"] (defScope (top 115)) := ⟨rfl, rfl, rfl, by decide +kernel, rfl, by decide +kernel, by decide +kernel⟩
theorem sc116 : FnScope ["_law_left", "_law_right"] ["_law_left", "_law_right"] (defScope (top 116)) := ⟨rfl, rfl, rfl, by decide +kernel, rfl, by decide +kernel, by decide +kernel⟩
theorem sc117 : FnScope ["_law_left", "_law_right"] ["_law_left", "_law_right"] (defScope (top 117)) := ⟨rfl, rfl, rfl, by decide +kernel, rfl, by decide +kernel, by decide +kernel⟩
theorem denS {q : Rat} (h : Sz q) : (q.den : Int).natAbs < SZ := by rw [Int.natAbs_natCast]; exact h.2
abbrev spQ2 (K : PySem.W.Frag) (g : Rat → Rat → Ty) : Sp := Pur (fun z : Rat × Rat => [tQ K z.1, tQ K z.2]) (fun z => Sz z.1 ∧ Sz z.2) (fun z => g z.1 z.2)
theorem ok_plus (T : Txt K mg) : Ok P w K mg base 3 "_law_plus" ["_law_left", "_law_right"] (spQ2 K fun a b => tQ K (a + b)) := by
  refine T.d__law_plus.ok sc114 (fun _ => rfl) (fun _ _ _ _ _ _ us hl => match us, hl with | [_, _], _ => rfl) fun f cdv A outer s H E C0 C z hr x hp => ?_
  obtain ⟨p, q⟩ := z
  obtain ⟨hp, hq⟩ := hp
  show PB _ C [some (tQ K p), some (tQ K q)] _ _ _
  refine pb_retP x ((px_call (ok_low T) (_, _) rfl hr (pxs_cons (px_add (px_mulW (px_ixT (va 0 rfl) px_int rfl) (px_ixT (va 1 rfl) px_int rfl) (szMul0 hp.1 (denS hq))) (px_mulW (px_ixT (va 1 rfl) px_int rfl) (px_ixT (va 0 rfl) px_int rfl) (szMul0 hq.1 (denS hp))))
    (pxs_cons (px_mulW (px_ixT (va 0 rfl) px_int rfl) (px_ixT (va 1 rfl) px_int rfl) (szMul0 (denS hp) (denS hq))) pxs_nil)) ⟨Int.mul_pos (den_pos' p) (den_pos' q), szUp (szSum (szProd hp.1 (denS hq)) (szProd hq.1 (denS hp))) (by omega), szUp (szProd (denS hp) (denS hq)) (by omega)⟩).cast
      (congrArg (tQ K) (plus_divInt p q)))
theorem ok_minus (T : Txt K mg) : Ok P w K mg base 3 "_law_minus" ["_law_left", "_law_right"] (spQ2 K fun a b => tQ K (a - b)) := by
  refine T.d__law_minus.ok sc115 (fun _ => rfl) (fun _ _ _ _ _ _ us hl => match us, hl with | [_, _], _ => rfl) fun f cdv A outer s H E C0 C z hr x hp => ?_
  obtain ⟨p, q⟩ := z
  obtain ⟨hp, hq⟩ := hp
  show PB _ C [some (tQ K p), some (tQ K q)] _ _ _
  refine pb_retP x ((px_call (ok_low T) (_, _) rfl hr (pxs_cons (px_sub (px_mulW (px_ixT (va 0 rfl) px_int rfl) (px_ixT (va 1 rfl) px_int rfl) (szMul0 hp.1 (denS hq))) (px_mulW (px_ixT (va 1 rfl) px_int rfl) (px_ixT (va 0 rfl) px_int rfl) (szMul0 hq.1 (denS hp))))
    (pxs_cons (px_mulW (px_ixT (va 0 rfl) px_int rfl) (px_ixT (va 1 rfl) px_int rfl) (szMul0 (denS hp) (denS hq))) pxs_nil)) ⟨Int.mul_pos (den_pos' p) (den_pos' q), ?_, szUp (szProd (denS hp) (denS hq)) (by omega)⟩).cast
      (congrArg (tQ K) (minus_divInt p q)))
  show (p.num * (q.den : Int) - q.num * (p.den : Int)).natAbs < _
  rw [Int.sub_eq_add_neg]
  exact szUp (szSum (szProd hp.1 (denS hq)) (by rw [Int.natAbs_neg]; exact szProd hq.1 (denS hp))) (by omega)
theorem ok_times (T : Txt K mg) : Ok P w K mg base 3 "_law_times" ["_law_left", "_law_right"] (spQ2 K fun a b => tQ K (a * b)) := by
  refine T.d__law_times.ok sc116 (fun _ => rfl) (fun _ _ _ _ _ _ us hl => match us, hl with | [_, _], _ => rfl) fun f cdv A outer s H E C0 C z hr x hp => ?_
  obtain ⟨p, q⟩ := z
  obtain ⟨hp, hq⟩ := hp
  show PB _ C [some (tQ K p), some (tQ K q)] _ _ _
  exact pb_retP x ((px_call (ok_low T) (_, _) rfl hr (pxs_cons (px_mulW (px_ixT (va 0 rfl) px_int rfl) (px_ixT (va 1 rfl) px_int rfl) (szMul0 hp.1 hq.1))
    (pxs_cons (px_mulW (px_ixT (va 0 rfl) px_int rfl) (px_ixT (va 1 rfl) px_int rfl) (szMul0 (denS hp) (denS hq))) pxs_nil)) ⟨Int.mul_pos (den_pos' p) (den_pos' q), szUp (szProd hp.1 hq.1) (by omega), szUp (szProd (denS hp) (denS hq)) (by omega)⟩).cast
      (congrArg (tQ K) (times_divInt p q)))
theorem lt_dec (p q : Rat) : decide (p.num * (q.den : Int) < q.num * (p.den : Int)) = decide (p < q) := by
  simp only [Rat.lt_iff]
theorem ok_below (T : Txt K mg) : Ok P w K mg base 1 "_law_below" ["_law_left", "_law_right"] (spQ2 K fun a b => tB (decide (a < b))) := by
  refine T.d__law_below.ok sc117 (fun _ => rfl) (fun _ _ _ _ _ _ us hl => match us, hl with | [_, _], _ => rfl) fun f cdv A outer s H E C0 C z hr x hp => ?_
  obtain ⟨p, q⟩ := z
  obtain ⟨hp, hq⟩ := hp
  show PB _ C [some (tQ K p), some (tQ K q)] _ _ _
  exact pb_retP x ((px_lt (px_mulW (px_ixT (va 0 rfl) px_int rfl) (px_ixT (va 1 rfl) px_int rfl) (szMul0 hp.1 (denS hq))) (px_mulW (px_ixT (va 1 rfl) px_int rfl) (px_ixT (va 0 rfl) px_int rfl) (szMul0 hq.1 (denS hp)))).cast (congrArg tB (lt_dec p q)))
end
end Nb
end -- L1
section -- L2a
set_option maxHeartbeats 1000000
namespace Nb
open PySem PySem.Spec PyProof.Rows L2
def qsum (l : List Rat) : Rat := l.foldl (· + ·) 0
theorem foldl_take {α β : Type} {f : β → α → β} {b : β} {l : List α} {i : Nat} {a : α} (h : l[i]? = some a) : (l.take (i + 1)).foldl f b = f ((l.take i).foldl f b) a := by
  rw [List.take_add_one, h, List.foldl_append]
  rfl
def qlowStep (f v : Rat) : Rat := if v < f then v else f
def qlow : List Rat → Rat
  | [] => 0
  | a :: r => (a :: r).foldl qlowStep a
section
variable {K : PySem.W.Frag} {mg : Str → Option Value} {base : Heap} {P : Program} {w : World}
theorem sc118 : FnScope ["_law_values", "_law_found", "_law_value"] ["_law_values"] (defScope (top 118)) := ⟨rfl, rfl, rfl, by decide +kernel, rfl, by decide +kernel, by decide +kernel⟩
theorem ok_sum (T : Txt K mg) : Ok P w K mg base 4 "_law_sum" ["_law_values"] (Pur (fun l : List Rat => [tSeq K (l.map (tQ K))]) (fun l => (∀ v ∈ l, Sz v) ∧ ∀ i, Sz (qsum (l.take i))) (fun l => tQ K (qsum l))) := by
  refine T.d__law_sum.ok sc118 (fun _ => rfl) (fun _ _ _ _ _ _ us hl => match us, hl with | [_], _ => rfl) fun f cdv A outer s H E C0 C l hr x hp => ?_
  show PB _ C [some (tSeq K (l.map (tQ K))), none, none] _ _ _
  refine plet sc118.nd 1 (px_tup (pxs_cons px_int (pxs_cons px_int pxs_nil))) ?_
  refine pb_forN (j := 2) (l := l) (tA := tQ K) PassesOwn.never rfl (psq 0 rfl) (fun _ => C) (fun i => [some (tSeq K (l.map (tQ K))), some (tQ K (qsum (l.take i))), none]) sc118.nd rfl (.inl rfl) (fun _ => rfl) (fun _ _ h => h) (fun i a ha => ?_) ?_
  · refine plet sc118.nd 1 (px_call (ok_plus T) (_, _) rfl hr (pxs_cons (va 1 rfl) (pxs_cons (va 2 rfl) pxs_nil)) ⟨hp.2 i, hp.1 a (List.mem_of_getElem? ha)⟩) ?_
    refine pb_nil fun σ H h => h.weak (gle_keep (.cons (.inr (congrArg (fun q => some (tQ K q)) (foldl_take ha).symm)) (gle_drop gle_nil)))
  · refine pb_retP x ((va 1 rfl).cast ?_)
    rw [List.take_length]
theorem sc119 : FnScope ["_law_values", "_law_found", "_law_value"] ["_law_values"] (defScope (top 119)) := ⟨rfl, rfl, rfl, by decide +kernel, rfl, by decide +kernel, by decide +kernel⟩
theorem qlow_mem_take (a : Rat) (l : List Rat) : l.foldl qlowStep a = a ∨ l.foldl qlowStep a ∈ l := by
  induction l generalizing a with
  | nil => exact .inl rfl
  | cons b r ih =>
    rw [List.foldl_cons]
    rcases ih (qlowStep a b) with h | h
    · rw [h]
      unfold qlowStep
      split
      · exact .inr List.mem_cons_self
      · exact .inl rfl
    · exact .inr (List.mem_cons_of_mem _ h)
theorem ok_lowest (T : Txt K mg) : Ok P w K mg base 2 "_law_lowest" ["_law_values"] (Pur (fun l : List Rat => [tSeq K (l.map (tQ K))]) (fun l => l ≠ [] ∧ ∀ v ∈ l, Sz v) (fun l => tQ K (qlow l))) := by
  refine T.d__law_lowest.ok sc119 (fun _ => rfl) (fun _ _ _ _ _ _ us hl => match us, hl with | [_], _ => rfl) fun f cdv A outer s H E C0 C l hr x hp => ?_
  obtain ⟨hn, hz⟩ := hp
  obtain ⟨b, r, rfl⟩ : ∃ b r, l = b :: r := by
    cases l with
    | nil => exact absurd rfl hn
    | cons b r => exact ⟨b, r, rfl⟩
  generalize hl : b :: r = l at *
  have h0 : (l.map (tQ K))[0]? = some (tQ K b) := by rw [← hl]; rfl
  have hb : b ∈ l := by rw [← hl]; exact List.mem_cons_self
  have hS : ∀ i, Sz ((l.take i).foldl qlowStep b) := fun i => by
    rcases qlow_mem_take b (l.take i) with h | h
    · rw [h]; exact hz b hb
    · exact hz _ (List.mem_of_mem_take h)
  show PB _ C [some (tSeq K (l.map (tQ K))), none, none] _ _ _
  refine plet sc119.nd 1 (px_ixQ (va 0 rfl) px_int (atI_nat (j := 0) h0)) ?_
  refine pb_forN (j := 2) (l := l) (tA := tQ K) PassesOwn.never rfl (psq 0 rfl) (fun _ => C) (fun i => [some (tSeq K (l.map (tQ K))), some (tQ K ((l.take i).foldl qlowStep b)), none]) sc119.nd rfl (.inl rfl) (fun _ => rfl) (fun _ _ h => h) (fun i a ha => ?_) ?_
  · refine pb_if (C' := C) (G' := [some (tSeq K (l.map (tQ K))), some (tQ K ((l.take (i + 1)).foldl qlowStep b)), none]) (pxt_val (px_call (ok_below T) (_, _) rfl hr (pxs_cons (va 2 rfl) (pxs_cons (va 1 rfl) pxs_nil)) ⟨hz a (List.mem_of_getElem? ha), hS i⟩)) (fun h => ?_) (fun h => ?_) pb_end
    · refine plet sc119.nd 1 (va 2 rfl) ?_
      refine pb_nil fun σ H h' => h'.weak (gle_keep (.cons (.inr ?_) (gle_drop gle_nil)))
      rw [foldl_take ha, show qlowStep ((l.take i).foldl qlowStep b) a = a from if_pos (of_decide_eq_true h)]
    · refine pb_nil fun σ H h' => h'.weak (gle_keep (.cons (.inr ?_) (gle_drop gle_nil)))
      rw [foldl_take ha, show qlowStep ((l.take i).foldl qlowStep b) a = _ from if_neg (of_decide_eq_false h)]
  · refine pb_retP x ((va 1 rfl).cast ?_)
    rw [List.take_length, ← hl]
    rfl
end
end Nb
end -- L2a
section -- E1
set_option maxHeartbeats 1000000
namespace Nb
open PySem PySem.Spec PyProof.Rows L2
/-- a value's kind -/
inductive Kd where
  | int (i : Int) | bl (b : Bool) | str (s : Str) | non | tup (Ts : List Ty)
def Kd.ty (K : PySem.W.Frag) : Kd → Ty
  | .int i => tI i
  | .bl b => tB b
  | .str s => tS s
  | .non => tN
  | .tup Ts => tTup K Ts
def Kd.isInt : Kd → Bool
  | .int _ => true
  | _ => false
/-- a number's form -/
inductive Nf where
  | int (i : Int) | pr (n d : Int)
def Nf.ty (K : PySem.W.Frag) : Nf → Ty
  | .int i => tI i
  | .pr n d => tTup K [tI n, tI d]
def Nf.n : Nf → Int
  | .int i => i
  | .pr n _ => n
def Nf.d : Nf → Int
  | .int i => 1
  | .pr _ d => d
theorem kit_int_int : kitB "int" "int" = some true := by decide +kernel
theorem kit_int_bool : kitB "int" "bool" = some false := by decide +kernel
theorem kit_bool_int : kitB "bool" "int" = some true := by decide +kernel
theorem kit_bool_bool : kitB "bool" "bool" = some true := by decide +kernel
theorem kit_str_int : kitB "str" "int" = some false := by decide +kernel
theorem kit_str_bool : kitB "str" "bool" = some false := by decide +kernel
theorem kit_NoneType_int : kitB "NoneType" "int" = some false := by decide +kernel
theorem kit_NoneType_bool : kitB "NoneType" "bool" = some false := by decide +kernel
theorem kit_tuple_int : kitB "tuple" "int" = some false := by decide +kernel
theorem kit_tuple_bool : kitB "tuple" "bool" = some false := by decide +kernel
theorem kit_tuple_tuple : kitB "tuple" "tuple" = some true := by decide +kernel
theorem kit_list_tuple : kitB "list" "tuple" = some false := by decide +kernel
theorem kit_list_list : kitB "list" "list" = some true := by decide +kernel
theorem kit_tuple_list : kitB "tuple" "list" = some false := by decide +kernel
theorem kit_int_tuple : kitB "int" "tuple" = some false := by decide +kernel
theorem kit_bool_tuple : kitB "bool" "tuple" = some false := by decide +kernel
theorem kit_str_tuple : kitB "str" "tuple" = some false := by decide +kernel
theorem kit_NoneType_tuple : kitB "NoneType" "tuple" = some false := by decide +kernel
theorem kit_str_str : kitB "str" "str" = some true := by decide +kernel
theorem kit_tuple_str : kitB "tuple" "str" = some false := by decide +kernel
theorem kit_list_str : kitB "list" "str" = some false := by decide +kernel
theorem kit_list_int : kitB "list" "int" = some false := by decide +kernel
theorem kit_list_bool : kitB "list" "bool" = some false := by decide +kernel
section
variable {K : PySem.W.Frag} {mg : Str → Option Value} {base : Heap} {P : Program} {w : World}
theorem sc22 : FnScope ["value"] ["value"] (defScope (top 22)) := ⟨rfl, rfl, rfl, by decide +kernel, rfl, by decide +kernel, by decide +kernel⟩
theorem ok_isint (T : Txt K mg) : Ok P w K mg base 1 "is_integer_value" ["value"] (Pur (fun z : Kd => [z.ty K]) (fun _ => True) (fun z => tB z.isInt)) := by
  refine T.d_is_integer_value.ok sc22 (fun _ => rfl) (fun _ _ _ _ _ _ us hl => match us, hl with | [_], _ => rfl) fun f cdv A outer s H E C0 C z hr x hp => ?_
  show PB _ C [some (z.ty K)] _ _ _
  have key : ∀ {n : String} {b1 b2 : Bool}, HasTy K (z.ty K) n → kitB n "int" = some b1 → kitB n "bool" = some b2 → (b1 && !b2) = z.isInt → PB (cxOf CX0 P w K mg base ["value"] "is_integer_value" (defScope (top 22)) f cdv A outer s H E).nox C [some (z.ty K)] (defBody (top 22)) (fun _ H' => RtOf C0 (tB z.isInt) .non H') (RtOf C0 (tB z.isInt)) :=
    fun h1 h2 h3 h4 => pb_retP x ((px_and (px_isi h1 h2 T.f_isinstance T.f_int boot_int (va 0 rfl)) (fun _ => px_one (px_not (px_isi h1 h3 T.f_isinstance T.f_bool boot_bool (va 0 rfl))))).cast (congrArg tB h4))
  cases z with
  | int i => exact key hasI kit_int_int kit_int_bool rfl
  | bl i => exact key hasB kit_bool_int kit_bool_bool rfl
  | str i => exact key hasS kit_str_int kit_str_bool rfl
  | non => exact key hasN kit_NoneType_int kit_NoneType_bool rfl
  | tup i => exact key hasT kit_tuple_int kit_tuple_bool rfl
theorem sc23 : FnScope ["value", "top", "bottom"] ["value"] (defScope (top 23)) := ⟨rfl, rfl, rfl, by decide +kernel, rfl, by decide +kernel, by decide +kernel⟩
theorem ok_parts (T : Txt K mg) : Ok P w K mg base 2 "parts_of" ["value"] (Pur (fun z : Nf => [z.ty K]) (fun z => 0 < z.d) (fun z => tTup K [tI z.n, tI z.d])) := by
  refine T.d_parts_of.ok sc23 (fun _ => rfl) (fun _ _ _ _ _ _ us hl => match us, hl with | [_], _ => rfl) fun f cdv A outer s H E C0 C z hr x hp => ?_
  show PB _ C [some (z.ty K), none, none] _ _ _
  cases z with
  | int i =>
    refine pb_guard (pxt_val (px_call (ok_isint T) (.int i) rfl hr (pxs_cons (va 0 rfl) pxs_nil) trivial)) (fun _ => pb_retP x (px_tup (pxs_cons (va 0 rfl) (pxs_cons px_int pxs_nil)))) (fun h => nomatch h)
  | pr n d =>
    have hd : 0 < d := hp
    refine pb_guard (pxt_val (px_call (ok_isint T) (.tup [tI n, tI d]) rfl hr (pxs_cons (va 0 rfl) pxs_nil) trivial)) (fun h => nomatch h) fun _ => ?_
    refine pb_guard (pxt_w (pxw_or (pxt_not (pxt_val (px_isi (T := tTup K [tI n, tI d]) hasT kit_tuple_tuple T.f_isinstance T.f_tuple boot_tuple (va 0 rfl)))) (fun _ => pxw_or1 (pxt_ne (px_lenT T.f_len (va 0 rfl)) px_int)))) (fun h => nomatch h) fun _ => ?_
    refine pb_asg (va 0 rfl) (pgx_tup rfl (pgxs_cons (nm sc23.nd 1) (pgxs_cons (nm sc23.nd 2) pgxs_nil))) ?_
    refine pb_guard (pxt_w (pxw_or (pxt_not (pxt_val (px_call (ok_isint T) (.int n) rfl hr (pxs_cons (va 1 rfl) pxs_nil) trivial))) fun _ => pxw_or (pxt_not (pxt_val (px_call (ok_isint T) (.int d) rfl hr (pxs_cons (va 2 rfl) pxs_nil) trivial))) fun _ => pxw_or1 (pxt_lt (va 2 rfl) px_int))) (fun h => ?_) fun _ => ?_
    · have h2 : (decide (d < 1)) = true := h
      exact absurd (of_decide_eq_true h2) (by omega)
    · exact pb_retP x (px_tup (pxs_cons (va 1 rfl) (pxs_cons (va 2 rfl) pxs_nil)))
theorem sc24 : FnScope ["top", "bottom"] ["top", "bottom"] (defScope (top 24)) := ⟨rfl, rfl, rfl, by decide +kernel, rfl, by decide +kernel, by decide +kernel⟩
theorem ok_cdiv (T : Txt K mg) : Ok P w K mg base 1 "common_divisor" ["top", "bottom"] (Pur (fun z : Int × Int => [tI z.1, tI z.2]) (fun z => 0 < z.2) (fun z => tI (Int.gcd z.1 z.2))) := by
  refine T.d_common_divisor.ok sc24 (fun _ => rfl) (fun _ _ _ _ _ _ us hl => match us, hl with | [_, _], _ => rfl) fun f cdv A outer s H E C0 C z hr x hp => ?_
  obtain ⟨a, b'⟩ := z
  have hb' : 0 < b' := hp
  show PB _ C [some (tI a), some (tI b')] _ _ _
  refine pb_while (β := Int × Int) (fun b => 0 ≤ b.2 ∧ (b.2 = 0 → 0 ≤ b.1) ∧ Int.gcd b.1 b.2 = Int.gcd a b') (fun b => [some (tI b.1), some (tI b.2)]) (fun b => !decide (b.2 = 0)) (fun b => b.2.toNat) (a, b') ⟨by show 0 ≤ b'; omega, fun h => absurd (show b' = 0 from h) (by omega), rfl⟩ PassesOwn.never (fun _ _ h => h)
    (fun b _ => pxt_ne (va 1 rfl) px_int) (fun b hb ht => ?_) (fun b hb ht => ?_)
  · obtain ⟨h1, h2, h3⟩ := hb
    have h4 : 0 < b.2 := by
      have : ¬ b.2 = 0 := by simpa using ht
      omega
    refine pb_par rfl sc24.nd (i := 0) (j := 1) rfl rfl (by decide) rfl rfl (va 1 rfl) (px_mod (va 0 rfl) (va 1 rfl) h4) ?_ rfl
    refine pb_nil fun σ H h => ⟨(b.2, b.1 % b.2), ⟨Int.emod_nonneg _ (by omega), fun _ => h1, ?_⟩, ?_, h⟩
    · rw [← h3]
      show Int.gcd b.2 (b.1 % b.2) = Int.gcd b.1 b.2
      rw [Int.gcd_comm b.2 (b.1 % b.2)]
      rw [Int.emod_def]
      exact Int.gcd_sub_mul_left_left _ _ _
    · have := Int.emod_lt_of_pos b.1 h4
      show (b.1 % b.2).toNat < b.2.toNat
      omega
  · obtain ⟨h1, h2, h3⟩ := hb
    have h4 : b.2 = 0 := by simpa using ht
    refine pb_retP x ((va 0 rfl).cast ?_)
    have h5 := h2 h4
    rw [← h3, h4]
    show tI b.1 = tI ((Int.gcd b.1 0 : Nat) : Int)
    rw [Int.gcd_zero_right]
    congr 2
    omega
end
end Nb
end -- E1
section -- E2
set_option maxHeartbeats 1000000
namespace Nb
open PySem PySem.Spec PyProof.Rows L2
theorem gcd_one_of {a b : Nat} : ((Int.gcd (a : Int) (b : Int) : Nat) : Int) = 1 ↔ Nat.gcd a b = 1 := by
  rw [Int.gcd_natCast_natCast]
  omega
theorem sum_one {p q : Rat} (h : Nat.gcd p.den q.den = 1) : p.num * (q.den : Int) + q.num * (p.den : Int) = (p + q).num ∧ (p.den : Int) * (q.den : Int) = ((p + q).den : Int) := by
  show _ = (Rat.add p q).num ∧ _ = ((Rat.add p q).den : Int)
  unfold Rat.add
  simp only [h, dif_pos]
  exact ⟨trivial, by push_cast; rfl⟩
theorem sum_more {p q : Rat} (h : ¬ Nat.gcd p.den q.den = 1) :
    (p.num * ((q.den : Int) / (Nat.gcd p.den q.den : Int)) + q.num * ((p.den : Int) / (Nat.gcd p.den q.den : Int))) / (Int.gcd (p.num * ((q.den : Int) / (Nat.gcd p.den q.den : Int)) + q.num * ((p.den : Int) / (Nat.gcd p.den q.den : Int))) (Nat.gcd p.den q.den : Int) : Int) = (p + q).num ∧
    ((p.den : Int) / (Nat.gcd p.den q.den : Int)) * ((q.den : Int) / (Int.gcd (p.num * ((q.den : Int) / (Nat.gcd p.den q.den : Int)) + q.num * ((p.den : Int) / (Nat.gcd p.den q.den : Int))) (Nat.gcd p.den q.den : Int) : Int)) = ((p + q).den : Int) := by
  have e1 : ((q.den : Int) / (Nat.gcd p.den q.den : Int)) = ((q.den / Nat.gcd p.den q.den : Nat) : Int) := (Int.natCast_ediv _ _).symm
  have e2 : ((p.den : Int) / (Nat.gcd p.den q.den : Int)) = ((p.den / Nat.gcd p.den q.den : Nat) : Int) := (Int.natCast_ediv _ _).symm
  rw [e1, e2]
  generalize hn : p.num * ((q.den / Nat.gcd p.den q.den : Nat) : Int) + q.num * ((p.den / Nat.gcd p.den q.den : Nat) : Int) = n
  have e3 : Int.gcd n (Nat.gcd p.den q.den : Int) = Nat.gcd n.natAbs (Nat.gcd p.den q.den) := by
    unfold Int.gcd
    rw [Int.natAbs_natCast]
  rw [e3]
  have key : (p + q).num = n / (Nat.gcd n.natAbs (Nat.gcd p.den q.den) : Nat) ∧ (p + q).den = (p.den / Nat.gcd p.den q.den) * q.den / Nat.gcd n.natAbs (Nat.gcd p.den q.den) := by
    show (Rat.add p q).num = _ ∧ (Rat.add p q).den = _
    unfold Rat.add
    simp only [h, dif_neg, not_false_eq_true, hn]
    unfold Rat.maybeNormalize
    split
    · rename_i h1
      have h1' : n.natAbs.gcd (p.den.gcd q.den) = 1 := h1
      show n = n / ((n.natAbs.gcd (p.den.gcd q.den) : Nat) : Int) ∧ p.den / p.den.gcd q.den * q.den = p.den / p.den.gcd q.den * q.den / n.natAbs.gcd (p.den.gcd q.den)
      rw [h1']
      simp
    · exact ⟨rfl, rfl⟩
  rw [key.1, key.2]
  refine ⟨rfl, ?_⟩
  have hd : Nat.gcd n.natAbs (Nat.gcd p.den q.den) ∣ q.den := Nat.dvd_trans (Nat.gcd_dvd_right _ _) (Nat.gcd_dvd_right _ _)
  rw [Nat.mul_div_assoc _ hd]
  push_cast
  rfl
theorem prod_eq (p q : Rat) : (p.num / (Int.gcd p.num (q.den : Int) : Int)) * (q.num / (Int.gcd q.num (p.den : Int) : Int)) = (p * q).num ∧ ((p.den : Int) / (Int.gcd q.num (p.den : Int) : Int)) * ((q.den : Int) / (Int.gcd p.num (q.den : Int) : Int)) = ((p * q).den : Int) := by
  have e1 : Int.gcd p.num (q.den : Int) = Nat.gcd p.num.natAbs q.den := by unfold Int.gcd; rw [Int.natAbs_natCast]
  have e2 : Int.gcd q.num (p.den : Int) = Nat.gcd q.num.natAbs p.den := by unfold Int.gcd; rw [Int.natAbs_natCast]
  rw [e1, e2]
  have key : (p * q).num = (p.num / (Nat.gcd p.num.natAbs q.den : Nat)) * (q.num / (Nat.gcd q.num.natAbs p.den : Nat)) ∧ (p * q).den = (p.den / Nat.gcd q.num.natAbs p.den) * (q.den / Nat.gcd p.num.natAbs q.den) := by
    show (Rat.mul p q).num = _ ∧ (Rat.mul p q).den = _
    unfold Rat.mul
    exact ⟨rfl, rfl⟩
  rw [key.1, key.2]
  exact ⟨rfl, by push_cast; rfl⟩
section
variable {K : PySem.W.Frag} {mg : Str → Option Value} {base : Heap} {P : Program} {w : World}
theorem gcd_pos_r {a b : Int} (h : 0 < b) : 0 < ((Int.gcd a b : Nat) : Int) := by have := Int.gcd_pos_of_ne_zero_right a (show b ≠ 0 by omega); omega
theorem gcd_lt_r {a b : Int} {n : Nat} (h : 0 < b) (hb : b.natAbs < 2 ^ n) : ((Int.gcd a b : Nat) : Int).natAbs < 2 ^ n := by
  have := Int.gcd_le_natAbs_right (a := a) (b := b) (by omega)
  rw [Int.natAbs_natCast]
  omega
theorem ediv_lt {a b : Int} {n : Nat} (ha : a.natAbs < 2 ^ n) (hb : 0 < b) : (a / b).natAbs < 2 ^ (n + 1) := by
  have h := Int.natAbs_ediv_le_natAbs a b
  rw [Nat.pow_succ]
  omega
theorem sc25 : FnScope ["value", "top", "bottom", "common"] ["value"] (defScope (top 25)) := ⟨rfl, rfl, rfl, by decide +kernel, rfl, by decide +kernel, by decide +kernel⟩
theorem ok_fraction0 (T : Txt K mg) : Ok P w K mg base 3 "fraction" ["value"] (Pur (fun z : Nf => [z.ty K]) (fun z => 0 < z.d ∧ z.d.natAbs < 2 ^ 8000) (fun z => tQ K (Rat.divInt z.n z.d))) := by
  refine T.d_fraction.ok sc25 (fun _ => rfl) (fun _ _ _ _ _ _ us hl => match us, hl with | [_], _ => rfl) fun f cdv A outer s H E C0 C z hr x hp => ?_
  obtain ⟨h0, h1⟩ := hp
  show PB _ C [some (z.ty K), none, none, none] _ _ _
  refine pb_asg (px_call (ok_parts T) z rfl hr (pxs_cons (va 0 rfl) pxs_nil) h0) (pgx_tup rfl (pgxs_cons (nm sc25.nd 1) (pgxs_cons (nm sc25.nd 2) pgxs_nil))) ?_
  refine plet sc25.nd 3 (px_call (ok_cdiv T) (_, _) rfl hr (pxs_cons (va 1 rfl) (pxs_cons (va 2 rfl) pxs_nil)) h0) ?_
  refine pb_retP x ((px_tup (pxs_cons (px_fdivW (va 1 rfl) (va 3 rfl) (szDiv (gcd_pos_r h0) (gcd_lt_r h0 h1))) (pxs_cons (px_fdivW (va 2 rfl) (va 3 rfl) (szDiv (gcd_pos_r h0) (gcd_lt_r h0 h1))) pxs_nil))).cast ?_)
  show tTup K [tI (z.n / (Int.gcd z.n z.d : Int)), tI (z.d / (Int.gcd z.n z.d : Int))] = tTup K [tI _, tI _]
  rw [low_num h0, low_den h0]
/-- a promise in other words -/
theorem Ok.imp {α β : Type} {args : α → List Ty} {pre : α → Prop} {res : α → Ty} {args' : β → List Ty} {pre' : β → Prop} {res' : β → Ty} {k : Nat} {x : Str} {ps : List Str} (h : Ok P w K mg base k x ps (Pur args pre res))
    (f : ∀ (D : Hp) (vs : List V) (z : β), pre' z → TyAll D vs (args' z) → ∃ y, pre y ∧ TyAll D vs (args y) ∧ ∀ H v, (res y).P H v → (res' z).P H v) : Ok P w K mg base k x ps (Pur args' pre' res') := by
  obtain ⟨fa, fd, h1, h2, h3, h4⟩ := h.ex
  refine ⟨fa, fd, h1, h2, h3, h4.imp fun vs H Q E ⟨M, z, tr, hv, hp, q⟩ => ?_⟩
  obtain ⟨y, h5, h6, h7⟩ := f _ vs z hp hv
  exact ⟨M, y, tr, h6, h5, fun v H' e p => q v H' e (h7 _ _ p)⟩
theorem ok_fraction (T : Txt K mg) : Ok P w K mg base 3 "fraction" ["value"] (Pur (fun q : Rat => [tNum K q]) (fun _ => True) (fun q => tQ K q)) :=
  (ok_fraction0 T).imp fun D vs q _ h => by
    cases h with
    | cons h t =>
      cases t
      rcases h with ⟨i, rfl, _, rfl⟩ | ⟨n, d, h, h0, _, h1, rfl⟩
      · refine ⟨.int i, ⟨Int.one_pos, by show (1 : Int).natAbs < _; exact Nat.one_lt_two_pow (by omega)⟩, .cons rfl .nil, fun H v p => ?_⟩
        have e : Rat.divInt i 1 = (i : Rat) := by
          rw [show (1 : Int) = ((1 : Nat) : Int) from rfl, Rat.divInt_ofNat, Rat.mkRat_eq_div]
          grind
        exact e ▸ p
      · exact ⟨.pr n d, ⟨h0, SZ_le h1 (by omega)⟩, .cons h .nil, fun H v p => p⟩
theorem sc26 : FnScope ["left", "right", "top", "bottom", "other_top", "other_bottom", "common", "reduced", "raw", "again"] ["left", "right"] (defScope (top 26)) := ⟨rfl, rfl, rfl, by decide +kernel, rfl, by decide +kernel, by decide +kernel⟩
theorem ok_sum2 (T : Txt K mg) : Ok P w K mg base 2 "sum_of_two" ["left", "right"] (spQ2 K fun a b => tQ K (a + b)) := by
  refine T.d_sum_of_two.ok sc26 (fun _ => rfl) (fun _ _ _ _ _ _ us hl => match us, hl with | [_, _], _ => rfl) fun f cdv A outer s H E C0 C z hr x hp => ?_
  obtain ⟨p, q⟩ := z
  obtain ⟨hp, hq⟩ := hp
  replace hp : Sz p := hp
  replace hq : Sz q := hq
  show PB _ C [some (tQ K p), some (tQ K q), none, none, none, none, none, none, none, none] _ _ _
  refine pb_asg (va 0 rfl) (pgx_tup rfl (pgxs_cons (nm sc26.nd 2) (pgxs_cons (nm sc26.nd 3) pgxs_nil))) ?_
  refine pb_asg (va 1 rfl) (pgx_tup rfl (pgxs_cons (nm sc26.nd 4) (pgxs_cons (nm sc26.nd 5) pgxs_nil))) ?_
  refine plet sc26.nd 6 (px_call (ok_cdiv T) (_, _) rfl hr (pxs_cons (va 3 rfl) (pxs_cons (va 5 rfl) pxs_nil)) (den_pos' q)) ?_
  have g0 : 0 < ((Int.gcd (p.den : Int) (q.den : Int) : Nat) : Int) := gcd_pos_r (den_pos' q)
  have g1 : ((Int.gcd (p.den : Int) (q.den : Int) : Nat) : Int).natAbs < 2 ^ 2000 := gcd_lt_r (den_pos' q) (denS hq)
  refine pb_guard (pxt_eq (va 6 rfl) px_int) (fun h => ?_) fun h => ?_
  · have h1 := sum_one (gcd_one_of.mp (of_decide_eq_true h))
    refine pb_retP x ((px_tup (pxs_cons (px_add (px_mulW (va 2 rfl) (va 5 rfl) (szMul0 hp.1 (denS hq))) (px_mulW (va 4 rfl) (va 3 rfl) (szMul0 hq.1 (denS hp)))) (pxs_cons (px_mulW (va 3 rfl) (va 5 rfl) (szMul0 (denS hp) (denS hq))) pxs_nil))).cast ?_)
    show tTup K [tI _, tI _] = tTup K [tI _, tI _]
    rw [h1.1, h1.2]
  · have h1 := sum_more (p := p) (q := q) (fun e => of_decide_eq_false h (gcd_one_of.mpr e))
    have e0 : ((Int.gcd (p.den : Int) (q.den : Int) : Nat) : Int) = ((Nat.gcd p.den q.den : Nat) : Int) := by rw [Int.gcd_natCast_natCast]
    have b1 : ((q.den : Int) / ((Int.gcd (p.den : Int) (q.den : Int) : Nat) : Int)).natAbs < 2 ^ 2001 := ediv_lt (n := 2000) (denS hq) g0
    have b2 : ((p.den : Int) / ((Int.gcd (p.den : Int) (q.den : Int) : Nat) : Int)).natAbs < 2 ^ 2001 := ediv_lt (n := 2000) (denS hp) g0
    refine plet sc26.nd 7 (px_fdivW (va 3 rfl) (va 6 rfl) (szDiv g0 (szUp g1 (by omega)))) ?_
    refine plet sc26.nd 8 (px_add (px_mulW (va 2 rfl) (px_fdivW (va 5 rfl) (va 6 rfl) (szDiv g0 (szUp g1 (by omega)))) (szMul (SZ_le hp.1 (by omega)) (szUp b1 (by omega)))) (px_mulW (va 4 rfl) (va 7 rfl) (szMul (SZ_le hq.1 (by omega)) (szUp b2 (by omega))))) ?_
    refine plet sc26.nd 9 (px_call (ok_cdiv T) (_, _) rfl hr (pxs_cons (va 8 rfl) (pxs_cons (va 6 rfl) pxs_nil)) g0) ?_
    generalize hraw : p.num * ((q.den : Int) / ((Int.gcd (p.den : Int) (q.den : Int) : Nat) : Int)) + q.num * ((p.den : Int) / ((Int.gcd (p.den : Int) (q.den : Int) : Nat) : Int)) = raw
    have a0 : 0 < ((Int.gcd raw ((Int.gcd (p.den : Int) (q.den : Int) : Nat) : Int) : Nat) : Int) := gcd_pos_r g0
    have a1 : ((Int.gcd raw ((Int.gcd (p.den : Int) (q.den : Int) : Nat) : Int) : Nat) : Int).natAbs < 2 ^ 2000 := gcd_lt_r g0 g1
    have b3 := ediv_lt (n := 2000) (denS hq) a0
    refine pb_retP x ((px_tup (pxs_cons (px_fdivW (i := raw) (va 8 ?_) (va 9 ?_) (szDiv a0 (szUp a1 (by omega)))) (pxs_cons (px_mulW (va 7 rfl) (px_fdivW (va 5 rfl) (va 9 ?_) (szDiv a0 (szUp a1 (by omega)))) (szMul (szUp b2 (by omega)) (szUp b3 (by omega)))) pxs_nil))).cast ?_)
    · rw [← hraw]; rfl
    · rw [← hraw]; rfl
    · rw [← hraw]; rfl
    · show tTup K [tI _, tI _] = tTup K [tI _, tI _]
      rw [← h1.1, ← h1.2, ← hraw, e0]
end
end Nb
end -- E2
section -- E3
set_option maxHeartbeats 1000000
namespace Nb
open PySem PySem.Spec PyProof.Rows L2
/-- a pair that stands for the number -/
def tPair (K : PySem.W.Frag) (q : Rat) : Ty := ⟨fun H v => ∃ n d : Int, (tTup K [tI n, tI d]).P H v ∧ 0 < d ∧ n.natAbs < SZ ∧ d.natAbs < SZ ∧ q = Rat.divInt n d, fun e ⟨n, d, h, r⟩ => ⟨n, d, Ty.mono _ e h, r⟩⟩
def cmpR (p q : Rat) : Int := if p < q then -1 else if q < p then 1 else 0
theorem divInt_lt {a b c d : Int} (hb : 0 < b) (hd : 0 < d) : Rat.divInt a b < Rat.divInt c d ↔ a * d < c * b := by
  rw [Rat.divInt_eq_div, Rat.divInt_eq_div]
  have hb' : (0 : Rat) < (b : Rat) := Rat.intCast_pos.mpr hb
  have hd' : (0 : Rat) < (d : Rat) := Rat.intCast_pos.mpr hd
  rw [Rat.div_lt_iff hb']
  have e : (c : Rat) / (d : Rat) * (b : Rat) = ((c * b : Int) : Rat) / (d : Rat) := by
    rw [Rat.intCast_mul]
    grind
  rw [e, Rat.lt_div_iff hd', ← Rat.intCast_mul, Rat.intCast_lt_intCast]
theorem one_lt_SZ : (1 : Nat) < SZ := Nat.one_lt_two_pow (by omega)
theorem sz_int {i : Int} (h : i.natAbs < SZ) : Sz (i : Rat) := ⟨h, one_lt_SZ⟩
section
variable {K : PySem.W.Frag} {mg : Str → Option Value} {base : Heap} {P : Program} {w : World}
theorem ok_partsN (T : Txt K mg) : Ok P w K mg base 2 "parts_of" ["value"] (Pur (fun q : Rat => [tNum K q]) (fun _ => True) (fun q => tPair K q)) :=
  (ok_parts T).imp fun D vs q _ h => by
    cases h with
    | cons h t =>
      cases t
      rcases h with ⟨i, rfl, hi, rfl⟩ | ⟨n, d, h, h0, h1, h2, rfl⟩
      · refine ⟨.int i, Int.one_pos, .cons rfl .nil, fun H v p => ⟨i, 1, p, Int.one_pos, hi, one_lt_SZ, ?_⟩⟩
        rw [show (1 : Int) = ((1 : Nat) : Int) from rfl, Rat.divInt_ofNat, Rat.mkRat_eq_div]
        grind
      · exact ⟨.pr n d, h0, .cons h .nil, fun H v p => ⟨n, d, p, h0, h1, h2, rfl⟩⟩
theorem sc27 : FnScope ["left", "right", "top", "bottom", "other_top", "other_bottom", "across", "back"] ["left", "right"] (defScope (top 27)) := ⟨rfl, rfl, rfl, by decide +kernel, rfl, by decide +kernel, by decide +kernel⟩
theorem ok_prod2 (T : Txt K mg) : Ok P w K mg base 2 "product_of_two" ["left", "right"] (spQ2 K fun a b => tQ K (a * b)) := by
  refine T.d_product_of_two.ok sc27 (fun _ => rfl) (fun _ _ _ _ _ _ us hl => match us, hl with | [_, _], _ => rfl) fun f cdv A outer s H E C0 C z hr x hp => ?_
  obtain ⟨p, q⟩ := z
  obtain ⟨hp, hq⟩ := hp
  replace hp : Sz p := hp
  replace hq : Sz q := hq
  show PB _ C [some (tQ K p), some (tQ K q), none, none, none, none, none, none] _ _ _
  refine pb_asg (va 0 rfl) (pgx_tup rfl (pgxs_cons (nm sc27.nd 2) (pgxs_cons (nm sc27.nd 3) pgxs_nil))) ?_
  refine pb_asg (va 1 rfl) (pgx_tup rfl (pgxs_cons (nm sc27.nd 4) (pgxs_cons (nm sc27.nd 5) pgxs_nil))) ?_
  refine plet sc27.nd 6 (px_call (ok_cdiv T) (_, _) rfl hr (pxs_cons (va 2 rfl) (pxs_cons (va 5 rfl) pxs_nil)) (den_pos' q)) ?_
  refine plet sc27.nd 7 (px_call (ok_cdiv T) (_, _) rfl hr (pxs_cons (va 4 rfl) (pxs_cons (va 3 rfl) pxs_nil)) (den_pos' p)) ?_
  have a0 := gcd_pos_r (a := p.num) (den_pos' q)
  have a1 := gcd_lt_r (a := p.num) (n := 2000) (den_pos' q) (denS hq)
  have b0 := gcd_pos_r (a := q.num) (den_pos' p)
  have b1 := gcd_lt_r (a := q.num) (n := 2000) (den_pos' p) (denS hp)
  have up : ∀ {i : Int}, i.natAbs < 2 ^ 2001 → i.natAbs < 2 ^ 8000 := fun h => szUp h (by omega)
  have up0 : ∀ {i : Int}, i.natAbs < 2 ^ 2000 → i.natAbs < 2 ^ 8000 := fun h => szUp h (by omega)
  refine pb_retP x ((px_tup (pxs_cons (px_mulW (px_fdivW (va 2 rfl) (va 6 rfl) (szDiv a0 (up0 a1))) (px_fdivW (va 4 rfl) (va 7 rfl) (szDiv b0 (up0 b1))) (szMul (up (ediv_lt (n := 2000) hp.1 a0)) (up (ediv_lt (n := 2000) hq.1 b0))))
    (pxs_cons (px_mulW (px_fdivW (va 3 rfl) (va 7 rfl) (szDiv b0 (up0 b1))) (px_fdivW (va 5 rfl) (va 6 rfl) (szDiv a0 (up0 a1))) (szMul (up (ediv_lt (n := 2000) (denS hp) b0)) (up (ediv_lt (n := 2000) (denS hq) a0)))) pxs_nil))).cast ?_)
  have h1 := prod_eq p q
  show tTup K [tI _, tI _] = tTup K [tI _, tI _]
  rw [← h1.1, ← h1.2]
theorem sc28 : FnScope ["parts"] ["parts"] (defScope (top 28)) := ⟨rfl, rfl, rfl, by decide +kernel, rfl, by decide +kernel, by decide +kernel⟩
theorem ok_opposite (T : Txt K mg) : Ok P w K mg base 1 "opposite" ["parts"] (Pur (fun q : Rat => [tQ K q]) (fun _ => True) (fun q => tQ K (-q))) := by
  refine T.d_opposite.ok sc28 (fun _ => rfl) (fun _ _ _ _ _ _ us hl => match us, hl with | [_], _ => rfl) fun f cdv A outer s H E C0 C q hr x hp => ?_
  show PB _ C [some (tQ K q)] _ _ _
  exact pb_retP x (px_tup (pxs_cons (px_neg (px_ixT (va 0 rfl) px_int rfl)) (pxs_cons (px_ixT (va 0 rfl) px_int rfl) pxs_nil)))
theorem sc29 : FnScope ["left", "right", "near", "far"] ["left", "right"] (defScope (top 29)) := ⟨rfl, rfl, rfl, by decide +kernel, rfl, by decide +kernel, by decide +kernel⟩
theorem ok_order0 (T : Txt K mg) : Ok P w K mg base 1 "order_of" ["left", "right"] (Pur (fun z : (Int × Int) × (Int × Int) => [tTup K [tI z.1.1, tI z.1.2], tTup K [tI z.2.1, tI z.2.2]])
    (fun z => 0 < z.1.2 ∧ 0 < z.2.2 ∧ z.1.1.natAbs < SZ ∧ z.1.2.natAbs < SZ ∧ z.2.1.natAbs < SZ ∧ z.2.2.natAbs < SZ) (fun z => tI (cmpR (Rat.divInt z.1.1 z.1.2) (Rat.divInt z.2.1 z.2.2)))) := by
  refine T.d_order_of.ok sc29 (fun _ => rfl) (fun _ _ _ _ _ _ us hl => match us, hl with | [_, _], _ => rfl) fun f cdv A outer s H E C0 C z hr x hp => ?_
  obtain ⟨⟨a, b⟩, ⟨c, d⟩⟩ := z
  obtain ⟨h1, h2, h3, h4, h5, h6⟩ := hp
  replace h1 : 0 < b := h1
  replace h2 : 0 < d := h2
  show PB _ C [some (tTup K [tI a, tI b]), some (tTup K [tI c, tI d]), none, none] _ _ _
  refine plet sc29.nd 2 (px_mulW (px_ixT (va 0 rfl) px_int rfl) (px_ixT (va 1 rfl) px_int rfl) (szMul0 h3 h6)) ?_
  refine plet sc29.nd 3 (px_mulW (px_ixT (va 1 rfl) px_int rfl) (px_ixT (va 0 rfl) px_int rfl) (szMul0 h5 h4)) ?_
  refine pb_guard (pxt_lt (va 2 rfl) (va 3 rfl)) (fun h => pb_retP x ((px_neg px_int).cast ?_)) fun h => pb_guard (pxt_gt (va 2 rfl) (va 3 rfl)) (fun h' => pb_retP x (px_int.cast ?_)) fun h' => pb_retP x (px_int.cast ?_)
  · have e := (divInt_lt h1 h2).mpr (of_decide_eq_true h)
    show tI (-1) = tI (cmpR _ _)
    rw [cmpR, if_pos e]
  · have e := fun z => of_decide_eq_false h ((divInt_lt h1 h2).mp z)
    have e' := (divInt_lt h2 h1).mpr (of_decide_eq_true h')
    show tI 1 = tI (cmpR _ _)
    rw [cmpR, if_neg e, if_pos e']
  · have e := fun z => of_decide_eq_false h ((divInt_lt h1 h2).mp z)
    have e' := fun z => of_decide_eq_false h' ((divInt_lt h2 h1).mp z)
    show tI 0 = tI (cmpR _ _)
    rw [cmpR, if_neg e, if_neg e']
theorem ok_order (T : Txt K mg) : Ok P w K mg base 1 "order_of" ["left", "right"] (Pur (fun z : Rat × Rat => [tPair K z.1, tPair K z.2]) (fun _ => True) (fun z => tI (cmpR z.1 z.2))) :=
  (ok_order0 T).imp fun D vs z _ h => by
    obtain ⟨p, q⟩ := z
    cases h with
    | cons h t =>
      cases t with
      | cons h' t =>
        cases t
        obtain ⟨a, b, h, h1, h2, h3, e1⟩ := h
        obtain ⟨c, d, h', h4, h5, h6, e2⟩ := h'
        have e1 : p = _ := e1
        have e2 : q = _ := e2
        subst e1 e2
        exact ⟨((a, b), (c, d)), ⟨h1, h4, h2, h3, h5, h6⟩, .cons h (.cons h' .nil), fun H v p => p⟩
abbrev spN2 (K : PySem.W.Frag) (pre : Rat → Rat → Prop) (g : Rat → Rat → Ty) : Sp := Pur (fun z : Rat × Rat => [tNum K z.1, tNum K z.2]) (fun z => pre z.1 z.2) (fun z => g z.1 z.2)
theorem sz_neg {q : Rat} (h : Sz q) : Sz (-q) := ⟨by rw [Rat.neg_num, Int.natAbs_neg]; exact h.1, h.2⟩
theorem sc30 : FnScope ["left", "right"] ["left", "right"] (defScope (top 30)) := ⟨rfl, rfl, rfl, by decide +kernel, rfl, by decide +kernel, by decide +kernel⟩
theorem ok_add (T : Txt K mg) : Ok P w K mg base 4 "add" ["left", "right"] (spN2 K (fun a b => Sz a ∧ Sz b) fun a b => tQ K (a + b)) := by
  refine T.d_add.ok sc30 (fun _ => rfl) (fun _ _ _ _ _ _ us hl => match us, hl with | [_, _], _ => rfl) fun f cdv A outer s H E C0 C z hr x hp => ?_
  obtain ⟨p, q⟩ := z
  show PB _ C [some (tNum K p), some (tNum K q)] _ _ _
  exact pb_retP x (px_call (ok_sum2 T) (_, _) rfl hr (pxs_cons (px_call (ok_fraction T) _ rfl hr (pxs_cons (va 0 rfl) pxs_nil) trivial) (pxs_cons (px_call (ok_fraction T) _ rfl hr (pxs_cons (va 1 rfl) pxs_nil) trivial) pxs_nil)) hp)
theorem sc31 : FnScope ["left", "right"] ["left", "right"] (defScope (top 31)) := ⟨rfl, rfl, rfl, by decide +kernel, rfl, by decide +kernel, by decide +kernel⟩
theorem ok_sub (T : Txt K mg) : Ok P w K mg base 4 "sub" ["left", "right"] (spN2 K (fun a b => Sz a ∧ Sz b) fun a b => tQ K (a - b)) := by
  refine T.d_sub.ok sc31 (fun _ => rfl) (fun _ _ _ _ _ _ us hl => match us, hl with | [_, _], _ => rfl) fun f cdv A outer s H E C0 C z hr x hp => ?_
  obtain ⟨p, q⟩ := z
  show PB _ C [some (tNum K p), some (tNum K q)] _ _ _
  exact pb_retP x ((px_call (ok_sum2 T) (p, -q) rfl hr (pxs_cons (px_call (ok_fraction T) _ rfl hr (pxs_cons (va 0 rfl) pxs_nil) trivial) (pxs_cons (px_call (ok_opposite T) q rfl hr (pxs_cons (px_call (ok_fraction T) _ rfl hr (pxs_cons (va 1 rfl) pxs_nil) trivial) pxs_nil) trivial) pxs_nil)) ⟨hp.1, sz_neg hp.2⟩).cast
    (congrArg (tQ K) (Rat.sub_eq_add_neg p q).symm))
theorem sc32 : FnScope ["left", "right"] ["left", "right"] (defScope (top 32)) := ⟨rfl, rfl, rfl, by decide +kernel, rfl, by decide +kernel, by decide +kernel⟩
theorem ok_mul (T : Txt K mg) : Ok P w K mg base 4 "mul" ["left", "right"] (spN2 K (fun a b => Sz a ∧ Sz b) fun a b => tQ K (a * b)) := by
  refine T.d_mul.ok sc32 (fun _ => rfl) (fun _ _ _ _ _ _ us hl => match us, hl with | [_, _], _ => rfl) fun f cdv A outer s H E C0 C z hr x hp => ?_
  obtain ⟨p, q⟩ := z
  show PB _ C [some (tNum K p), some (tNum K q)] _ _ _
  exact pb_retP x (px_call (ok_prod2 T) (_, _) rfl hr (pxs_cons (px_call (ok_fraction T) _ rfl hr (pxs_cons (va 0 rfl) pxs_nil) trivial) (pxs_cons (px_call (ok_fraction T) _ rfl hr (pxs_cons (va 1 rfl) pxs_nil) trivial) pxs_nil)) hp)
theorem sc33 : FnScope ["left", "right", "dividend", "top", "bottom"] ["left", "right"] (defScope (top 33)) := ⟨rfl, rfl, rfl, by decide +kernel, rfl, by decide +kernel, by decide +kernel⟩
theorem inv_pos_num {q : Rat} (h : 0 < q) : (q⁻¹).num = (q.den : Int) ∧ ((q⁻¹).den : Int) = q.num := by
  have h0 : 0 < q.num := by
    rw [Rat.lt_iff] at h
    simpa using h
  rw [Rat.num_inv, Rat.den_inv, if_neg (by omega), Int.sign_eq_one_of_pos h0]
  omega
theorem sz_inv {q : Rat} (h : 0 < q) (s : Sz q) : Sz q⁻¹ := by
  obtain ⟨h1, h2⟩ := inv_pos_num h
  refine ⟨by rw [h1]; exact denS s, ?_⟩
  have := s.1
  omega
theorem ok_div (T : Txt K mg) : Ok P w K mg base 4 "div" ["left", "right"] (spN2 K (fun a b => Sz a ∧ Sz b ∧ 0 < b) fun a b => tQ K (a / b)) := by
  refine T.d_div.ok sc33 (fun _ => rfl) (fun _ _ _ _ _ _ us hl => match us, hl with | [_, _], _ => rfl) fun f cdv A outer s H E C0 C z hr x hp => ?_
  obtain ⟨p, q⟩ := z
  obtain ⟨h1, h2, h3⟩ := hp
  replace h3 : 0 < q := h3
  have h0 : 0 < q.num := by
    have h := h3
    rw [Rat.lt_iff] at h
    simpa using h
  show PB _ C [some (tNum K p), some (tNum K q), none, none, none] _ _ _
  refine plet sc33.nd 2 (px_call (ok_fraction T) _ rfl hr (pxs_cons (va 0 rfl) pxs_nil) trivial) ?_
  refine pb_asg (px_call (ok_fraction T) _ rfl hr (pxs_cons (va 1 rfl) pxs_nil) trivial) (pgx_tup rfl (pgxs_cons (nm sc33.nd 3) (pgxs_cons (nm sc33.nd 4) pgxs_nil))) ?_
  refine pb_guard (pxt_eq (va 3 rfl) px_int) (fun h => absurd (of_decide_eq_true h) (show ¬ q.num = 0 by omega)) fun _ => ?_
  refine pb_guard (pxt_lt (va 3 rfl) px_int) (fun h => absurd (of_decide_eq_true h) (show ¬ q.num < 0 by omega)) fun _ => ?_
  have e := inv_pos_num h3
  refine pb_retP x (px_call (ok_prod2 T) (p, q⁻¹) rfl hr (pxs_cons (va 2 rfl) (pxs_cons ((px_tup (pxs_cons (va 4 rfl) (pxs_cons (va 3 rfl) pxs_nil))).cast ?_) pxs_nil)) ⟨h1, sz_inv h3 h2⟩)
  show tTup K [tI _, tI _] = tTup K [tI _, tI _]
  rw [e.1, e.2]
theorem sc34 : FnScope ["left", "right", "near"] ["left", "right"] (defScope (top 34)) := ⟨rfl, rfl, rfl, by decide +kernel, rfl, by decide +kernel, by decide +kernel⟩
theorem ok_compare (T : Txt K mg) : Ok P w K mg base 3 "compare" ["left", "right"] (spN2 K (fun a b => True) fun a b => tI (cmpR a b)) := by
  refine T.d_compare.ok sc34 (fun _ => rfl) (fun _ _ _ _ _ _ us hl => match us, hl with | [_, _], _ => rfl) fun f cdv A outer s H E C0 C z hr x hp => ?_
  obtain ⟨p, q⟩ := z
  show PB _ C [some (tNum K p), some (tNum K q), none] _ _ _
  refine plet sc34.nd 2 (px_call (ok_partsN T) _ rfl hr (pxs_cons (va 0 rfl) pxs_nil) trivial) ?_
  exact pb_retP x (px_call (ok_order T) (_, _) rfl hr (pxs_cons (va 2 rfl) (pxs_cons (px_call (ok_partsN T) _ rfl hr (pxs_cons (va 1 rfl) pxs_nil) trivial) pxs_nil)) trivial)
theorem sc35 : FnScope ["values", "running", "value"] ["values"] (defScope (top 35)) := ⟨rfl, rfl, rfl, by decide +kernel, rfl, by decide +kernel, by decide +kernel⟩
theorem ok_total (T : Txt K mg) : Ok P w K mg base 4 "total" ["values"] (Pur (fun l : List Rat => [tSeq K (l.map (tQ K))]) (fun l => (∀ v ∈ l, Sz v) ∧ ∀ i, Sz (qsum (l.take i))) (fun l => tQ K (qsum l))) := by
  refine T.d_total.ok sc35 (fun _ => rfl) (fun _ _ _ _ _ _ us hl => match us, hl with | [_], _ => rfl) fun f cdv A outer s H E C0 C l hr x hp => ?_
  show PB _ C [some (tSeq K (l.map (tQ K))), none, none] _ _ _
  refine plet sc35.nd 1 (px_tup (pxs_cons px_int (pxs_cons px_int pxs_nil))) ?_
  refine pb_forN (j := 2) (l := l) (tA := tQ K) PassesOwn.never rfl (psq 0 rfl) (fun _ => C) (fun i => [some (tSeq K (l.map (tQ K))), some (tQ K (qsum (l.take i))), none]) sc35.nd rfl (.inl rfl) (fun _ => rfl) (fun _ _ h => h) (fun i a ha => ?_) ?_
  · have sa := hp.1 a (List.mem_of_getElem? ha)
    refine plet sc35.nd 1 (px_call (ok_sum2 T) (_, _) rfl hr (pxs_cons (va 1 rfl) (pxs_cons (px_call (ok_fraction T) _ rfl hr (pxs_cons ((va 2 rfl).num sa) pxs_nil) trivial) pxs_nil)) ⟨hp.2 i, sa⟩) ?_
    exact pb_nil fun σ H h => h.weak (gle_keep (.cons (.inr (congrArg (fun q => some (tQ K q)) (foldl_take ha).symm)) (gle_drop gle_nil)))
  · refine pb_retP x ((va 1 rfl).cast ?_)
    rw [List.take_length]
end
end Nb
end -- E3
section -- E4
set_option maxHeartbeats 1000000
namespace Nb
open PySem PySem.Spec PyProof.Rows L2
def farStep (s : Int) (f v : Rat) : Rat := if cmpR v f = s then v else f
def far (s : Int) : List Rat → Rat
  | [] => 0
  | a :: r => (a :: r).foldl (farStep s) a
section
variable {K : PySem.W.Frag} {mg : Str → Option Value} {base : Heap} {P : Program} {w : World}
theorem PX.pairNum {X : Cx} {C : HC} {G : Env} {e : Expr} {q : Rat} (h : PX X C G e (tPair X.K q)) : PX X C G e (tNum X.K q) := h.sub fun H v ⟨n, d, h, h0, h1, h2, e⟩ => .inr ⟨n, d, h, h0, h1, h2, e⟩
theorem sc36 : FnScope ["values"] ["values"] (defScope (top 36)) := ⟨rfl, rfl, rfl, by decide +kernel, rfl, by decide +kernel, by decide +kernel⟩
theorem ok_check_some (T : Txt K mg) : Ok P w K mg base 1 "check_some" ["values"] (Pur (fun l : List Ty => [tLst l]) (fun l => l ≠ []) (fun _ => tN)) := by
  refine T.d_check_some.ok sc36 (fun _ => rfl) (fun _ _ _ _ _ _ us hl => match us, hl with | [_], _ => rfl) fun f cdv A outer s H E C0 C l hr x hp => ?_
  show PB _ C [some (tLst l)] _ _ _
  refine pb_guard (pxt_eq (px_lenL T.f_len (va 0 rfl)) px_int) (fun h => ?_) fun _ => pb_nil fun σ H h => RtOf.of x h.base rfl
  have h1 : ((l.length : Nat) : Int) = 0 := of_decide_eq_true h
  exact absurd (List.length_eq_zero_iff.mp (by omega)) hp
theorem sc37 : FnScope ["values", "side", "pairs", "best", "pair", "value"] ["values", "side"] (defScope (top 37)) := ⟨rfl, rfl, rfl, by decide +kernel, rfl, by decide +kernel, by decide +kernel⟩
theorem ok_far (T : Txt K mg) : Ok P w K mg base 4 "farthest_value" ["values", "side"] (Pur (fun z : List Rat × Int => [tLst (z.1.map (tQ K)), tI z.2]) (fun z => z.1 ≠ [] ∧ z.1.length ≤ 1000 ∧ ∀ v ∈ z.1, Sz v) (fun z => tQ K (far z.2 z.1))) := by
  refine T.d_farthest_value.ok sc37 (fun _ => rfl) (fun _ _ _ _ _ _ us hl => match us, hl with | [_, _], _ => rfl) fun f cdv A outer s H E C0 C z hr x hp => ?_
  obtain ⟨l, sd⟩ := z
  obtain ⟨hn, hlen, hz⟩ := hp
  replace hn : l ≠ [] := hn
  replace hz : ∀ v ∈ l, Sz v := hz
  obtain ⟨b, r, hl⟩ : ∃ b r, l = b :: r := by
    cases l with
    | nil => exact absurd rfl hn
    | cons b r => exact ⟨b, r, rfl⟩
  have h0 : (l.map (tPair K))[0]? = some (tPair K b) := by rw [hl]; rfl
  show PB _ C [some (tLst (l.map (tQ K))), some (tI sd), none, none, none, none] _ _ _
  refine pb_expr (px_call (ok_check_some T) _ rfl hr (pxs_cons (va 0 rfl) pxs_nil) (by rw [hl]; exact List.cons_ne_nil _ _)) ?_
  refine pb_let (set_lcN (i := 2) (j := 5) (own := [("value", 5)]) (l := l) (tA := tQ K) (E := tPair K) rfl sc37.nd rfl rfl (sw_true rfl rfl rfl (by decide +kernel)) (pix_list (va 0 rfl)) (blkOk_by (by kernel_rfl)) (by decide) (Nat.le_trans hlen (by omega)) (fun s H D cl fp d Vs a => nm sc37.nd 5)
    (fun s H D cl fp d Vs a ha hd => px_call (ok_partsN T) _ rfl hr (pxs_cons ((va 5 rfl).num (hz a ha)) pxs_nil) trivial)) ?_
  refine plet sc37.nd 3 (px_ixL (va 2 rfl) px_int (atI_nat (j := 0) h0)) ?_
  refine pb_forN (j := 4) (l := l) (tA := tPair K) PassesOwn.never rfl (pix_list (va 2 rfl)) (fun _ => C) (fun i => [some (tLst (l.map (tQ K))), some (tI sd), some (tLst (l.map (tPair K))), some (tPair K ((l.take i).foldl (farStep sd) b)), none, none]) sc37.nd rfl (.inl rfl) (fun _ => rfl) (fun _ _ h => h) (fun i a ha => ?_) ?_
  · refine pb_if (C' := C) (G' := [some (tLst (l.map (tQ K))), some (tI sd), some (tLst (l.map (tPair K))), some (tPair K ((l.take (i + 1)).foldl (farStep sd) b)), none, none])
      (pxt_eq (px_call (ok_order T) (_, _) rfl hr (pxs_cons (va 4 rfl) (pxs_cons (va 3 rfl) pxs_nil)) trivial) (va 1 rfl)) (fun h => ?_) (fun h => ?_) pb_end
    · refine plet sc37.nd 3 (va 4 rfl) ?_
      refine pb_nil fun σ H h' => h'.weak (gle_keep (gle_keep (gle_keep (.cons (.inr ?_) (gle_drop (gle_keep gle_nil))))))
      rw [foldl_take ha, show farStep sd ((l.take i).foldl (farStep sd) b) a = a from if_pos (of_decide_eq_true h)]
    · refine pb_nil fun σ H h' => h'.weak (gle_keep (gle_keep (gle_keep (.cons (.inr ?_) (gle_drop (gle_keep gle_nil))))))
      rw [foldl_take ha, show farStep sd ((l.take i).foldl (farStep sd) b) a = _ from if_neg (of_decide_eq_false h)]
  · refine pb_retP x ((px_call (ok_fraction T) _ rfl hr (pxs_cons (va 3 rfl).pairNum pxs_nil) trivial).cast ?_)
    rw [List.take_length, hl]
    rfl
theorem sc38 : FnScope ["values"] ["values"] (defScope (top 38)) := ⟨rfl, rfl, rfl, by decide +kernel, rfl, by decide +kernel, by decide +kernel⟩
theorem sc39 : FnScope ["values"] ["values"] (defScope (top 39)) := ⟨rfl, rfl, rfl, by decide +kernel, rfl, by decide +kernel, by decide +kernel⟩
abbrev spFar (K : PySem.W.Frag) (s : Int) : Sp := Pur (fun l : List Rat => [tLst (l.map (tQ K))]) (fun l => l ≠ [] ∧ l.length ≤ 1000 ∧ ∀ v ∈ l, Sz v) (fun l => tQ K (far s l))
theorem ok_least (T : Txt K mg) : Ok P w K mg base 5 "least" ["values"] (spFar K (-1)) := by
  refine T.d_least.ok sc38 (fun _ => rfl) (fun _ _ _ _ _ _ us hl => match us, hl with | [_], _ => rfl) fun f cdv A outer s H E C0 C l hr x hp => ?_
  show PB _ C [some (tLst (l.map (tQ K)))] _ _ _
  exact pb_retP x (px_call (ok_far T) (l, -1) rfl hr (pxs_cons (va 0 rfl) (pxs_cons (px_neg px_int) pxs_nil)) hp)
theorem ok_greatest (T : Txt K mg) : Ok P w K mg base 5 "greatest" ["values"] (spFar K 1) := by
  refine T.d_greatest.ok sc39 (fun _ => rfl) (fun _ _ _ _ _ _ us hl => match us, hl with | [_], _ => rfl) fun f cdv A outer s H E C0 C l hr x hp => ?_
  show PB _ C [some (tLst (l.map (tQ K)))] _ _ _
  exact pb_retP x (px_call (ok_far T) (l, 1) rfl hr (pxs_cons (va 0 rfl) (pxs_cons px_int pxs_nil)) hp)
end
end Nb
end -- E4
section -- NbH
set_option maxHeartbeats 1000000
namespace Nb
open PySem PySem.Spec PyProof.Rows L2
theorem PI_ex {X : Cx} {tg e : Expr} {β : Type} {t : β → TI} (h : ∀ z, PI X tg e (t z)) : PI X tg e (fun σ H Q => ∃ z, t z σ H Q) := ⟨fun pins s σ H R I ⟨z, q⟩ => (h z).run pins s σ H R I q⟩
theorem PI_when {X : Cx} {tg e : Expr} {t : TI} {P : Prop} (h : P → PI X tg e t) : PI X tg e (fun σ H Q => P ∧ t σ H Q) := ⟨fun pins s σ H R I ⟨p, q⟩ => (h p).run pins s σ H R I q⟩
theorem take_flat {α β : Type} {f : α → List β} {l : List α} {i : Nat} {a : α} (h : l[i]? = some a) : (l.take (i + 1)).flatMap f = (l.take i).flatMap f ++ f a := by
  rw [List.take_add_one, h, List.flatMap_append]
  show _ ++ List.flatMap f [a] = _
  rw [List.flatMap_cons, List.flatMap_nil, List.append_nil]
section
variable {X : Cx} {C C' : HC} {G G' G'' : Env} {a b c e tg tg1 iter iter1 elt : Expr} {scope : Scope} {own : List (Str × Nat)} {T U W : Ty} {Ts Us : List Ty} {pos p pos2 apos tpos spos : Pos} {i : Nat}
variable {α β : Type} {l : List α} {tA : α → Ty} {m : α → List β} {tB : α → β → Ty} {E : α → β → Ty} {Ga : α → Env} {Gb : α → β → Env} {js js1 vs1 : List Nat}
theorem lc2_ok {vs : List Nat} {σ : St} {H : Hp} {Q : VK} (hj : ∀ k ∈ js, k ∈ vs) (hj1 : ∀ k ∈ js1, k ∈ vs1) (hl : ∀ n, ((l.take n).flatMap fun a => (m a).map (E a)).length ≤ 1000000 ∧ ∀ a ∈ l, (m a).length ≤ 1000000) (h : tX C G (tLst (l.flatMap fun a => (m a).map (E a))) σ H Q) :
    tLc2 (tIX C G (l.map tA)) (fun v σ H Q => ∃ z : Addr × List Ty × α, (z.2.2 ∈ l ∧ C.M z.1 = false) ∧ tGX (C.own z.1 z.2.1) (wipeG G vs) (tA z.2.2) (Ga z.2.2) js v σ H Q)
      (fun σ H Q => ∃ z : Addr × List Ty × α, tXt (C.own z.1 z.2.1) (Ga z.2.2) true σ H Q)
      (fun σ H R => ∃ z : Addr × List Ty × α, (z.2.2 ∈ l ∧ C.M z.1 = false) ∧ tIX (C.own z.1 z.2.1) (Ga z.2.2) ((m z.2.2).map (tB z.2.2)) σ H R)
      (fun v σ H Q => ∃ z : Addr × List Ty × α × β, (z.2.2.1 ∈ l ∧ C.M z.1 = false) ∧ tGX (C.own z.1 z.2.1) (wipeG (Ga z.2.2.1) vs1) (tB z.2.2.1 z.2.2.2) (Gb z.2.2.1 z.2.2.2) js1 v σ H Q)
      (fun σ H Q => ∃ z : Addr × List Ty × α × β, tXt (C.own z.1 z.2.1) (Gb z.2.2.1 z.2.2.2) true σ H Q)
      (fun σ H Q => ∃ z : Addr × List Ty × α × β, (z.2.2.1 ∈ l ∧ z.2.2.2 ∈ m z.2.2.1 ∧ C.M z.1 = false) ∧ tX (C.own z.1 z.2.1) (Gb z.2.2.1 z.2.2.2) (E z.2.2.1 z.2.2.2) σ H Q) vs vs1 σ H Q := by
  obtain ⟨ok, q⟩ := h
  refine ⟨ok, fun J H1 x1 e1 y1 D hD => ?_⟩
  have mD := x1.base.fresh hD
  refine ⟨fun i k H' => k + i = l.length ∧ EnvOk (C.own D ((l.take i).flatMap fun a => (m a).map (E a))) G σ H' ∧ Ex (hid C.M H1) (hid (C.own D []).M H'), ⟨l.length, rfl, x1.mkown hD .nil, mkown_le hD⟩, ?_⟩
  rintro i k H' ⟨hk, x2, e2⟩
  obtain ⟨y2, y3⟩ := y1 (C.own D []).M H' e2 (fun a h => x2.base.hidd a h) i
  by_cases hi : i < l.length
  · have ha : l[i]? = some l[i] := List.getElem?_eq_getElem hi
    have hmem : l[i] ∈ l := List.getElem_mem hi
    obtain ⟨go, yl⟩ := y2 (tA l[i]) (by rw [List.getElem?_map, ha]; rfl)
    have tk := take_flat (f := fun a => (m a).map (E a)) ha
    generalize hU : (l.take i).flatMap (fun a => (m a).map (E a)) = Us at *
    refine .inr ⟨go, fun H2 => EnvOk (C.own D ((l.take (i + 1)).flatMap fun a => (m a).map (E a))) G σ H2 ∧ Ex (hid C.M H1) (hid (C.own D []).M H2), fun H2 ⟨x3, e3⟩ => ⟨k - 1, by omega, by omega, x3, e3⟩, fun v H2 hy => ?_⟩
    obtain ⟨e3, p3⟩ := yl v H2 hy
    have x3 := x2.ex e3
    refine ⟨(D, Us, l[i]), ⟨hmem, mD⟩, x3.wipe vs, p3, fun σ2 x4 f4 => ⟨wipe_fix f4 hj, (D, Us, l[i]), x4, fun H3 x5 e5 => ?_⟩⟩
    refine ⟨(D, Us, l[i]), ⟨hmem, mD⟩, x5, fun J1 H4 x6 e6 z1 => ?_⟩
    refine ⟨fun j n H => n + j = (m l[i]).length ∧ EnvOk (C.own D (Us ++ ((m l[i]).take j).map (E l[i]))) (Ga l[i]) σ2 H ∧ Ex (hid (C.own D []).M H4) (hid (C.own D []).M H), ⟨(m l[i]).length, rfl, by rw [List.take_zero, List.map_nil, List.append_nil]; exact x6, Ex.refl _⟩, ?_⟩
    rintro j n H5 ⟨hn, x7, e7⟩
    obtain ⟨z2, z3⟩ := z1 (C.own D []).M H5 e7 (fun a h => x7.base.hidd a h) j
    by_cases hj' : j < (m l[i]).length
    · have hb : (m l[i])[j]? = some (m l[i])[j] := List.getElem?_eq_getElem hj'
      obtain ⟨go1, yl1⟩ := z2 (tB l[i] (m l[i])[j]) (by rw [List.getElem?_map, hb]; rfl)
      have tk1 : (m l[i]).take (j + 1) = (m l[i]).take j ++ [(m l[i])[j]] := by rw [List.take_add_one, hb]; rfl
      refine .inr ⟨go1, fun H6 => EnvOk (C.own D (Us ++ ((m l[i]).take (j + 1)).map (E l[i]))) (Ga l[i]) σ2 H6 ∧ Ex (hid (C.own D []).M H4) (hid (C.own D []).M H6), fun H6 ⟨x8, e8⟩ => ⟨n - 1, by omega, by omega, x8, e8⟩, fun w H6 hy1 => ?_⟩
      obtain ⟨e8, p8⟩ := yl1 w H6 hy1
      have x8 := x7.ex e8
      refine ⟨(D, Us ++ ((m l[i]).take j).map (E l[i]), l[i], (m l[i])[j]), ⟨hmem, mD⟩, x8.wipe vs1, p8, fun σ3 x9 f9 => ⟨wipe_fix f9 hj1, (D, Us ++ ((m l[i]).take j).map (E l[i]), l[i], (m l[i])[j]), x9, fun H7 x10 e10 => ?_⟩⟩
      refine ⟨(D, Us ++ ((m l[i]).take j).map (E l[i]), l[i], (m l[i])[j]), ⟨hmem, List.getElem_mem hj', mD⟩, x10, fun y H8 x11 e11 p11 => ?_⟩
      obtain ⟨_, _, _, xs, h4, h5⟩ := id x11.base.om
      have back : EnvOk (C.own D (Us ++ ((m l[i]).take j).map (E l[i]))) (Ga l[i]) σ2 H8 := ⟨x11.base, x8.env.imp fun _ _ h => h.mono (e10.trans e11)⟩
      refine ⟨xs, h4, ?_, ?_, (e7.trans (hid_mono e8)).trans ((e10.trans e11).trans (wrown_le (Ts := []) (Us := [])))⟩
      · rw [h5.length, List.length_append, List.length_map, List.length_take]
        have h6 := (hl i).1
        have h7 := (hl i).2 _ hmem
        rw [hU] at h6
        refine Nat.lt_of_le_of_lt (?_ : _ ≤ 2000000) (by decide)
        have := Nat.min_le_right j (m l[i]).length
        omega
      · have x12 := back.wrown (Us := Us ++ ((m l[i]).take (j + 1)).map (E l[i])) (xs := xs ++ [y]) (by
          rw [tk1, List.map_append, ← List.append_assoc]
          exact h5.append (.cons p11 .nil))
        exact x12
    · have hjl : j = (m l[i]).length := by omega
      refine .inl ⟨z3 (by rw [List.length_map]; exact hjl.symm), ?_, ((e2.trans (hid_mono e3)).trans e5).trans (e6.trans e7)⟩
      subst hjl
      rw [List.take_length] at x7
      rw [tk]
      exact ⟨x7.base, x3.env.imp fun _ _ h => h.mono ((e5.trans e6).trans e7)⟩
  · have hl : i = l.length := by omega
    refine .inl ⟨y3 (by rw [List.length_map]; exact hl.symm), ?_⟩
    subst hl
    rw [List.take_length] at x2
    obtain ⟨_, m', _, xs, h4, h5⟩ := id x2.base.om
    exact q _ H' x2.of_own ((e1.trans e2).trans own_le) ⟨D, xs, rfl, hid_of m' h4, h5.mono own_le⟩
theorem px_lc2 (hc : X.calm = true) (hN : X.N.Nodup) (hi : PIX X C G tg iter (l.map tA)) (ok : BlkOk X.N X.env.scope scope own) (hj : ∀ k ∈ js, k ∈ own.map (·.2)) (hj1 : ∀ k ∈ js1, k ∈ vs1) (hv : ∀ k ∈ vs1, k ∈ own.map (·.2)) (hl : ∀ n, ((l.take n).flatMap fun a => (m a).map (E a)).length ≤ 1000000 ∧ ∀ a ∈ l, (m a).length ≤ 1000000)
    (hg : ∀ s H D cl fp d Vs a, PGX (bk X s H scope D cl fp) (C.own d Vs) (wipeG G (own.map (·.2))) tg (tA a) (Ga a) js)
    (hi1 : ∀ s H D cl fp d Vs a, a ∈ l → C.M d = false → PIX (bk X s H scope D cl fp) (C.own d Vs) (Ga a) tg1 iter1 ((m a).map (tB a)))
    (hg1 : ∀ s H D cl fp d Vs a b, PGX (bk X s H scope D cl fp) (C.own d Vs) (wipeG (Ga a) vs1) tg1 (tB a b) (Gb a b) js1)
    (he : ∀ s H D cl fp d Vs a b, a ∈ l → b ∈ m a → C.M d = false → PX (bk X s H scope D cl fp) (C.own d Vs) (Gb a b) elt (E a b)) (hs : ∀ x, foldedSetIterable iter X.env x = pure x := by intro _; rfl) (hs1 : ∀ env x, foldedSetIterable iter1 env x = pure x := by intro _ _; rfl) :
    PX X C G (.ListComp elt [⟨tg, iter, [], 0⟩, ⟨tg1, iter1, [], 0⟩] scope pos) (tLst (l.flatMap fun a => (m a).map (E a))) :=
  PE.imp (pe_lc2 hc hN hi ok hv (fun s H D cl fp => PG_ex fun z : Addr × List Ty × α => PG_when fun h => hg s H D cl fp z.1 z.2.1 z.2.2) (fun s H D cl fp => PTs_ex fun z : Addr × List Ty × α => pts_yes)
    (fun s H D cl fp => PI_ex fun z : Addr × List Ty × α => PI_when fun h => hi1 s H D cl fp z.1 z.2.1 z.2.2 h.1 h.2) (fun s H D cl fp => PG_ex fun z : Addr × List Ty × α × β => PG_when fun h => hg1 s H D cl fp z.1 z.2.1 z.2.2.1 z.2.2.2)
    (fun s H D cl fp => PTs_ex fun z : Addr × List Ty × α × β => pts_yes) (fun s H D cl fp => PE_ex fun z : Addr × List Ty × α × β => pe_when fun h => he s H D cl fp z.1 z.2.1 z.2.2.1 z.2.2.2 h.1 h.2.1 h.2.2) hs hs1) fun σ H Q h => lc2_ok hj hj1 hl h
end
section
variable {X : Cx} {C : HC} {G : Env} {a b c e : Expr} {Ts : List Ty} {pos p p2 : Pos} {i j : Int} {s t : Str}
def tOX (C : HC) (G : Env) (o : Option Int) : TO := fun σ H Q => EnvOk C G σ H ∧ ∀ H2, EnvOk C G σ H2 → Ex (hid C.M H) (hid C.M H2) → Q o H2
theorem PO.imp {X : Cx} {e : Option Expr} {t t' : TO} (h : PO X e t) (f : ∀ σ H Q, t' σ H Q → t σ H Q) : PO X e t' := ⟨fun pins s σ H Q I q => h.run pins s σ H Q I (f σ H Q q)⟩
theorem pox_none : PO X none (tOX C G none) := PO.imp po_none fun σ H Q ⟨ok, q⟩ => q H ok (Ex.refl _)
theorem pox_some (h : PX X C G e (tI i)) : PO X (some e) (tOX C G (some i)) := PO.imp (po_some h) fun σ H Q ⟨ok, q⟩ => ⟨ok, fun v H2 x2 e2 p => ⟨i, p, q H2 x2 e2⟩⟩
def cutT {α : Type} (xs : List α) (lo hi : Option Int) : List α := (xs.drop (HT.sIx xs.length 0 lo)).take (HT.sIx xs.length xs.length hi - HT.sIx xs.length 0 lo)
theorem px_slL {lo hi : Option Expr} {l h : Option Int} (ha : PX X C G a (tLst Ts)) (hl : PO X lo (tOX C G l)) (hh : PO X hi (tOX C G h)) : PX X C G (.Subscript a (.Slice lo hi none p2) pos) (tLst (cutT Ts l h)) :=
  PE.imp (pe_slice sl_list ha hl hh) fun σ H Q ⟨ok, q⟩ => ⟨ok, fun v H1 x1 e1 ⟨o, xs, h1, h2, h3⟩ => ⟨x1, fun H2 x2 e2 => ⟨x2, fun H3 x3 e3 => ⟨o, xs, h1, sqL_of_hid (e3 _ _ (e2 _ _ h2)), fun p hp => by
    have e4 : Ex H3 (upd H3 p (.lst (cutV xs l h))) := Ex.new hp
    have hz : TyAll (hid C.M H1) (cutV xs l h) (cutT Ts l h) := by
      unfold cutV cutT
      rw [h3.length]
      exact (h3.drop _).take _
    exact q _ _ (x3.ex e4) (((e1.trans e2).trans e3).trans (hid_mono e4)) ⟨p, _, rfl, hid_of (x3.base.fresh hp) upd_same, hz.mono ((e2.trans e3).trans (hid_mono e4))⟩⟩⟩⟩⟩
theorem px_slS {lo hi : Option Expr} {l h : Option Int} (ha : PX X C G a (tS s)) (hl : PO X lo (tOX C G l)) (hh : PO X hi (tOX C G h)) (hs : s.length ≤ sizeLine) : PX X C G (.Subscript a (.Slice lo hi none p2) pos) (tS (cutS s l h)) :=
  PE.imp (pe_slice sl_str ha hl hh) fun σ H Q ⟨ok, q⟩ => ⟨ok, fun v H1 x1 e1 p1 => ⟨x1, fun H2 x2 e2 => ⟨x2, fun H3 x3 e3 => ⟨s, p1, hs, q _ H3 x3 ((e1.trans e2).trans e3) rfl⟩⟩⟩⟩
theorem px_addS (ha : PX X C G a (tS s)) (hb : PX X C G b (tS t)) (hl : s.length + t.length ≤ sizeLine) : PX X C G (.BinOp a .Add b pos) (tS (s ++ t)) :=
  px_op op_add_str (T := tS s) (U := tS t) (fun H x y Q _ hx hy q => ⟨s, t, hx, hy, hl, q _ H (Ex.refl H) rfl⟩) ha hb
theorem pxt_nin {k : Nat} (ha : PX X C G a (tS ⟨#[k]⟩)) (hb : PX X C G b (tS t)) (hm : behindInMarks .NotIn b = false := by rfl) : PXt X C G (.Compare a [.NotIn] [b] pos) (!decide (k ∈ t.cps.toList)) :=
  pxt_cmpR op_notIn_sign (T := tS ⟨#[k]⟩) (U := tS t) (fun H x y Q _ hx hy q => ⟨k, t, hx, hy, q _ H (Ex.refl H) rfl⟩) ha hb hm
theorem px_strI (hm : X.mg "str" = none) (ha : PX X C G e (tI i)) (hi : i.natAbs.log2 < 1920) (hg : Gl X "str" := by rfl) (he : starEach [e] X.env = (false, eval e X.env) :: starEach [] X.env := by rfl) : PX X C G (.Call (.Name "str" p) [e] [] pos) (tS (toString i)) :=
  px_callTy call_str_int (Ts := [tI i]) (fun H vs Q _ h q => by
    cases h with
    | cons h t => cases t; exact ⟨i, by rw [show _ = V.int i from h], hi, q _ H (Ex.refl H) rfl⟩) hm boot_str (pxs_cons ha pxs_nil he) hg (he := he)
theorem px_intS {n : Int} (hm : X.mg "int" = none) (ha : PX X C G e (tS s)) (hi : PySem.intText? s = some n) (hl : s.length ≤ 640) (hg : Gl X "int" := by rfl) (he : starEach [e] X.env = (false, eval e X.env) :: starEach [] X.env := by rfl) : PX X C G (.Call (.Name "int" p) [e] [] pos) (tI n) :=
  px_callTy call_int_str (Ts := [tS s]) (fun H vs Q _ h q => by
    cases h with
    | cons h t => cases t; exact ⟨s, n, by rw [show _ = V.str s from h], hi, hl, q _ H (Ex.refl H) rfl⟩) hm boot_int (pxs_cons ha pxs_nil he) hg (he := he)
/-- an item of a text -/
theorem px_ixS {k : Nat} (ha : PX X C G a (tS s)) (hb : PX X C G b (tI i)) (h : atI s.cps.toList i = some k) (hl : s.length ≤ sizeLine) (hs : PlainIx b := by intro _ _; rfl) : PX X C G (.Subscript a b pos) (tS ⟨#[k]⟩) :=
  px_ixR ix_str (T := tS s) (U := tI i) (fun H x y Q _ hx hy q => ⟨s, i, k, hx, hy, hl, h, q _ H (Ex.refl H) rfl⟩) ha hb hs
end
end Nb
end -- NbH
section -- M0
set_option maxHeartbeats 1000000
namespace Nb
open PySem
def dig (y : Nat) : Str := ⟨#[48 + y]⟩
def tx (l : List Nat) : Str := ⟨(l.map (48 + ·)).toArray⟩
theorem tx_len (l : List Nat) : (tx l).length = l.length := by show (l.map _).toArray.size = _; simp
theorem tx_snoc (l : List Nat) (y : Nat) : tx l ++ dig y = tx (l ++ [y]) := by
  show (⟨(l.map (48 + ·)).toArray ++ #[48 + y]⟩ : Str) = ⟨((l ++ [y]).map (48 + ·)).toArray⟩
  congr 1
  simp
theorem tx_codes (l : List Nat) : (tx l).cps.toList = l.map (48 + ·) := by simp [tx]
theorem tx_inj {l m : List Nat} (h : tx l = tx m) : l = m := by
  have h1 : (tx l).cps.toList = (tx m).cps.toList := by rw [h]
  rw [tx_codes, tx_codes] at h1
  have : ∀ {l m : List Nat}, l.map (48 + ·) = m.map (48 + ·) → l = m := by
    intro l
    induction l with
    | nil => intro m h; cases m with
      | nil => rfl
      | cons a r => simp at h
    | cons a r ih => intro m h; cases m with
      | nil => simp at h
      | cons b q =>
        simp only [List.map_cons, List.cons.injEq] at h
        rw [ih h.2, show a = b by omega]
  exact this h1
def off (w : Nat) : Nat → Nat
  | 0 => 0
  | k + 1 => w * off w k + 1
theorem off_add (w : Nat) : ∀ k, off w (k + 1) = off w k + w ^ k
  | 0 => by simp [off]
  | k + 1 => by
    have h := off_add w k
    show w * off w (k + 1) + 1 = (w * off w k + 1) + w ^ (k + 1)
    rw [h, Nat.mul_add, Nat.pow_succ, Nat.mul_comm (w ^ k) w]
    omega
theorem off_le {w k m : Nat} (h : k ≤ m) : off w k ≤ off w m := by
  induction h with
  | refl => exact Nat.le_refl _
  | step _ ih => exact Nat.le_trans ih (by rw [Nat.succ_eq_add_one, off_add]; omega)
/-- the text with that place in the order of all beginnings -/
def path (w : Nat) : Nat → List Nat
  | 0 => []
  | j + 1 => path w (j / w) ++ [j % w]
termination_by j => j
decreasing_by exact Nat.lt_succ_of_le (Nat.div_le_self j w)
theorem path_zero (w : Nat) : path w 0 = [] := by rw [path]
theorem path_succ (w j : Nat) : path w (j + 1) = path w (j / w) ++ [j % w] := by rw [path]
theorem div_child {w i y : Nat} (h : y < w) : (w * i + y) / w = i := by
  rw [Nat.mul_add_div (by omega), Nat.div_eq_of_lt h, Nat.add_zero]
theorem mod_child {w i y : Nat} (h : y < w) : (w * i + y) % w = y := by
  rw [Nat.mul_add_mod, Nat.mod_eq_of_lt h]
theorem path_child {w i y : Nat} (h : y < w) : path w (w * i + y + 1) = path w i ++ [y] := by
  rw [path_succ, div_child h, mod_child h]
theorem path_digits {w : Nat} (hw : 0 < w) : ∀ j, ∀ y ∈ path w j, y < w := by
  intro j
  induction j using Nat.strongRecOn with
  | _ j ih =>
    cases j with
    | zero => intro y h; rw [path_zero] at h; cases h
    | succ j =>
      intro y h
      rw [path_succ, List.mem_append] at h
      rcases h with h | h
      · exact ih _ (Nat.lt_succ_of_le (Nat.div_le_self j w)) y h
      · rw [List.mem_singleton.mp h]
        exact Nat.mod_lt _ hw
theorem path_len {w : Nat} (hw : 0 < w) : ∀ k p, p < w ^ k → (path w (off w k + p)).length = k
  | 0, p, h => by
    have : p = 0 := by simp at h; omega
    subst this
    show (path w 0).length = 0
    rw [path_zero]
    rfl
  | k + 1, p, h => by
    have e : off w (k + 1) + p = (w * off w k + p) + 1 := by show w * off w k + 1 + p = _; omega
    have e2 : (w * off w k + p) / w = off w k + p / w := Nat.mul_add_div hw _ _
    rw [e, path_succ, List.length_append, e2, path_len hw k (p / w) (by rw [Nat.div_lt_iff_lt_mul hw, ← Nat.pow_succ]; exact h)]
    rfl
/-- which length a place has -/
theorem path_len_of {w : Nat} (hw : 0 < w) {k j : Nat} (h1 : off w k ≤ j) (h2 : j < off w (k + 1)) : (path w j).length = k := by
  rw [off_add] at h2
  have := path_len hw k (j - off w k) (by omega)
  rwa [show off w k + (j - off w k) = j by omega] at this
theorem path_len_lt {w : Nat} (hw : 0 < w) : ∀ {k j : Nat}, j < off w k → (path w j).length < k
  | 0, j, h => absurd h (Nat.not_lt_zero _)
  | k + 1, j, h => by
    by_cases h2 : j < off w k
    · exact Nat.lt_succ_of_lt (path_len_lt hw h2)
    · rw [path_len_of hw (Nat.le_of_not_lt h2) h]
      exact Nat.lt_succ_self k
/-- its place again -/
def idx (w : Nat) (t : List Nat) : Nat := t.foldl (fun a y => a * w + 1 + y) 0
theorem idx_path {w : Nat} (j : Nat) : idx w (path w j) = j := by
  induction j using Nat.strongRecOn with
  | _ j ih =>
    cases j with
    | zero => rw [path_zero]; rfl
    | succ j =>
      rw [path_succ]
      unfold idx
      rw [List.foldl_append]
      have := ih (j / w) (Nat.lt_succ_of_le (Nat.div_le_self j w))
      unfold idx at this
      rw [this]
      show j / w * w + 1 + j % w = j + 1
      have := Nat.div_add_mod j w
      rw [Nat.mul_comm] at this
      omega
theorem path_inj {w i j : Nat} (h : path w i = path w j) : i = j := by rw [← idx_path (w := w) i, h, idx_path]
/-- its place among the texts of its length -/
def plc (w : Nat) (t : List Nat) : Nat := t.foldl (fun a y => a * w + y) 0
theorem plc_path {w : Nat} (hw : 0 < w) : ∀ k p, p < w ^ k → plc w (path w (off w k + p)) = p
  | 0, p, h => by
    have : p = 0 := by simp at h; omega
    subst this
    show plc w (path w 0) = 0
    rw [path_zero]
    rfl
  | k + 1, p, h => by
    have e : off w (k + 1) + p = (w * off w k + p) + 1 := by show w * off w k + 1 + p = _; omega
    have e2 : (w * off w k + p) / w = off w k + p / w := Nat.mul_add_div hw _ _
    have ih := plc_path hw k (p / w) (by rw [Nat.div_lt_iff_lt_mul hw, ← Nat.pow_succ]; exact h)
    rw [e, path_succ, e2]
    unfold plc at ih ⊢
    rw [List.foldl_append, ih]
    show p / w * w + (w * off w k + p) % w = p
    rw [Nat.mul_add_mod]
    have := Nat.div_add_mod p w
    rw [Nat.mul_comm] at this
    omega
def bT (w j : Nat) : Str := tx (path w j)
theorem bT_inj {w i j : Nat} (h : bT w i = bT w j) : i = j := path_inj (tx_inj h)
theorem flat_range {α : Type} (g : Nat → α) (w : Nat) : ∀ n, ((List.range n).flatMap fun p => (List.range w).map fun y => g (w * p + y)) = (List.range (w * n)).map g
  | 0 => rfl
  | n + 1 => by
    rw [List.range_succ, List.flatMap_append, flat_range g w n, Nat.mul_succ, List.range_add, List.map_append, List.map_map]
    show _ ++ List.flatMap _ [n] = _
    rw [List.flatMap_cons, List.flatMap_nil, List.append_nil]
    rfl
/-- the texts of length k -/
def lvl (w k : Nat) : List Str := (List.range (w ^ k)).map fun p => bT w (off w k + p)
def nextS (w : Nat) (l : List Str) : List Str := l.flatMap fun t => (List.range w).map fun y => t ++ dig y
theorem lvl_zero (w : Nat) : lvl w 0 = [Str.empty] := by
  show [bT w 0] = _
  unfold bT
  rw [path_zero]
  rfl
theorem lvl_next (w k : Nat) : nextS w (lvl w k) = lvl w (k + 1) := by
  unfold nextS lvl
  rw [List.flatMap_map]
  have h := flat_range (fun q => bT w (off w (k + 1) + q)) w (w ^ k)
  rw [show w ^ (k + 1) = w * w ^ k by rw [Nat.pow_succ, Nat.mul_comm], ← h]
  congr 1
  funext p
  refine List.map_congr_left fun y hy => ?_
  have hy := List.mem_range.mp hy
  show bT w (off w k + p) ++ dig y = bT w (off w (k + 1) + (w * p + y))
  unfold bT
  rw [tx_snoc, show off w (k + 1) + (w * p + y) = w * (off w k + p) + y + 1 by show w * off w k + 1 + _ = _; rw [Nat.mul_add]; omega, path_child hy]
def begs (w n : Nat) : List Str := (List.range n).map (bT w)
theorem begs_ext (w k : Nat) : begs w (off w k) ++ lvl w k = begs w (off w (k + 1)) := by
  unfold begs lvl
  rw [off_add, List.range_add, List.map_append, List.map_map]
  rfl
/-- a text's signs are outcomes -/
def onlyS (w : Nat) (s : Str) : Bool := s.cps.toList.all fun c => decide (48 ≤ c ∧ c < 48 + w)
theorem onlyS_bT {w : Nat} (hw : 0 < w) (j : Nat) : onlyS w (bT w j) = true := by
  unfold onlyS bT
  rw [tx_codes, List.all_map]
  rw [List.all_eq_true]
  intro y hy
  have := path_digits hw j y hy
  simp
  exact this
/-- an inner beginning -/
def innB (w r : Nat) (s : Str) : Bool := decide (s.length < r) && onlyS w s
theorem innB_bT {w : Nat} (hw : 0 < w) {r j : Nat} (h : j < off w r) : innB w r (bT w j) = true := by
  unfold innB
  rw [onlyS_bT hw, Bool.and_true]
  unfold bT
  rw [tx_len]
  exact decide_eq_true (path_len_lt hw h)
end Nb
end -- M0
section -- M1
set_option maxHeartbeats 1000000
namespace Nb
theorem rat_mul_den (q : Rat) : q * (q.den : Rat) = (q.num : Rat) := by
  have h := Rat.num_divInt_den q
  have hd : (q.den : Rat) ≠ 0 := by
    have := q.den_nz
    intro h
    exact this (by exact_mod_cast h)
  rw [Rat.divInt_eq_div] at h
  have h2 : (q.num : Rat) / ((q.den : Int) : Rat) = q := h
  rw [Rat.intCast_natCast] at h2
  grind
def Fr (D : Nat) (q : Rat) : Prop := ∃ n : Int, q * (D : Rat) = (n : Rat)
theorem Fr.add {D : Nat} {p q : Rat} (a : Fr D p) (b : Fr D q) : Fr D (p + q) := by
  obtain ⟨n, h⟩ := a
  obtain ⟨m, h2⟩ := b
  exact ⟨n + m, by rw [Rat.intCast_add, ← h, ← h2]; grind⟩
theorem Fr.neg {D : Nat} {p : Rat} (a : Fr D p) : Fr D (-p) := by
  obtain ⟨n, h⟩ := a
  exact ⟨-n, by rw [Rat.intCast_neg, ← h]; grind⟩
theorem Fr.sub {D : Nat} {p q : Rat} (a : Fr D p) (b : Fr D q) : Fr D (p - q) := by
  rw [Rat.sub_eq_add_neg]
  exact a.add b.neg
theorem Fr.mul {D E : Nat} {p q : Rat} (a : Fr D p) (b : Fr E q) : Fr (D * E) (p * q) := by
  obtain ⟨n, h⟩ := a
  obtain ⟨m, h2⟩ := b
  exact ⟨n * m, by rw [Rat.intCast_mul, ← h, ← h2, Rat.natCast_mul]; grind⟩
theorem Fr.dvd {D E : Nat} {p : Rat} (a : Fr D p) (h : D ∣ E) : Fr E p := by
  obtain ⟨k, rfl⟩ := h
  obtain ⟨n, h⟩ := a
  exact ⟨n * k, by rw [Rat.intCast_mul, ← h, Rat.natCast_mul, Rat.intCast_natCast]; grind⟩
theorem Fr.int {D : Nat} (i : Int) : Fr D (i : Rat) := ⟨i * D, by rw [Rat.intCast_mul, Rat.intCast_natCast]⟩
theorem Fr.zero {D : Nat} : Fr D 0 := Fr.int 0
theorem Fr.one {D : Nat} : Fr D 1 := Fr.int 1
theorem Fr.divN {D n : Nat} {q : Rat} (a : Fr D q) (h : 0 < n) : Fr (D * n) (q / (n : Rat)) := by
  obtain ⟨m, h2⟩ := a
  have hn : (n : Rat) ≠ 0 := by
    intro h3
    have : n = 0 := by exact_mod_cast h3
    omega
  exact ⟨m, by rw [Rat.natCast_mul, ← h2]; grind⟩
theorem Fr.den (q : Rat) : Fr q.den q := ⟨q.num, rat_mul_den q⟩
theorem Fr.den_dvd {D : Nat} {q : Rat} (a : Fr D q) : q.den ∣ D := by
  obtain ⟨n, h⟩ := a
  have h1 := rat_mul_den q
  have h2 : (q.num : Rat) * (D : Rat) = (n : Rat) * (q.den : Rat) := by
    rw [← h1, ← h]
    grind
  have h3 : q.num * (D : Int) = n * (q.den : Int) := by
    rw [← Rat.intCast_natCast, ← Rat.intCast_natCast, ← Rat.intCast_mul, ← Rat.intCast_mul] at h2
    exact Rat.intCast_inj.mp h2
  have h4 : (q.den : Int) ∣ q.num * (D : Int) := ⟨n, by rw [h3, Int.mul_comm]⟩
  have h5 : q.den ∣ q.num.natAbs * D := by
    have := Int.natAbs_dvd_natAbs.mpr h4
    rwa [Int.natAbs_mul, Int.natAbs_natCast, Int.natAbs_natCast] at this
  exact (Nat.Coprime.dvd_of_dvd_mul_left (Nat.Coprime.symm q.reduced) h5)
theorem num_bound {q : Rat} {B : Nat} (h1 : -(B : Rat) ≤ q) (h2 : q ≤ (B : Rat)) : q.num.natAbs ≤ B * q.den := by
  have hd : (0 : Rat) < (q.den : Rat) := by
    have := q.den_pos
    exact_mod_cast this
  have e := rat_mul_den q
  have u : (q.num : Rat) ≤ ((B * q.den : Nat) : Rat) := by
    rw [← e, Rat.natCast_mul]
    exact Rat.mul_le_mul_of_nonneg_right h2 (Rat.le_of_lt hd)
  have l : -((B * q.den : Nat) : Rat) ≤ (q.num : Rat) := by
    rw [← e, Rat.natCast_mul]
    have := Rat.mul_le_mul_of_nonneg_right h1 (Rat.le_of_lt hd)
    grind
  have u' : q.num ≤ ((B * q.den : Nat) : Int) := by
    rw [← Rat.intCast_natCast] at u
    exact Rat.intCast_le_intCast.mp u
  have l' : -((B * q.den : Nat) : Int) ≤ q.num := by
    rw [← Rat.intCast_natCast, ← Rat.intCast_neg] at l
    exact Rat.intCast_le_intCast.mp l
  omega
theorem sz_of {D : Nat} {q : Rat} (a : Fr D q) (h0 : 0 < D) (hD : D ≤ 2 ^ 900) (h1 : -((2 ^ 100 : Nat) : Rat) ≤ q) (h2 : q ≤ ((2 ^ 100 : Nat) : Rat)) : Sz q := by
  have hd : q.den ≤ D := Nat.le_of_dvd h0 a.den_dvd
  have hn := num_bound h1 h2
  have h3 : q.den ≤ 2 ^ 900 := Nat.le_trans hd hD
  have h4 : 2 ^ 100 * q.den ≤ 2 ^ 100 * 2 ^ 900 := Nat.mul_le_mul_left _ h3
  have h5 : (2 ^ 100 * 2 ^ 900 : Nat) < SZ := by
    rw [← Nat.pow_add]
    exact Nat.pow_lt_pow_right (by omega) (by omega)
  refine ⟨by omega, Nat.lt_of_le_of_lt h3 (Nat.pow_lt_pow_right (by omega) (by omega))⟩
def LL : Nat := 144403552893600
def DD : Nat := LL ^ 7 * 60 ^ 7 * 10 ^ 25
/-- numbers of the game -/
def Big (q : Rat) : Prop := Fr DD q ∧ -((2 ^ 60 : Nat) : Rat) ≤ q ∧ q ≤ ((2 ^ 60 : Nat) : Rat)
theorem DD_pos : 0 < DD := by decide +kernel
theorem DD_le : DD * 60 ≤ 2 ^ 900 := by decide +kernel
theorem DD_le0 : DD ≤ 2 ^ 900 := by decide +kernel
theorem sz_DD {q : Rat} (a : Fr DD q) (h1 : -((2 ^ 100 : Nat) : Rat) ≤ q) (h2 : q ≤ ((2 ^ 100 : Nat) : Rat)) : Sz q := sz_of a DD_pos DD_le0 h1 h2
theorem c60_100 : ((2 ^ 60 : Nat) : Rat) ≤ ((2 ^ 100 : Nat) : Rat) := by
  have : (2 ^ 60 : Nat) ≤ 2 ^ 100 := by decide +kernel
  exact_mod_cast this
theorem Big.sz {q : Rat} (h : Big q) : Sz q := sz_DD h.1 (by have := c60_100; have := h.2.1; grind) (by have := c60_100; have := h.2.2; grind)
theorem qsum_go (l : List Rat) : ∀ a : Rat, l.foldl (· + ·) a = a + l.foldl (· + ·) 0 := by
  induction l with
  | nil => intro a; simp [Rat.add_zero]
  | cons b r ih =>
    intro a
    rw [List.foldl_cons, List.foldl_cons, ih (a + b), ih (0 + b)]
    grind
theorem qsum_nil : qsum [] = 0 := rfl
theorem qsum_cons (a : Rat) (l : List Rat) : qsum (a :: l) = a + qsum l := by
  unfold qsum
  rw [List.foldl_cons, qsum_go]
  grind
theorem qsum_append (l m : List Rat) : qsum (l ++ m) = qsum l + qsum m := by
  induction l with
  | nil => rw [List.nil_append, qsum_nil]; grind
  | cons a r ih => rw [List.cons_append, qsum_cons, qsum_cons, ih]; grind
theorem Fr.qsum {D : Nat} {l : List Rat} (h : ∀ q ∈ l, Fr D q) : Fr D (qsum l) := by
  induction l with
  | nil => exact Fr.zero
  | cons a r ih =>
    rw [qsum_cons]
    exact (h a List.mem_cons_self).add (ih fun q hq => h q (List.mem_cons_of_mem _ hq))
theorem qsum_bound {l : List Rat} {B : Rat} (hB : 0 ≤ B) (h : ∀ q ∈ l, -B ≤ q ∧ q ≤ B) : -((l.length : Rat) * B) ≤ qsum l ∧ qsum l ≤ (l.length : Rat) * B := by
  induction l with
  | nil => simp [qsum_nil]
  | cons a r ih =>
    have h1 := h a List.mem_cons_self
    have h2 := ih fun q hq => h q (List.mem_cons_of_mem _ hq)
    rw [qsum_cons, List.length_cons, Rat.natCast_add]
    have e : ((1 : Nat) : Rat) = 1 := rfl
    rw [e]
    constructor <;> grind
/-- a list of Big numbers, not long: its sums have a size -/
theorem szl_big {l : List Rat} (hl : l.length ≤ 2 ^ 30) (h : ∀ q ∈ l, Big q) : (∀ v ∈ l, Sz v) ∧ ∀ i, Sz (qsum (l.take i)) := by
  refine ⟨fun v hv => (h v hv).sz, fun i => ?_⟩
  have hm : ∀ q ∈ l.take i, Big q := fun q hq => h q (List.mem_of_mem_take hq)
  have hb := qsum_bound (l := l.take i) (B := ((2 ^ 60 : Nat) : Rat)) (by exact_mod_cast Nat.zero_le _) fun q hq => (hm q hq).2
  have hlen : (l.take i).length ≤ 2 ^ 30 := Nat.le_trans (List.length_take_le' i l) hl
  have hc : ((l.take i).length : Rat) * ((2 ^ 60 : Nat) : Rat) ≤ ((2 ^ 100 : Nat) : Rat) := by
    rw [← Rat.natCast_mul]
    have : (l.take i).length * 2 ^ 60 ≤ 2 ^ 100 := Nat.le_trans (Nat.mul_le_mul_right _ hlen) (by decide +kernel)
    exact_mod_cast this
  exact sz_DD (Fr.qsum fun q hq => (hm q hq).1) (by have := hb.1; grind) (by have := hb.2; grind)
end Nb
end -- M1
section -- M2
set_option maxHeartbeats 1000000
namespace Nb
/-- the height of the water: 1 spread over what lies lower -/
def topR (l : List Rat) : Rat := (1 + qsum l) / (l.length : Rat)
def lowR (l : List Rat) : List Rat := l.filter fun x => decide (x < topR l)
def hgt (l : List Rat) : Rat := if h : (lowR l).length = l.length then topR l else hgt (lowR l)
termination_by l.length
decreasing_by
  have := List.length_filter_le (fun x => decide (x < topR l)) l
  unfold lowR at h ⊢
  omega
theorem hgt_done {l : List Rat} (h : (lowR l).length = l.length) : hgt l = topR l := by rw [hgt, dif_pos h]
theorem hgt_next {l : List Rat} (h : ¬ (lowR l).length = l.length) : hgt l = hgt (lowR l) := by rw [hgt, dif_neg h]
theorem lowR_sub {l : List Rat} {q : Rat} (h : q ∈ lowR l) : q ∈ l := (List.mem_filter.mp h).1
theorem len_pos_cast {l : List Rat} (h : l ≠ []) : (0 : Rat) < (l.length : Rat) := by
  have : 0 < l.length := List.length_pos_iff.mpr h
  exact_mod_cast this
theorem topR_mul {l : List Rat} (h : l ≠ []) : topR l * (l.length : Rat) = 1 + qsum l := by
  have := len_pos_cast h
  unfold topR
  grind
/-- not all are at the top or above -/
theorem qsum_ge {l : List Rat} {t : Rat} (h : ∀ q ∈ l, t ≤ q) : (l.length : Rat) * t ≤ qsum l := by
  induction l with
  | nil => simp [qsum_nil]
  | cons a r ih =>
    have h1 := h a List.mem_cons_self
    have h2 := ih fun q hq => h q (List.mem_cons_of_mem _ hq)
    rw [qsum_cons, List.length_cons, Rat.natCast_add]
    have e : ((1 : Nat) : Rat) = 1 := rfl
    rw [e]
    grind
theorem lowR_ne {l : List Rat} (h : l ≠ []) : lowR l ≠ [] := by
  intro e
  have hall : ∀ q ∈ l, topR l ≤ q := fun q hq => by
    by_cases h2 : q < topR l
    · have : q ∈ lowR l := List.mem_filter.mpr ⟨hq, decide_eq_true h2⟩
      rw [e] at this
      cases this
    · exact Rat.not_lt.mp h2
  have h1 := qsum_ge hall
  have h2 := topR_mul h
  grind
/-- levels: some, at most five, Big -/
structure Lvs (l : List Rat) : Prop where
  ne : l ≠ []
  few : l.length ≤ 5
  big : ∀ q ∈ l, Big q
theorem Lvs.low {l : List Rat} (h : Lvs l) : Lvs (lowR l) := ⟨lowR_ne h.ne, Nat.le_trans (List.length_filter_le _ l) h.few, fun q hq => h.big q (lowR_sub hq)⟩
theorem Lvs.szl {l : List Rat} (h : Lvs l) : (∀ v ∈ l, Sz v) ∧ ∀ i, Sz (qsum (l.take i)) := szl_big (Nat.le_trans h.few (by decide)) h.big
theorem Lvs.sum {l : List Rat} (h : Lvs l) : Fr DD (qsum l) ∧ -((2 ^ 63 : Nat) : Rat) ≤ qsum l ∧ qsum l ≤ ((2 ^ 63 : Nat) : Rat) := by
  have hb := qsum_bound (l := l) (B := ((2 ^ 60 : Nat) : Rat)) (by exact_mod_cast Nat.zero_le _) fun q hq => (h.big q hq).2
  have hc : (l.length : Rat) * ((2 ^ 60 : Nat) : Rat) ≤ ((2 ^ 63 : Nat) : Rat) := by
    rw [← Rat.natCast_mul]
    have : l.length * 2 ^ 60 ≤ 2 ^ 63 := Nat.le_trans (Nat.mul_le_mul_right _ h.few) (by decide +kernel)
    exact_mod_cast this
  exact ⟨Fr.qsum fun q hq => (h.big q hq).1, by have := hb.1; grind, by have := hb.2; grind⟩
theorem c63_100 : ((2 ^ 63 : Nat) : Rat) + 1 ≤ ((2 ^ 100 : Nat) : Rat) := by
  have : (2 ^ 63 + 1 : Nat) ≤ 2 ^ 100 := by decide +kernel
  have h2 : ((2 ^ 63 + 1 : Nat) : Rat) ≤ ((2 ^ 100 : Nat) : Rat) := by exact_mod_cast this
  rwa [Rat.natCast_add] at h2
theorem Lvs.szSum {l : List Rat} (h : Lvs l) : Sz (qsum l) := by
  obtain ⟨a, b, c⟩ := h.sum
  have := c63_100
  exact sz_DD a (by grind) (by grind)
theorem Lvs.szSum1 {l : List Rat} (h : Lvs l) : Sz (1 + qsum l) := by
  obtain ⟨a, b, c⟩ := h.sum
  have := c63_100
  exact sz_DD (Fr.one.add a) (by grind) (by grind)
theorem natCast_one_le {n : Nat} (h : 0 < n) : (1 : Rat) ≤ (n : Rat) := by
  have : 1 ≤ n := h
  exact_mod_cast this
theorem div_nat_bound {q : Rat} {n : Nat} {B : Rat} (hn : 0 < n) (hB : 0 ≤ B) (h1 : -B ≤ q) (h2 : q ≤ B) : -B ≤ q / (n : Rat) ∧ q / (n : Rat) ≤ B := by
  have h := natCast_one_le hn
  have h0 : (0 : Rat) < (n : Rat) := by grind
  have hm : B ≤ B * (n : Rat) := by
    have := Rat.mul_le_mul_of_nonneg_left h hB
    grind
  constructor
  · refine Rat.not_lt.mp fun h3 => ?_
    have := (Rat.div_lt_iff h0).mp h3
    grind
  · refine Rat.not_lt.mp fun h3 => ?_
    have := (Rat.lt_div_iff h0).mp h3
    grind
theorem Lvs.top {l : List Rat} (h : Lvs l) : Fr (DD * 60) (topR l) ∧ -((2 ^ 100 : Nat) : Rat) ≤ topR l ∧ topR l ≤ ((2 ^ 100 : Nat) : Rat) := by
  obtain ⟨a, b, c⟩ := h.sum
  have hlen : 0 < l.length := List.length_pos_iff.mpr h.ne
  have hd : l.length ∣ 60 := by
    have := h.few
    have : l.length = 1 ∨ l.length = 2 ∨ l.length = 3 ∨ l.length = 4 ∨ l.length = 5 := by omega
    rcases this with e | e | e | e | e <;> rw [e] <;> decide
  refine ⟨((Fr.one.add a).divN hlen).dvd (Nat.mul_dvd_mul_left _ hd), ?_⟩
  have := c63_100
  exact div_nat_bound hlen (by exact_mod_cast Nat.zero_le _) (by grind) (by grind)
theorem Lvs.szTop {l : List Rat} (h : Lvs l) : Sz (topR l) := by
  obtain ⟨a, b, c⟩ := h.top
  exact sz_of a (by decide +kernel) DD_le b c
theorem Lvs.szLen {l : List Rat} (h : Lvs l) : Sz (l.length : Rat) := by
  have e : ((l.length : Nat) : Rat) = (((l.length : Nat) : Int) : Rat) := (Rat.intCast_natCast _).symm
  rw [e]
  exact sz_int (by rw [Int.natAbs_natCast]; exact Nat.lt_of_le_of_lt h.few (Nat.lt_of_lt_of_le (by decide : 5 < 2 ^ 10) (Nat.pow_le_pow_right (by omega) (by omega))))
/-- what the height is -/
theorem hgt_spec : ∀ (n : Nat) {l : List Rat}, l.length ≤ n → Lvs l → ∃ m, Lvs m ∧ hgt l = topR m ∧ (∀ q ∈ m, q ∈ l) := by
  intro n
  induction n with
  | zero => intro l hl h; exact absurd (List.length_eq_zero_iff.mp (by omega)) h.ne
  | succ n ih =>
    intro l hl h
    by_cases he : (lowR l).length = l.length
    · exact ⟨l, h, hgt_done he, fun _ hq => hq⟩
    · have hlt : (lowR l).length ≤ n := by
        have := List.length_filter_le (fun x => decide (x < topR l)) l
        unfold lowR at he ⊢
        omega
      obtain ⟨m, h1, h2, h3⟩ := ih hlt h.low
      exact ⟨m, h1, by rw [hgt_next he]; exact h2, fun q hq => lowR_sub (h3 q hq)⟩
theorem Lvs.szHgt {l : List Rat} (h : Lvs l) : Sz (hgt l) := by
  obtain ⟨m, h1, h2, _⟩ := hgt_spec l.length (Nat.le_refl _) h
  rw [h2]
  exact h1.szTop
end Nb
end -- M2
section -- NbI
set_option maxHeartbeats 1000000
namespace Nb
open PySem PySem.Spec PyProof.Rows L2
/-- .. called with n values and keywords ks -/
structure OkN (P : Program) (w : World) (K : PySem.W.Frag) (mg : Str → Option Value) (base : Heap) (k : Nat) (x : Str) (ps : List Str) (n : Nat) (ks : List Str) (sp : Sp) : Prop where
  ex : ∃ f fd, mg x = some (.ref f) ∧ PySem.W.keepIn K (.ref f) = true ∧ KBn K fd ps n ks (fun us ws => us ++ ws) (fun vs zs => vs ++ zs) ∧ FnOk P w K mg base CX0 k f fd ps sp
/-- .. called with defaults that fill up -/
structure OkD (P : Program) (w : World) (K : PySem.W.Frag) (mg : Str → Option Value) (base : Heap) (k : Nat) (x : Str) (ps : List Str) (dvs : List V) (sp : Sp) : Prop where
  ex : ∃ f fd ds, mg x = some (.ref f) ∧ PySem.W.keepIn K (.ref f) = true ∧ Binds K fd ps ds ∧ Vals dvs ds ∧ FnOk P w K mg base CX0 k f fd ps sp
section
variable {K : PySem.W.Frag} {mg : Str → Option Value} {base : Heap} {P : Program} {w : World}
variable {α : Type} {args : α → List Ty} {pre : α → Prop} {res : α → Ty} {g x : Str} {st : Stmt} {kws : List (Str × V)} {N ps : List Str} {k : Nat}
def BodyOk (P : Program) (w : World) (K : PySem.W.Frag) (mg : Str → Option Value) (base : Heap) (k : Nat) (x : Str) (st : Stmt) (N : List Str) (args : α → List Ty) (pre : α → Prop) (res : α → Ty) : Prop :=
  ∀ (f : Addr) (cdv : Value) (A : Around) (outer : List PySem.Env) (s : Shared) (H : Hp) (E : XK) (C0 C : HC) (z : α), Room k (A.deeper (envOfC x (defScope st) s.heap.objs.size f cdv)) → Ext0 C0 C → pre z →
      PB (cxOf CX0 P w K mg base N x (defScope st) f cdv A outer s H E).nox C (startG N.length (args z)) (defBody st) (fun _ H' => RtOf C0 (res z) .non H') (RtOf C0 (res z))
theorem DefA.ok (D : DefA K mg g x st []) (S : FnScope N ps (defScope st)) (hl : ∀ z, (args z).length = ps.length)
    (hbind : ∀ (kV doc pm : Value) (an : Option Addr) (cdv ct : Value) (us : List Value), us.length = ps.length → bindArgs (PySem.W.fnOf x x (defArgs st) (defBody st) (defScope st) .none kV doc pm an cdv ct) ⟨us, []⟩ = pure (ps.zip us))
    (hb : BodyOk P w K mg base k x st N args pre res) : Ok P w K mg base (k + 1) g ps (Pur args pre res) := by
  obtain ⟨f, fd, hm, F⟩ := D
  exact ⟨f, fd, hm, F.kp, F.bindsN hbind, pur_ok F S hl fun cdv A outer s H E C0 C z hr hx hp => hb f cdv A outer s H E C0 C z hr hx hp⟩
theorem DefA.okN (D : DefA K mg g x st kws) (S : FnScope N ps (defScope st)) (n : Nat) (ks : List Str) (hk : kws ≠ []) (hl : ∀ z, (args z).length = ps.length)
    (hbind : ∀ (Dk : Addr) (doc pm : Value) (an : Option Addr) (cdv ct : Value) (us ws : List Value), us.length = n → ws.length = ks.length → bindArgs (PySem.W.fnOf x x (defArgs st) (defBody st) (defScope st) .none (.ref Dk) doc pm an cdv ct) ⟨us, ks.zip ws⟩ = pure (ps.zip (us ++ ws)))
    (hb : BodyOk P w K mg base k x st N args pre res) : OkN P w K mg base (k + 1) g ps n ks (Pur args pre res) := by
  obtain ⟨f, fd, hm, F⟩ := D
  have hK0 : KBn K fd ps n ks (fun us ws => us ++ ws) (fun vs zs => vs ++ zs) := ⟨fun s us ws X l1 l2 => by
    obtain ⟨co, dd, dV, kV, doc, pm, an, cdv, ct, sl, rfl, lk, hcd, hD, hK⟩ := F.ex
    rcases hD with ⟨_, rfl⟩ | ⟨e, _⟩
    · rcases hK with e | ⟨D, rfl, hq⟩
      · exact absurd e hk
      · exact .of_eq (hbind D doc pm an cdv ct us ws l1 l2)
    · exact absurd rfl e, fun r1 r2 => r1.append r2⟩
  exact ⟨f, fd, hm, F.kp, hK0, pur_ok F S hl fun cdv A outer s H E C0 C z hr hx hp => hb f cdv A outer s H E C0 C z hr hx hp⟩
theorem DefA.okD (D : DefA K mg g x st kws) (S : FnScope N ps (defScope st)) (n : Nat) (hk : kws ≠ []) (hn : n + kws.length = ps.length) (hl : ∀ z, (args z).length = ps.length)
    (hbind : ∀ (Dk : Addr) (doc pm : Value) (an : Option Addr) (cdv ct : Value) (us ks : List Value), us.length = n → ks.length = kws.length → KwChain Dk ((kws.map (·.1)).zip ks) (bindArgs (PySem.W.fnOf x x (defArgs st) (defBody st) (defScope st) .none (.ref Dk) doc pm an cdv ct) ⟨us, []⟩) (ps.zip (us ++ ks)))
    (hb : BodyOk P w K mg base k x st N args pre res) : OkD P w K mg base (k + 1) g ps (kws.map (·.2)) (Pur args pre res) := by
  obtain ⟨f, fd, hm, F⟩ := D
  obtain ⟨ds, hv, hB⟩ := F.binds0 n hk hn hbind
  exact ⟨f, fd, ds, hm, F.kp, hB, hv, pur_ok F S hl fun cdv A outer s H E C0 C z hr hx hp => hb f cdv A outer s H E C0 C z hr hx hp⟩
end
theorem tyAll_tC {D : Hp} : ∀ dvs : List V, TyAll D dvs (dvs.map tC)
  | [] => .nil
  | d :: r => .cons rfl (tyAll_tC r)
section
variable {X : Cx} {C : HC} {G : Env} {a b c e : Expr} {es : List Expr} {T U W : Ty} {Ts Us : List Ty} {pos p pos2 p2 : Pos}
theorem px_callN {α : Type} {args : α → List Ty} {pre : α → Prop} {res : α → Ty} {x : Str} {j k n : Nat} {ps ks : List Str} {kws : List Keyword} (F : OkN X.prog X.w X.K X.mg X.base j x ps n ks (Pur args pre res)) (z : α) (hT : res z = T) (hr : Room k X.A) (ha : PXs X C G (e :: es) Ts) (hkw : PXk X C G kws Us) (hTU : Ts ++ Us = args z) (hp : pre z)
    (hn : Ts.length = n := by rfl) (hn2 : Us.length = ks.length := by rfl)
    (hall : (backToKw pos (keywordEach kws X.env)).all (·.1.isSome) = true := by rfl) (hks : (backToKw pos (keywordEach kws X.env)).filterMap (·.1) = ks := by rfl)
    (hj : j ≤ k := by decide) (hg : Gl X x := by rfl) (hdb : (x == ("__debug__" : Str)) = false := by decide) (he : starEach (e :: es) X.env = (false, eval e X.env) :: starEach es X.env := by rfl) (hpl : ((backTo pos (starEach (e :: es) X.env)).any (·.1) || (backToKw pos (keywordEach kws X.env)).any (·.1.isNone)) = false := by rfl) :
    PX X C G (.Call (.Name x p) (e :: es) kws pos) T := by
  obtain ⟨f, fd, hm, hk, hb, hF⟩ := F.ex
  subst hT
  refine PE.imp (pe_callN hF (hr.mono hj) hg hm hk hb pass0 ha hkw hall hks hdb he hpl) fun σ H Q ⟨x, q⟩ => ⟨x, fun vs H1 x1 e1 p1 => ⟨x1, fun zs H2 x2 e2 p2 => ⟨by rw [p1.length]; exact hn, by rw [p2.length]; exact hn2, ?_⟩⟩⟩
  refine pur_call z hp x2 ?_ fun v H3 x3 e3 p3 => q v H3 x3 ((e1.trans e2).trans e3) p3
  rw [← hTU]
  exact (TyAll.mono e2 p1).append p2
theorem px_callD {α : Type} {args : α → List Ty} {pre : α → Prop} {res : α → Ty} {x : Str} {j k : Nat} {ps : List Str} {dvs : List V} (F : OkD X.prog X.w X.K X.mg X.base j x ps dvs (Pur args pre res)) (z : α) (hT : res z = T) (hr : Room k X.A) (ha : PXs X C G (e :: es) Ts) (hTU : Ts ++ dvs.map tC = args z) (hp : pre z)
    (hj : j ≤ k := by decide) (hg : Gl X x := by rfl) (hdb : (x == ("__debug__" : Str)) = false := by decide) (he : starEach (e :: es) X.env = (false, eval e X.env) :: starEach es X.env := by rfl) (hpl : (backTo pos (starEach es X.env)).any (·.1) = false := by rfl) :
    PX X C G (.Call (.Name x p) (e :: es) [] pos) T := by
  obtain ⟨f, fd, ds, hm, hk, hb, hv, hF⟩ := F.ex
  subst hT
  refine PE.imp (pe_call hF (hr.mono hj) hg hm hk hb hv pass0 ha hdb he hpl) fun σ H Q ⟨x, q⟩ => ⟨x, fun vs H1 x1 e1 p1 => ?_⟩
  refine pur_call z hp x1 ?_ fun v H2 x2 e2 p2 => q v H2 x2 (e1.trans e2) p2
  rw [← hTU]
  exact p1.append (tyAll_tC dvs)
theorem px_kw1 {nm : Option Str} {kpos : Pos} (ha : PX X C G e T) : PXk X C G [⟨nm, e, kpos⟩] [T] := pxk_cons ha pxk_nil
/-- list(e) -/
theorem px_listOf (hm : X.mg "list" = none) (hv : bootBuiltins "list" = some (.type "list")) (ha : PX X C G e (tSeq X.K Ts)) (hg : Gl X "list" := by rfl) (he : starEach [e] X.env = (false, eval e X.env) :: starEach [] X.env := by rfl) : PX X C G (.Call (.Name "list" p) [e] [] pos) (tLst Ts) :=
  px_callTy call_list_of (Ts := [tSeq X.K Ts]) (fun H vs Q b h q => by
    cases h with
    | cons h t =>
      cases t
      have fin : ∀ (a : Addr) (xs : List V), TyAll (hid C.M H) xs Ts → ∀ l, H l = none → Q (.ref l) (upd H l (.lst xs)) := fun a xs h3 l hl => by
        have e2 : Ex H (upd H l (.lst xs)) := Ex.new hl
        exact q _ _ e2 ⟨l, xs, rfl, hid_of (b.fresh hl) upd_same, h3.mono (hid_mono e2)⟩
      rcases h with ⟨a, xs, rfl, h2, h3⟩ | ⟨a, xs, rfl, h2, h3⟩
      · exact ⟨a, xs, rfl, .inl (SqL.of (hid_le _ _ h2)), fin a xs h3⟩
      · exact ⟨a, xs, rfl, .inr (sqT_ex hid_le h2), fin a xs h3⟩) hm hv (pxs_cons ha pxs_nil he) hg (he := he)
/-- tuple(e) -/
theorem px_tupleOf (hm : X.mg "tuple" = none) (hv : bootBuiltins "tuple" = some (.type "tuple")) (ha : PX X C G e (tSeq X.K Ts)) (hg : Gl X "tuple" := by rfl) (he : starEach [e] X.env = (false, eval e X.env) :: starEach [] X.env := by rfl) : PX X C G (.Call (.Name "tuple" p) [e] [] pos) (tTup X.K Ts) :=
  px_callTy call_tuple_of (Ts := [tSeq X.K Ts]) (fun H vs Q b h q => by
    cases h with
    | cons h t =>
      cases t
      rcases h with ⟨a, xs, rfl, h2, h3⟩ | ⟨a, xs, rfl, h2, h3⟩
      · refine ⟨a, xs, rfl, .inl ⟨SqL.of (hid_le _ _ h2), fun l hl => ?_⟩⟩
        have e2 : Ex H (upd H l (.tup xs)) := Ex.new hl
        exact q _ _ e2 ⟨l, xs, rfl, SqT.of (hid_of (b.fresh hl) upd_same), h3.mono (hid_mono e2)⟩
      · exact ⟨a, xs, rfl, .inr ⟨sqT_ex hid_le h2, q _ H (Ex.refl H) ⟨a, xs, rfl, h2, h3⟩⟩⟩) hm hv (pxs_cons ha pxs_nil he) hg (he := he)
/-- xs + ys, lists -/
theorem px_cat (ha : PX X C G a (tLst Ts)) (hb : PX X C G b (tLst Us)) (hz : Ts.length + Us.length ≤ 1000000) : PX X C G (.BinOp a .Add b pos) (tLst (Ts ++ Us)) :=
  px_op op_cat (T := tLst Ts) (U := tLst Us) (fun H x y Q bs hx hy q => by
    obtain ⟨a, xs, rfl, h2, h3⟩ := hx
    obtain ⟨b, ys, rfl, h4, h5⟩ := hy
    refine ⟨a, b, xs, ys, rfl, rfl, hid_le _ _ h2, hid_le _ _ h4, by rw [h3.length, h5.length]; exact Nat.le_trans hz (by decide), fun l hl => ?_⟩
    have e2 : Ex H (upd H l (.lst (xs ++ ys))) := Ex.new hl
    exact q _ _ e2 ⟨l, _, rfl, hid_of (bs.fresh hl) upd_same, TyAll.mono (hid_mono e2) (h3.append h5)⟩) ha hb
/-- min(i, j) -/
theorem px_min {i j : Int} (hc : X.calm = true) (hm : X.mg "min" = none) (hv : bootBuiltins "min" = some (.builtin "min")) (ha : PX X C G a (tI i)) (hb : PX X C G b (tI j)) (hg : Gl X "min" := by rfl) (he : starEach [a, b] X.env = (false, eval a X.env) :: starEach [b] X.env := by rfl) (he2 : starEach [b] X.env = (false, eval b X.env) :: starEach [] X.env := by rfl)
    (hpl : (backTo pos (starEach [b] X.env)).any (·.1) = false := by rfl) : PX X C G (.Call (.Name "min" p) [a, b] [] pos) (tI (if j < i then j else i)) :=
  px_callB (call_min2 hc) (Ts := [tI i, tI j]) (fun H vs Q _ h q => by
    cases h with
    | cons h t =>
      cases t with
      | cons h' t =>
        cases t
        exact ⟨i, j, by rw [show _ = V.int i from h, show _ = V.int j from h'], q _ H (Ex.refl H) rfl⟩) hm hv (pxs_cons ha (pxs_cons hb pxs_nil he2) he) hg (he := he) (hpl := hpl)
/-- sum(xs), all(xs) -/
theorem tyAll_vals {D : Hp} {xs ys : List V} (h : TyAll D xs (ys.map tC)) : xs = ys := by
  induction ys generalizing xs with
  | nil => cases h; rfl
  | cons y ys ih =>
    cases h with
    | cons h t => rw [ih t, show _ = y from h]
theorem px_sumI {ns : List Int} (hc : X.calm = true) (hm : X.mg "sum" = none) (hv : bootBuiltins "sum" = some (.builtin "sum")) (ha : PX X C G e (tLst (ns.map tI))) (hg : Gl X "sum" := by rfl) (he : starEach [e] X.env = (false, eval e X.env) :: starEach [] X.env := by rfl) : PX X C G (.Call (.Name "sum" p) [e] [] pos) (tI ns.sum) :=
  px_callB (cr_sum hc) (Ts := [tLst (ns.map tI)]) (fun H vs Q b h q => by
    cases h with
    | cons h t =>
      cases t
      obtain ⟨a, xs, rfl, h2, h3⟩ := h
      have e : xs = ns.map V.int := tyAll_vals (ys := ns.map V.int) (by rw [List.map_map]; exact h3)
      subst e
      exact ⟨a, ns, rfl, SqL.of (hid_le _ _ h2), q _ H (Ex.refl H) rfl⟩) hm hv (pxs_cons ha pxs_nil he) hg (he := he)
theorem px_allB {bs : List Bool} (hc : X.calm = true) (hm : X.mg "all" = none) (hv : bootBuiltins "all" = some (.builtin "all")) (ha : PX X C G e (tLst (bs.map tB))) (hg : Gl X "all" := by rfl) (he : starEach [e] X.env = (false, eval e X.env) :: starEach [] X.env := by rfl) : PX X C G (.Call (.Name "all" p) [e] [] pos) (tB (bs.all id)) :=
  px_callB (cr_all hc) (Ts := [tLst (bs.map tB)]) (fun H vs Q b h q => by
    cases h with
    | cons h t =>
      cases t
      obtain ⟨a, xs, rfl, h2, h3⟩ := h
      have e : xs = bs.map V.bl := tyAll_vals (ys := bs.map V.bl) (by rw [List.map_map]; exact h3)
      subst e
      exact ⟨a, bs, rfl, SqL.of (hid_le _ _ h2), q _ H (Ex.refl H) rfl⟩) hm hv (pxs_cons ha pxs_nil he) hg (he := he)
/-- a known value in a list or a tuple of known ones -/
theorem pxt_in {x : V} {ys : List V} (hx : flatV x = true) (hy : ys.all flatV = true) (ha : PX X C G a (tC x)) (hb : PX X C G b (tSeq X.K (ys.map tC))) (hm : behindInMarks .In b = false) : PXt X C G (.Compare a [.In] [b] pos) (inV x ys) :=
  pxt_cmpR op_in_seq (T := tC x) (U := tSeq X.K (ys.map tC)) (fun H x' y Q bs h1 h2 q => by
    obtain rfl : x' = x := h1
    rcases h2 with ⟨a, xs, rfl, h2, h3⟩ | ⟨a, xs, rfl, h2, h3⟩
    · rw [tyAll_vals h3] at h2
      exact ⟨a, ys, rfl, .inl (SqL.of (hid_le _ _ h2)), hx, hy, q _ H (Ex.refl H) rfl⟩
    · rw [tyAll_vals h3] at h2
      exact ⟨a, ys, rfl, .inr (sqT_ex hid_le h2), hx, hy, q _ H (Ex.refl H) rfl⟩) ha hb hm
end
end Nb
end -- NbI
section -- NbJ
set_option maxHeartbeats 1000000
namespace Nb
open PySem PySem.Spec PyProof.Rows L2
/-- T, and p holds -/
def tW (p : Prop) (T : Ty) : Ty := ⟨fun H v => p ∧ T.P H v, fun e h => ⟨h.1, T.mono e h.2⟩⟩
def SImp (a b : Option Ty) : Prop := match b with
  | none => True
  | some U => ∃ T, a = some T ∧ ∀ H v, T.P H v → U.P H v
theorem Slot.imp {D : Hp} {o : Option V} {a b : Option Ty} (h : SImp a b) (x : Slot D o a) : Slot D o b := by
  cases b with
  | none => cases o <;> exact trivial
  | some U =>
    obtain ⟨T, rfl, f⟩ := h
    cases o with
    | none => exact x.elim
    | some v => exact f _ _ x
def GImp (G G' : Env) : Prop := All2 SImp G G'
theorem GImp.env {D : Hp} : ∀ {G G' : Env} {σ : St}, GImp G G' → All2 (Slot D) σ G → All2 (Slot D) σ G'
  | _, _, _, .nil, h => h
  | _, _, _, .cons h t, .cons q r => .cons (Slot.imp h q) (GImp.env t r)
theorem EnvOk.imp {C : HC} {G G' : Env} {σ : St} {H : Hp} (x : EnvOk C G σ H) (h : GImp G G') : EnvOk C G' σ H := ⟨x.base, h.env x.env⟩
theorem gi_nil : GImp [] [] := .nil
theorem gi_keep {o : Option Ty} {G G' : Env} (h : GImp G G') : GImp (o :: G) (o :: G') := .cons (by cases o with
  | none => trivial
  | some T => exact ⟨T, rfl, fun _ _ h => h⟩) h
theorem gi_drop {o : Option Ty} {G G' : Env} (h : GImp G G') : GImp (o :: G) (none :: G') := .cons trivial h
theorem gi_eq {T U : Ty} {G G' : Env} (e : T = U) (h : GImp G G') : GImp (some T :: G) (some U :: G') := .cons ⟨T, rfl, fun _ _ p => e ▸ p⟩ h
theorem gi_imp {T U : Ty} {G G' : Env} (f : ∀ H v, T.P H v → U.P H v) (h : GImp G G') : GImp (some T :: G) (some U :: G') := .cons ⟨T, rfl, f⟩ h
/-- the fact is known from now on -/
theorem gi_with {p : Prop} {T U : Ty} {G G' : Env} (hp : p) (e : T = U) (h : GImp G G') : GImp (some T :: G) (some (tW p U) :: G') := .cons ⟨T, rfl, fun _ _ q => ⟨hp, e ▸ q⟩⟩ h
theorem pb_fact {X : Cx} {C : HC} {G : Env} {ss : List Stmt} {Nx : NX} {Rt : RT} {p : Prop} {T : Ty} (i : Nat) (h : G[i]? = some (some (tW p T))) (hr : p → PB X C (G.set i (some T)) ss Nx Rt) : PB X C G ss Nx Rt := by
  refine ⟨fun pins s σ H Q I ⟨ok, q1, q2⟩ => ?_⟩
  obtain ⟨v, e, hp, hT⟩ := ok.var h
  have hi : i < σ.length := (List.getElem?_eq_some_iff.mp e).1
  have e2 : σ.set i (some v) = σ := by
    apply List.ext_getElem?
    intro k
    by_cases hk : i = k
    · subst hk; rw [List.getElem?_set_self hi, e]
    · rw [List.getElem?_set_ne hk]
  have ok2 := ok.set (i := i) (T := T) hT
  rw [e2] at ok2
  exact (hr hp).run pins s σ H Q I ⟨ok2, q1, q2⟩
/-- .. by a weaker environment -/
theorem pb_weak {X : Cx} {C : HC} {G G' : Env} {ss : List Stmt} {Nx : NX} {Rt : RT} (g : GImp G G') (h : PB X C G' ss Nx Rt) : PB X C G ss Nx Rt := h.pre fun σ H x => x.imp g
theorem pb_endI {X : Cx} {C : HC} {G G' : Env} {Rt : RT} (g : GImp G G') : PB X C G [] (EnvOk C G') Rt := pb_nil fun σ H h => h.imp g
section
variable {X : Cx} {C : HC} {G : Env} {a b e : Expr} {T : Ty} {Ts Us : List Ty} {pos p p1 apos cpos : Pos} {rest : List Stmt} {Nx : NX} {Rt : RT} {x : Str} {o : Addr}
theorem tv (i : Nat) (hN : X.N[i]? = some x := by rfl) (hv : Vis X.env.scope x := by first | exact .inl rfl | exact .inr (.inl rfl) | exact .inr (.inr rfl)) (hd : (x == ("__debug__" : Str)) = false := by decide) (hcd : (x == ("__classdict__" : Str)) = false := by decide) : PE X (.Name x pos) (tVar i) := pe_var hN hv hd hcd
/-- xs.append(e), xs in slot i -/
theorem pap (i : Nat) (ha : PX X (C.own o Ts) G a T) (hl : G[i]? = some (some (tR o))) (hz : Ts.length < 1000000) (hr : PB X (C.own o (Ts ++ [T])) G rest Nx Rt)
    (hN : X.N[i]? = some x := by rfl) (hv : Vis X.env.scope x := by first | exact .inl rfl | exact .inr (.inl rfl) | exact .inr (.inr rfl)) (hd : (x == ("__debug__" : Str)) = false := by decide) (hcd : (x == ("__classdict__" : Str)) = false := by decide)
    (hbase : attributeBase (.Name x p1) "append" X.env (eval (.Name x p1) X.env) = eval (.Name x p1) X.env := by rfl)
    (hfew : ((backTo cpos (starEach [a] X.env)).all (fun x => !x.1) && (backToKw cpos (keywordEach [] X.env)).all (fun x => x.1.isSome)
      && decide ([a].length + ([] : List Keyword).length + (if ([] : List Keyword).isEmpty then 0 else 1) < 30)) = true := by rfl)
    (hline : (apos.endLine == cpos.line) = true := by rfl) (hs : starEach [a] X.env = (false, eval a X.env) :: starEach [] X.env := by rfl)
    (hsw : swapsWith (.Call (.Attribute (.Name x p1) "append" apos) [a] [] cpos) none pos.line X.env = pure false := by rfl) :
    PB X (C.own o Ts) G (.Expr (.Call (.Attribute (.Name x p1) "append" apos) [a] [] cpos) pos :: rest) Nx Rt :=
  pb_app (i := i) (pe_bm PySem.F.plainAttrs_list PySem.F.slot_list_append PySem.F.type_list_append mt_append (tv i hN hv hd hcd) (pxs_cons ha pxs_nil hs) hbase hfew hline hs (by rfl)) hl (Nat.lt_of_lt_of_le hz (by decide)) hr hsw
/-- xs.extend(e), xs in slot i -/
theorem pext (i : Nat) (ha : PX X (C.own o Ts) G a (tLst Us)) (hl : G[i]? = some (some (tR o))) (hz : Ts.length + Us.length ≤ 1000000) (hr : PB X (C.own o (Ts ++ Us)) G rest Nx Rt)
    (hN : X.N[i]? = some x := by rfl) (hv : Vis X.env.scope x := by first | exact .inl rfl | exact .inr (.inl rfl) | exact .inr (.inr rfl)) (hd : (x == ("__debug__" : Str)) = false := by decide) (hcd : (x == ("__classdict__" : Str)) = false := by decide)
    (hbase : attributeBase (.Name x p1) "extend" X.env (eval (.Name x p1) X.env) = eval (.Name x p1) X.env := by rfl)
    (hfew : ((backTo cpos (starEach [a] X.env)).all (fun x => !x.1) && (backToKw cpos (keywordEach [] X.env)).all (fun x => x.1.isSome)
      && decide ([a].length + ([] : List Keyword).length + (if ([] : List Keyword).isEmpty then 0 else 1) < 30)) = true := by rfl)
    (hline : (apos.endLine == cpos.line) = true := by rfl) (hs : starEach [a] X.env = (false, eval a X.env) :: starEach [] X.env := by rfl)
    (hsw : swapsWith (.Call (.Attribute (.Name x p1) "extend" apos) [a] [] cpos) none pos.line X.env = pure false := by rfl) :
    PB X (C.own o Ts) G (.Expr (.Call (.Attribute (.Name x p1) "extend" apos) [a] [] cpos) pos :: rest) Nx Rt :=
  pb_ext (i := i) (pe_bm PySem.F.plainAttrs_list PySem.F.slot_list_extend PySem.F.type_list_extend mt_extend (tv i hN hv hd hcd) (pxs_cons ha pxs_nil hs) hbase hfew hline hs (by rfl)) hl (Nat.le_trans hz (by decide)) hr hsw
end
end Nb
end -- NbJ
section -- R1
set_option maxHeartbeats 1000000
namespace Nb
open PySem PySem.Spec PyProof.Rows L2
def mostR (w : Nat) : Nat := [8, 8, 5, 4, 3].getD (w - 1) 0
def lets (w : Nat) : Str := ⟨((List.range w).map (48 + ·)).toArray⟩
theorem lets_cut {w : Nat} (h1 : 1 ≤ w) (h5 : w ≤ 5) : cutS "01234" none (some (w : Int)) = lets w := by
  have : w = 1 ∨ w = 2 ∨ w = 3 ∨ w = 4 ∨ w = 5 := by omega
  rcases this with rfl | rfl | rfl | rfl | rfl <;> decide +kernel
theorem mem_lets {w c : Nat} : (c ∈ (lets w).cps.toList) ↔ 48 ≤ c ∧ c < 48 + w := by
  unfold lets
  simp only [List.mem_map, List.mem_range]
  constructor
  · rintro ⟨a, h, rfl⟩; omega
  · intro h; exact ⟨c - 48, by omega, by omega⟩
section
variable {K : PySem.W.Frag} {mg : Str → Option Value} {base : Heap} {P : Program} {w : World}
theorem bool_or3 {a b c : Bool} (ha : a = false) (hb : b = false) (hc : c = false) : (a || (b || c)) = false := by subst ha hb hc; rfl
theorem sc44 : FnScope ["found", "low", "high"] ["found", "low", "high"] (defScope (top 44)) := ⟨rfl, rfl, rfl, by decide +kernel, rfl, by decide +kernel, by decide +kernel⟩
theorem ok_checkR (T : Txt K mg) : Ok P w K mg base 1 "check_count_rows" ["found", "low", "high"] (Pur (fun z : Int × Int × Int => [tI z.1, tI z.2.1, tI z.2.2]) (fun z => z.2.1 ≤ z.1 ∧ z.1 ≤ z.2.2) (fun z => tN)) := by
  refine T.d_check_count_rows.ok sc44 (fun _ => rfl) (fun _ _ _ _ _ _ us hl => match us, hl with | [_, _, _], _ => rfl) fun f cdv A outer s H E C0 C z hr x hp => ?_
  obtain ⟨i, lo, hi⟩ := z
  obtain ⟨h1, h2⟩ := hp
  replace h1 : lo ≤ i := h1
  replace h2 : i ≤ hi := h2
  show PB _ C [some (tI i), some (tI lo), some (tI hi)] _ _ _
  refine pb_guard (x := false) ((pxt_w (pxw_or (pxt_val (px_isi hasI kit_int_bool T.f_isinstance T.f_bool boot_bool (va 0 rfl))) fun _ => pxw_or (pxt_lt (va 0 rfl) (va 1 rfl)) fun _ => pxw_or1 (pxt_gt (va 0 rfl) (va 2 rfl)))).cast (bool_or3 rfl (decide_eq_false (by omega)) (decide_eq_false (by omega)))) (fun h => nomatch h) fun _ => pb_nil fun σ H h => RtOf.of x h.base rfl
theorem sc53 : FnScope ["width"] ["width"] (defScope (top 53)) := ⟨rfl, rfl, rfl, by decide +kernel, rfl, by decide +kernel, by decide +kernel⟩
abbrev W15 (w : Nat) : Prop := 1 ≤ w ∧ w ≤ 5
theorem px_const {X : Cx} {C : HC} {G : Env} {x : Str} {pos : Pos} {i : Int} (h : ∃ t, X.mg x = some (.int i t)) (hg : Gl X x := by rfl) (hd : (x == ("__debug__" : Str)) = false := by decide) : PX X C G (.Name x pos) (tI i) := by
  obtain ⟨t, h⟩ := h
  exact px_glob h ⟨t, rfl⟩ hg hd
theorem px_constS {X : Cx} {C : HC} {G : Env} {x : Str} {pos : Pos} {i : Str} (h : ∃ t, X.mg x = some (.str i t)) (hg : Gl X x := by rfl) (hd : (x == ("__debug__" : Str)) = false := by decide) : PX X C G (.Name x pos) (tS i) := by
  obtain ⟨t, h⟩ := h
  exact px_glob h ⟨t, rfl⟩ hg hd
theorem px_constT {X : Cx} {C : HC} {G : Env} {x : Str} {pos : Pos} {is : List Int} (h : ∃ a, X.mg x = some (.ref a) ∧ ∀ H, SqT X.K H a (is.map V.int)) (hg : Gl X x := by rfl) (hd : (x == ("__debug__" : Str)) = false := by decide) : PX X C G (.Name x pos) (tTup X.K (is.map tI)) := by
  obtain ⟨a, h, h2⟩ := h
  refine (px_glob h (v := .ref a) rfl hg hd).sub fun H v hv => ⟨a, is.map V.int, hv, h2 H, ?_⟩
  have := tyAll_tC (D := H) (is.map V.int)
  rw [List.map_map] at this
  exact this
theorem ok_mostR (T : Txt K mg) : Ok P w K mg base 2 "most_rounds" ["width"] (Pur (fun z : Nat => [tI (z : Nat)]) W15 (fun z => tI (mostR z : Nat))) := by
  refine T.d_most_rounds.ok sc53 (fun _ => rfl) (fun _ _ _ _ _ _ us hl => match us, hl with | [_], _ => rfl) fun f cdv A outer s H E C0 C z hr x hp => ?_
  obtain ⟨h1, h2⟩ := hp
  show PB _ C [some (tI (z : Nat))] _ _ _
  refine pb_expr (px_call (ok_checkR T) ((z : Int), 1, 5) rfl hr (pxs_cons (va 0 rfl) (pxs_cons px_int (pxs_cons (px_const T.c_WIDEST) pxs_nil))) ⟨by show (1 : Int) ≤ z; omega, by show (z : Int) ≤ 5; omega⟩) ?_
  refine pb_retP x (px_ixT (px_constT (is := [8, 8, 5, 4, 3]) T.c_MOST_ROUNDS) ((px_sub (va 0 rfl) px_int).cast (show tI ((z : Int) - 1) = tI ((z - 1 : Nat) : Int) by congr 2; omega)) (atI_nat ?_))
  have : z = 1 ∨ z = 2 ∨ z = 3 ∨ z = 4 ∨ z = 5 := by omega
  rcases this with rfl | rfl | rfl | rfl | rfl <;> rfl
theorem sc54 : FnScope ["width"] ["width"] (defScope (top 54)) := ⟨rfl, rfl, rfl, by decide +kernel, rfl, by decide +kernel, by decide +kernel⟩
theorem ok_letters (T : Txt K mg) : Ok P w K mg base 2 "letters" ["width"] (Pur (fun z : Nat => [tI (z : Nat)]) W15 (fun z => tS (lets z))) := by
  refine T.d_letters.ok sc54 (fun _ => rfl) (fun _ _ _ _ _ _ us hl => match us, hl with | [_], _ => rfl) fun f cdv A outer s H E C0 C z hr x hp => ?_
  obtain ⟨h1, h2⟩ := hp
  show PB _ C [some (tI (z : Nat))] _ _ _
  refine pb_expr (px_call (ok_checkR T) ((z : Int), 1, 5) rfl hr (pxs_cons (va 0 rfl) (pxs_cons px_int (pxs_cons (px_const T.c_WIDEST) pxs_nil))) ⟨by show (1 : Int) ≤ z; omega, by show (z : Int) ≤ 5; omega⟩) ?_
  exact pb_retP x ((px_slS (px_constS T.c_OUTCOMES) pox_none (pox_some (va 0 rfl)) (by decide)).cast (congrArg tS (lets_cut h1 h2)))
theorem sc46 : FnScope ["width", "rounds"] ["width", "rounds"] (defScope (top 46)) := ⟨rfl, rfl, rfl, by decide +kernel, rfl, by decide +kernel, by decide +kernel⟩
theorem ok_shape (T : Txt K mg) : Ok P w K mg base 3 "check_shape" ["width", "rounds"] (Pur (fun z : Nat × Nat => [tI (z.1 : Nat), tI (z.2 : Nat)]) (fun z => W15 z.1 ∧ z.2 ≤ mostR z.1) (fun z => tN)) := by
  refine T.d_check_shape.ok sc46 (fun _ => rfl) (fun _ _ _ _ _ _ us hl => match us, hl with | [_, _], _ => rfl) fun f cdv A outer s H E C0 C z hr x hp => ?_
  obtain ⟨w', r⟩ := z
  obtain ⟨h1, h2⟩ := hp
  replace h2 : r ≤ mostR w' := h2
  show PB _ C [some (tI (w' : Nat)), some (tI (r : Nat))] _ _ _
  exact pb_expr (px_call (ok_checkR T) ((r : Int), 0, (mostR w' : Nat)) rfl hr (pxs_cons (va 1 rfl) (pxs_cons px_int (pxs_cons (px_call (ok_mostR T) w' rfl hr (pxs_cons (va 0 rfl) pxs_nil) h1) pxs_nil))) ⟨by show (0 : Int) ≤ r; omega, by show (r : Int) ≤ (mostR w' : Nat); omega⟩) (pb_nil fun σ H h => RtOf.of x h.base rfl)
theorem sc47 : FnScope ["text", "signs", "sign"] ["text", "signs"] (defScope (top 47)) := ⟨rfl, rfl, rfl, by decide +kernel, rfl, by decide +kernel, by decide +kernel⟩
theorem all_take {α : Type} {q : α → Bool} {l : List α} {i : Nat} {a : α} (h : l[i]? = some a) (h1 : (l.take i).all q = true) (h2 : q a = true) : (l.take (i + 1)).all q = true := by
  rw [List.take_add_one, h, List.all_append, h1]
  show (true && (q a && true)) = true
  rw [h2]; rfl
theorem all_false {α : Type} {q : α → Bool} {l : List α} {i : Nat} {a : α} (h : l[i]? = some a) (h2 : q a = false) : l.all q = false := by
  rw [List.all_eq_false]
  exact ⟨a, List.mem_of_getElem? h, by rw [h2]; decide⟩
theorem ok_has_only (T : Txt K mg) : Ok P w K mg base 1 "has_only" ["text", "signs"] (Pur (fun z : Str × Str => [tS z.1, tS z.2]) (fun _ => True) (fun z => tB (z.1.cps.toList.all fun c => decide (c ∈ z.2.cps.toList)))) := by
  refine T.d_has_only.ok sc47 (fun _ => rfl) (fun _ _ _ _ _ _ us hl => match us, hl with | [_, _], _ => rfl) fun f cdv A outer s H E C0 C z hr x hp => ?_
  obtain ⟨s1, t⟩ := z
  show PB _ C [some (tS s1), some (tS t), none] _ _ _
  refine pb_forN (j := 2) (l := s1.cps.toList) (tA := fun c => tS ⟨#[c]⟩) PassesOwn.never rfl (pix_str (va 0 rfl)) (fun _ => C) (fun i => [some (tW ((s1.cps.toList.take i).all (fun c => decide (c ∈ t.cps.toList)) = true) (tS s1)), some (tS t), none]) sc47.nd rfl (.inl rfl) (fun _ => rfl) (fun _ _ h => h.imp (gi_with (by rw [List.take_zero]; rfl) rfl (gi_keep (gi_keep gi_nil)))) (fun i a ha => ?_) ?_
  · refine pb_fact 0 rfl fun hi => ?_
    refine pb_guard (pxt_nin (va 2 rfl) (va 1 rfl)) (fun h => pb_retP x (px_bl.cast ?_)) fun h => pb_endI (gi_with ?_ rfl (gi_keep (gi_drop gi_nil)))
    · refine congrArg tB (all_false ha ?_).symm
      simpa using h
    · exact all_take ha hi (by simpa using h)
  · refine pb_fact 0 rfl fun hi => pb_retP x (px_bl.cast ?_)
    rw [List.take_length] at hi
    exact congrArg tB hi.symm
theorem only_lets {w' : Nat} {s : Str} : (s.cps.toList.all fun c => decide (c ∈ (lets w').cps.toList)) = onlyS w' s := by
  unfold onlyS
  congr 1
  funext c
  exact decide_eq_decide.mpr mem_lets
theorem sc50 : FnScope ["width", "length", "many", "spare"] ["width", "length"] (defScope (top 50)) := ⟨rfl, rfl, rfl, by decide +kernel, rfl, by decide +kernel, by decide +kernel⟩
theorem pow_small {w' i r : Nat} (h : w' ^ r ≤ 1000) (hw : 1 ≤ w') (hi : i ≤ r) : w' ^ i ≤ 1000 := Nat.le_trans (Nat.pow_le_pow_right hw hi) h
theorem smallMul {i j : Nat} (hi : i ≤ 1000000) (hj : j ≤ 1000) : CMul (i : Int) (j : Int) := by
  have h1 : (i : Int).natAbs < 2 ^ 20 := by rw [Int.natAbs_natCast]; exact Nat.lt_of_le_of_lt hi (by decide)
  have h2 : (j : Int).natAbs < 2 ^ 20 := by rw [Int.natAbs_natCast]; exact Nat.lt_of_le_of_lt hj (by decide)
  first | exact small_mul h1 h2 | (unfold CMul; omega) | skip
theorem ok_count (T : Txt K mg) : Ok P w K mg base 1 "count_texts" ["width", "length"] (Pur (fun z : Nat × Nat => [tI (z.1 : Nat), tI (z.2 : Nat)]) (fun z => W15 z.1 ∧ z.2 ≤ 1000 ∧ z.1 ^ z.2 ≤ 1000) (fun z => tI ((z.1 ^ z.2 : Nat) : Int))) := by
  refine T.d_count_texts.ok sc50 (fun _ => rfl) (fun _ _ _ _ _ _ us hl => match us, hl with | [_, _], _ => rfl) fun f cdv A outer s H E C0 C z hr x hp => ?_
  obtain ⟨w', r⟩ := z
  obtain ⟨⟨h1, h5⟩, hr0, h2⟩ := hp
  replace h2 : w' ^ r ≤ 1000 := h2
  replace h1 : 1 ≤ w' := h1
  replace hr0 : r ≤ 1000 := hr0
  show PB _ C [some (tI (w' : Nat)), some (tI (r : Nat)), none, none] _ _ _
  refine plet sc50.nd 2 px_int ?_
  refine pb_forN (j := 3) (l := List.range r) (tA := fun i => tI ((i : Nat) : Int)) PassesOwn.never rfl (pix_range1 T.f_range (va 1 rfl) (by omega)) (fun _ => C) (fun i => [some (tI (w' : Nat)), some (tI (r : Nat)), some (tI ((w' ^ i : Nat) : Int)), none]) sc50.nd rfl (.inl rfl) (fun _ => rfl) (fun _ _ h => h) (fun i a ha => ?_) ?_
  · have hi : i < r := by have := (List.getElem?_eq_some_iff.mp ha).1; simpa using this
    refine plet sc50.nd 2 (px_mulW (va 2 rfl) (va 0 rfl) (szMul ?_ ?_)) (pb_endI (gi_keep (gi_keep (gi_eq ?_ (gi_drop gi_nil)))))
    · rw [Int.natAbs_natCast]
      exact Nat.lt_of_le_of_lt (Nat.le_trans (pow_small h2 h1 (by omega)) (show 1000 ≤ 2 ^ 10 by decide)) (Nat.pow_lt_pow_right (by omega) (by omega))
    · rw [Int.natAbs_natCast]
      exact Nat.lt_of_le_of_lt (Nat.le_trans h5 (show 5 ≤ 2 ^ 10 by decide)) (Nat.pow_lt_pow_right (by omega) (by omega))
    · rw [Nat.pow_succ]
      push_cast
      rfl
  · refine pb_retP x ((va 2 rfl).cast ?_)
    rw [List.length_range]
end
end Nb
end -- R1
section -- R2
set_option maxHeartbeats 1000000
namespace Nb
open PySem PySem.Spec PyProof.Rows L2
def Hasw (w r : Nat) : Prop := W15 w ∧ r ≤ mostR w
theorem hasw_cases {w r : Nat} (h : Hasw w r) : (w = 1 ∧ r ≤ 8) ∨ (w = 2 ∧ r ≤ 8) ∨ (w = 3 ∧ r ≤ 5) ∨ (w = 4 ∧ r ≤ 4) ∨ (w = 5 ∧ r ≤ 3) := by
  obtain ⟨⟨h1, h5⟩, h2⟩ := h
  have : w = 1 ∨ w = 2 ∨ w = 3 ∨ w = 4 ∨ w = 5 := by omega
  rcases this with rfl | rfl | rfl | rfl | rfl
  · exact .inl ⟨rfl, h2⟩
  · exact .inr (.inl ⟨rfl, h2⟩)
  · exact .inr (.inr (.inl ⟨rfl, h2⟩))
  · exact .inr (.inr (.inr (.inl ⟨rfl, h2⟩)))
  · exact .inr (.inr (.inr (.inr ⟨rfl, h2⟩)))
theorem mostR_le {w : Nat} : mostR w ≤ 8 := by
  unfold mostR
  rcases h : w - 1 with _ | _ | _ | _ | _ | n <;> simp [List.getD]
theorem hasw_pow {w r : Nat} (h : Hasw w r) : w ^ r ≤ 256 := by
  have key : ∀ {k : Nat}, 1 ≤ w → r ≤ k → w ^ k ≤ 256 → w ^ r ≤ 256 := fun h1 h2 h3 => Nat.le_trans (Nat.pow_le_pow_right h1 h2) h3
  have h1 : 1 ≤ w := h.1.1
  rcases hasw_cases h with ⟨rfl, h2⟩ | ⟨rfl, h2⟩ | ⟨rfl, h2⟩ | ⟨rfl, h2⟩ | ⟨rfl, h2⟩ <;> exact key h1 h2 (by decide)
theorem hasw_off {w r : Nat} (h : Hasw w r) : off w (r + 1) ≤ 511 := by
  have key : ∀ {k : Nat}, r ≤ k → off w (k + 1) ≤ 511 → off w (r + 1) ≤ 511 := fun h2 h3 => Nat.le_trans (off_le (by omega)) h3
  rcases hasw_cases h with ⟨rfl, h2⟩ | ⟨rfl, h2⟩ | ⟨rfl, h2⟩ | ⟨rfl, h2⟩ | ⟨rfl, h2⟩ <;> exact key h2 (by decide)
theorem Hasw.le {w r s : Nat} (h : Hasw w r) (hs : s ≤ r) : Hasw w s := ⟨h.1, Nat.le_trans hs h.2⟩
theorem Hasw.r8 {w r : Nat} (h : Hasw w r) : r ≤ 8 := Nat.le_trans h.2 mostR_le
theorem lvl_length (w k : Nat) : (lvl w k).length = w ^ k := by unfold lvl; simp
theorem lvl_mem {w k : Nat} (hw : 0 < w) {s : Str} (h : s ∈ lvl w k) : s.length = k := by
  unfold lvl at h
  obtain ⟨p, hp, rfl⟩ := List.mem_map.mp h
  unfold bT
  rw [tx_len]
  exact path_len hw k p (List.mem_range.mp hp)
theorem lvl_zero_begs (w : Nat) : lvl w 0 = begs w (0 + 1) := by
  unfold lvl begs off
  simp
theorem lets_codes (w : Nat) : (lets w).cps.toList = (List.range w).map (48 + ·) := rfl
section
variable {K : PySem.W.Frag} {mg : Str → Option Value} {base : Heap} {P : Program} {w : World}
theorem sc51 : FnScope ["texts", "width", "signs", "text", "sign"] ["texts", "width"] (defScope (top 51)) := ⟨rfl, rfl, rfl, by decide +kernel, rfl, by decide +kernel, by decide +kernel⟩
theorem next_len {w : Nat} {l : List Str} {n : Nat} (hn : l.length * w ≤ n) : ∀ i, ((l.take i).flatMap fun t => ((List.range w).map fun y => t ++ dig y)).length ≤ n := fun i => by
  have h1 : ∀ m : List Str, (m.flatMap fun t => ((List.range w).map fun y => t ++ dig y)).length = m.length * w := by
    intro m
    induction m with
    | nil => simp
    | cons a r ih => rw [List.flatMap_cons, List.length_append, ih, List.length_cons, Nat.succ_mul]; simp; omega
  rw [h1]
  have : (l.take i).length ≤ l.length := List.length_take_le' i l
  exact Nat.le_trans (Nat.mul_le_mul_right w this) hn
theorem ok_next (T : Txt K mg) : Ok P w K mg base 3 "next_texts" ["texts", "width"] (Pur (fun z : List Str × Nat => [tLst (z.1.map tS), tI (z.2 : Nat)]) (fun z => W15 z.2 ∧ z.1.length ≤ 1000 ∧ ∀ t ∈ z.1, t.length ≤ 1000) (fun z => tLst ((nextS z.2 z.1).map tS))) := by
  refine T.d_next_texts.ok sc51 (fun _ => rfl) (fun _ _ _ _ _ _ us hl => match us, hl with | [_, _], _ => rfl) fun f cdv A outer s H E C0 C z hr x hp => ?_
  obtain ⟨l, w'⟩ := z
  obtain ⟨hw, hl, ht⟩ := hp
  replace hl : l.length ≤ 1000 := hl
  replace ht : ∀ t ∈ l, t.length ≤ 1000 := ht
  have h5 : w' ≤ 5 := hw.2
  show PB _ C [some (tLst (l.map tS)), some (tI (w' : Nat)), none, none, none] _ _ _
  refine plet sc51.nd 2 (px_call (ok_letters T) w' rfl hr (pxs_cons (va 1 rfl) pxs_nil) hw) ?_
  refine pb_retP x ((px_lc2 (own := [("text", 3), ("sign", 4)]) (js := [3]) (js1 := [4]) (vs1 := [4]) (l := l) (tA := tS) (m := fun _ => List.range w') (tB := fun _ y => tS (dig y)) (E := fun t y => tS (t ++ dig y)) rfl sc51.nd (pix_list (va 0 rfl)) (blkOk_by (by kernel_rfl)) (by decide) (by decide) (by decide)
    (fun n => ⟨?_, fun _ _ => by rw [List.length_range]; omega⟩)
    (fun s H D cl fp d Vs a => nm sc51.nd 3) (fun s H D cl fp d Vs a ha hd => ?_) (fun s H D cl fp d Vs a b => nm sc51.nd 4) (fun s H D cl fp d Vs a b ha hb hd => px_addS (va 3 rfl) (va 4 rfl) ?_)).cast ?_)
  · have := next_len (w := w') (l := l) (n := 5000) (Nat.le_trans (Nat.mul_le_mul hl h5) (by omega)) n
    simp only [List.length_flatMap, List.length_map] at this ⊢
    omega
  · refine (pix_str (va 2 rfl)).cast' ?_
    rw [lets_codes, List.map_map]
    rfl
  · have := ht a ha
    exact Nat.le_trans (show a.length + 1 ≤ 1001 by omega) (by decide)
  · congr 1
    unfold nextS
    rw [List.map_flatMap]
    simp only [List.map_map]
    rfl
theorem sc55 : FnScope ["text", "rounds", "width"] ["text", "rounds", "width"] (defScope (top 55)) := ⟨rfl, rfl, rfl, by decide +kernel, rfl, by decide +kernel, by decide +kernel⟩
theorem ok_is_row (T : Txt K mg) : OkN P w K mg base 4 "is_row" ["text", "rounds", "width"] 2 ["width"] (Pur (fun z : Str × Nat × Nat => [tS z.1, tI (z.2.1 : Nat), tI (z.2.2 : Nat)]) (fun z => Hasw z.2.2 z.2.1 ∧ z.1.length ≤ 1000000) (fun z => tB (decide (z.1.length = z.2.1) && onlyS z.2.2 z.1))) := by
  refine T.d_is_row.okN sc55 2 ["width"] (List.cons_ne_nil _ _) (fun _ => rfl) (fun _ _ _ _ _ _ us ws h1 h2 => match us, ws, h1, h2 with | [_, _], [_], _, _ => rfl) fun f cdv A outer s H E C0 C z hr x hp => ?_
  obtain ⟨t, r, w'⟩ := z
  obtain ⟨hw, hl⟩ := hp
  replace hl : t.length ≤ 1000000 := hl
  show PB _ C [some (tS t), some (tI (r : Nat)), some (tI (w' : Nat))] _ _ _
  refine pb_expr (px_call (ok_shape T) (w', r) rfl hr (pxs_cons (va 2 rfl) (pxs_cons (va 1 rfl) pxs_nil)) hw) ?_
  refine pb_retP x ((px_and (px_eq (px_lenS T.f_len (va 0 rfl) (Nat.le_trans hl (by decide))) (va 1 rfl)) (fun _ => px_one (px_call (ok_has_only T) (_, _) rfl hr (pxs_cons (va 0 rfl) (pxs_cons (px_call (ok_letters T) w' rfl hr (pxs_cons (va 2 rfl) pxs_nil) hw.1) pxs_nil)) trivial))).cast (congrArg tB ?_))
  show (decide ((t.length : Int) = (r : Int)) && (t.cps.toList.all fun c => decide (c ∈ (lets w').cps.toList))) = _
  rw [only_lets]
  congr 1
  refine decide_eq_decide.mpr ?_
  show ((t.length : Int) = (r : Int)) ↔ t.length = r
  omega
theorem sc56 : FnScope ["rounds", "width", "found", "texts", "spare"] ["rounds", "width"] (defScope (top 56)) := ⟨rfl, rfl, rfl, by decide +kernel, rfl, by decide +kernel, by decide +kernel⟩
theorem sc57 : FnScope ["rounds", "width", "texts", "found", "spare"] ["rounds", "width"] (defScope (top 57)) := ⟨rfl, rfl, rfl, by decide +kernel, rfl, by decide +kernel, by decide +kernel⟩
abbrev spBegs (f : Nat → Nat → Nat) : Sp := Pur (fun z : Nat × Nat => [tI (z.1 : Nat), tI (z.2 : Nat)]) (fun z => Hasw z.2 z.1) (fun z => tLst ((begs z.2 (f z.2 z.1)).map tS))
theorem begs_len (w n : Nat) : (begs w n).length = n := by unfold begs; simp
theorem ok_begs (T : Txt K mg) : OkN P w K mg base 4 "beginnings_of" ["rounds", "width"] 1 ["width"] (spBegs fun w r => off w r) := by
  refine T.d_beginnings_of.okN sc56 1 ["width"] (List.cons_ne_nil _ _) (fun _ => rfl) (fun _ _ _ _ _ _ us ws h1 h2 => match us, ws, h1, h2 with | [_], [_], _, _ => rfl) fun f cdv A outer s H E C0 C z hr x hw => ?_
  obtain ⟨r, w'⟩ := z
  replace hw : Hasw w' r := hw
  have w0 : 0 < w' := hw.1.1
  show PB _ C [some (tI (r : Nat)), some (tI (w' : Nat)), none, none, none] _ _ _
  refine pb_expr (px_call (ok_shape T) (w', r) rfl hr (pxs_cons (va 1 rfl) (pxs_cons (va 0 rfl) pxs_nil)) hw) ?_
  refine pb_new pxs_nil (fun o => ?_) sc56.nd (i := 2) rfl (.inl rfl)
  refine plet sc56.nd 3 (px_lst (pxs_cons px_str pxs_nil)) ?_
  refine pb_forN (j := 4) (l := List.range r) (tA := fun i => tI ((i : Nat) : Int)) PassesOwn.never rfl (pix_range1 T.f_range (va 0 rfl) (by have := hw.r8; omega)) (fun i => C.own o ((begs w' (off w' i)).map tS)) (fun i => [some (tI (r : Nat)), some (tI (w' : Nat)), some (tR o), some (tLst ((lvl w' i).map tS)), none]) sc56.nd rfl (.inl rfl) (fun _ => rfl)
    (fun σ H h => h.imp (gi_keep (gi_keep (gi_keep (gi_eq (by rw [lvl_zero]; rfl) (gi_keep gi_nil)))))) (fun i a ha => ?_) ?_
  · have hi : i < r := by have := (List.getElem?_eq_some_iff.mp ha).1; simpa using this
    have hwi : Hasw w' i := hw.le (by omega)
    refine pext 2 (va 3 rfl) rfl ?_ ?_
    · have h1 := hasw_off hw
      have h2 : off w' i ≤ off w' (r + 1) := off_le (by omega)
      have h3 := hasw_pow hwi
      rw [List.length_map, List.length_map, begs_len, lvl_length]
      omega
    · refine plet sc56.nd 3 (px_call (ok_next T) (lvl w' i, w') rfl hr (pxs_cons (va 3 rfl) (pxs_cons (va 1 rfl) pxs_nil)) ⟨hw.1, by show (lvl w' i).length ≤ 1000; rw [lvl_length]; have := hasw_pow hwi; omega, fun t ht => by rw [lvl_mem w0 ht]; have := hw.r8; omega⟩) ?_
      rw [← List.map_append, begs_ext]
      exact pb_endI (gi_keep (gi_keep (gi_keep (gi_eq (by rw [← lvl_next]) (gi_drop gi_nil)))))
  · refine pb_freeze (i := 2) rfl (pb_retP x ((va 2 rfl).cast ?_))
    rw [List.length_range]
theorem ok_allBegs (T : Txt K mg) : OkN P w K mg base 4 "all_beginnings" ["rounds", "width"] 1 ["width"] (spBegs fun w r => off w (r + 1)) := by
  refine T.d_all_beginnings.okN sc57 1 ["width"] (List.cons_ne_nil _ _) (fun _ => rfl) (fun _ _ _ _ _ _ us ws h1 h2 => match us, ws, h1, h2 with | [_], [_], _, _ => rfl) fun f cdv A outer s H E C0 C z hr x hw => ?_
  obtain ⟨r, w'⟩ := z
  replace hw : Hasw w' r := hw
  have w0 : 0 < w' := hw.1.1
  show PB _ C [some (tI (r : Nat)), some (tI (w' : Nat)), none, none, none] _ _ _
  refine pb_expr (px_call (ok_shape T) (w', r) rfl hr (pxs_cons (va 1 rfl) (pxs_cons (va 0 rfl) pxs_nil)) hw) ?_
  refine plet sc57.nd 2 (px_lst (pxs_cons px_str pxs_nil)) ?_
  refine pb_new (pxs_cons px_str pxs_nil) (fun o => ?_) sc57.nd (i := 3) rfl (.inl rfl)
  have e0 : (begs w' (off w' 1)).map tS = [tS ""] := by rw [show off w' 1 = 0 + 1 from rfl, ← lvl_zero_begs, lvl_zero]; rfl
  rw [← e0]
  refine pb_forN (j := 4) (l := List.range r) (tA := fun i => tI ((i : Nat) : Int)) PassesOwn.never rfl (pix_range1 T.f_range (va 0 rfl) (by have := hw.r8; omega)) (fun i => C.own o ((begs w' (off w' (i + 1))).map tS)) (fun i => [some (tI (r : Nat)), some (tI (w' : Nat)), some (tLst ((lvl w' i).map tS)), some (tR o), none]) sc57.nd rfl (.inl rfl) (fun _ => rfl)
    (fun σ H h => h.imp (gi_keep (gi_keep (gi_eq (by rw [lvl_zero_begs]; rfl) (gi_keep (gi_keep gi_nil)))))) (fun i a ha => ?_) ?_
  · have hi : i < r := by have := (List.getElem?_eq_some_iff.mp ha).1; simpa using this
    have hwi : Hasw w' i := hw.le (by omega)
    refine plet sc57.nd 2 (px_call (ok_next T) (lvl w' i, w') rfl hr (pxs_cons (va 2 rfl) (pxs_cons (va 1 rfl) pxs_nil)) ⟨hw.1, by show (lvl w' i).length ≤ 1000; rw [lvl_length]; have := hasw_pow hwi; omega, fun t ht => by rw [lvl_mem w0 ht]; have := hw.r8; omega⟩) ?_
    show PB _ _ [_, _, some (tLst ((nextS w' (lvl w' i)).map tS)), _, _] _ _ _
    rw [lvl_next]
    refine pext 3 (va 2 rfl) rfl ?_ ?_
    · have h1 := hasw_off hw
      have h2 : off w' (i + 1) ≤ off w' (r + 1) := off_le (by omega)
      have h3 := hasw_pow (hw.le (s := i + 1) (by omega))
      rw [List.length_map, List.length_map, begs_len, lvl_length]
      omega
    · rw [← List.map_append, begs_ext]
      exact pb_endI (gi_keep (gi_keep (gi_keep (gi_keep (gi_drop gi_nil)))))
  · refine pb_freeze (i := 3) rfl (pb_retP x ((va 3 rfl).cast ?_))
    rw [List.length_range]
end
end Nb
end -- R2
section -- NbK
set_option maxHeartbeats 1000000
namespace Nb
open PySem PySem.Spec PyProof.Rows L2
abbrev Fs := List (Str × Ty)
def Fs.ns (fs : Fs) : List Str := List.map Prod.fst fs
def Fs.ts (fs : Fs) : List Ty := List.map Prod.snd fs
/-- an instance of the class at Cl -/
def tIns (Cl : Addr) (fs : Fs) : Ty := ⟨fun H v => ∃ a dx vs, v = .ref a ∧ H a = some (.ins Cl dx (fs.ns.zip vs)) ∧ TyAll H vs fs.ts, fun e ⟨a, dx, vs, h1, h2, h3⟩ => ⟨a, dx, vs, h1, e _ _ h2, h3.mono e⟩⟩
theorem lookup_zip {D : Hp} {f : Str} {T : Ty} : ∀ {fs : Fs} {vs : List V}, fs.lookup f = some T → TyAll D vs fs.ts → ∃ v, (fs.ns.zip vs).lookup f = some v ∧ T.P D v
  | [], _, h, _ => by cases h
  | (g, U) :: r, _, h, h2 => by
    cases h2 with
    | @cons a _ as _ q t =>
      show ∃ v, List.lookup f ((g, a) :: (Fs.ns r).zip as) = some v ∧ _
      rw [List.lookup_cons] at h ⊢
      cases e : (f == g) with
      | true => rw [e] at h; cases h; exact ⟨a, rfl, q⟩
      | false => rw [e] at h; exact lookup_zip h t
theorem lookup_none {D : Hp} {f : Str} : ∀ {fs : Fs} {vs : List V}, fs.lookup f = none → TyAll D vs fs.ts → (fs.ns.zip vs).lookup f = none
  | [], _, h, _ => rfl
  | (g, U) :: r, _, h, h2 => by
    cases h2 with
    | @cons a _ as _ q t =>
      show List.lookup f ((g, a) :: (Fs.ns r).zip as) = none
      rw [List.lookup_cons] at h ⊢
      cases e : (f == g) with
      | true => rw [e] at h; cases h
      | false => rw [e] at h; exact lookup_none h t
theorem putF_zip {D : Hp} {f : Str} {y : V} : ∀ {fs : Fs} {vs : List V}, f ∉ fs.ns → TyAll D vs fs.ts → putF f y (fs.ns.zip vs) = (fs.ns ++ [f]).zip (vs ++ [y])
  | [], _, _, .nil => rfl
  | (g, U) :: r, _, h, h2 => by
    cases h2 with
    | @cons a _ as _ q t =>
      have hg : g ≠ f := fun e => h (by rw [← e]; exact List.mem_cons_self)
      show (if g = f then (g, y) :: (Fs.ns r).zip as else (g, a) :: putF f y ((Fs.ns r).zip as)) = (g, a) :: ((Fs.ns r) ++ [f]).zip (as ++ [y])
      rw [if_neg hg, putF_zip (fun z => h (List.mem_cons_of_mem _ z)) t]
section
variable {X : Cx} {C C' : HC} {G G' : Env} {a b e : Expr} {T U W : Ty} {Ts Us : List Ty} {pos p pos2 : Pos} {Cl x dx : Addr} {fs : Fs} {f : Str} {rest ss : List Stmt} {Nx : NX} {Rt : RT} {i : Nat}
theorem px_fld (he : PX X C G e (tIns Cl fs)) (c : Cls X.K Cl) (n : NoAttr X.K Cl f) (h : fs.lookup f = some T) (hb : attributeBase e f X.env (eval e X.env) = eval e X.env := by rfl) : PX X C G (.Attribute e f pos) T :=
  PE.imp (pe_fld he hb) fun σ H Q ⟨ok, q⟩ => ⟨ok, fun v H1 x1 e1 ⟨o, dx, vs, h1, h2, h3⟩ => by
    obtain ⟨w, l, p⟩ := lookup_zip h h3
    exact ⟨o, Cl, dx, _, w, h1, hid_le _ _ h2, c, n, l, q w H1 x1 e1 p⟩⟩
structure PropOk (P : Program) (w : World) (K : PySem.W.Frag) (mg : Str → Option Value) (base : Heap) (k : Nat) (Cl : Addr) (f : Str) (sp : Sp) : Prop where
  c : Cls K Cl
  ex : ∃ p g fd, PropOf K Cl f p g ∧ Binds K fd ["self"] [] ∧ FnOk P w K mg base CX0 k g fd ["self"] sp
theorem px_prop {α : Type} {args : α → List Ty} {pre : α → Prop} {res : α → Ty} {j k : Nat} (F : PropOk X.prog X.w X.K X.mg X.base j Cl f (Pur args pre res)) (z : α) (hT : res z = T) (hr : Room k X.A) (he : PX X C G e (tIns Cl fs)) (hz : args z = [tIns Cl fs]) (hp : pre z) (hj : j + 1 ≤ k := by decide)
    (hb : attributeBase e f X.env (eval e X.env) = eval e X.env := by rfl) : PX X C G (.Attribute e f pos) T := by
  obtain ⟨p, g, fd, h1, h2, h3⟩ := F.ex
  subst hT
  refine PE.imp (pe_prop he F.c h1 h3 (hr.mono hj) h2 .nil pass0 hb) fun σ H Q ⟨ok, q⟩ => ⟨ok, fun v H1 x1 e1 ⟨o, dx, vs, e2, h4, h5⟩ => ⟨o, dx, _, e2, hid_le _ _ h4, ?_⟩⟩
  refine pur_call z hp x1 ?_ fun v H2 x2 e2 p2 => q v H2 x2 (e1.trans e2) p2
  rw [hz]
  exact .cons ⟨o, dx, vs, rfl, h4, h5⟩ .nil
structure LenOk (P : Program) (w : World) (K : PySem.W.Frag) (mg : Str → Option Value) (base : Heap) (k : Nat) (Cl : Addr) (sp : Sp) : Prop where
  ex : ∃ g fd, Meth K Cl "__len__" g ∧ Binds K fd ["self"] [] ∧ FnOk P w K mg base CX0 k g fd ["self"] sp
def rLenI (k : Nat) (P : Program) (w : World) (K : PySem.W.Frag) (mg : Str → Option Value) (base : Heap) : List V → Hp → VK → Prop := fun vs H Q => ∃ (a Cl dx : Addr) (fs : List (Str × V)) (g : Addr) (fd : FuncData) (sp : Sp) (E : XK), vs = [.ref a] ∧ H a = some (.ins Cl dx fs) ∧ Meth K Cl "__len__" g ∧ Binds K fd ["self"] [] ∧
  FnOk P w K mg base CX0 k g fd ["self"] sp ∧ sp [.ref a] H (fun v H' => ∃ n : Int, v = .int n ∧ 0 ≤ n ∧ n < 2 ^ 63 ∧ Q (.int n) H') E
theorem call_lenI {k : Nat} (hr : Room (k + 1) X.A) : CallR X (.builtin "len") (rLenI k X.prog X.w X.K X.mg X.base) := by
  intro pins s σ H xs us Q I r h
  obtain ⟨o, Cl, dx, fs, g, fd, sp, E, rfl, ho, hm, hb, F, hsp⟩ := h
  obtain ⟨u, rfl, ru⟩ := vals1 r
  obtain rfl : u = Value.ref o := ru
  obtain ⟨mA, O, _⟩ := ins_get I.hok ho
  obtain ⟨od, J, _⟩ := O.look
  refine Calls.call_function_entry PySem.kind_len PySem.plain_len PySem.entry_len (PySem.args_len1 _) ?_
  unfold Builtin.«len»
  refine wpAny_bind (m := oneArg "len" _) (wpAny_pure (wpAny_bind (m := callSpecial? (.ref o) (Str.ofString "__len__")) (PySem.W.special_fn I.kIn J hm.at_ (beq_iff_eq.mp hm.fn) ?_)))
  refine wpAny_call (codeAny_mono (F.run X.A.in1 X.stack s H ⟨[.ref o], []⟩ [.ref o] [.ref o] _ E hr.in1 I.env0.in1 (hb s [.ref o] I.kIn rfl) (.cons rfl .nil) hsp) fun r s' hq => ?_)
  cases r with
  | error e => exact hq.elim
  | ok fl =>
    cases fl with
    | ret u =>
      obtain ⟨v, H', I3, rv, n, rfl, h0, h1, q⟩ := I.after hq
      obtain ⟨t, rfl⟩ := rv
      refine wpAny_bind (wpAny_holding (wpAny_pure (wpAny_bind (wpAny_letGo ?_))))
      have nn : ¬ n < 0 := by omega
      have nb : ¬ n ≥ 2 ^ 63 := by omega
      rw [if_neg nn, if_neg nb]
      exact wpAny_bind (wpAny_mkInt (wpAny_pure ⟨_, rfl, ⟨.int n, H', I3.tok _, ⟨_, rfl⟩, q⟩⟩))
    | next => exact False.elim hq
    | brk => exact False.elim hq
    | cont => exact False.elim hq
theorem px_lenI {α : Type} {args : α → List Ty} {pre : α → Prop} {j k n : Nat} {res : α → Ty} (F : LenOk X.prog X.w X.K X.mg X.base j Cl (Pur args pre res)) (z : α) (hT : res z = tI (n : Nat)) (hn : n ≤ 1000000) (hr : Room k X.A) (hm : X.mg "len" = none) (he : PX X C G e (tIns Cl fs)) (hz : args z = [tIns Cl fs]) (hp : pre z) (hj : j + 1 ≤ k := by decide)
    (hg : Gl X "len" := by rfl) (hs : starEach [e] X.env = (false, eval e X.env) :: starEach [] X.env := by rfl) : PX X C G (.Call (.Name "len" p) [e] [] pos) (tI (n : Nat)) := by
  obtain ⟨g, fd, h1, h2, h3⟩ := F.ex
  refine PE.imp (pe_callB (call_lenI (hr.mono hj)) hg hm PySem.boot_len (pxs_cons he pxs_nil hs) (by decide) (by decide) hs) fun σ H Q ⟨ok, q⟩ => ⟨ok, fun vs H1 x1 e1 p1 => ?_⟩
  cases p1 with
  | cons p1 t =>
    cases t
    obtain ⟨o, dx, us, rfl, h4, h5⟩ := p1
    refine ⟨o, Cl, dx, _, g, fd, _, E0, rfl, hid_le _ _ h4, h1, h2, h3, pur_call z hp x1 (by rw [hz]; exact .cons ⟨o, dx, us, rfl, h4, h5⟩ .nil) fun v H2 x2 e2 p2 => ?_⟩
    rw [hT] at p2
    exact ⟨(n : Int), p2, by omega, by omega, q _ H2 x2 (e1.trans e2) rfl⟩
/-- the instance at o, its dict at dx, both hidden -/
def HC.inst (C : HC) (o dx Cl : Addr) (fs : Fs) : HC where
  H0 := C.H0
  M := fun a => a == o || (a == dx || C.M a)
  S := C.S
  Om := fun H D => C.Om H D ∧ C.M o = false ∧ C.H0 o = none ∧ (∃ u, H dx = some u) ∧ ∃ vs, H o = some (.ins Cl dx (fs.ns.zip vs)) ∧ TyAll D vs fs.ts
  om := fun e d ⟨h1, h2, h3, ⟨u, h6⟩, xs, h4, h5⟩ => ⟨C.om e d h1, h2, h3, ⟨u, e _ _ h6⟩, xs, e _ _ h4, h5.mono d⟩
  loc := fun {p H H' D} m k ⟨h1, h2, h3, ⟨u, h6⟩, xs, h4, h5⟩ => by
    have m1 : (p == o || (p == dx || C.M p)) = false := m
    rw [Bool.or_eq_false_iff, Bool.or_eq_false_iff] at m1
    have ne : o ≠ p := fun z => by subst z; simp at m1
    have ne2 : dx ≠ p := fun z => by subst z; simp at m1
    exact ⟨C.loc m1.2.2 k h1, h2, h3, ⟨u, by rw [k dx ne2]; exact h6⟩, xs, by rw [k o ne]; exact h4, h5⟩
  sm := fun a s => by show (a == o || (a == dx || C.M a)) = true; rw [C.sm a s, Bool.or_true, Bool.or_true]
theorem inst_M {o : Addr} {q : Addr} (h : C.M q = true) : (C.inst o dx Cl fs).M q = true := by show (q == o || (q == dx || C.M q)) = true; rw [h, Bool.or_true, Bool.or_true]
theorem inst_le {o : Addr} {H : Hp} : Ex (hid (C.inst o dx Cl fs).M H) (hid C.M H) := hid_less fun _ h => inst_M h
theorem Base.of_inst {o : Addr} {H : Hp} (b : Base (C.inst o dx Cl fs) H) : Base C H := ⟨b.old, fun a h => b.hidd a (inst_M h), C.om (Ex.refl H) inst_le b.om.1⟩
theorem EnvOk.of_inst {o : Addr} {σ : St} {H : Hp} (x : EnvOk (C.inst o dx Cl fs) G σ H) : EnvOk C G σ H := ⟨x.base.of_inst, x.env.imp fun _ _ h => h.mono inst_le⟩
/-- at the end: as an instance -/
theorem inst_end {o : Addr} {σ : St} {H : Hp} (x : EnvOk (C.inst o dx Cl fs) G σ H) : (tIns Cl fs).P (hid C.M H) (.ref o) := by
  obtain ⟨_, m, _, _, vs, h4, h5⟩ := x.base.om
  exact ⟨o, dx, vs, rfl, hid_of m h4, h5.mono inst_le⟩
/-- the instance is written -/
theorem EnvOk.wrinst {o : Addr} {σ : St} {H : Hp} {y : V} {vs : List V} (x : EnvOk (C.inst o dx Cl fs) G σ H) (ho : H o = some (.ins Cl dx (fs.ns.zip vs))) (hv : TyAll (hid (C.inst o dx Cl fs).M H) vs fs.ts) (hy : T.P (hid (C.inst o dx Cl fs).M H) y) (hne : o ≠ dx) (hf : f ∉ fs.ns) :
    EnvOk (C.inst o dx Cl (fs ++ [(f, T)])) G σ (upd H o (.ins Cl dx (putF f y (fs.ns.zip vs)))) ∧ Ex (hid (C.inst o dx Cl fs).M H) (hid (C.inst o dx Cl (fs ++ [(f, T)])).M (upd H o (.ins Cl dx (putF f y (fs.ns.zip vs))))) := by
  obtain ⟨h1, h2, h3, ⟨u, h6⟩, _⟩ := x.base.om
  have k : ∀ a, a ≠ o → upd H o (.ins Cl dx (putF f y (fs.ns.zip vs))) a = H a := fun a h => upd_ne h
  have le : Ex (hid (C.inst o dx Cl fs).M H) (hid (C.inst o dx Cl (fs ++ [(f, T)])).M (upd H o (.ins Cl dx (putF f y (fs.ns.zip vs))))) := fun a w q => by
    obtain ⟨m, q'⟩ := hid_some q
    have ne : a ≠ o := fun z => by
      subst z
      have : (a == a || (a == dx || C.M a)) = false := m
      simp at this
    exact hid_of m (by rw [upd_ne ne]; exact q')
  refine ⟨⟨⟨fun a u s q => ?_, fun a m => ?_, C.om (Ex.refl _) le (C.loc h2 k h1), h2, h3, ⟨u, by rw [k dx (Ne.symm hne)]; exact h6⟩, vs ++ [y], ?_, ?_⟩, x.env.imp fun _ _ h => h.mono le⟩, le⟩
  · have ne : a ≠ o := fun z => by
      subst z
      have q' : C.H0 a = some u := q
      rw [h3] at q'; cases q'
    rw [k a ne]
    exact x.base.old a u s q
  · by_cases h : a = o
    · subst h; exact ⟨_, upd_same⟩
    · rw [k a h]
      exact x.base.hidd a m
  · rw [upd_same, putF_zip hf hv]
    show some (HO.ins Cl dx _) = some (HO.ins Cl dx _)
    unfold Fs.ns
    rw [List.map_append]
    rfl
  · have e : Fs.ts (fs ++ [(f, T)]) = fs.ts ++ [T] := by unfold Fs.ts; rw [List.map_append]; rfl
    rw [e]
    exact All2.append (hv.mono le) (.cons (T.mono le hy) .nil)
/-- self.f = e, self in slot i -/
theorem pb_fld {o : Addr} {y : Str} {p1 apos : Pos} (c : Cls X.K Cl) (n : NoAttr X.K Cl f) (hne : o ≠ dx) (i : Nat) (hl : G[i]? = some (some (tR o))) (he : PX X (C.inst o dx Cl fs) G e T) (hr : PB X (C.inst o dx Cl (fs ++ [(f, T)])) G rest Nx Rt) (hf : decide (f ∈ fs.ns) = false := by rfl) (hfew : Nat.blt fs.length 1000 = true := by rfl)
    (hN : X.N[i]? = some y := by rfl) (hv : Vis X.env.scope y := by first | exact .inl rfl | exact .inr (.inl rfl) | exact .inr (.inr rfl)) (hd : (y == ("__debug__" : Str)) = false := by decide) (hcd : (y == ("__classdict__" : Str)) = false := by decide)
    (hs : swapsWith e (some (.Attribute (.Name y p1) f apos)) pos.line X.env = pure false := by rfl) : PB X (C.inst o dx Cl fs) G (.Assign [.Attribute (.Name y p1) f apos] e pos :: rest) Nx Rt :=
  PSs.imp (pss_cons (ps_fld (pe_var hN hv hd hcd) he hs) hr) fun D σ H ⟨ok, q1, q2⟩ => ⟨ok, fun v H1 x1 e1 p1 => by
    obtain ⟨w, ew, pw⟩ := x1.var hl
    obtain rfl : w = .ref o := pw
    obtain ⟨_, _, _, _, vs, h4, h5⟩ := id x1.base.om
    obtain ⟨z1, z2⟩ := x1.wrinst h4 h5 p1 hne (of_decide_eq_false hf)
    refine ⟨.ref o, ew, o, Cl, dx, _, rfl, h4, c, n, ?_, z1, fun σ' H' n e => q1 σ' H' n ((e1.trans z2).trans e), q2⟩
    rw [List.length_zip, h5.length]
    have : fs.length < 1000 := Nat.blt_eq ▸ hfew
    unfold Fs.ns Fs.ts
    rw [List.length_map, List.length_map]
    omega⟩
end
def InitSp {α : Type} (Cl : Addr) (args : α → List Ty) (pre : α → Prop) (res : α → Ty) : Sp := fun vs H Q _ => ∃ (M : Addr → Bool) (z : α) (H1 : Hp) (o dx : Addr) (us : List V), vs = .ref o :: us ∧ H = upd (upd H1 dx (.own o)) o (.ins Cl dx []) ∧ H1 o = none ∧ H1 dx = none ∧ dx ≠ o ∧
  (∀ a, M a = true → ∃ u, H1 a = some u) ∧ TyAll (hid M H1) us (args z) ∧ pre z ∧ ∀ H', Ex H1 H' → (res z).P (hid M H') (.ref o) → Q .non H'
structure MkOk (P : Program) (w : World) (K : PySem.W.Frag) (mg : Str → Option Value) (base : Heap) (k : Nat) (x : Str) (Cl : Addr) (ps : List Str) (sp : Sp) : Prop where
  ex : ∃ f fd, mg x = some (.ref Cl) ∧ Mk K Cl f ∧ Binds K fd ps [] ∧ FnOk P w K mg base CX0 k f fd ps sp
section
variable {X : Cx} {C : HC} {G : Env} {e : Expr} {es : List Expr} {T : Ty} {pos p : Pos} {Cl : Addr}
theorem px_make {α : Type} {args : α → List Ty} {pre : α → Prop} {res : α → Ty} {x : Str} {j k : Nat} {ps : List Str} (F : MkOk X.prog X.w X.K X.mg X.base j x Cl ps (InitSp Cl args pre res)) (z : α) (hT : res z = T) (hr : Room k X.A) (ha : PXs X C G (e :: es) (args z)) (hp : pre z)
    (hj : j + 1 ≤ k := by decide) (hg : Gl X x := by rfl) (hdb : (x == ("__debug__" : Str)) = false := by decide) (he : starEach (e :: es) X.env = (false, eval e X.env) :: starEach es X.env := by rfl) (hpl : (backTo pos (starEach es X.env)).any (·.1) = false := by rfl) :
    PX X C G (.Call (.Name x p) (e :: es) [] pos) T := by
  obtain ⟨f, fd, hm, hk, hb, hF⟩ := F.ex
  subst hT
  refine PE.imp (pe_make (dvs := []) (E := E0) hk hF (hr.mono hj) hg hm hb .nil pass0 ha hdb he hpl) fun σ H Q ⟨ok, q⟩ => ⟨ok, fun vs H1 x1 e1 p1 o dx ho hd hne => ?_⟩
  refine ⟨C.M, z, H1, o, dx, vs, by rw [List.append_nil], rfl, ho, hd, hne, x1.base.hidd, p1, hp, fun H' e2 p2 => ⟨rfl, q _ H' (x1.ex e2) (e1.trans (hid_mono e2)) p2⟩⟩
end
section
variable {K : PySem.W.Frag} {mg : Str → Option Value} {base : Heap} {P : Program} {w : World}
/-- a class's __init__ -/
theorem init_ok {α : Type} {args : α → List Ty} {pre : α → Prop} {fields : α → Fs} {x qual cn : Str} {params : Arguments} {body : List Stmt} {scope : Scope} {f Cl : Addr} {fd : FuncData} {N ps : List Str} {k : Nat}
    (F : FunD K x qual params body scope [] [] f fd) (S : FnScope N ("self" :: ps) scope) (hl : ∀ z, (args z).length = ps.length)
    (hb : ∀ (cdv : Value) (A : Around) (outer : List PySem.Env) (s : Shared) (H : Hp) (E : XK) (C0 : HC) (o dx : Addr) (z : α), Room k (A.deeper (envOfC qual scope s.heap.objs.size f cdv)) → o ≠ dx → pre z →
      PB (cxOf CX0 P w K mg base N qual scope f cdv A outer s H E).nox (C0.inst o dx Cl []) (startG N.length (tR o :: args z)) body (fun σ H' => ∃ G, EnvOk (C0.inst o dx Cl (fields z)) G σ H') (fun _ _ => False)) :
    FnOk P w K mg base CX0 (k + 1) f fd ("self" :: ps) (InitSp Cl args pre fun z => tIns Cl (fields z)) := by
  refine FunD.ok F S (fun vs H Q E ⟨M, z, H1, o, dx, us, e, _, _, _, _, _, h, _⟩ => by rw [e, List.length_cons, h.length, hl, List.length_cons]) (fun cdv A outer s H vs Q E hr ⟨M, z, H1, o, dx, us, e1, e2, ho, hdx, hne, tr, h, hp, q⟩ => ?_)
  subst e1 e2
  have x1 : Ex H1 (upd (upd H1 dx (.own o)) o (.ins Cl dx [])) := (Ex.new hdx).trans (Ex.new (by rw [upd_ne (Ne.symm hne)]; exact ho))
  have mo : M o = false := by
    cases q : M o with
    | false => rfl
    | true => obtain ⟨u, hu⟩ := tr o q; rw [ho] at hu; cases hu
  have md : M dx = false := by
    cases q : M dx with
    | false => rfl
    | true => obtain ⟨u, hu⟩ := tr dx q; rw [hdx] at hu; cases hu
  have le : Ex (hid M H1) (hid ((HC.at_ H1 M).inst o dx Cl []).M (upd (upd H1 dx (.own o)) o (.ins Cl dx []))) := fun a u q => by
    obtain ⟨m, q'⟩ := hid_some q
    refine hid_of ?_ (x1 _ _ q')
    show (a == o || (a == dx || M a)) = false
    rw [m, Bool.or_false, Bool.or_eq_false_iff]
    exact ⟨beq_eq_false_iff_ne.mpr (ne_of_none q' ho), beq_eq_false_iff_ne.mpr (ne_of_none q' hdx)⟩
  refine ⟨_, PSs.nox (hb cdv A outer s _ E (HC.at_ H1 M) o dx z hr (Ne.symm hne) hp), ⟨⟨fun a u _ q => x1 a u q, fun a m => ?_, trivial, mo, ho, ⟨_, by rw [upd_ne hne, upd_same]⟩, [], upd_same, .nil⟩, start_env (.cons rfl (h.mono le))⟩, fun σ' H' n _ => ?_, fun v H' n => n.elim⟩
  · have m' : (a == o || (a == dx || M a)) = true := m
    by_cases h1 : a = o
    · subst h1; exact ⟨_, upd_same⟩
    · rw [upd_ne h1]
      by_cases h2 : a = dx
      · subst h2; exact ⟨_, upd_same⟩
      · rw [upd_ne h2]
        rw [beq_eq_false_iff_ne.mpr h1, beq_eq_false_iff_ne.mpr h2, Bool.false_or, Bool.false_or] at m'
        exact tr a m'
  · obtain ⟨G, ok⟩ := n
    exact q H' (fun a u e => ok.base.old a u rfl e) (inst_end ok)
end
end Nb
end -- NbK
section -- NbL
set_option maxHeartbeats 1000000
namespace Nb
open PySem PySem.Spec PyProof.Rows L2
theorem iter_ne {h : Heap} {l it l' : Addr} {items : Array Value} {i : Nat} (hl : h.IsList l items) (hi : h.IsListIter it l' i) : l ≠ it := fun e => by
  obtain ⟨o, ho, hc, _⟩ := hl
  obtain ⟨o', ho', hc', _⟩ := hi
  rw [e] at ho
  rw [ho] at ho'
  cases ho'
  rw [hc] at hc'
  exact absurd hc' (by decide)
theorem iter_neT {h : Heap} {l it l' : Addr} {items : Array Value} {i : Nat} (hl : h.IsTuple l items) (hi : h.IsTupleIter it l' i) : l ≠ it := fun e => by
  obtain ⟨o, ho, hc, _⟩ := hl
  obtain ⟨o', ho', hc', _⟩ := hi
  rw [e] at ho
  rw [ho] at ho'
  cases ho'
  rw [hc] at hc'
  exact absurd hc' (by decide)
theorem sep3_at {N a b c : Nat} (la : a < N) (lb : b < N) (lc : c < N) : ZipSep3 (N + 5) (N + 3) (N + 4) N (N + 1) (N + 2) [N, a] [N + 1, b] [N + 2, c] := by
  constructor <;> first
    | (show ¬ _; intro e; have e : (_ : Nat) = (_ : Nat) := e; omega)
    | exact List.mem_cons_self
    | (intro hm; rcases List.mem_cons.mp hm with e | hm
       · have e : (_ : Nat) = (_ : Nat) := e
         omega
       · have e : (_ : Nat) = (_ : Nat) := List.mem_singleton.mp hm
         omega)
def Itz3 (K : PySem.W.Frag) (a b c : Addr) : It :=
  ⟨fun i H => ∃ (xs ys zs : List V) (x y z : V), SqL K H a xs ∧ SqL K H b ys ∧ SqL K H c zs ∧ xs[i]? = some x ∧ ys[i]? = some y ∧ zs[i]? = some z,
    fun i H v H' => ∃ T x y z, v = .ref T ∧ H T = none ∧ H' = upd H T (.tup [x, y, z]) ∧ (∀ xs, SqL K H a xs → xs[i]? = some x) ∧ (∀ ys, SqL K H b ys → ys[i]? = some y) ∧ ∀ zs, SqL K H c zs → zs[i]? = some z,
    fun i H => ∃ xs ys zs : List V, SqL K H a xs ∧ SqL K H b ys ∧ SqL K H c zs ∧ min (min xs.length ys.length) zs.length = i⟩
theorem turn_zip3 {P : Program} {w : World} {K : PySem.W.Frag} {elts : List Expr} {kk : Nat} {tpos : Pos} {a b c z TI TO i1 i2 i3 : Addr} (D : ZipSep3 z TI TO i1 i2 i3 [i1, a] [i2, b] [i3, c]) :
    Turn P w K (.Tuple elts kk tpos) (Itz3 K a b c) [z, TI, TO, i1, i2, i3] z (fun i h => IsZip h z TI TO .none ∧ IsTupOf3 h TI (.ref i1) (.ref i2) (.ref i3) ∧ (∃ x y u, IsTupOf3 h TO x y u) ∧ h.IsListIter i1 a i ∧ h.IsListIter i2 b i ∧ h.IsListIter i3 c i) where
  mem := by simp
  obj := fun i h st q hq => by
    obtain ⟨zz, tI, ⟨x, y, u, tO⟩, ⟨o1, e1, _, k1⟩, ⟨o2, e2, _, k2⟩, ⟨o3, e3, _, k3⟩⟩ := st
    have e' : q = z ∨ q = TI ∨ q = TO ∨ q = i1 ∨ q = i2 ∨ q = i3 := by simpa using hq
    rcases e' with q | q | q | q | q | q
    · rw [q]; exact ⟨_, zz, fun v q => nomatch q⟩
    · rw [q]; exact ⟨_, tI, fun v q => nomatch q⟩
    · rw [q]; exact ⟨_, tO, fun v q => nomatch q⟩
    · rw [q]; exact ⟨o1, e1, fun v q => by rw [k1] at q; cases q⟩
    · rw [q]; exact ⟨o2, e2, fun v q => by rw [k2] at q; cases q⟩
    · rw [q]; exact ⟨o3, e3, fun v q => by rw [k3] at q; cases q⟩
  keep := fun i h h' st k => by
    obtain ⟨zz, tI, ⟨x, y, u, tO⟩, h1, h2, h3⟩ := st
    exact ⟨k z (by simp) _ zz, k TI (by simp) _ tI, ⟨x, y, u, k TO (by simp) _ tO⟩, h1.at fun o q => k i1 (by simp) o q, h2.at fun o q => k i2 (by simp) o q, h3.at fun o q => k i3 (by simp) o q⟩
  item := by
    intro X eP ew eK hc i pins s σ H E I hf st gg
    subst eP ew eK
    obtain ⟨zz, tI, tO, h1, h2, h3⟩ := st
    obtain ⟨xs, ys, zs, x, y, u, hqx, hqy, hqz, hx, hy, hu⟩ := gg
    obtain ⟨ix, rx, p1, _⟩ := I.list hqx
    obtain ⟨iy, ry, p2, _⟩ := I.list hqy
    obtain ⟨iz, rz, p3, _⟩ := I.list hqz
    obtain ⟨vx, hvx, rvx⟩ := rx.get hx
    obtain ⟨vy, hvy, rvy⟩ := ry.get hy
    obtain ⟨vz, hvz, rvz⟩ := rz.get hu
    have hh : X.A.in1.handled = none := I.ok.hd hc
    have ne1 : a ≠ i1 := iter_ne p1.isList h1
    have ne2 : b ≠ i2 := iter_ne p2.isList h2
    have ne3 : c ≠ i3 := iter_ne p3.isList h3
    have W := GoesN.zip3 (prog := X.prog) (w := X.w) (A := X.A) (elts := elts) (x1 := kk) (pos := tpos) D (Draws.list hh i1 a ne1 ix.toArray) (Draws.list hh i2 b ne2 iy.toArray) (Draws.list hh i3 c ne3 iz.toArray)
    have l1 : i < ix.length := (List.getElem?_eq_some_iff.mp hvx).1
    have l2 : i < iy.length := (List.getElem?_eq_some_iff.mp hvy).1
    have l3 : i < iz.length := (List.getElem?_eq_some_iff.mp hvz).1
    refine wpAny_mono (W.goes i s (fun v s2 => ∃ x H', Inv X pins σ H' s2 ∧ RelV x v ∧ (Itz3 X.K a b c).yld i H x H' ∧ (IsZip s2.heap z TI TO .none ∧ IsTupOf3 s2.heap TI (.ref i1) (.ref i2) (.ref i3) ∧ (∃ x y u, IsTupOf3 s2.heap TO x y u) ∧ s2.heap.IsListIter i1 a (i + 1) ∧ s2.heap.IsListIter i2 b (i + 1) ∧ s2.heap.IsListIter i3 c (i + 1)) ∧ ∀ b ∈ [z, TI, TO, i1, i2, i3], H' b = none) E
      (by simp only [List.size_toArray]; omega) ⟨zz, tI, tO, ⟨h1, p1.isList⟩, ⟨h2, p2.isList⟩, h3, p3.isList⟩ fun v h' tk hY st' hk htk => ?_) (fun r s1 q => q) fun _ _ q => q
    obtain ⟨T, v1, v2, v3, rfl, hT, e1, e2, e3, hTup⟩ := hY
    obtain ⟨zz', tI', tO', ⟨h1', _⟩, ⟨h2', _⟩, h3', _⟩ := st'
    have f1 : v1 = vx := by have e1' : ix[i]? = some v1 := by simpa using e1
                            rw [e1'] at hvx; exact Option.some.inj hvx
    have f2 : v2 = vy := by have e1' : iy[i]? = some v2 := by simpa using e2
                            rw [e1'] at hvy; exact Option.some.inj hvy
    have f3 : v3 = vz := by have e1' : iz[i]? = some v3 := by simpa using e3
                            rw [e1'] at hvz; exact Option.some.inj hvz
    subst f1 f2 f3
    have new : ObjOk X.prog X.w (upd H T (.tup [x, y, u])) h' T (.tup [x, y, u]) := ⟨by show 3 ≤ sizeLine; decide, [v1, v2, v3], .cons rvx (.cons rvy (.cons rvz .nil)), hTup⟩
    have I1 : Inv X pins σ (upd H T (.tup [x, y, u])) { s with heap := h', toks := tk } :=
      I.turnedNew (ch := [z, TI, TO, i1, i2, i3]) (fun q o hb e => hk q o (fun hm => hb (by simp only [List.mem_cons, List.not_mem_nil, or_false] at hm ⊢; rcases hm with e | e | e | e | e <;> simp [e])) e) hf hT new
    refine ⟨.ref T, _, I1, rfl, ⟨T, x, y, u, rfl, I.hok.fresh hT, rfl, fun l hl => by rw [I.list_inj hl hqx]; exact hx, fun l hl => by rw [I.list_inj hl hqy]; exact hy, fun l hl => by rw [I.list_inj hl hqz]; exact hu⟩, ⟨zz', tI', tO', h1', h2', h3'⟩, fun q hq => ?_⟩
    have hlt : q < s.heap.objs.size := by
      have e' : q = z ∨ q = TI ∨ q = TO ∨ q = i1 ∨ q = i2 ∨ q = i3 := by simpa using hq
      rcases e' with q | q | q | q | q | q
      · rw [q]; exact Heap.lt_size zz
      · rw [q]; exact Heap.lt_size tI
      · rw [q]; obtain ⟨_, _, _, e⟩ := tO; exact Heap.lt_size e
      · rw [q]; obtain ⟨_, e, _⟩ := h1; exact Heap.lt_size e
      · rw [q]; obtain ⟨_, e, _⟩ := h2; exact Heap.lt_size e
      · rw [q]; obtain ⟨_, e, _⟩ := h3; exact Heap.lt_size e
    rw [upd_ne (Nat.ne_of_lt (Nat.lt_of_lt_of_le hlt hT))]
    exact (hf q hq).1
  done := by
    intro X eP ew eK hc i pins s σ H E I hf st gg
    subst eP ew eK
    obtain ⟨zz, tI, tO, h1, h2, h3⟩ := st
    obtain ⟨xs, ys, zs, hqx, hqy, hqz, hi⟩ := gg
    obtain ⟨ix, rx, p1, _⟩ := I.list hqx
    obtain ⟨iy, ry, p2, _⟩ := I.list hqy
    obtain ⟨iz, rz, p3, _⟩ := I.list hqz
    have hh : X.A.in1.handled = none := I.ok.hd hc
    have ne1 : a ≠ i1 := iter_ne p1.isList h1
    have ne2 : b ≠ i2 := iter_ne p2.isList h2
    have ne3 : c ≠ i3 := iter_ne p3.isList h3
    have W := GoesN.zip3 (prog := X.prog) (w := X.w) (A := X.A) (elts := elts) (x1 := kk) (pos := tpos) D (Draws.list hh i1 a ne1 ix.toArray) (Draws.list hh i2 b ne2 iy.toArray) (Draws.list hh i3 c ne3 iz.toArray)
    have e : i = min (min ix.toArray.size iy.toArray.size) iz.toArray.size := by
      rw [List.size_toArray, List.size_toArray, List.size_toArray, ← rx.length, ← ry.length, ← rz.length]
      exact hi.symm
    subst e
    refine W.stops s _ E ⟨zz, tI, tO, ⟨h1, p1.isList⟩, ⟨h2, p2.isList⟩, h3, p3.isList⟩ fun h' tk hk htk => ?_
    exact I.turnedL (ch := [z, TI, TO, i1, i2, i3]) (fun q o hb e => hk q o (fun hm => hb (by simp only [List.mem_cons, List.not_mem_nil, or_false] at hm ⊢; rcases hm with e | e | e | e | e <;> simp [e])) e) hf
  self := fun _ _ _ _ _ st h => wpAny_pyIter_zip st.1 h
def iZip3 (K : PySem.W.Frag) (ta : TA) : TI := fun σ H R => ta σ H fun vs H1 => ∃ a b c xs ys zs, vs = [.ref a, .ref b, .ref c] ∧ SqL K H1 a xs ∧ SqL K H1 b ys ∧ SqL K H1 c zs ∧ R (Itz3 K a b c) H1
theorem pi_zip3 {X : Cx} {e e2 e3 : Expr} {ta : TA} {p pos tpos : Pos} {elts : List Expr} {kk : Nat} (hg : Gl X "zip") (hm : X.mg "zip" = none) (ha : PA X [e, e2, e3] ta)
    (hs : starEach [e, e2, e3] X.env = (false, eval e X.env) :: starEach [e2, e3] X.env := by rfl) (hpl : (backTo pos (starEach [e2, e3] X.env)).any (·.1) = false := by rfl) :
    PI X (.Tuple elts kk tpos) (.Call (.Name "zip" p) [e, e2, e3] [] pos) (iZip3 X.K ta) := by
  refine ⟨fun pins s σ H R I h => Call_ (ld_blt I hg hm PyProof.Rows.boot_zip (PyProof.Rows.callWith_type1 (thn (ha.run pos pins s σ H _ I h) fun us s1 ⟨vs, H1, I1, r1, q1⟩ => ?_) hs hpl))⟩
  obtain ⟨a, b, c, xs, ys, zs, rfl, hqx, hqy, hqz, q⟩ := q1
  cases r1 with
  | cons r rr =>
    cases rr with
    | cons r' rr =>
      cases rr with
      | cons r'' rr =>
        cases rr
        cases r
        cases r'
        cases r''
        obtain ⟨ix, rx, p1, _⟩ := I1.list hqx
        obtain ⟨iy, ry, p2, _⟩ := I1.list hqy
        obtain ⟨iz, rz, p3, _⟩ := I1.list hqz
        obtain ⟨la, lb, lc⟩ : a < s1.heap.objs.size ∧ b < s1.heap.objs.size ∧ c < s1.heap.objs.size := ⟨p1.lt, p2.lt, p3.lt⟩
        refine zip_begins3 (begins_list a ix.toArray) (begins_list b iy.toArray) (begins_list c iz.toArray) p1.isList p2.isList p3.isList fun h' hz hTI hTO h1 h2 h3 hsz hk => wpAny_pyIter_zip hz ?_
        have J2 : Inv X pins σ H1 { s1 with heap := h' } := I1.kept (t' := s1.toks) hk
        refine ⟨s1.heap.objs.size + 5, [s1.heap.objs.size + 5, s1.heap.objs.size + 3, s1.heap.objs.size + 4, s1.heap.objs.size, s1.heap.objs.size + 1, s1.heap.objs.size + 2], _, _, H1, rfl, J2, turn_zip3 (a := a) (b := b) (c := c) ?_, ⟨hz, hTI, ⟨_, _, _, hTO⟩, ⟨_, h1, rfl, rfl⟩, ⟨_, h2, rfl, rfl⟩, ⟨_, h3, rfl, rfl⟩⟩, fun q hq => ?_, q⟩
        · exact sep3_at la lb lc
        · have hle : s1.heap.objs.size ≤ q := by
            have e' : q = s1.heap.objs.size + 5 ∨ q = s1.heap.objs.size + 3 ∨ q = s1.heap.objs.size + 4 ∨ q = s1.heap.objs.size ∨ q = s1.heap.objs.size + 1 ∨ q = s1.heap.objs.size + 2 := by simpa using hq
            rcases e' with z | z | z | z | z | z <;> rw [z] <;> first | exact Nat.le_add_right _ _ | exact Nat.le_refl _
          exact I1.fpOk hle (I1.hok.fresh hle)
section
variable {X : Cx} {C : HC} {G : Env} {a b c e tg : Expr} {Ts Us Vs : List Ty} {pos p tpos : Pos} {kk : Nat} {elts : List Expr}
theorem yld_new3 {H' : Hp} {M : Addr → Bool} {K : PySem.W.Frag} {q : Addr} {xs : List V} (tr : ∀ a, M a = true → ∃ o, H' a = some o) (n : H' q = none) (h : TyAll (hid M H') xs Ts) : Ex H' (upd H' q (.tup xs)) ∧ (tTup K Ts).P (hid M (upd H' q (.tup xs))) (.ref q) := yld_new tr n h
theorem pix_zip3 (hm : X.mg "zip" = none) (ha : PX X C G a (tLst Ts)) (hb : PX X C G b (tLst Us)) (hc : PX X C G c (tLst Vs)) (hg : Gl X "zip" := by rfl) (hs : starEach [a, b, c] X.env = (false, eval a X.env) :: starEach [b, c] X.env := by rfl) (hs2 : starEach [b, c] X.env = (false, eval b X.env) :: starEach [c] X.env := by rfl) (hs3 : starEach [c] X.env = (false, eval c X.env) :: starEach [] X.env := by rfl)
    (hpl : (backTo pos (starEach [b, c] X.env)).any (·.1) = false := by rfl) :
    PIX X C G (.Tuple elts kk tpos) (.Call (.Name "zip" p) [a, b, c] [] pos) ((Ts.zip (Us.zip Vs)).map fun z => tTup X.K [z.1, z.2.1, z.2.2]) :=
  PI.imp (pi_zip3 hg hm (pxs_cons ha (pxs_cons hb (pxs_cons hc pxs_nil hs3) hs2) hs) hs hpl) fun σ H R ⟨ok, q⟩ => ⟨ok, fun vs H1 x1 e1 p1 => by
    cases p1 with
    | cons p1 t =>
      cases t with
      | cons p2 t =>
        cases t with
        | cons p3 t =>
          cases t
          obtain ⟨a, xs, rfl, h2, h3⟩ := p1
          obtain ⟨b, ys, rfl, h4, h5⟩ := p2
          obtain ⟨c, zs, rfl, h6, h7⟩ := p3
          refine ⟨a, b, c, xs, ys, zs, rfl, sqL_of_hid h2, sqL_of_hid h4, sqL_of_hid h6, q _ H1 x1 e1 fun M H' e tr i => ?_⟩
          have sL : SqL X.K H' a xs := sqL_of_hid (e _ _ h2)
          have sM : SqL X.K H' b ys := sqL_of_hid (e _ _ h4)
          have sN : SqL X.K H' c zs := sqL_of_hid (e _ _ h6)
          refine ⟨fun U hU => ?_, fun hl => ⟨xs, ys, zs, sL, sM, sN, by rw [List.length_map, List.length_zip, List.length_zip] at hl; rw [h3.length, h5.length, h7.length]; omega⟩⟩
          obtain ⟨T1, T23, hT1, hT23, rfl⟩ := getElem?_zipMap hU
          obtain ⟨hT2, hT3⟩ := List.getElem?_zip_eq_some.mp hT23
          obtain ⟨v, e2, e3⟩ := h3.get hT1
          obtain ⟨w, e4, e5⟩ := h5.get hT2
          obtain ⟨u, e6, e7⟩ := h7.get hT3
          refine ⟨⟨xs, ys, zs, v, w, u, sL, sM, sN, e2, e4, e6⟩, fun x H'' y => ?_⟩
          obtain ⟨q, v', w', u', rfl, n, rfl, f1, f2, f3⟩ := y
          have z1 := f1 xs sL
          have z2 := f2 ys sM
          have z3 := f3 zs sN
          rw [e2] at z1
          rw [e4] at z2
          rw [e6] at z3
          cases z1
          cases z2
          cases z3
          exact yld_new tr n (.cons (T1.mono e e3) (.cons (T23.1.mono e e5) (.cons (T23.2.mono e e7) .nil)))⟩
end
def IteT (K : PySem.W.Frag) (a : Addr) : It :=
  ⟨fun i H => ∃ (xs : List V) (x : V), SqT K H a xs ∧ xs[i]? = some x, fun i H v H' => ∃ T x, v = .ref T ∧ H T = none ∧ H' = upd H T (.tup [.int (i : Nat), x]) ∧ ∀ xs, SqT K H a xs → xs[i]? = some x, fun i H => ∃ xs : List V, SqT K H a xs ∧ xs.length = i⟩
theorem turn_enumT {P : Program} {w : World} {K : PySem.W.Frag} {elts : List Expr} {kk : Nat} {tpos : Pos} (a e it : Addr) (hea : e ≠ a) :
    Turn P w K (.Tuple elts kk tpos) (IteT K a) [e, it] e (fun i h => (∃ ol, IsEnum h e it (0 + ((i : Nat) : Int)) ol) ∧ h.IsTupleIter it a i ∧ e ≠ it) where
  mem := by simp
  obj := fun i h st b hb => by
    obtain ⟨⟨ol, ee⟩, ⟨o, ho, hc, dd⟩, _⟩ := st
    have e' : b = e ∨ b = it := by simpa using hb
    rcases e' with zq | zq
    · rw [zq]; exact ⟨_, ee, fun v q => nomatch q⟩
    · rw [zq]; exact ⟨o, ho, fun v q => by rw [dd] at q; cases q⟩
  keep := fun i h h' st k => let ⟨⟨ol, ee⟩, hi, nn⟩ := st; ⟨⟨ol, k e (by simp) _ ee⟩, hi.at fun o q => k it (by simp) o q, nn⟩
  item := by
    intro X eP ew eK hc i pins s σ H E I hf st gg
    subst eP ew eK
    obtain ⟨ee, ii, nn⟩ := st
    obtain ⟨xs, x, hq, hx⟩ := gg
    obtain ⟨its, vr, p, hz⟩ := I.tuple hq
    obtain ⟨u, hu, ru⟩ := vr.get hx
    have hh : X.A.in1.handled = none := I.ok.hd hc
    have W := GoesN.enumFrom (prog := X.prog) (w := X.w) (A := X.A) (elts := elts) (x1 := kk) (pos := tpos) 0 (Draws.tuple hh it a (iter_neT p ii) its.toArray) e nn (by simp [nn, hea]) (by simp)
    have l1 : i < its.length := (List.getElem?_eq_some_iff.mp hu).1
    refine wpAny_mono (W.goes i s (fun v s2 => ∃ x H', Inv X pins σ H' s2 ∧ RelV x v ∧ (IteT X.K a).yld i H x H' ∧ ((∃ ol, IsEnum s2.heap e it (0 + ((i + 1 : Nat) : Int)) ol) ∧ s2.heap.IsTupleIter it a (i + 1) ∧ e ≠ it) ∧ ∀ b ∈ [e, it], H' b = none) E
      (by simp only [List.size_toArray]; exact l1) ⟨ee, ii, p⟩ fun v h' tk hY st' hk htk => ?_) (fun r s1 q => q) fun _ _ q => q
    obtain ⟨T, t, v1, rfl, hT, e1, hTup⟩ := hY
    obtain ⟨ee', ii', _⟩ := st'
    have f1 : v1 = u := by have e1' : its[i]? = some v1 := by simpa using e1
                           rw [e1'] at hu; exact Option.some.inj hu
    subst f1
    have hTup' : h'.IsTuple T #[.int ((i : Nat) : Int) t, v1] := by rw [Int.zero_add] at hTup; exact hTup
    have new : ObjOk X.prog X.w (upd H T (.tup [.int (i : Nat), x])) h' T (.tup [.int (i : Nat), x]) := ⟨by show 2 ≤ sizeLine; decide, [.int ((i : Nat) : Int) t, v1], .cons ⟨_, rfl⟩ (.cons ru .nil), hTup'⟩
    have I1 : Inv X pins σ (upd H T (.tup [.int (i : Nat), x])) { s with heap := h', toks := tk } := I.turnedNew (ch := [e, it]) hk hf hT new
    refine ⟨.ref T, _, I1, rfl, ⟨T, x, rfl, I.hok.fresh hT, rfl, fun l hl => by rw [I.tuple_inj hl hq]; exact hx⟩, ⟨ee', ii', nn⟩, fun b hb => ?_⟩
    have hlt : b < s.heap.objs.size := by
      have e' : b = e ∨ b = it := by simpa using hb
      rcases e' with zq | zq
      · rw [zq]; obtain ⟨_, e⟩ := ee; exact Heap.lt_size e
      · rw [zq]; obtain ⟨_, e, _⟩ := ii; exact Heap.lt_size e
    rw [upd_ne (Nat.ne_of_lt (Nat.lt_of_lt_of_le hlt hT))]
    exact (hf b hb).1
  done := by
    intro X eP ew eK hc i pins s σ H E I hf st gg
    subst eP ew eK
    obtain ⟨ee, ii, nn⟩ := st
    obtain ⟨xs, hq, hi⟩ := gg
    obtain ⟨its, vr, p, hz⟩ := I.tuple hq
    have hh : X.A.in1.handled = none := I.ok.hd hc
    have W := GoesN.enumFrom (prog := X.prog) (w := X.w) (A := X.A) (elts := elts) (x1 := kk) (pos := tpos) 0 (Draws.tuple hh it a (iter_neT p ii) its.toArray) e nn (by simp [nn, hea]) (by simp)
    have e2 : i = its.toArray.size := by rw [List.size_toArray, ← vr.length]; exact hi.symm
    subst e2
    refine W.stops s _ E ⟨ee, ii, p⟩ fun h' tk hk htk => ?_
    exact I.turnedL (ch := [e, it]) hk hf
  self := fun _ _ _ _ _ st h => wpAny_pyIter_enum st.1.choose_spec h
theorem meets_enum1B {v : Value} {o : Obj} {H : Heap → Prop} (B : Begins v o H) :
    Meets (Builtin.«enumerate.__new__» ⟨[.type "enumerate", v], []⟩) (fun _ R s => H s.heap ∧
      R (.ok (.ret (.ref (s.heap.push o).objs.size))) { s with heap := (s.heap.push o).push { cls := .type "enumerate", data := .fields #[.none, .bool false, .ref s.heap.objs.size, rawInt 0, .none, .none] } }) :=
  .of_wp fun prog w A R s h => by
    obtain ⟨he, gs, d, tk, os⟩ := s
    obtain ⟨h1, h⟩ := h
    have hsub := sub_enumerate
    have it1 : ∀ {A' : Around} {E : Value → Shared → Prop} {Q : Value → Shared → Prop}, Q (.ref he.objs.size) ⟨he.push o, gs, d, tk, os⟩ → wpAny (model prog w) A' (pyIter v) Q E ⟨he, gs, d, tk, os⟩ :=
      fun q => B.iter prog w _ _ ⟨he, gs, d, tk, os⟩ _ h1 q
    wp_walk using it1
    refine wpAny_stack_any fun st => wpAny_pure ?_
    split
    · rename_i c _ _ _ _ _
      cases (c == Value.type "enumerate")
      · wp_walk using it1
        exact ⟨_, rfl, h⟩
      · wp_walk using it1
        exact ⟨_, rfl, h⟩
    · wp_walk using it1
      exact ⟨_, rfl, h⟩
theorem enum1_begins {prog : Program} {w : World} {A : Around} {E : Value → Shared → Prop} {s : Shared} {v : Value} {o : Obj} {H : Heap → Prop} {Q : Value → Shared → Prop} (B : Begins v o H) (h1 : H s.heap)
    (h : ∀ h', IsEnum h' (s.heap.objs.size + 1) s.heap.objs.size 0 .none → h'.get? s.heap.objs.size = some o → h'.objs.size = s.heap.objs.size + 2 →
      (∀ a o, s.heap.get? a = some o → h'.get? a = some o) → Q (.ref (s.heap.objs.size + 1)) { s with heap := h' }) :
    wpAny (model prog w) A (call (.type "enumerate") [v]) Q E s := by
  refine callType_new F.called_enumerate (by decide) (F.typeCall_enumerate_1 _) (F.newCall_enumerate_1 _) (fun obj => F.args_object_init_2 obj _) F.entry_enumerate_new (meets_enum1B B) ⟨h1, ?_⟩
  have sz1 : (s.heap.push o).objs.size = s.heap.objs.size + 1 := Heap.size_push ..
  show _ ∧ _
  rw [sz1]
  have ee : IsEnum ((s.heap.push o).push { cls := .type "enumerate", data := .fields #[.none, .bool false, .ref s.heap.objs.size, rawInt 0, .none, .none] }) (s.heap.objs.size + 1) s.heap.objs.size 0 .none := by
    have := Heap.get?_push_size (s.heap.push o) (o := { cls := .type "enumerate", data := .fields #[.none, .bool false, .ref s.heap.objs.size, rawInt 0, .none, .none] }) rfl
    rw [sz1] at this; exact this
  refine ⟨⟨_, ee, rfl⟩, h _ ee (Heap.get?_push_of_some _ (Heap.get?_push_size _ B.free)) (by rw [Heap.size_push, sz1]) fun a o x => Heap.get?_push_of_some _ (Heap.get?_push_of_some _ x)⟩
def iEnumT (K : PySem.W.Frag) (ta : TA) : TI := fun σ H R => ta σ H fun vs H1 => ∃ a xs, vs = [.ref a] ∧ SqT K H1 a xs ∧ R (IteT K a) H1
theorem pi_enumT {X : Cx} {e : Expr} {ta : TA} {p pos tpos : Pos} {elts : List Expr} {kk : Nat} (hg : Gl X "enumerate") (hm : X.mg "enumerate" = none) (ha : PA X [e] ta) (hs : starEach [e] X.env = [(false, eval e X.env)] := by rfl) :
    PI X (.Tuple elts kk tpos) (.Call (.Name "enumerate" p) [e] [] pos) (iEnumT X.K ta) := by
  refine ⟨fun pins s σ H R I h => Call_ (ld_blt I hg hm boot_enumerate (PyProof.Rows.callWith_type1 (thn (ha.run pos pins s σ H _ I h) fun us s1 ⟨vs, H1, I1, r1, q1⟩ => ?_) hs rfl))⟩
  obtain ⟨a, xs, rfl, hq, q⟩ := q1
  cases r1 with
  | cons r rr =>
    cases rr
    cases r
    obtain ⟨its, vr, p', hz⟩ := I1.tuple hq
    have la : a < s1.heap.objs.size := by obtain ⟨_, e, _⟩ := p'; exact Heap.lt_size e
    refine enum1_begins (begins_tuple a its.toArray) p' fun h' he hit hsz hk => wpAny_pyIter_enum he ?_
    have J2 : Inv X pins σ H1 { s1 with heap := h' } := I1.kept (t' := s1.toks) hk
    refine ⟨s1.heap.objs.size + 1, [s1.heap.objs.size + 1, s1.heap.objs.size], _, _, H1, rfl, J2, turn_enumT a (s1.heap.objs.size + 1) s1.heap.objs.size (Nat.ne_of_gt (Nat.lt_succ_of_lt la)), ⟨⟨.none, he⟩, ⟨_, hit, rfl, rfl⟩, Nat.succ_ne_self _⟩, fun b hb => ?_, q⟩
    have bb : b = s1.heap.objs.size + 1 ∨ b = s1.heap.objs.size := by simpa using hb
    have le1 : s1.heap.objs.size ≤ b := by
      rcases bb with z | z
      · rw [z]; exact Nat.le_add_right _ _
      · rw [z]; exact Nat.le_refl _
    exact I1.fpOk le1 (I1.hok.fresh le1)
section
variable {X : Cx} {C : HC} {G : Env} {a b c e tg : Expr} {Ts Us Vs : List Ty} {pos p p1 tpos : Pos} {kk i : Nat} {elts : List Expr}
theorem pix_enumT (hm : X.mg "enumerate" = none) (h : PX X C G e (tTup X.K Ts)) (hg : Gl X "enumerate" := by rfl) (hs : starEach [e] X.env = [(false, eval e X.env)] := by rfl) (hs2 : starEach [e] X.env = (false, eval e X.env) :: starEach [] X.env := by rfl) :
    PIX X C G (.Tuple elts kk tpos) (.Call (.Name "enumerate" p) [e] [] pos) (Ts.zipIdx.map fun z => tTup X.K [tI ((z.2 : Nat) : Int), z.1]) :=
  PI.imp (pi_enumT hg hm (pxs_cons h pxs_nil hs2) hs) fun σ H R ⟨ok, q⟩ => ⟨ok, fun vs H1 x1 e1 p1 => by
    cases p1 with
    | cons p1 t =>
      cases t
      obtain ⟨a, xs, rfl, h2, h3⟩ := p1
      refine ⟨a, xs, rfl, sqT_ex hid_le h2, q _ H1 x1 e1 fun M H' e tr i => ?_⟩
      have sL : SqT X.K H' a xs := sqT_ex hid_le (sqT_ex e h2)
      refine ⟨fun U hU => ?_, fun hl => ⟨xs, sL, by rw [List.length_map, List.length_zipIdx] at hl; rw [h3.length]; omega⟩⟩
      rw [List.getElem?_map, List.getElem?_zipIdx] at hU
      cases hT : Ts[i]? with
      | none => rw [hT] at hU; cases hU
      | some T =>
        rw [hT] at hU
        have hU' : tTup X.K [tI ((0 + i : Nat) : Int), T] = U := Option.some.inj hU
        rw [Nat.zero_add] at hU'
        subst hU'
        obtain ⟨v, e2, e3⟩ := h3.get hT
        refine ⟨⟨xs, v, sL, e2⟩, fun x H'' y => ?_⟩
        obtain ⟨q, w, rfl, n, rfl, f⟩ := y
        have := f xs sL
        rw [e2] at this
        cases this
        exact yld_new tr n (.cons rfl (.cons (T.mono e e3) .nil))⟩
/-- enumerate(x), x a name that holds a list or a tuple -/
theorem PIX.seq {es : Expr} {Ys : List Ty} (h1 : ∀ G', G'[i]? = some (some (tLst Ts)) → G' = G.set i (some (tLst Ts)) → PIX X C G' tg es Ys) (h2 : ∀ G', G'[i]? = some (some (tTup X.K Ts)) → G' = G.set i (some (tTup X.K Ts)) → PIX X C G' tg es Ys) (h : G[i]? = some (some (tSeq X.K Ts))) : PIX X C G tg es Ys := by
  have hi : i < G.length := (List.getElem?_eq_some_iff.mp h).1
  refine ⟨fun pins s σ H R I ⟨ok, q⟩ => ?_⟩
  obtain ⟨v, e, p⟩ := ok.var h
  have hl : i < σ.length := (List.getElem?_eq_some_iff.mp e).1
  have e2 : σ.set i (some v) = σ := by
    apply List.ext_getElem?
    intro k
    by_cases hk : i = k
    · subst hk; rw [List.getElem?_set_self hl, e]
    · rw [List.getElem?_set_ne hk]
  have back : ∀ {H2 : Hp} {T : Ty}, EnvOk C (G.set i (some T)) σ H2 → Ex (hid C.M H) (hid C.M H2) → EnvOk C G σ H2 := fun x e3 => ⟨x.base, ok.env.imp fun _ _ h => h.mono e3⟩
  rcases p with p | p
  · have ok2 := ok.set (i := i) (T := tLst Ts) p
    rw [e2] at ok2
    exact (h1 _ (List.getElem?_set_self hi) rfl).run pins s σ H R I ⟨ok2, fun J H2 x2 e3 y => q J H2 (back x2 e3) e3 y⟩
  · have ok2 := ok.set (i := i) (T := tTup X.K Ts) p
    rw [e2] at ok2
    exact (h2 _ (List.getElem?_set_self hi) rfl).run pins s σ H R I ⟨ok2, fun J H2 x2 e3 y => q J H2 (back x2 e3) e3 y⟩
end
end Nb
end -- NbL
section -- NbU
set_option maxHeartbeats 1000000
namespace Nb
open PySem PySem.Spec PyProof.Rows L2
def DefAt (K : PySem.W.Frag) (x qual : Str) (st : Stmt) (f : Addr) : Prop := ∃ fd, FunD K x qual (defArgs st) (defBody st) (defScope st) [] [] f fd
structure TabT (K : PySem.W.Frag) (mg : Str → Option Value) (Cl : Addr) : Prop where
  glo : mg "Table" = some (.ref Cl)
  cls : Cls K Cl
  mki : ∃ f, Mk K Cl f ∧ DefAt K "__init__" "Table.__init__" (mem 60 0) f
  n1 : NoAttr K Cl "own_width"
  n2 : NoAttr K Cl "own_rounds"
  n3 : NoAttr K Cl "own_cells"
  p1 : ∃ p g, PropOf K Cl "width" p g ∧ DefAt K "width" "Table.width" (mem 60 1) g
  p2 : ∃ p g, PropOf K Cl "rounds" p g ∧ DefAt K "rounds" "Table.rounds" (mem 60 2) g
  p3 : ∃ p g, PropOf K Cl "cells" p g ∧ DefAt K "cells" "Table.cells" (mem 60 3) g
  ln : ∃ g, Meth K Cl "__len__" g ∧ DefAt K "__len__" "Table.__len__" (mem 60 5) g
structure PlanT (K : PySem.W.Frag) (mg : Str → Option Value) (Cl : Addr) : Prop where
  glo : mg "Plan" = some (.ref Cl)
  cls : Cls K Cl
  mki : ∃ f, Mk K Cl f ∧ DefAt K "__init__" "Plan.__init__" (mem 67 0) f
  n1 : NoAttr K Cl "held_width"
  n2 : NoAttr K Cl "held_rounds"
  n3 : NoAttr K Cl "held_shares"
  n4 : NoAttr K Cl "held_places"
  p1 : ∃ p g, PropOf K Cl "width" p g ∧ DefAt K "width" "Plan.width" (mem 67 1) g
  p2 : ∃ p g, PropOf K Cl "rounds" p g ∧ DefAt K "rounds" "Plan.rounds" (mem 67 2) g
  p3 : ∃ p g, PropOf K Cl "shares" p g ∧ DefAt K "shares" "Plan.shares" (mem 67 3) g
  c1 : PySem.W.findIn K (.ref Cl) "__class__" = some (some (.builtin "object.__class__"))
  c2 : PySem.W.specialIn K (.builtin "object.__class__") "__get__" = some (some (.builtin "getset_descriptor.__get__"))
  c3 : PySem.W.takesIn K (.builtin "object.__class__") = some true
  c4 : PySem.W.mroIn K Cl (.type "object") = some true
  isi : PySem.W.kitOne K (.ref Cl) (.ref Cl) = some true
  eq : ∃ g, PySem.W.findIn K (.ref Cl) "__eq__" = some (some (.ref g)) ∧ PySem.W.isFn K (.ref g) = true ∧ DefAt K "__eq__" "Plan.__eq__" (mem 67 7) g
section
variable {K : PySem.W.Frag} {mg : Str → Option Value} {base : Heap} {P : Program} {w : World}
theorem DefAt.binds {x qual : Str} {st : Stmt} {f : Addr} {fd : FuncData} {ps : List Str} (F : FunD K x qual (defArgs st) (defBody st) (defScope st) [] [] f fd)
    (hbind : ∀ (kV doc pm : Value) (an : Option Addr) (cdv ct : Value) (us : List Value), us.length = ps.length → bindArgs (PySem.W.fnOf x qual (defArgs st) (defBody st) (defScope st) .none kV doc pm an cdv ct) ⟨us, []⟩ = pure (ps.zip us)) : Binds K fd ps [] := F.bindsN hbind
/-- a property by its getter's body -/
theorem prop_ok {α : Type} {args : α → List Ty} {pre : α → Prop} {res : α → Ty} {f x qual : Str} {st : Stmt} {Cl : Addr} {N : List Str} {k : Nat} (c : Cls K Cl) (D : ∃ p g, PropOf K Cl f p g ∧ DefAt K x qual st g) (S : FnScope N ["self"] (defScope st)) (hl : ∀ z, (args z).length = 1)
    (hbind : ∀ (kV doc pm : Value) (an : Option Addr) (cdv ct : Value) (us : List Value), us.length = 1 → bindArgs (PySem.W.fnOf x qual (defArgs st) (defBody st) (defScope st) .none kV doc pm an cdv ct) ⟨us, []⟩ = pure (([("self" : Str)] : List Str).zip us))
    (hb : ∀ (f : Addr) (cdv : Value) (A : Around) (outer : List PySem.Env) (s : Shared) (H : Hp) (E : XK) (C0 C : HC) (z : α), Room k (A.deeper (envOfC qual (defScope st) s.heap.objs.size f cdv)) → Ext0 C0 C → pre z →
      PB (cxOf CX0 P w K mg base N qual (defScope st) f cdv A outer s H E).nox C (startG N.length (args z)) (defBody st) (fun _ H' => RtOf C0 (res z) .non H') (RtOf C0 (res z))) :
    PropOk P w K mg base (k + 1) Cl f (Pur args pre res) := by
  obtain ⟨p, g, h1, fd, F⟩ := D
  exact ⟨c, p, g, fd, h1, F.bindsN hbind, pur_ok F S hl fun cdv A outer s H E C0 C z hr hx hp => hb g cdv A outer s H E C0 C z hr hx hp⟩
/-- __len__ by its body -/
theorem len_of {α : Type} {args : α → List Ty} {pre : α → Prop} {res : α → Ty} {x qual : Str} {st : Stmt} {Cl : Addr} {N : List Str} {k : Nat} (D : ∃ g, Meth K Cl "__len__" g ∧ DefAt K x qual st g) (S : FnScope N ["self"] (defScope st)) (hl : ∀ z, (args z).length = 1)
    (hbind : ∀ (kV doc pm : Value) (an : Option Addr) (cdv ct : Value) (us : List Value), us.length = 1 → bindArgs (PySem.W.fnOf x qual (defArgs st) (defBody st) (defScope st) .none kV doc pm an cdv ct) ⟨us, []⟩ = pure (([("self" : Str)] : List Str).zip us))
    (hb : ∀ (f : Addr) (cdv : Value) (A : Around) (outer : List PySem.Env) (s : Shared) (H : Hp) (E : XK) (C0 C : HC) (z : α), Room k (A.deeper (envOfC qual (defScope st) s.heap.objs.size f cdv)) → Ext0 C0 C → pre z →
      PB (cxOf CX0 P w K mg base N qual (defScope st) f cdv A outer s H E).nox C (startG N.length (args z)) (defBody st) (fun _ H' => RtOf C0 (res z) .non H') (RtOf C0 (res z))) :
    LenOk P w K mg base (k + 1) Cl (Pur args pre res) := by
  obtain ⟨g, h1, fd, F⟩ := D
  exact ⟨g, fd, h1, F.bindsN hbind, pur_ok F S hl fun cdv A outer s H E C0 C z hr hx hp => hb g cdv A outer s H E C0 C z hr hx hp⟩
/-- a class by its __init__'s body -/
theorem mk_of {α : Type} {args : α → List Ty} {pre : α → Prop} {fields : α → Fs} {x qual cn : Str} {st : Stmt} {Cl : Addr} {N ps : List Str} {k : Nat} (hg : mg cn = some (.ref Cl)) (D : ∃ f, Mk K Cl f ∧ DefAt K x qual st f) (S : FnScope N (("self" : Str) :: ps) (defScope st)) (hl : ∀ z, (args z).length = ps.length)
    (hbind : ∀ (kV doc pm : Value) (an : Option Addr) (cdv ct : Value) (us : List Value), us.length = (("self" : Str) :: ps).length → bindArgs (PySem.W.fnOf x qual (defArgs st) (defBody st) (defScope st) .none kV doc pm an cdv ct) ⟨us, []⟩ = pure ((("self" : Str) :: ps).zip us))
    (hb : ∀ (f : Addr) (cdv : Value) (A : Around) (outer : List PySem.Env) (s : Shared) (H : Hp) (E : XK) (C0 : HC) (o dx : Addr) (z : α), Room k (A.deeper (envOfC qual (defScope st) s.heap.objs.size f cdv)) → o ≠ dx → pre z →
      PB (cxOf CX0 P w K mg base N qual (defScope st) f cdv A outer s H E).nox (C0.inst o dx Cl []) (startG N.length (tR o :: args z)) (defBody st) (fun σ H' => ∃ G, EnvOk (C0.inst o dx Cl (fields z)) G σ H') (fun _ _ => False)) :
    MkOk P w K mg base (k + 1) cn Cl (("self" : Str) :: ps) (InitSp Cl args pre fun z => tIns Cl (fields z)) := by
  obtain ⟨f, h1, fd, F⟩ := D
  exact ⟨f, fd, hg, h1, F.bindsN hbind, init_ok (cn := cn) F S hl fun cdv A outer s H E C0 o dx z hr hx hp => hb f cdv A outer s H E C0 o dx z hr hx hp⟩
end
end Nb
end -- NbU
section -- NbM
set_option maxHeartbeats 1000000
namespace Nb
open PySem PySem.Spec PyProof.Rows L2
/-- values of the type T are the data d -/
def Dat (K : PySem.W.Frag) (T : Ty) (d : PyData) : Prop := ∀ H v, T.P H v → Dp K H v d
def DatAll (K : PySem.W.Frag) (Ts : List Ty) (ds : List PyData) : Prop := All2 (fun T d => Dat K T d) Ts ds
variable {K : PySem.W.Frag}
theorem datI {i : Int} : Dat K (tI i) (.int i) := fun H v h => by rw [show v = V.int i from h]; exact .int i
theorem datS {i : Str} : Dat K (tS i) (.str i) := fun H v h => by rw [show v = V.str i from h]; exact .str i
theorem datAll {Ts : List Ty} {ds : List PyData} {H : Hp} {vs : List V} (h : DatAll K Ts ds) (hv : TyAll H vs Ts) : DpAll K H vs ds := by
  induction h generalizing vs with
  | nil => cases hv; exact .nil
  | cons h t ih => cases hv with
    | cons a b => exact .cons (h _ _ a) (ih b)
theorem datT {Ts : List Ty} {ds : List PyData} (h : DatAll K Ts ds) : Dat K (tTup K Ts) (.tuple ds) := fun H v ⟨a, xs, e, h2, h3⟩ => by
  subst e
  exact .tup h2 (datAll h h3)
theorem datL {Ts : List Ty} {ds : List PyData} (h : DatAll K Ts ds) : Dat K (tLst Ts) (.list ds) := fun H v ⟨a, xs, e, h2, h3⟩ => by
  subst e
  exact .lst (SqL.of h2) (datAll h h3)
theorem datQ {q : Rat} : Dat K (tQ K q) (.tuple [.int q.num, .int (q.den : Int)]) := datT (.cons datI (.cons datI .nil))
theorem datMap {α : Type} {f : α → Ty} {g : α → PyData} (h : ∀ a, Dat K (f a) (g a)) : ∀ l : List α, DatAll K (l.map f) (l.map g)
  | [] => .nil
  | a :: l => .cons (h a) (datMap h l)
section
variable {X : Cx} {C : HC} {G : Env} {a b c e : Expr} {es : List Expr} {T U W : Ty} {Ts Us : List Ty} {pos p p2 pos2 tpos : Pos} {d d2 : PyData} {k : Nat} {x : Bool}
theorem r2_eqD (h1 : Dat X.K T d) (h2 : Dat X.K U d2) (s1 : SeqAt.shaped d = true) (s2 : SeqAt.shaped d2 = true) : R2Ok C (rEqD X.K) T U (tB (PyData.eqv d d2)) := fun H v u Q bs p q r => ⟨d, d2, h1 _ _ (T.mono hid_le p), h2 _ _ (U.mono hid_le q), s1, s2, r _ H (Ex.refl H) rfl⟩
theorem r2_neD (h1 : Dat X.K T d) (h2 : Dat X.K U d2) (s1 : SeqAt.shaped d = true) (s2 : SeqAt.shaped d2 = true) : R2Ok C (rNeD X.K) T U (tB (!PyData.eqv d d2)) := fun H v u Q bs p q r => ⟨d, d2, h1 _ _ (T.mono hid_le p), h2 _ _ (U.mono hid_le q), s1, s2, r _ H (Ex.refl H) rfl⟩
theorem px_eqD (hr : Room k X.A) (h1 : Dat X.K T d) (h2 : Dat X.K U d2) (s1 : SeqAt.shaped d = true) (s2 : SeqAt.shaped d2 = true) (ha : PX X C G a T) (hb : PX X C G b U) : PX X C G (.Compare a [.Eq] [b] pos) (tB (PyData.eqv d d2)) := px_cmp (op_eqD hr.units) (r2_eqD h1 h2 s1 s2) ha hb (nomark _)
theorem pxt_neD (hr : Room k X.A) (h1 : Dat X.K T d) (h2 : Dat X.K U d2) (s1 : SeqAt.shaped d = true) (s2 : SeqAt.shaped d2 = true) (ha : PX X C G a T) (hb : PX X C G b U) : PXt X C G (.Compare a [.NotEq] [b] pos) (!PyData.eqv d d2) := pxt_cmpR (op_neD hr.units) (r2_neD h1 h2 s1 s2) ha hb (nomark _)
theorem eqv_pair {a b c d : Int} : PyData.eqv (.tuple [.int a, .int b]) (.tuple [.int c, .int d]) = decide (a = c ∧ b = d) := by
  show ((a == c) && ((b == d) && true)) = _
  rw [Bool.and_true]
  by_cases h1 : a = c <;> by_cases h2 : b = d <;> simp [h1, h2]
theorem shaped_pair {a b : Int} : SeqAt.shaped (.tuple [.int a, .int b]) = true := by simp [SeqAt.shaped, PyData.canLay0, PyData.canLayAll0, PyData.depth, PyData.depthAll]
theorem px_isC {Cl Cq : Addr} {fs : Fs} {x : Str} {r : Bool} (cl : Cls X.K Cl) (ha : PySem.W.findIn X.K (.ref Cl) "__class__" = some (some (.builtin "object.__class__")))
    (hn : PySem.W.specialIn X.K (.builtin "object.__class__") "__get__" = some (some (.builtin "getset_descriptor.__get__"))) (htk : PySem.W.takesIn X.K (.builtin "object.__class__") = some true)
    (hmr : PySem.W.mroIn X.K Cl (.type "object") = some true) (hk : PySem.W.kitOne X.K (.ref Cl) (.ref Cq) = some r) (hm : X.mg "isinstance" = none) (hm2 : X.mg x = some (.ref Cq)) (he : PX X C G e (tIns Cl fs)) (hg : Gl X "isinstance" := by rfl) (hg2 : Gl X x := by rfl) (hdb : (x == ("__debug__" : Str)) = false := by decide)
    (h1 : starEach [e, .Name x p2] X.env = (false, eval e X.env) :: starEach [.Name x p2] X.env := by rfl) (h2 : starEach [.Name x p2] X.env = (false, eval (.Name x p2) X.env) :: starEach [] X.env := by rfl) (hpl : (backTo pos (starEach [.Name x p2] X.env)).any (·.1) = false := by rfl) :
    PX X C G (.Call (.Name "isinstance" p) [e, .Name x p2] [] pos) (tB r) :=
  px_callB call_isi (Ts := [tIns Cl fs, tR Cq]) (fun H vs Q bs h q => by
    cases h with
    | cons ha' t =>
      cases t with
      | cons hb t =>
        cases t
        obtain ⟨o, dx, us, rfl, h4, h5⟩ := ha'
        exact ⟨_, .ref Cq, .ref Cl, .ref Cq, r, by rw [show _ = V.ref Cq from hb], .own Cq, .base (.ins (hid_le _ _ h4) cl ha hn htk hmr), hk, q _ H (Ex.refl H) rfl⟩) hm boot_isinstance (pxs_cons he (pxs_cons (px_glob hm2 rfl hg2 hdb) pxs_nil h2) h1) hg (he := h1) (hpl := hpl)
end
/-- a dict with text keys: those with m -/
def tDic (m : Str → Bool) : Ty := ⟨fun H v => ∃ a kvs, v = .ref a ∧ H a = some (.dK kvs) ∧ ∀ s : Str, (valV kvs (.inr s)).isSome = m s, fun e ⟨a, kvs, h1, h2, h3⟩ => ⟨a, kvs, h1, e _ _ h2, h3⟩⟩
/-- an own dict -/
def HC.ownD (C : HC) (o : Addr) (n : Nat) (m : Str → Bool) : HC where
  H0 := C.H0
  M := fun a => a == o || C.M a
  S := C.S
  Om := fun H D => C.Om H D ∧ C.M o = false ∧ C.H0 o = none ∧ ∃ kvs, H o = some (.dK kvs) ∧ kvs.length ≤ n ∧ ∀ s : Str, (valV kvs (.inr s)).isSome = m s
  om := fun e d ⟨h1, h2, h3, xs, h4, h5⟩ => ⟨C.om e d h1, h2, h3, xs, e _ _ h4, h5⟩
  loc := fun {p H H' D} m' k ⟨h1, h2, h3, xs, h4, h5⟩ => by
    have m1 : (p == o || C.M p) = false := m'
    rw [Bool.or_eq_false_iff] at m1
    have ne : o ≠ p := fun z => by subst z; simp at m1
    exact ⟨C.loc m1.2 k h1, h2, h3, xs, by rw [k o ne]; exact h4, h5⟩
  sm := fun a s => by show (a == o || C.M a) = true; rw [C.sm a s, Bool.or_true]
section
variable {C : HC} {o : Addr} {n : Nat} {m m' : Str → Bool} {H : Hp} {G : Env} {σ : St}
theorem ownD_M {a : Addr} (h : C.M a = true) : (C.ownD o n m).M a = true := by show (a == o || C.M a) = true; rw [h, Bool.or_true]
theorem ownD_le : Ex (hid (C.ownD o n m).M H) (hid C.M H) := hid_less fun _ h => ownD_M h
theorem EnvOk.of_ownD (x : EnvOk (C.ownD o n m) G σ H) : EnvOk C G σ H := ⟨⟨x.base.old, fun a h => x.base.hidd a (ownD_M h), C.om (Ex.refl H) ownD_le x.base.om.1⟩, x.env.imp fun _ _ h => h.mono ownD_le⟩
theorem mkownD_le {u : HO} (ho : H o = none) : Ex (hid C.M H) (hid (C.ownD o n m).M (upd H o u)) := fun a u q => by
  obtain ⟨m', q'⟩ := hid_some q
  have ne : a ≠ o := ne_of_none q' ho
  refine hid_of ?_ (Ex.new ho _ _ q')
  show (a == o || C.M a) = false
  rw [m', Bool.or_false]
  exact beq_eq_false_iff_ne.mpr ne
theorem EnvOk.mkownD (x : EnvOk C G σ H) (ho : H o = none) : EnvOk (C.ownD o 0 fun _ => false) G σ (upd H o (.dK [])) := by
  have e : Ex H (upd H o (.dK [])) := Ex.new ho
  have le : Ex (hid C.M H) (hid (C.ownD o 0 fun _ => false).M (upd H o (.dK []))) := mkownD_le ho
  refine ⟨⟨fun a u s q => e a u (x.base.old a u s q), fun a m => ?_, C.om e le x.base.om, x.base.fresh ho, x.base.h0 ho, [], upd_same, Nat.le_refl _, fun s => rfl⟩, x.env.imp fun _ _ h => h.mono le⟩
  by_cases h : a = o
  · subst h; exact ⟨_, upd_same⟩
  · have m' : C.M a = true := by
      have : (a == o || C.M a) = true := m
      rw [beq_eq_false_iff_ne.mpr h, Bool.false_or] at this
      exact this
    obtain ⟨u, hu⟩ := x.base.hidd a m'
    exact ⟨u, e _ _ hu⟩
theorem wrownD_le {n' : Nat} {u : HO} : Ex (hid (C.ownD o n m).M H) (hid (C.ownD o n' m').M (upd H o u)) := fun a w q => by
  obtain ⟨z, q'⟩ := hid_some q
  have ne : a ≠ o := fun e => by
    subst e
    have : (a == a || C.M a) = false := z
    simp at this
  exact hid_of z (by rw [upd_ne ne]; exact q')
theorem EnvOk.wrownD {kvs : List (Key × V)} {n' : Nat} (x : EnvOk (C.ownD o n m) G σ H) (hl : kvs.length ≤ n') (hm : ∀ s : Str, (valV kvs (.inr s)).isSome = m' s) : EnvOk (C.ownD o n' m') G σ (upd H o (.dK kvs)) := by
  obtain ⟨h1, h2, h3, ys, h4, h5⟩ := x.base.om
  have k : ∀ a, a ≠ o → upd H o (.dK kvs) a = H a := fun a h => upd_ne h
  have le : Ex (hid (C.ownD o n m).M H) (hid (C.ownD o n' m').M (upd H o (.dK kvs))) := wrownD_le
  refine ⟨⟨fun a u s q => ?_, fun a z => ?_, C.om (Ex.refl _) le (C.loc h2 k h1), h2, h3, kvs, upd_same, hl, hm⟩, x.env.imp fun _ _ h => h.mono le⟩
  · have ne : a ≠ o := fun z => by
      subst z
      have q' : C.H0 a = some u := q
      rw [h3] at q'; cases q'
    rw [k a ne]
    exact x.base.old a u s q
  · by_cases h : a = o
    · subst h; exact ⟨_, upd_same⟩
    · rw [k a h]
      exact x.base.hidd a z
end
section
variable {X : Cx} {C : HC} {G : Env} {a b e tg iter kx vx : Expr} {scope : Scope} {own : List (Str × Nat)} {pos : Pos} {α : Type} {l : List α} {tA : α → Ty} {ky : α → Str} {E : α → Ty} {Gt : α → Env} {js : List Nat}
theorem dc_ok {vs : List Nat} {σ : St} {H : Hp} {Q : VK} (hj : ∀ k ∈ js, k ∈ vs) (hl : l.length ≤ 100000) (h : tX C G (tDic fun s => decide (s ∈ l.map ky)) σ H Q) :
    tDc (tIX C G (l.map tA)) (fun v σ H Q => ∃ z : Addr × Nat × (Str → Bool) × α, (z.2.2.2 ∈ l ∧ C.M z.1 = false) ∧ tGX (C.ownD z.1 z.2.1 z.2.2.1) (wipeG G vs) (tA z.2.2.2) (Gt z.2.2.2) js v σ H Q)
      (fun σ H Q => ∃ z : Addr × Nat × (Str → Bool) × α, tXt (C.ownD z.1 z.2.1 z.2.2.1) (Gt z.2.2.2) true σ H Q)
      (fun σ H Q => ∃ z : Addr × Nat × (Str → Bool) × α, (z.2.2.2 ∈ l ∧ C.M z.1 = false) ∧ tX (C.ownD z.1 z.2.1 z.2.2.1) (Gt z.2.2.2) (tS (ky z.2.2.2)) σ H Q)
      (fun σ H Q => ∃ z : Addr × Nat × (Str → Bool) × α, (z.2.2.2 ∈ l ∧ C.M z.1 = false) ∧ tX (C.ownD z.1 z.2.1 z.2.2.1) (Gt z.2.2.2) (E z.2.2.2) σ H Q) vs σ H Q := by
  obtain ⟨ok, q⟩ := h
  refine ⟨ok, fun J H1 x1 e1 y1 D hD => ?_⟩
  have mD := x1.base.fresh hD
  refine ⟨fun i m H' => m + i = l.length ∧ EnvOk (C.ownD D i fun s => decide (s ∈ (l.take i).map ky)) G σ H' ∧ Ex (hid C.M H1) (hid (C.ownD D 0 fun _ => false).M H'), ⟨l.length, rfl, ?_, mkownD_le hD⟩, ?_⟩
  · rw [List.take_zero]
    have := x1.mkownD hD
    refine ⟨⟨this.base.old, this.base.hidd, ?_⟩, this.env⟩
    obtain ⟨h1, h2, h3, ys, h4, h5, h6⟩ := this.base.om
    exact ⟨h1, h2, h3, ys, h4, h5, fun s => (h6 s).trans (by simp)⟩
  rintro i m H' ⟨hm, x2, e2⟩
  obtain ⟨y2, y3⟩ := y1 (C.ownD D 0 fun _ => false).M H' e2 (fun a h => x2.base.hidd a h) i
  by_cases hi : i < l.length
  · have ha : l[i]? = some l[i] := List.getElem?_eq_getElem hi
    have hmem : l[i] ∈ l := List.getElem_mem hi
    obtain ⟨go, yl⟩ := y2 (tA l[i]) (by rw [List.getElem?_map, ha]; rfl)
    have tk : l.take (i + 1) = l.take i ++ [l[i]] := by rw [List.take_add_one, ha]; rfl
    refine .inr ⟨go, fun H2 => EnvOk (C.ownD D (i + 1) fun s => decide (s ∈ (l.take (i + 1)).map ky)) G σ H2 ∧ Ex (hid C.M H1) (hid (C.ownD D 0 fun _ => false).M H2), fun H2 ⟨x3, e3⟩ => ⟨m - 1, by omega, by omega, x3, e3⟩, fun v H2 hy => ?_⟩
    obtain ⟨e3, p3⟩ := yl v H2 hy
    have x3 := x2.ex e3
    refine ⟨(D, i, (fun s => decide (s ∈ (l.take i).map ky)), l[i]), ⟨hmem, mD⟩, x3.wipe vs, p3, fun σ2 x4 f4 => ⟨wipe_fix f4 hj, (D, i, (fun s => decide (s ∈ (l.take i).map ky)), l[i]), x4, fun H3 x5 e5 => ?_⟩⟩
    refine ⟨(D, i, (fun s => decide (s ∈ (l.take i).map ky)), l[i]), ⟨hmem, mD⟩, x5, fun y H4 x6 e6 p6 => ⟨(D, i, (fun s => decide (s ∈ (l.take i).map ky)), l[i]), ⟨hmem, mD⟩, x6, fun z H5 x7 e7 p7 => ?_⟩⟩
    obtain ⟨_, _, _, kvs, h4, h5, h6⟩ := id x7.base.om
    have back : EnvOk (C.ownD D i fun s => decide (s ∈ (l.take i).map ky)) G σ H5 := ⟨x7.base, x3.env.imp fun _ _ h => h.mono ((e5.trans e6).trans e7)⟩
    have hk : y = .str (ky l[i]) := p6
    have hi2 : i < l.length := hi
    refine ⟨kvs, .inr (ky l[i]), hk, h4, Nat.lt_of_le_of_lt (Nat.le_trans h5 (Nat.le_trans (Nat.le_of_lt hi2) hl)) (by decide), back.wrownD (Nat.le_trans (length_putK kvs _ z) (Nat.succ_le_succ h5)) (fun s => ?_), ?_⟩
    · rw [valV_put]
      show _ = decide (s ∈ (l.take (i + 1)).map ky)
      rw [tk, List.map_append]
      by_cases hs : s = ky l[i]
      · subst hs
        rw [if_pos rfl]
        simp
      · rw [if_neg (fun e => hs (Sum.inr.inj e)), h6 s]
        show decide (s ∈ (l.take i).map ky) = decide _
        refine decide_eq_decide.mpr ?_
        simp [hs]
    · exact (e2.trans (hid_mono e3)).trans (((e5.trans e6).trans e7).trans (wrownD_le (n := 0) (m := fun _ => false)))
  · have hl' : i = l.length := by omega
    refine .inl ⟨y3 (by rw [List.length_map]; exact hl'.symm), ?_⟩
    subst hl'
    rw [List.take_length] at x2
    obtain ⟨_, m', _, kvs, h4, _, h6⟩ := id x2.base.om
    exact q _ H' x2.of_ownD ((e1.trans e2).trans ownD_le) ⟨D, kvs, rfl, hid_of m' h4, h6⟩
/-- {k: v for .. in ..} -/
theorem px_dc (hc : X.calm = true) (hN : X.N.Nodup) (hi : PIX X C G tg iter (l.map tA)) (ok : BlkOk X.N X.env.scope scope own) (hj : ∀ k ∈ js, k ∈ own.map (·.2)) (hl : l.length ≤ 100000)
    (hg : ∀ s H D cl fp d n m a, PGX (bk X s H scope D cl fp) (C.ownD d n m) (wipeG G (own.map (·.2))) tg (tA a) (Gt a) js)
    (hk : ∀ s H D cl fp d n m a, a ∈ l → C.M d = false → PX (bk X s H scope D cl fp) (C.ownD d n m) (Gt a) kx (tS (ky a)))
    (he : ∀ s H D cl fp d n m a, a ∈ l → C.M d = false → PX (bk X s H scope D cl fp) (C.ownD d n m) (Gt a) vx (E a)) (hs : ∀ x, foldedSetIterable iter X.env x = pure x := by intro _; rfl) :
    PX X C G (.DictComp kx vx [⟨tg, iter, [], 0⟩] scope pos) (tDic fun s => decide (s ∈ l.map ky)) :=
  PE.imp (pe_dc hc hN hi ok (fun s H D cl fp => PG_ex fun z : Addr × Nat × (Str → Bool) × α => PG_when fun h => hg s H D cl fp z.1 z.2.1 z.2.2.1 z.2.2.2) (fun s H D cl fp => PTs_ex fun z : Addr × Nat × (Str → Bool) × α => pts_yes)
    (fun s H D cl fp => PE_ex fun z : Addr × Nat × (Str → Bool) × α => pe_when fun h => hk s H D cl fp z.1 z.2.1 z.2.2.1 z.2.2.2 h.1 h.2) (fun s H D cl fp => PE_ex fun z : Addr × Nat × (Str → Bool) × α => pe_when fun h => he s H D cl fp z.1 z.2.1 z.2.2.1 z.2.2.2 h.1 h.2) hs) fun σ H Q h => dc_ok hj hl h
/-- s in d -/
theorem pxt_inD {k : Nat} {m : Str → Bool} {s : Str} {o i : Expr} (hr : Room k X.A) (hi : PX X C G i (tS s)) (ho : PX X C G o (tDic m)) (hm : behindInMarks .In o = false := by rfl) : PXt X C G (.Compare i [.In] [o] pos) (m s) :=
  PT.imp (pt_cmp (pc_din (by have := hr.un; omega) hi ho) hm) fun σ H Q ⟨ok, q⟩ => ⟨ok, fun y H1 x1 e1 p1 => ⟨x1, fun v H2 x2 e2 ⟨a, kvs, h1, h2, h3⟩ => by
    refine ⟨a, valV kvs (.inr s), h1, .inl ⟨kvs, .inr s, .inl (hid_le _ _ h2), p1, rfl⟩, _, rfl, ?_⟩
    rw [h3]
    exact q H2 x2 (e1.trans e2)⟩⟩
end
end Nb
end -- NbM
section -- B1
set_option maxHeartbeats 1000000
namespace Nb
open PySem PySem.Spec PyProof.Rows L2
/-- a table's fields -/
def tabF (K : PySem.W.Frag) (w r : Nat) (cells : List Rat) : Fs := [("own_width", tI (w : Nat)), ("own_rounds", tI (r : Nat)), ("own_cells", tLst (cells.map (tQ K)))]
abbrev tTab (K : PySem.W.Frag) (Cl : Addr) (w r : Nat) (cells : List Rat) : Ty := tIns Cl (tabF K w r cells)
section
variable {K : PySem.W.Frag} {mg : Str → Option Value} {base : Heap} {P : Program} {w : World} {Cl : Addr}
theorem sc60_0 : FnScope ["self", "width", "rounds", "cells", "due", "cell"] ["self", "width", "rounds", "cells"] (defScope (mem 60 0)) := ⟨rfl, rfl, rfl, by decide +kernel, rfl, by decide +kernel, by decide +kernel⟩
theorem sc60_1 : FnScope ["self"] ["self"] (defScope (mem 60 1)) := ⟨rfl, rfl, rfl, by decide +kernel, rfl, by decide +kernel, by decide +kernel⟩
theorem sc60_2 : FnScope ["self"] ["self"] (defScope (mem 60 2)) := ⟨rfl, rfl, rfl, by decide +kernel, rfl, by decide +kernel, by decide +kernel⟩
theorem sc60_3 : FnScope ["self"] ["self"] (defScope (mem 60 3)) := ⟨rfl, rfl, rfl, by decide +kernel, rfl, by decide +kernel, by decide +kernel⟩
theorem sc60_5 : FnScope ["self"] ["self"] (defScope (mem 60 5)) := ⟨rfl, rfl, rfl, by decide +kernel, rfl, by decide +kernel, by decide +kernel⟩
theorem mk_tab (T : Txt K mg) (B : TabT K mg Cl) : MkOk P w K mg base 4 "Table" Cl ["self", "width", "rounds", "cells"] (InitSp Cl (fun z : Nat × Nat × List Rat => [tI (z.1 : Nat), tI (z.2.1 : Nat), tLst (z.2.2.map (tQ K))]) (fun z => Hasw z.1 z.2.1 ∧ z.2.2.length = z.1 ^ z.2.1 ∧ ∀ q ∈ z.2.2, Sz q) (fun z => tTab K Cl z.1 z.2.1 z.2.2)) := by
  refine mk_of (fields := fun z : Nat × Nat × List Rat => tabF K z.1 z.2.1 z.2.2) B.glo B.mki sc60_0 (fun _ => rfl) (fun _ _ _ _ _ _ us hl => match us, hl with | [_, _, _, _], _ => rfl) fun f cdv A outer s H E C0 o dx z hr hne hp => ?_
  obtain ⟨w', r, l⟩ := z
  obtain ⟨hw, hl, hz⟩ := hp
  replace hl : l.length = w' ^ r := hl
  replace hz : ∀ q ∈ l, Sz q := hz
  have hpow := hasw_pow hw
  replace hpow : w' ^ r ≤ 256 := hpow
  show PB _ (C0.inst o dx Cl []) [some (tR o), some (tI (w' : Nat)), some (tI (r : Nat)), some (tLst (l.map (tQ K))), none, none] _ _ _
  refine pb_expr (px_call (ok_shape T) (w', r) rfl hr (pxs_cons (va 1 rfl) (pxs_cons (va 2 rfl) pxs_nil)) hw) ?_
  refine plet sc60_0.nd 4 (px_call (ok_count T) (w', r) rfl hr (pxs_cons (va 1 rfl) (pxs_cons (va 2 rfl) pxs_nil)) ⟨hw.1, by have := hw.r8; show r ≤ 1000; have h8 : r ≤ 8 := this; omega, by show w' ^ r ≤ 1000; omega⟩) ?_
  refine pb_guard (pxt_ne (px_lenL T.f_len (va 3 rfl)) (va 4 rfl)) (fun h => ?_) fun _ => ?_
  · rw [List.length_map, hl] at h
    simp at h
  · refine pb_fld B.cls B.n1 hne 0 rfl (va 1 rfl) ?_
    refine pb_fld B.cls B.n2 hne 0 rfl (va 2 rfl) ?_
    refine pb_fld B.cls B.n3 hne 0 rfl (px_lcN (j := 5) (own := [("cell", 5)]) (l := l) (tA := tQ K) (E := tQ K) rfl sc60_0.nd (pix_list (va 3 rfl)) (blkOk_by (by kernel_rfl)) (by decide) (by omega) (fun s H D cl fp d Vs a => nm sc60_0.nd 5)
      (fun s H D cl fp d Vs a ha hd => px_call (ok_fraction T) _ rfl hr (pxs_cons ((va 5 rfl).num (hz a ha)) pxs_nil) trivial)) ?_
    exact pb_nil fun σ H h => ⟨_, h⟩
abbrev spTab (K : PySem.W.Frag) (Cl : Addr) (res : Nat × Nat × List Rat → Ty) : Sp := Pur (fun z : Nat × Nat × List Rat => [tTab K Cl z.1 z.2.1 z.2.2]) (fun _ => True) res
theorem tab_width (T : Txt K mg) (B : TabT K mg Cl) : PropOk P w K mg base 1 Cl "width" (spTab K Cl fun z => tI (z.1 : Nat)) := by
  refine prop_ok B.cls B.p1 sc60_1 (fun _ => rfl) (fun _ _ _ _ _ _ us hl => match us, hl with | [_], _ => rfl) fun f cdv A outer s H E C0 C z hr x hp => ?_
  show PB _ C [some (tTab K Cl z.1 z.2.1 z.2.2)] _ _ _
  exact pb_retP x (px_fld (va 0 rfl) B.cls B.n1 rfl)
theorem tab_rounds (T : Txt K mg) (B : TabT K mg Cl) : PropOk P w K mg base 1 Cl "rounds" (spTab K Cl fun z => tI (z.2.1 : Nat)) := by
  refine prop_ok B.cls B.p2 sc60_2 (fun _ => rfl) (fun _ _ _ _ _ _ us hl => match us, hl with | [_], _ => rfl) fun f cdv A outer s H E C0 C z hr x hp => ?_
  show PB _ C [some (tTab K Cl z.1 z.2.1 z.2.2)] _ _ _
  exact pb_retP x (px_fld (va 0 rfl) B.cls B.n2 rfl)
theorem tab_cells (T : Txt K mg) (B : TabT K mg Cl) : PropOk P w K mg base 1 Cl "cells" (spTab K Cl fun z => tLst (z.2.2.map (tQ K))) := by
  refine prop_ok B.cls B.p3 sc60_3 (fun _ => rfl) (fun _ _ _ _ _ _ us hl => match us, hl with | [_], _ => rfl) fun f cdv A outer s H E C0 C z hr x hp => ?_
  show PB _ C [some (tTab K Cl z.1 z.2.1 z.2.2)] _ _ _
  exact pb_retP x (px_listOf T.f_list boot_list (px_fld (va 0 rfl) B.cls B.n3 rfl).seqL)
theorem tab_len (T : Txt K mg) (B : TabT K mg Cl) : LenOk P w K mg base 1 Cl (spTab K Cl fun z => tI (z.2.2.length : Nat)) := by
  refine len_of B.ln sc60_5 (fun _ => rfl) (fun _ _ _ _ _ _ us hl => match us, hl with | [_], _ => rfl) fun f cdv A outer s H E C0 C z hr x hp => ?_
  show PB _ C [some (tTab K Cl z.1 z.2.1 z.2.2)] _ _ _
  exact pb_retP x ((px_lenL T.f_len (px_fld (va 0 rfl) B.cls B.n3 rfl)).cast (by rw [List.length_map]))
end
end Nb
end -- B1
section -- B2
set_option maxHeartbeats 1000000
namespace Nb
open PySem PySem.Spec PyProof.Rows L2
def TySub (T U : Ty) : Prop := ∀ H v, T.P H v → U.P H v
theorem TySub.refl (T : Ty) : TySub T T := fun _ _ h => h
theorem TySub.trans {T U W : Ty} (a : TySub T U) (b : TySub U W) : TySub T W := fun H v h => b H v (a H v h)
theorem tyAll_sub {H : Hp} {vs : List V} {Ts Us : List Ty} (s : All2 TySub Ts Us) (h : TyAll H vs Ts) : TyAll H vs Us := by
  induction s generalizing vs with
  | nil => exact h
  | cons a _ ih => cases h with
    | cons p t => exact .cons (a _ _ p) (ih t)
theorem sub_lst {Ts Us : List Ty} (s : All2 TySub Ts Us) : TySub (tLst Ts) (tLst Us) := fun H v ⟨a, xs, h1, h2, h3⟩ => ⟨a, xs, h1, h2, tyAll_sub s h3⟩
theorem sub_tup {K : PySem.W.Frag} {Ts Us : List Ty} (s : All2 TySub Ts Us) : TySub (tTup K Ts) (tTup K Us) := fun H v ⟨a, xs, h1, h2, h3⟩ => ⟨a, xs, h1, h2, tyAll_sub s h3⟩
theorem sub_seqL {K : PySem.W.Frag} {Ts Us : List Ty} (s : All2 TySub Ts Us) : TySub (tLst Ts) (tSeq K Us) := fun H v h => .inl (sub_lst s H v h)
theorem sub_seqT {K : PySem.W.Frag} {Ts Us : List Ty} (s : All2 TySub Ts Us) : TySub (tTup K Ts) (tSeq K Us) := fun H v h => .inr (sub_tup s H v h)
theorem sub_map {α : Type} {f g : α → Ty} : ∀ {l : List α}, (∀ a ∈ l, TySub (f a) (g a)) → All2 TySub (l.map f) (l.map g)
  | [], _ => .nil
  | a :: l, h => .cons (h a List.mem_cons_self) (sub_map fun b hb => h b (List.mem_cons_of_mem _ hb))
theorem sub_num {K : PySem.W.Frag} {q : Rat} (s : Sz q) : TySub (tQ K q) (tNum K q) := fun H v h => .inr ⟨q.num, q.den, h, den_pos' q, s.1, by simpa using s.2, (Rat.num_divInt_den q).symm⟩
def SzL (l : List Rat) : Prop := (∀ v ∈ l, Sz v) ∧ ∀ i, Sz (qsum (l.take i))
structure Shr (w : Nat) (l : List Rat) : Prop where
  len : l.length = w
  pos : ∀ q ∈ l, 0 ≤ q
  one : qsum l = 1
  sz : SzL l
structure Shrs (w n : Nat) (shs : List (List Rat)) : Prop where
  len : shs.length = n
  all : ∀ l ∈ shs, Shr w l
abbrev tSh (K : PySem.W.Frag) (l : List Rat) : Ty := tTup K (l.map (tQ K))
def planF (K : PySem.W.Frag) (w r : Nat) (shs : List (List Rat)) : Fs := [("held_width", tI (w : Nat)), ("held_rounds", tI (r : Nat)), ("held_shares", tTup K (shs.map (tSh K))), ("held_places", tAny)]
abbrev tPlan (K : PySem.W.Frag) (Cl : Addr) (w r : Nat) (shs : List (List Rat)) : Ty := tIns Cl (planF K w r shs)
/-- shares as they are handed -/
abbrev tShs (K : PySem.W.Frag) (shs : List (List Rat)) : Ty := tLst (shs.map fun l => tSeq K (l.map (tNum K)))
section
variable {K : PySem.W.Frag} {mg : Str → Option Value} {base : Heap} {P : Program} {w : World} {Cl : Addr}
theorem sc63 : FnScope ["found", "due"] ["found", "due"] (defScope (top 63)) := ⟨rfl, rfl, rfl, by decide +kernel, rfl, by decide +kernel, by decide +kernel⟩
theorem ok_size (T : Txt K mg) : Ok P w K mg base 1 "check_size" ["found", "due"] (Pur (fun z : Int => [tI z, tI z]) (fun _ => True) (fun z => tN)) := by
  refine T.d_check_size.ok sc63 (fun _ => rfl) (fun _ _ _ _ _ _ us hl => match us, hl with | [_, _], _ => rfl) fun f cdv A outer s H E C0 C z hr x hp => ?_
  show PB _ C [some (tI z), some (tI z)] _ _ _
  refine pb_guard (pxt_ne (va 0 rfl) (va 1 rfl)) (fun h => by simp at h) fun _ => pb_nil fun σ H h => RtOf.of x h.base rfl
theorem sc64 : FnScope ["width", "share", "part"] ["width", "share"] (defScope (top 64)) := ⟨rfl, rfl, rfl, by decide +kernel, rfl, by decide +kernel, by decide +kernel⟩
theorem ok_share_parts (T : Txt K mg) : Ok P w K mg base 4 "share_parts" ["width", "share"] (Pur (fun l : List Rat => [tI (l.length : Nat), tSeq K (l.map (tNum K))]) (fun l => l.length ≤ 1000) (fun l => tSh K l)) := by
  refine T.d_share_parts.ok sc64 (fun _ => rfl) (fun _ _ _ _ _ _ us hl => match us, hl with | [_, _], _ => rfl) fun f cdv A outer s H E C0 C l hr x hp => ?_
  replace hp : l.length ≤ 1000 := hp
  show PB _ C [some (tI (l.length : Nat)), some (tSeq K (l.map (tNum K))), none] _ _ _
  refine pb_expr (px_call (ok_size T) ((l.length : Nat) : Int) rfl hr (pxs_cons ((px_lenQ T.f_len (va 1 rfl)).cast (by rw [List.length_map])) (pxs_cons (va 0 rfl) pxs_nil)) trivial) ?_
  exact pb_retP x (px_tupleOf T.f_tuple boot_tuple (px_lcN (j := 2) (own := [("part", 2)]) (l := l) (tA := tNum K) (E := tQ K) rfl sc64.nd (psq 1 rfl) (blkOk_by (by kernel_rfl)) (by decide) (by omega) (fun s H D cl fp d Vs a => nm sc64.nd 2)
      (fun s H D cl fp d Vs a ha hd => px_call (ok_fraction T) _ rfl hr (pxs_cons (va 2 rfl) pxs_nil) trivial)).seqL)
theorem sc65 : FnScope ["parts", "part"] ["parts"] (defScope (top 65)) := ⟨rfl, rfl, rfl, by decide +kernel, rfl, by decide +kernel, by decide +kernel⟩
theorem num_nonneg {q : Rat} (h : 0 ≤ q) : 0 ≤ q.num := by
  rw [Rat.le_iff] at h
  simpa using h
theorem ok_is_sharing (T : Txt K mg) : Ok P w K mg base 5 "is_sharing" ["parts"] (Pur (fun l : List Rat => [tSh K l]) (fun l => Shr l.length l) (fun l => tB true)) := by
  refine T.d_is_sharing.ok sc65 (fun _ => rfl) (fun _ _ _ _ _ _ us hl => match us, hl with | [_], _ => rfl) fun f cdv A outer s H E C0 C l hr x hp => ?_
  replace hp : Shr l.length l := hp
  show PB _ C [some (tSh K l), none] _ _ _
  refine pb_forN (j := 1) (l := l) (tA := tQ K) PassesOwn.never rfl (pix_tup (va 0 rfl)) (fun _ => C) (fun i => [some (tSh K l), none]) sc65.nd rfl (.inl rfl) (fun _ => rfl) (fun _ _ h => h) (fun i a ha => ?_) ?_
  · refine pb_guard (pxt_lt (px_ixT (va 1 rfl) px_int rfl) px_int) (fun h => absurd (of_decide_eq_true h) ?_) fun h => pb_endI (gi_keep (gi_drop gi_nil))
    have := num_nonneg (hp.pos a (List.mem_of_getElem? ha))
    omega
  · refine pb_retP x ((px_eqD hr (T := tQ K (qsum l)) (U := tTup K ([1, 1].map tI)) datQ (datT (.cons datI (.cons datI .nil))) shaped_pair shaped_pair (px_call (ok_total T) l rfl hr (pxs_cons (va 0 rfl).seqT pxs_nil) hp.sz) (px_constT (is := [1, 1]) T.c_WHOLE_SHARE)).cast (congrArg tB ?_))
    rw [eqv_pair, hp.one]
    decide
theorem sc66 : FnScope ["width", "share", "at", "parts"] ["width", "share", "at"] (defScope (top 66)) := ⟨rfl, rfl, rfl, by decide +kernel, rfl, by decide +kernel, by decide +kernel⟩
theorem ok_sharing_at (T : Txt K mg) : Ok P w K mg base 6 "sharing_at" ["width", "share", "at"] (Pur (fun z : Nat × List Rat × Str => [tI (z.1 : Nat), tSeq K (z.2.1.map (tNum K)), tS z.2.2]) (fun z => z.1 ≤ 1000 ∧ Shr z.1 z.2.1) (fun z => tSh K z.2.1)) := by
  refine T.d_sharing_at.ok sc66 (fun _ => rfl) (fun _ _ _ _ _ _ us hl => match us, hl with | [_, _, _], _ => rfl) fun f cdv A outer s H E C0 C z hr x hp => ?_
  obtain ⟨w', l, t⟩ := z
  obtain ⟨hw, hp⟩ := hp
  replace hp : Shr w' l := hp
  have hl := hp.len
  subst hl
  show PB _ C [some (tI (l.length : Nat)), some (tSeq K (l.map (tNum K))), some (tS t), none] _ _ _
  refine plet sc66.nd 3 (px_call (ok_share_parts T) l rfl hr (pxs_cons (va 0 rfl) (pxs_cons (va 1 rfl) pxs_nil)) hw) ?_
  refine pb_guard (pxt_not (pxt_val (px_call (ok_is_sharing T) l rfl hr (pxs_cons (va 3 rfl) pxs_nil) hp))) (fun h => nomatch h) fun _ => pb_retP x (va 3 rfl)
theorem sc67_0 : FnScope ["self", "width", "rounds", "shares", "order", "parts", "share", "at"] ["self", "width", "rounds", "shares"] (defScope (mem 67 0)) := ⟨rfl, rfl, rfl, by decide +kernel, rfl, by decide +kernel, by decide +kernel⟩
theorem zip_fst {α β γ : Type} (f : α → γ) : ∀ {as : List α} {bs : List β}, as.length ≤ bs.length → (as.zip bs).map (fun z => f z.1) = as.map f
  | [], _, _ => by simp
  | a :: as, [], h => by simp at h
  | a :: as, b :: bs, h => by
    rw [List.zip_cons_cons, List.map_cons, List.map_cons, zip_fst f (by simpa using h)]
theorem mk_plan (T : Txt K mg) (B : PlanT K mg Cl) : MkOk P w K mg base 7 "Plan" Cl ["self", "width", "rounds", "shares"] (InitSp Cl (fun z : Nat × Nat × List (List Rat) => [tI (z.1 : Nat), tI (z.2.1 : Nat), tShs K z.2.2]) (fun z => Hasw z.1 z.2.1 ∧ Shrs z.1 (off z.1 z.2.1) z.2.2) (fun z => tPlan K Cl z.1 z.2.1 z.2.2)) := by
  refine mk_of (fields := fun z : Nat × Nat × List (List Rat) => planF K z.1 z.2.1 z.2.2) B.glo B.mki sc67_0 (fun _ => rfl) (fun _ _ _ _ _ _ us hl => match us, hl with | [_, _, _, _], _ => rfl) fun f cdv A outer s H E C0 o dx z hr hne hp => ?_
  obtain ⟨w', r, l⟩ := z
  obtain ⟨hw, hs⟩ := hp
  replace hw : Hasw w' r := hw
  replace hs : Shrs w' (off w' r) l := hs
  have w5 : w' ≤ 5 := hw.1.2
  have hoff : off w' r ≤ 511 := Nat.le_trans (off_le (Nat.le_succ r)) (hasw_off hw)
  have hlen := hs.len
  show PB _ (C0.inst o dx Cl []) [some (tR o), some (tI (w' : Nat)), some (tI (r : Nat)), some (tShs K l), none, none, none, none] _ _ _
  refine plet sc67_0.nd 4 (px_callN (ok_begs T) (r, w') rfl hr (pxs_cons (va 2 rfl) pxs_nil) (px_kw1 (va 1 rfl)) rfl hw) ?_
  refine pb_expr (px_call (ok_size T) ((off w' r : Nat) : Int) rfl hr (pxs_cons ((px_lenL T.f_len (va 3 rfl)).cast (by rw [List.length_map, hlen])) (pxs_cons ((px_lenL T.f_len (va 4 rfl)).cast (by rw [List.length_map, begs_len])) pxs_nil)) trivial) ?_
  have e1 : ((l.map fun l => tSeq K (l.map (tNum K))).zip ((begs w' (off w' r)).map tS)).map (fun z => tTup K [z.1, z.2]) = (l.zip (begs w' (off w' r))).map fun z => tTup K [tSeq K (z.1.map (tNum K)), tS z.2] := by
    rw [List.zip_map, List.map_map]
    rfl
  refine pb_let (set_lc (i := 5) (js := [6, 7]) (own := [("share", 6), ("at", 7)]) (l := l.zip (begs w' (off w' r))) (tA := fun z => tTup K [tSeq K (z.1.map (tNum K)), tS z.2]) (t := fun _ => true) (E := fun z => tSh K z.1) rfl sc67_0.nd rfl rfl (sw_true rfl rfl rfl (by decide +kernel))
    ((pix_zip T.f_zip (va 3 rfl) (va 4 rfl)).cast' e1) (blkOk_by (by kernel_rfl)) (by decide) (by rw [List.length_zip, begs_len]; omega) (fun s H D cl fp d Vs a => pgx_tup rfl (pgxs_cons (nm sc67_0.nd 6) (pgxs_cons (nm sc67_0.nd 7) pgxs_nil))) (fun s H D cl fp d Vs a ha hd => pts_yes)
    (fun s H D cl fp d Vs a ha hd _ => px_call (ok_sharing_at T) (w', a.1, a.2) rfl hr (pxs_cons (va 1 rfl) (pxs_cons (va 6 rfl) (pxs_cons (va 7 rfl) pxs_nil))) ⟨by show w' ≤ 1000; omega, hs.all _ (List.of_mem_zip ha).1⟩)) ?_
  rw [filter_yes, zip_fst (tSh K) (by rw [begs_len]; omega)]
  refine pb_fld B.cls B.n1 hne 0 rfl (va 1 rfl) ?_
  refine pb_fld B.cls B.n2 hne 0 rfl (va 2 rfl) ?_
  refine pb_fld B.cls B.n3 hne 0 rfl (px_tupleOf T.f_tuple boot_tuple (va (T := tLst (l.map (tSh K))) 5 rfl).seqL) ?_
  have e2 : (((begs w' (off w' r)).map tS).zip (l.map (tSh K))).map (fun z => tTup K [z.1, z.2]) = ((begs w' (off w' r)).zip l).map fun z => tTup K [tS z.1, tSh K z.2] := by
    rw [List.zip_map, List.map_map]
    rfl
  refine pb_fld (T := tAny) B.cls B.n4 hne 0 rfl (PX.sub (px_dc (js := [7, 6]) (own := [("at", 7), ("share", 6)]) (l := (begs w' (off w' r)).zip l) (tA := fun z => tTup K [tS z.1, tSh K z.2]) (ky := fun z => z.1) (E := fun z => tSh K z.2) rfl sc67_0.nd ((pix_zip T.f_zip (va 4 rfl) (va 5 rfl)).cast' e2) (blkOk_by (by kernel_rfl)) (by decide)
    (by rw [List.length_zip, begs_len]; omega) (fun s H D cl fp d n m a => pgx_tup rfl (pgxs_cons (nm sc67_0.nd 7) (pgxs_cons (nm sc67_0.nd 6) pgxs_nil))) (fun s H D cl fp d n m a ha hd => va 7 rfl) (fun s H D cl fp d n m a ha hd => va 6 rfl)) fun _ _ _ => trivial) ?_
  exact pb_nil fun σ H h => ⟨_, h⟩
end
end Nb
end -- B2
section -- B3
set_option maxHeartbeats 1000000
namespace Nb
open PySem PySem.Spec PyProof.Rows L2
theorem tyAll_dp {K : PySem.W.Frag} : True := trivial
def shD (l : List Rat) : PyData := .tuple (l.map fun q => .tuple [.int q.num, .int (q.den : Int)])
def shsD (l : List (List Rat)) : PyData := .tuple (l.map shD)
theorem datSh {K : PySem.W.Frag} (l : List Rat) : Dat K (tSh K l) (shD l) := datT (datMap (fun q => datQ) l)
theorem datShs {K : PySem.W.Frag} (l : List (List Rat)) : Dat K (tTup K (l.map (tSh K))) (shsD l) := datT (datMap datSh l)
mutual
theorem eqv_refl : ∀ d : PyData, PyData.canLay0 d = true → PyData.eqv d d = true
  | .none, _ => rfl
  | .bool b, _ => by simp [PyData.eqv]
  | .int i, _ => by simp [PyData.eqv]
  | .str x, _ => by simp [PyData.eqv]
  | .list ds, h => by
    show PyData.eqvAll ds ds = true
    exact eqvAll_refl ds (by simpa [PyData.canLay0] using h)
  | .tuple ds, h => by
    show PyData.eqvAll ds ds = true
    exact eqvAll_refl ds (by simpa [PyData.canLay0] using h)
  | .dict _, h => by simp [PyData.canLay0] at h
theorem eqvAll_refl : ∀ ds : List PyData, PyData.canLayAll0 ds = true → PyData.eqvAll ds ds = true
  | [], _ => rfl
  | d :: ds, h => by
    simp only [PyData.canLayAll0, Bool.and_eq_true] at h
    show (PyData.eqv d d && PyData.eqvAll ds ds) = true
    rw [eqv_refl d h.1, eqvAll_refl ds h.2]
    rfl
end
theorem lay_map {α : Type} {g : α → PyData} (h : ∀ a, PyData.canLay0 (g a) = true) : ∀ l : List α, PyData.canLayAll0 (l.map g) = true
  | [] => rfl
  | a :: l => by simp [PyData.canLayAll0, h a, lay_map h l]
theorem depth_map {α : Type} {g : α → PyData} {n : Nat} (h : ∀ a, (g a).depth ≤ n) : ∀ l : List α, PyData.depthAll (l.map g) ≤ n
  | [] => by simp [PyData.depthAll]
  | a :: l => by
    have h1 := h a
    have h2 := depth_map h l
    simp only [List.map_cons, PyData.depthAll]
    omega
theorem lay_sh (l : List Rat) : PyData.canLay0 (shD l) = true := by
  unfold shD
  simp only [PyData.canLay0]
  exact lay_map (fun q => by simp [PyData.canLay0, PyData.canLayAll0]) l
theorem dep_sh (l : List Rat) : (shD l).depth ≤ 2 := by
  have := depth_map (n := 1) (g := fun q : Rat => PyData.tuple [.int q.num, .int (q.den : Int)]) (fun q => by simp [PyData.depth, PyData.depthAll]) l
  unfold shD
  simp only [PyData.depth]
  omega
theorem shaped_shs (l : List (List Rat)) : SeqAt.shaped (shsD l) = true := by
  unfold SeqAt.shaped
  have h1 : PyData.canLay0 (shsD l) = true := by
    unfold shsD
    simp only [PyData.canLay0]
    exact lay_map lay_sh l
  have h2 := depth_map dep_sh l
  rw [h1, Bool.true_and]
  refine decide_eq_true ?_
  unfold shsD
  simp only [PyData.depth]
  omega
theorem eqv_shs (l : List (List Rat)) : PyData.eqv (shsD l) (shsD l) = true := eqv_refl _ (SeqAt.canLay_of_shaped (shaped_shs l))
section
variable {K : PySem.W.Frag} {mg : Str → Option Value} {base : Heap} {P : Program} {w : World} {Cl : Addr}
theorem sc67_1 : FnScope ["self"] ["self"] (defScope (mem 67 1)) := ⟨rfl, rfl, rfl, by decide +kernel, rfl, by decide +kernel, by decide +kernel⟩
theorem sc67_2 : FnScope ["self"] ["self"] (defScope (mem 67 2)) := ⟨rfl, rfl, rfl, by decide +kernel, rfl, by decide +kernel, by decide +kernel⟩
theorem sc67_3 : FnScope ["self"] ["self"] (defScope (mem 67 3)) := ⟨rfl, rfl, rfl, by decide +kernel, rfl, by decide +kernel, by decide +kernel⟩
theorem sc67_7 : FnScope ["self", "other"] ["self", "other"] (defScope (mem 67 7)) := ⟨rfl, rfl, rfl, by decide +kernel, rfl, by decide +kernel, by decide +kernel⟩
abbrev spPlan (K : PySem.W.Frag) (Cl : Addr) (res : Nat × Nat × List (List Rat) → Ty) : Sp := Pur (fun z : Nat × Nat × List (List Rat) => [tPlan K Cl z.1 z.2.1 z.2.2]) (fun _ => True) res
theorem plan_width (T : Txt K mg) (B : PlanT K mg Cl) : PropOk P w K mg base 1 Cl "width" (spPlan K Cl fun z => tI (z.1 : Nat)) := by
  refine prop_ok B.cls B.p1 sc67_1 (fun _ => rfl) (fun _ _ _ _ _ _ us hl => match us, hl with | [_], _ => rfl) fun f cdv A outer s H E C0 C z hr x hp => ?_
  show PB _ C [some (tPlan K Cl z.1 z.2.1 z.2.2)] _ _ _
  exact pb_retP x (px_fld (va 0 rfl) B.cls B.n1 rfl)
theorem plan_rounds (T : Txt K mg) (B : PlanT K mg Cl) : PropOk P w K mg base 1 Cl "rounds" (spPlan K Cl fun z => tI (z.2.1 : Nat)) := by
  refine prop_ok B.cls B.p2 sc67_2 (fun _ => rfl) (fun _ _ _ _ _ _ us hl => match us, hl with | [_], _ => rfl) fun f cdv A outer s H E C0 C z hr x hp => ?_
  show PB _ C [some (tPlan K Cl z.1 z.2.1 z.2.2)] _ _ _
  exact pb_retP x (px_fld (va 0 rfl) B.cls B.n2 rfl)
theorem plan_shares (T : Txt K mg) (B : PlanT K mg Cl) : PropOk P w K mg base 1 Cl "shares" (spPlan K Cl fun z => tLst (z.2.2.map (tSh K))) := by
  refine prop_ok B.cls B.p3 sc67_3 (fun _ => rfl) (fun _ _ _ _ _ _ us hl => match us, hl with | [_], _ => rfl) fun f cdv A outer s H E C0 C z hr x hp => ?_
  show PB _ C [some (tPlan K Cl z.1 z.2.1 z.2.2)] _ _ _
  exact pb_retP x (px_listOf T.f_list boot_list (px_fld (va 0 rfl) B.cls B.n3 rfl).seqT)
/-- the two are plans with the same data -/
def samePlan (K : PySem.W.Frag) (Cl : Addr) (a b : Addr) (H : Hp) : Prop := ∃ w r shs, (tPlan K Cl w r shs).P H (.ref a) ∧ (tPlan K Cl w r shs).P H (.ref b)
theorem hid_no {H : Hp} : hid (fun _ => false) H = H := by funext a; rfl
theorem fn_planEq (T : Txt K mg) (B : PlanT K mg Cl) {g : Addr} {fd : FuncData} (F : FunD K "__eq__" "Plan.__eq__" (defArgs (mem 67 7)) (defBody (mem 67 7)) (defScope (mem 67 7)) [] [] g fd) :
    FnOk P w K mg base CX0 1 g fd ["self", "other"] (Pur (fun z : Nat × Nat × List (List Rat) => [tPlan K Cl z.1 z.2.1 z.2.2, tPlan K Cl z.1 z.2.1 z.2.2]) (fun _ => True) (fun _ => tB true)) := by
  refine pur_ok F sc67_7 (fun _ => rfl) fun cdv A outer s H E C0 C z hr x hp => ?_
  show PB _ C [some (tPlan K Cl z.1 z.2.1 z.2.2), some (tPlan K Cl z.1 z.2.1 z.2.2)] _ _ _
  refine pb_retP x ((px_and (x := true) (px_isC B.cls B.c1 B.c2 B.c3 B.c4 B.isi T.f_isinstance B.glo (va 1 rfl)) fun _ => px_and (px_eq (px_fld (va 0 rfl) B.cls B.n1 rfl) (px_fld (va 1 rfl) B.cls B.n1 rfl)) fun _ => px_and (px_eq (px_fld (va 0 rfl) B.cls B.n2 rfl) (px_fld (va 1 rfl) B.cls B.n2 rfl)) fun _ =>
    px_one (px_eqD hr (datShs z.2.2) (datShs z.2.2) (shaped_shs _) (shaped_shs _) (px_fld (va 0 rfl) B.cls B.n3 rfl) (px_fld (va 1 rfl) B.cls B.n3 rfl))).cast (congrArg tB ?_))
  rw [eqv_shs]
  simp
theorem plan_eq {X : Cx} (T : Txt X.K X.mg) (B : PlanT X.K X.mg Cl) : RcG X 1 (DIns Cl (samePlan X.K Cl)) := by
  obtain ⟨g, h1, h2, fd, F⟩ := B.eq
  refine rcG_ins (E := E0) ((fn_planEq T B F).imp fun vs H Q E ⟨a, b, e, ⟨w', r, shs, p1, p2⟩, q⟩ => ?_) h1 h2 (F.bindsN (fun _ _ _ _ _ _ us hl => match us, hl with | [_, _], _ => rfl)) pass0
  subst e
  refine ⟨fun _ => false, (w', r, shs), (fun a h => nomatch h), ?_, trivial, fun v H' e p => ?_⟩
  · rw [hid_no]
    exact .cons p1 (.cons p2 .nil)
  · rw [show v = V.bl true from p]
    exact q H' e
section
variable {X : Cx} {C : HC} {G : Env} {a b : Expr} {pos : Pos} {k : Nat}
theorem px_eqPlan (T : Txt X.K X.mg) (B : PlanT X.K X.mg Cl) {w' r : Nat} {shs : List (List Rat)} (hr : Room k X.A) (hk : 1 ≤ k) (ha : PX X C G a (tPlan X.K Cl w' r shs)) (hb : PX X C G b (tPlan X.K Cl w' r shs)) : PX X C G (.Compare a [.Eq] [b] pos) (tB true) :=
  px_cmp (op_eqG (plan_eq T B) (hr.mono hk)) (T := tPlan X.K Cl w' r shs) (U := tPlan X.K Cl w' r shs) (fun H x y Q bs h1 h2 q => by
    obtain ⟨o, dx, vs, rfl, h3, h4⟩ := h1
    obtain ⟨o', dx', vs', rfl, h5, h6⟩ := h2
    refine ⟨⟨o, o', dx, dx', _, _, rfl, rfl, hid_le _ _ h3, hid_le _ _ h5, w', r, shs, ⟨o, dx, vs, rfl, hid_le _ _ h3, h4.mono hid_le⟩, ⟨o', dx', vs', rfl, hid_le _ _ h5, h6.mono hid_le⟩⟩, fun H' e => q _ H' e rfl⟩) ha hb (nomark _)
end
end
end Nb
end -- B3
section -- F1
set_option maxHeartbeats 1000000
namespace Nb
open PySem PySem.Spec PyProof.Rows L2
theorem cmpR_lt (a b : Rat) : decide (cmpR a b < 0) = decide (a < b) := by
  unfold cmpR
  by_cases h : a < b
  · rw [if_pos h, decide_eq_true h]; rfl
  · rw [if_neg h, decide_eq_false h]
    split <;> rfl
theorem cmpR_le (a b : Rat) : decide (cmpR a b ≤ 0) = !decide (b < a) := by
  unfold cmpR
  by_cases h : a < b
  · rw [if_pos h, decide_eq_false (p := b < a) (fun h2 => by grind)]; rfl
  · rw [if_neg h]
    by_cases h2 : b < a
    · rw [if_pos h2, decide_eq_true h2]; rfl
    · rw [if_neg h2, decide_eq_false h2]; rfl
theorem cmpR_ge (a b : Rat) : decide (0 ≤ cmpR a b) = !decide (a < b) := by
  unfold cmpR
  by_cases h : a < b
  · rw [if_pos h, decide_eq_true h]; rfl
  · rw [if_neg h, decide_eq_false h]
    split <;> rfl
/-- the shares that pour -/
def pour (l : List Rat) : List Rat := l.map fun x => if x < hgt l then hgt l - x else 0
/-- the places reached -/
def rch (l : List Rat) : List Int := (l.zipIdx.filter fun z => !decide (hgt l < z.1)).map fun z => ((z.2 : Nat) : Int)
def part (l : List Rat) : Rat := 1 / (((rch l).length : Nat) : Rat)
/-- even chances of those reached -/
def even (l : List Rat) : List Rat := l.map fun x => if hgt l < x then 0 else part l
section
variable {K : PySem.W.Frag} {mg : Str → Option Value} {base : Heap} {P : Program} {w : World}
theorem sc69 : FnScope ["levels", "many", "level"] ["levels"] (defScope (top 70)) := ⟨rfl, rfl, rfl, by decide +kernel, rfl, by decide +kernel, by decide +kernel⟩
abbrev spLv (K : PySem.W.Frag) (res : List Rat → Ty) : Sp := Pur (fun l : List Rat => [tLst (l.map (tQ K))]) Lvs res
theorem ok_checked (T : Txt K mg) : Ok P w K mg base 4 "checked_levels" ["levels"] (spLv K fun l => tLst (l.map (tQ K))) := by
  refine T.d_checked_levels.ok sc69 (fun _ => rfl) (fun _ _ _ _ _ _ us hl => match us, hl with | [_], _ => rfl) fun f cdv A outer s H E C0 C l hr x hp => ?_
  have h1 : 0 < l.length := List.length_pos_iff.mpr hp.ne
  have h5 := hp.few
  show PB _ C [some (tLst (l.map (tQ K))), none, none] _ _ _
  refine plet sc69.nd 1 ((px_lenL T.f_len (va 0 rfl)).cast (by rw [List.length_map])) ?_
  refine pb_guard (x := false) ((pxt_w (pxw_or (pxt_lt (va (T := tI (l.length : Nat)) 1 rfl) px_int) fun _ => pxw_or1 (pxt_gt (va (T := tI (l.length : Nat)) 1 rfl) (px_const T.c_MOST_LEVELS)))).cast ?_) (fun h => nomatch h) fun _ => ?_
  · rw [decide_eq_false (by omega), decide_eq_false (by omega)]; rfl
  · exact pb_retP x (px_lcN (j := 2) (own := [("level", 2)]) (l := l) (tA := tQ K) (E := tQ K) rfl sc69.nd (pix_list (va 0 rfl)) (blkOk_by (by kernel_rfl)) (by decide) (by omega) (fun s H D cl fp d Vs a => nm sc69.nd 2)
      (fun s H D cl fp d Vs a ha hd => px_call (ok_fraction T) _ rfl hr (pxs_cons ((va 2 rfl).num (hp.big a ha).sz) pxs_nil) trivial))
theorem sc71 : FnScope ["floor", "kept", "top", "lower", "level"] ["floor"] (defScope (top 71)) := ⟨rfl, rfl, rfl, by decide +kernel, rfl, by decide +kernel, by decide +kernel⟩
theorem sz_one : Sz 1 := sz_int (i := 1) one_lt_SZ
theorem sz_zero : Sz 0 := sz_int (i := 0) (by show (0 : Int).natAbs < SZ; exact Nat.lt_trans Nat.zero_lt_one one_lt_SZ)
theorem one_abs : (1 : Int).natAbs < SZ := one_lt_SZ
theorem ok_height (T : Txt K mg) : Ok P w K mg base 5 "height" ["floor"] (spLv K fun l => tQ K (hgt l)) := by
  refine T.d_height.ok sc71 (fun _ => rfl) (fun _ _ _ _ _ _ us hl => match us, hl with | [_], _ => rfl) fun f cdv A outer s H E C0 C l hr x hp => ?_
  show PB _ C [some (tLst (l.map (tQ K))), none, none, none, none] _ _ _
  refine plet sc71.nd 1 (va 0 rfl) ?_
  refine pb_while (β := List Rat) (fun b => Lvs b ∧ hgt b = hgt l) (fun b => [some (tLst (l.map (tQ K))), some (tLst (b.map (tQ K))), none, none, none]) (fun _ => true) (fun b => b.length) l ⟨hp, rfl⟩ PassesOwn.never (fun _ _ h => h)
    (fun b _ => pxt_val px_bl) (fun b hb _ => ?_) (fun b _ h => nomatch h)
  obtain ⟨hb, he⟩ := hb
  refine plet sc71.nd 2 (px_call (ok_div T) (1 + qsum b, (b.length : Rat)) rfl hr (pxs_cons ((px_call (ok_add T) (1, qsum b) rfl hr (pxs_cons (px_int.numI one_abs) (pxs_cons ((px_call (ok_total T) b rfl hr (pxs_cons (va 1 rfl).seqL pxs_nil) hb.szl).num hb.szSum) pxs_nil)) ⟨sz_one, hb.szSum⟩).num hb.szSum1)
    (pxs_cons (((px_lenL T.f_len (va 1 rfl)).numI ?_).cast ?_) pxs_nil)) ⟨hb.szSum1, hb.szLen, len_pos_cast hb.ne⟩) ?_
  · rw [List.length_map, Int.natAbs_natCast]
    exact Nat.lt_of_le_of_lt hb.few (Nat.lt_of_lt_of_le (by decide : 5 < 2 ^ 10) (Nat.pow_le_pow_right (by omega) (by omega)))
  · rw [List.length_map, Rat.intCast_natCast]
  have h5 := hb.few
  refine pb_let (set_lc (i := 3) (js := [4]) (own := [("level", 4)]) (l := b) (tA := tQ K) (t := fun a => decide (a < topR b)) (E := tQ K) rfl sc71.nd rfl rfl (sw_true rfl rfl rfl (by decide +kernel)) (pix_list (va 1 rfl)) (blkOk_by (by kernel_rfl)) (by decide) (by omega)
    (fun s H D cl fp d Vs a => nm sc71.nd 4) (fun s H D cl fp d Vs a ha hd => pts_if ((pxt_lt (px_call (ok_compare T) (a, topR b) rfl hr (pxs_cons ((va 4 rfl).num (hb.big a ha).sz) (pxs_cons ((va (T := tQ K (topR b)) 2 rfl).num hb.szTop) pxs_nil)) trivial) px_int).cast (cmpR_lt a (topR b))))
    (fun s H D cl fp d Vs a ha hd _ => va 4 rfl)) ?_
  refine pb_guard (pxt_eq (px_lenL T.f_len (va (T := tLst ((lowR b).map (tQ K))) 3 rfl)) (px_lenL T.f_len (va 1 rfl))) (fun h => ?_) fun h => ?_
  · refine pb_retP x ((va (T := tQ K (topR b)) 2 rfl).cast ?_)
    have h1 := of_decide_eq_true h
    rw [List.length_map, List.length_map] at h1
    rw [← he, hgt_done (by omega)]
  · refine plet sc71.nd 1 (va (T := tLst ((lowR b).map (tQ K))) 3 rfl) ?_
    have h1 := of_decide_eq_false h
    rw [List.length_map, List.length_map] at h1
    have h2 : ¬ (lowR b).length = b.length := fun e => h1 (by rw [e])
    refine pb_nil fun σ H h => ⟨lowR b, ⟨hb.low, by rw [← he, hgt_next h2]⟩, ?_, h.imp (gi_keep (gi_keep (gi_drop (gi_drop (gi_keep gi_nil)))))⟩
    have := List.length_filter_le (fun x => decide (x < topR b)) b
    unfold lowR at h2 ⊢
    omega
theorem sc72 : FnScope ["floor", "top", "level"] ["floor"] (defScope (top 72)) := ⟨rfl, rfl, rfl, by decide +kernel, rfl, by decide +kernel, by decide +kernel⟩
theorem tQ_zero : tTup K [tI 0, tI 1] = tQ K 0 := rfl
theorem tQ_one : tTup K [tI 1, tI 1] = tQ K 1 := rfl
theorem ok_poured (T : Txt K mg) : Ok P w K mg base 6 "poured" ["floor"] (spLv K fun l => tSh K (pour l)) := by
  refine T.d_poured.ok sc72 (fun _ => rfl) (fun _ _ _ _ _ _ us hl => match us, hl with | [_], _ => rfl) fun f cdv A outer s H E C0 C l hr x hp => ?_
  have h5 := hp.few
  show PB _ C [some (tLst (l.map (tQ K))), none, none] _ _ _
  refine plet sc72.nd 1 (px_call (ok_height T) l rfl hr (pxs_cons (va 0 rfl) pxs_nil) hp) ?_
  refine pb_retP x ((px_tupleOf T.f_tuple boot_tuple (px_lcN (j := 2) (own := [("level", 2)]) (l := l) (tA := tQ K) (E := fun a => tQ K (if a < hgt l then hgt l - a else 0)) rfl sc72.nd (pix_list (va 0 rfl)) (blkOk_by (by kernel_rfl)) (by decide) (by omega) (fun s H D cl fp d Vs a => nm sc72.nd 2)
      (fun s H D cl fp d Vs a ha hd => ?_)).seqL).cast ?_)
  · refine px_if ((pxt_lt (px_call (ok_compare T) (a, hgt l) rfl hr (pxs_cons ((va 2 rfl).num (hp.big a ha).sz) (pxs_cons ((va (T := tQ K (hgt l)) 1 rfl).num hp.szHgt) pxs_nil)) trivial) px_int).cast (cmpR_lt a (hgt l))) (fun h => ?_) fun h => ?_
    · rw [if_pos (of_decide_eq_true h)]
      exact px_call (ok_sub T) (hgt l, a) rfl hr (pxs_cons ((va (T := tQ K (hgt l)) 1 rfl).num hp.szHgt) (pxs_cons ((va 2 rfl).num (hp.big a ha).sz) pxs_nil)) ⟨hp.szHgt, (hp.big a ha).sz⟩
    · rw [if_neg (of_decide_eq_false h)]
      exact px_tup (pxs_cons px_int (pxs_cons px_int pxs_nil))
  · unfold tSh pour
    rw [List.map_map]
    rfl
theorem sc73 : FnScope ["floor", "top", "place", "level"] ["floor"] (defScope (top 73)) := ⟨rfl, rfl, rfl, by decide +kernel, rfl, by decide +kernel, by decide +kernel⟩
theorem ok_reached (T : Txt K mg) : Ok P w K mg base 6 "reached_places" ["floor"] (spLv K fun l => tLst ((rch l).map tI)) := by
  refine T.d_reached_places.ok sc73 (fun _ => rfl) (fun _ _ _ _ _ _ us hl => match us, hl with | [_], _ => rfl) fun f cdv A outer s H E C0 C l hr x hp => ?_
  have h5 := hp.few
  show PB _ C [some (tLst (l.map (tQ K))), none, none, none] _ _ _
  refine plet sc73.nd 1 (px_call (ok_height T) l rfl hr (pxs_cons (va 0 rfl) pxs_nil) hp) ?_
  have e1 : ((l.map (tQ K)).zipIdx.map fun z => tTup K [tI ((z.2 : Nat) : Int), z.1]) = l.zipIdx.map fun z => tTup K [tI ((z.2 : Nat) : Int), tQ K z.1] := by
    rw [List.zipIdx_map, List.map_map]
    rfl
  refine pb_retP x ((px_lc (js := [2, 3]) (own := [("place", 2), ("level", 3)]) (l := l.zipIdx) (tA := fun z => tTup K [tI ((z.2 : Nat) : Int), tQ K z.1]) (t := fun z => !decide (hgt l < z.1)) (E := fun z => tI ((z.2 : Nat) : Int)) rfl sc73.nd ((pix_enum T.f_enumerate (va 0 rfl)).cast' e1) (blkOk_by (by kernel_rfl)) (by decide) (by rw [List.length_zipIdx]; omega)
    (fun s H D cl fp d Vs a => pgx_tup rfl (pgxs_cons (nm sc73.nd 2) (pgxs_cons (nm sc73.nd 3) pgxs_nil))) (fun s H D cl fp d Vs a ha hd => pts_if ((pxt_le (px_call (ok_compare T) (a.1, hgt l) rfl hr (pxs_cons ((va 3 rfl).num ?_) (pxs_cons ((va (T := tQ K (hgt l)) 1 rfl).num hp.szHgt) pxs_nil)) trivial) px_int).cast (cmpR_le a.1 (hgt l))))
    (fun s H D cl fp d Vs a ha hd _ => va 2 rfl)).cast ?_)
  · obtain ⟨i, hi⟩ := List.mem_iff_getElem?.mp ha
    rw [List.getElem?_zipIdx] at hi
    cases hq : l[i]? with
    | none => rw [hq] at hi; cases hi
    | some q =>
      rw [hq] at hi
      rw [← (Option.some.inj hi)]
      exact (hp.big q (List.mem_of_getElem? hq)).sz
  · unfold rch
    rw [List.map_map]
    rfl
theorem sc74 : FnScope ["floor", "places", "part", "place"] ["floor"] (defScope (top 74)) := ⟨rfl, rfl, rfl, by decide +kernel, rfl, by decide +kernel, by decide +kernel⟩
theorem in_rch {l : List Rat} {i : Nat} {q : Rat} (h : l[i]? = some q) : inV (.int (i : Nat)) ((rch l).map V.int) = !decide (hgt l < q) := by
  unfold inV rch
  rw [List.any_map, List.any_map, List.any_filter]
  have e : ∀ z : Rat × Nat, eqV (.int ((z.2 : Nat) : Int)) (.int (i : Nat)) = decide (z.2 = i) := fun z => by
    show decide _ = decide _
    exact decide_eq_decide.mpr (by omega)
  cases hb : (!decide (hgt l < q)) with
  | true =>
    rw [List.any_eq_true]
    refine ⟨(q, i), List.mem_iff_getElem?.mpr ⟨i, by rw [List.getElem?_zipIdx, h]; simp⟩, ?_⟩
    show ((!decide (hgt l < q)) && eqV (.int ((i : Nat) : Int)) (.int (i : Nat))) = true
    rw [hb, e (q, i)]
    simp
  | false =>
    rw [List.any_eq_false]
    intro z hz
    obtain ⟨j, hj⟩ := List.mem_iff_getElem?.mp hz
    rw [List.getElem?_zipIdx] at hj
    cases hq : l[j]? with
    | none => rw [hq] at hj; cases hj
    | some p =>
      rw [hq] at hj
      have hj' : (p, 0 + j) = z := Option.some.inj hj
      subst hj'
      show ¬ ((!decide (hgt l < p)) && eqV (.int ((0 + j : Nat) : Int)) (.int (i : Nat))) = true
      rw [e (p, 0 + j)]
      intro hc
      rw [Bool.and_eq_true] at hc
      have hji : 0 + j = i := of_decide_eq_true hc.2
      rw [Nat.zero_add] at hji
      subst hji
      rw [h] at hq
      cases hq
      rw [hb] at hc
      exact absurd hc.1 (by decide)
theorem rch_len (l : List Rat) : (rch l).length ≤ l.length := by
  unfold rch
  rw [List.length_map]
  exact Nat.le_trans (List.length_filter_le _ _) (by rw [List.length_zipIdx]; exact Nat.le_refl _)
theorem ok_even (T : Txt K mg) : Ok P w K mg base 7 "even_chances" ["floor"] (Pur (fun l : List Rat => [tLst (l.map (tQ K))]) (fun l => Lvs l ∧ rch l ≠ []) (fun l => tSh K (even l))) := by
  refine T.d_even_chances.ok sc74 (fun _ => rfl) (fun _ _ _ _ _ _ us hl => match us, hl with | [_], _ => rfl) fun f cdv A outer s H E C0 C l hr x hp => ?_
  obtain ⟨hp, hne⟩ := hp
  have h5 : l.length ≤ 5 := hp.few
  have hr5 := rch_len l
  have hr0 : 0 < (rch l).length := List.length_pos_iff.mpr hne
  have hrs : (((rch l).length : Nat) : Int).natAbs < SZ := by
    rw [Int.natAbs_natCast]
    exact Nat.lt_of_le_of_lt (Nat.le_trans hr5 h5) (Nat.lt_of_lt_of_le (by decide : 5 < 2 ^ 10) (Nat.pow_le_pow_right (by omega) (by omega)))
  have hrq : ((((rch l).length : Nat) : Int) : Rat) = (((rch l).length : Nat) : Rat) := Rat.intCast_natCast _
  show PB _ C [some (tLst (l.map (tQ K))), none, none, none] _ _ _
  refine plet sc74.nd 1 (px_call (ok_reached T) l rfl hr (pxs_cons (va 0 rfl) pxs_nil) hp) ?_
  refine plet sc74.nd 2 (px_call (ok_div T) (1, (((rch l).length : Nat) : Rat)) rfl hr (pxs_cons (px_int.numI one_abs) (pxs_cons ((((px_lenL T.f_len (va (T := tLst ((rch l).map tI)) 1 rfl)).cast (by rw [List.length_map])).numI hrs).cast (by rw [hrq])) pxs_nil)) ⟨sz_one, by rw [← hrq]; exact sz_int hrs, by show (0 : Rat) < (((rch l).length : Nat) : Rat); exact_mod_cast hr0⟩) ?_
  refine pb_retP x ((px_tupleOf T.f_tuple boot_tuple (px_lcN (j := 3) (own := [("place", 3)]) (l := List.range l.length) (tA := fun i => tI ((i : Nat) : Int)) (E := fun i => tQ K (if hgt l < l.getD i 0 then 0 else part l)) rfl sc74.nd (pix_range1 T.f_range ((px_lenL T.f_len (va 0 rfl)).cast (by rw [List.length_map])) (by omega)) (blkOk_by (by kernel_rfl)) (by decide) (by rw [List.length_range]; omega) (fun s H D cl fp d Vs a => nm sc74.nd 3)
      (fun s H D cl fp d Vs a ha hd => ?_)).seqL).cast ?_)
  · have hal : a < l.length := List.mem_range.mp ha
    have hq : l[a]? = some (l.getD a 0) := by rw [List.getD_eq_getElem?_getD, List.getElem?_eq_getElem hal]; rfl
    refine px_if ((pxt_in (ys := (rch l).map V.int) rfl (by rw [List.all_map]; simp [flatV]) (va 3 rfl) ((va (T := tLst ((rch l).map tI)) 1 rfl).cast (by rw [List.map_map]; rfl)).seqL rfl).cast (in_rch hq)) (fun h => ?_) fun h => ?_
    · rw [if_neg (by simpa using h)]
      exact va 2 rfl
    · rw [if_pos (by simpa using h)]
      exact px_tup (pxs_cons px_int (pxs_cons px_int pxs_nil))
  · unfold tSh even
    rw [List.map_map]
    congr 1
    apply List.ext_getElem
    · simp
    · intro i h1 h2
      have hi : i < l.length := by simpa using h2
      simp [List.getElem?_eq_getElem hi]
end
end Nb
end -- F1
section -- NbN
set_option maxHeartbeats 1000000
namespace Nb
open PySem PySem.Spec PyProof.Rows L2
section
variable {X : Cx} {C : HC} {G : Env} {a b c e tg : Expr} {T U : Ty} {Ts Us Vs : List Ty} {pos p p1 p2 tpos : Pos} {kk i : Nat} {elts : List Expr}
/-- a slot of one of two types: in both cases -/
theorem PX.or (h1 : ∀ G', G' = G.set i (some T) → G'[i]? = some (some T) → PX X C G' e Y) (h2 : ∀ G', G' = G.set i (some U) → G'[i]? = some (some U) → PX X C G' e Y) (h : G[i]? = some (some (tOr T U))) : PX X C G e Y := by
  have hi : i < G.length := (List.getElem?_eq_some_iff.mp h).1
  refine ⟨fun pins s σ H R I ⟨ok, q⟩ => ?_⟩
  obtain ⟨v, e, p⟩ := ok.var h
  have hl : i < σ.length := (List.getElem?_eq_some_iff.mp e).1
  have e2 : σ.set i (some v) = σ := by
    apply List.ext_getElem?
    intro k
    by_cases hk : i = k
    · subst hk; rw [List.getElem?_set_self hl, e]
    · rw [List.getElem?_set_ne hk]
  have back : ∀ {H2 : Hp} {T : Ty}, EnvOk C (G.set i (some T)) σ H2 → Ex (hid C.M H) (hid C.M H2) → EnvOk C G σ H2 := fun x e3 => ⟨x.base, ok.env.imp fun _ _ h => h.mono e3⟩
  rcases p with p | p
  · have ok2 := ok.set (i := i) (T := T) p
    rw [e2] at ok2
    exact (h1 _ rfl (List.getElem?_set_self hi)).run pins s σ H R I ⟨ok2, fun J H2 x2 e3 y => q J H2 (back x2 e3) e3 y⟩
  · have ok2 := ok.set (i := i) (T := U) p
    rw [e2] at ok2
    exact (h2 _ rfl (List.getElem?_set_self hi)).run pins s σ H R I ⟨ok2, fun J H2 x2 e3 y => q J H2 (back x2 e3) e3 y⟩
/-- t[lo:hi], t a tuple, not the whole -/
theorem px_slT {lo hi : Option Expr} {l h : Option Int} (ha : PX X C G a (tTup X.K Ts)) (hl : PO X lo (tOX C G l)) (hh : PO X hi (tOX C G h)) (hw : ¬ (HT.sIx Ts.length 0 l = 0 ∧ HT.sIx Ts.length Ts.length h = Ts.length)) : PX X C G (.Subscript a (.Slice lo hi none p2) pos) (tTup X.K (cutT Ts l h)) :=
  PE.imp (pe_slice sl_tup ha hl hh) fun σ H Q ⟨ok, q⟩ => ⟨ok, fun v H1 x1 e1 ⟨o, xs, h1, h2, h3⟩ => ⟨x1, fun H2 x2 e2 => ⟨x2, fun H3 x3 e3 => ⟨o, xs, h1, sqT_ex hid_le (sqT_ex (e2.trans e3) h2), by rw [h3.length]; exact hw, fun p hp => by
    have e4 : Ex H3 (upd H3 p (.tup (cutV xs l h))) := Ex.new hp
    have hz : TyAll (hid C.M H1) (cutV xs l h) (cutT Ts l h) := by
      unfold cutV cutT
      rw [h3.length]
      exact (h3.drop _).take _
    exact q _ _ (x3.ex e4) (((e1.trans e2).trans e3).trans (hid_mono e4)) ⟨p, _, rfl, SqT.of (hid_of (x3.base.fresh hp) upd_same), hz.mono ((e2.trans e3).trans (hid_mono e4))⟩⟩⟩⟩⟩
end
/-- o is hidden and holds a list of that type; nothing writes it -/
def HC.see (C : HC) (o : Addr) (xs : List V) (Ts : List Ty) : HC where
  H0 := C.H0
  M := C.M
  S := C.S
  Om := fun H D => C.Om H D ∧ C.M o = true ∧ H o = some (.lst xs) ∧ TyAll D xs Ts
  om := fun e d ⟨h1, h2, h4, h5⟩ => ⟨C.om e d h1, h2, e _ _ h4, h5.mono d⟩
  loc := fun {p H H' D} m k ⟨h1, h2, h4, h5⟩ => ⟨C.loc m k h1, h2, by rw [k o (fun z => by subst z; have m' : C.M o = false := m; rw [h2] at m'; cases m')]; exact h4, h5⟩
  sm := C.sm
def SeeSp {α : Type} (ls : α → List Ty) (args : α → List Ty) (pre : α → Prop) (res : α → Ty) : Sp := fun vs H Q _ => ∃ (M : Addr → Bool) (z : α) (o : Addr) (xs rest : List V), vs = .ref o :: rest ∧ M o = true ∧ H o = some (.lst xs) ∧ (∀ a, M a = true → ∃ u, H a = some u) ∧ TyAll (hid M H) xs (ls z) ∧ TyAll (hid M H) rest (args z) ∧ pre z ∧
  ∀ v H', Ex H H' → (res z).P (hid M H') v → Q v H'
section
variable {X : Cx} {C : HC} {G : Env} {a b e : Expr} {es : List Expr} {T : Ty} {Ts Us : List Ty} {pos p p1 p2 : Pos} {o : Addr} {xs : List V} {i : Nat} {y : Str}
/-- a slice of it -/
theorem px_slSee {lo hi : Option Expr} {l h : Option Int} (hl0 : G[i]? = some (some (tR o))) (hl : PO X lo (tOX (C.see o xs Ts) G l)) (hh : PO X hi (tOX (C.see o xs Ts) G h)) (hN : X.N[i]? = some y := by rfl) (hv : Vis X.env.scope y := by first | exact .inl rfl | exact .inr (.inl rfl) | exact .inr (.inr rfl)) (h1 : (y == ("__debug__" : Str)) = false := by decide) (h2 : (y == ("__classdict__" : Str)) = false := by decide) :
    PX X (C.see o xs Ts) G (.Subscript (.Name y p1) (.Slice lo hi none p2) pos) (tLst (cutT Ts l h)) :=
  PE.imp (pe_slice sl_list (pe_var hN hv h1 h2) hl hh) fun σ H Q ⟨ok, q⟩ => by
    obtain ⟨v, e, p⟩ := ok.var hl0
    obtain rfl : v = .ref o := p
    refine ⟨.ref o, e, ok, fun H2 x2 e2 => ⟨x2, fun H3 x3 e3 => ?_⟩⟩
    obtain ⟨_, m, h4, h5⟩ := id x3.base.om
    refine ⟨o, xs, rfl, SqL.of h4, fun p hp => ?_⟩
    have e4 : Ex H3 (upd H3 p (.lst (cutV xs l h))) := Ex.new hp
    have hz : TyAll (hid C.M H3) (cutV xs l h) (cutT Ts l h) := by
      unfold cutV cutT
      rw [h5.length]
      exact (h5.drop _).take _
    exact q _ _ (x3.ex e4) ((e2.trans e3).trans (hid_mono e4)) ⟨p, _, rfl, hid_of (x3.base.fresh hp) upd_same, hz.mono (hid_mono e4)⟩
/-- f(xs, ..), xs one's own -/
theorem px_callSee {α : Type} {ls args : α → List Ty} {pre : α → Prop} {res : α → Ty} {x : Str} {j k : Nat} {ps : List Str} (F : Ok X.prog X.w X.K X.mg X.base j x ps (SeeSp ls args pre res)) (z : α) (hT : res z = T) (hr : Room k X.A) (hl : G[i]? = some (some (tR o))) (hz : ls z = Ts) (ha : PXs X (C.own o Ts) G es (args z)) (hp : pre z)
    (hN : X.N[i]? = some y := by rfl) (hv : Vis X.env.scope y := by first | exact .inl rfl | exact .inr (.inl rfl) | exact .inr (.inr rfl)) (h1 : (y == ("__debug__" : Str)) = false := by decide) (h2 : (y == ("__classdict__" : Str)) = false := by decide)
    (hj : j ≤ k := by decide) (hg : Gl X x := by rfl) (hdb : (x == ("__debug__" : Str)) = false := by decide) (he : starEach (.Name y p1 :: es) X.env = (false, eval (.Name y p1) X.env) :: starEach es X.env := by rfl) (hpl : (backTo pos (starEach es X.env)).any (·.1) = false := by rfl) :
    PX X (C.own o Ts) G (.Call (.Name x p) (.Name y p1 :: es) [] pos) T := by
  obtain ⟨f, fd, hm, hk, hb, hF⟩ := F.ex
  subst hT hz
  refine PE.imp (pe_call (dvs := []) (E := E0) hF (hr.mono hj) hg hm hk hb .nil pass0 (pa_cons (pe_var hN hv h1 h2) ha he) hdb he hpl) fun σ H Q ⟨ok, q⟩ => ?_
  obtain ⟨v, e, p⟩ := ok.var hl
  obtain rfl : v = .ref o := p
  refine ⟨.ref o, e, ok, fun vs H1 x1 e1 p1 => ?_⟩
  obtain ⟨_, m, _, xs, h4, h5⟩ := id x1.base.om
  show SeeSp ls args pre res ((.ref o :: vs) ++ []) H1 Q E0
  rw [List.append_nil]
  exact ⟨(C.own o (ls z)).M, z, o, xs, vs, rfl, own_self, h4, x1.base.hidd, h5, p1, hp, fun v H' e2 p2 => q v H' (x1.ex e2) (e1.trans (hid_mono e2)) p2⟩
end
section
variable {K : PySem.W.Frag} {mg : Str → Option Value} {base : Heap} {P : Program} {w : World}
theorem see_ok {α : Type} {ls args : α → List Ty} {pre : α → Prop} {res : α → Ty} {x qual : Str} {params : Arguments} {body : List Stmt} {scope : Scope} {f : Addr} {fd : FuncData} {N ps : List Str} {q0 : Str} {k : Nat}
    (F : FunD K x qual params body scope [] [] f fd) (S : FnScope N (q0 :: ps) scope) (hl : ∀ z, (args z).length = ps.length)
    (hb : ∀ (cdv : Value) (A : Around) (outer : List PySem.Env) (s : Shared) (H : Hp) (E : XK) (C0 : HC) (o : Addr) (xs : List V) (z : α), Room k (A.deeper (envOfC qual scope s.heap.objs.size f cdv)) → pre z → C0.S = (fun _ => false) →
      PB (cxOf CX0 P w K mg base N qual scope f cdv A outer s H E).nox (C0.see o xs (ls z)) (startG N.length (tR o :: args z)) body (fun _ H' => RtOf C0 (res z) .non H') (RtOf C0 (res z))) :
    FnOk P w K mg base CX0 (k + 1) f fd (q0 :: ps) (SeeSp ls args pre res) := by
  refine FunD.ok F S (fun vs H Q E ⟨M, z, o, xs, rest, e, _, _, _, _, h, _⟩ => by rw [e, List.length_cons, h.length, hl, List.length_cons]) (fun cdv A outer s H vs Q E hr ⟨M, z, o, xs, rest, e, m, ho, tr, hx, h, hp, q⟩ => ?_)
  subst e
  refine ⟨_, PSs.nox (hb cdv A outer s H E (HC.at_ H M) o xs z hr hp rfl), ⟨⟨fun a o _ e => e, tr, trivial, m, ho, hx⟩, start_env (.cons rfl h)⟩, fun σ' H' ⟨n1, n2⟩ _ => q _ H' n1 n2, fun v H' ⟨n1, n2⟩ => q v H' n1 n2⟩
end
end Nb
end -- NbN
section -- F2
set_option maxHeartbeats 1000000
namespace Nb
open PySem PySem.Spec PyProof.Rows L2
section
variable {K : PySem.W.Frag} {mg : Str → Option Value} {base : Heap} {P : Program} {w : World} {Ct Cp : Addr}
theorem sc75 : FnScope ["levels"] ["levels"] (defScope (top 75)) := ⟨rfl, rfl, rfl, by decide +kernel, rfl, by decide +kernel, by decide +kernel⟩
theorem sc76 : FnScope ["levels"] ["levels"] (defScope (top 76)) := ⟨rfl, rfl, rfl, by decide +kernel, rfl, by decide +kernel, by decide +kernel⟩
theorem sc77 : FnScope ["levels"] ["levels"] (defScope (top 77)) := ⟨rfl, rfl, rfl, by decide +kernel, rfl, by decide +kernel, by decide +kernel⟩
theorem ok_fill (T : Txt K mg) : Ok P w K mg base 6 "fill" ["levels"] (spLv K fun l => tQ K (hgt l - 1)) := by
  refine T.d_fill.ok sc75 (fun _ => rfl) (fun _ _ _ _ _ _ us hl => match us, hl with | [_], _ => rfl) fun f cdv A outer s H E C0 C l hr x hp => ?_
  show PB _ C [some (tLst (l.map (tQ K)))] _ _ _
  exact pb_retP x (px_call (ok_sub T) (hgt l, 1) rfl hr (pxs_cons ((px_call (ok_height T) l rfl hr (pxs_cons (px_call (ok_checked T) l rfl hr (pxs_cons (va 0 rfl) pxs_nil) hp) pxs_nil) hp).num hp.szHgt) (pxs_cons (px_int.numI one_abs) pxs_nil)) ⟨hp.szHgt, sz_one⟩)
theorem ok_fill_shares (T : Txt K mg) : Ok P w K mg base 7 "fill_shares" ["levels"] (spLv K fun l => tSh K (pour l)) := by
  refine T.d_fill_shares.ok sc76 (fun _ => rfl) (fun _ _ _ _ _ _ us hl => match us, hl with | [_], _ => rfl) fun f cdv A outer s H E C0 C l hr x hp => ?_
  show PB _ C [some (tLst (l.map (tQ K)))] _ _ _
  exact pb_retP x (px_call (ok_poured T) l rfl hr (pxs_cons (px_call (ok_checked T) l rfl hr (pxs_cons (va 0 rfl) pxs_nil) hp) pxs_nil) hp)
theorem ok_fill_chances (T : Txt K mg) : Ok P w K mg base 8 "fill_chances" ["levels"] (Pur (fun l : List Rat => [tLst (l.map (tQ K))]) (fun l => Lvs l ∧ rch l ≠ []) (fun l => tSh K (even l))) := by
  refine T.d_fill_chances.ok sc77 (fun _ => rfl) (fun _ _ _ _ _ _ us hl => match us, hl with | [_], _ => rfl) fun f cdv A outer s H E C0 C l hr x hp => ?_
  show PB _ C [some (tLst (l.map (tQ K)))] _ _ _
  exact pb_retP x (px_call (ok_even T) l rfl hr (pxs_cons (px_call (ok_checked T) l rfl hr (pxs_cons (va 0 rfl) pxs_nil) hp.1) pxs_nil) hp)
theorem sc79 : FnScope ["value", "low", "high"] ["value", "low", "high"] (defScope (top 79)) := ⟨rfl, rfl, rfl, by decide +kernel, rfl, by decide +kernel, by decide +kernel⟩
theorem ok_checkH (T : Txt K mg) : Ok P w K mg base 1 "check_count_horizons" ["value", "low", "high"] (Pur (fun z : Int × Int × Int => [tI z.1, tI z.2.1, tI z.2.2]) (fun z => z.2.1 ≤ z.1 ∧ z.1 ≤ z.2.2) (fun z => tI z.1)) := by
  refine T.d_check_count_horizons.ok sc79 (fun _ => rfl) (fun _ _ _ _ _ _ us hl => match us, hl with | [_, _, _], _ => rfl) fun f cdv A outer s H E C0 C z hr x hp => ?_
  obtain ⟨i, lo, hi⟩ := z
  obtain ⟨h1, h2⟩ := hp
  replace h1 : lo ≤ i := h1
  replace h2 : i ≤ hi := h2
  show PB _ C [some (tI i), some (tI lo), some (tI hi)] _ _ _
  refine pb_guard (x := false) ((pxt_w (pxw_or (pxt_val (px_isi hasI kit_int_bool T.f_isinstance T.f_bool boot_bool (va 0 rfl))) fun _ => pxw_or (pxt_lt (va 0 rfl) (va 1 rfl)) fun _ => pxw_or1 (pxt_gt (va 0 rfl) (va 2 rfl)))).cast (bool_or3 rfl (decide_eq_false (by omega)) (decide_eq_false (by omega)))) (fun h => nomatch h) fun _ => pb_retP x (va 0 rfl)
theorem sc81 : FnScope ["rounds", "width", "high"] ["rounds", "width"] (defScope (top 81)) := ⟨rfl, rfl, rfl, by decide +kernel, rfl, by decide +kernel, by decide +kernel⟩
theorem ok_check_rounds (T : Txt K mg) : Ok P w K mg base 3 "check_rounds" ["rounds", "width"] (Pur (fun z : Nat × Nat => [tI (z.1 : Nat), tI (z.2 : Nat)]) (fun z => Hasw z.2 z.1) (fun z => tI (z.1 : Nat))) := by
  refine T.d_check_rounds.ok sc81 (fun _ => rfl) (fun _ _ _ _ _ _ us hl => match us, hl with | [_, _], _ => rfl) fun f cdv A outer s H E C0 C z hr x hw => ?_
  obtain ⟨r, w'⟩ := z
  replace hw : Hasw w' r := hw
  have h2 : r ≤ mostR w' := hw.2
  show PB _ C [some (tI (r : Nat)), some (tI (w' : Nat)), none] _ _ _
  refine plet sc81.nd 2 (px_call (ok_mostR T) w' rfl hr (pxs_cons (va 1 rfl) pxs_nil) hw.1) ?_
  exact pb_retP x (px_call (ok_checkH T) ((r : Int), 0, (mostR w' : Nat)) rfl hr (pxs_cons (va 0 rfl) (pxs_cons px_int (pxs_cons (va 2 rfl) pxs_nil))) ⟨by show (0 : Int) ≤ r; omega, by show (r : Int) ≤ (mostR w' : Nat); omega⟩)
theorem sc82 : FnScope ["first", "second"] ["first", "second"] (defScope (top 82)) := ⟨rfl, rfl, rfl, by decide +kernel, rfl, by decide +kernel, by decide +kernel⟩
abbrev PD := Nat × Nat × List (List Rat)
abbrev TD := Nat × Nat × List Rat
theorem ok_same_shape (T : Txt K mg) (BT : TabT K mg Ct) (BP : PlanT K mg Cp) : Ok P w K mg base 3 "same_shape" ["first", "second"] (Pur (fun z : PD × TD => [tPlan K Cp z.1.1 z.1.2.1 z.1.2.2, tTab K Ct z.2.1 z.2.2.1 z.2.2.2]) (fun _ => True) (fun z => tB (decide (z.1.1 = z.2.1) && decide (z.1.2.1 = z.2.2.1)))) := by
  refine T.d_same_shape.ok sc82 (fun _ => rfl) (fun _ _ _ _ _ _ us hl => match us, hl with | [_, _], _ => rfl) fun f cdv A outer s H E C0 C z hr x hp => ?_
  obtain ⟨⟨a, b, c⟩, a', b', c'⟩ := z
  show PB _ C [some (tPlan K Cp a b c), some (tTab K Ct a' b' c')] _ _ _
  refine pb_retP x ((px_and (px_eq (px_prop (plan_width T BP) (a, b, c) rfl hr (va 0 rfl) rfl trivial) (px_prop (tab_width T BT) (a', b', c') rfl hr (va 1 rfl) rfl trivial)) fun _ => px_one (px_eq (px_prop (plan_rounds T BP) (a, b, c) rfl hr (va 0 rfl) rfl trivial) (px_prop (tab_rounds T BT) (a', b', c') rfl hr (va 1 rfl) rfl trivial))).cast (congrArg tB ?_))
  show (decide ((a : Int) = (a' : Int)) && decide ((b : Int) = (b' : Int))) = (decide (a = a') && decide (b = b'))
  congr 1 <;> exact decide_eq_decide.mpr (by omega)
end
end Nb
end -- F2
section -- A1
set_option maxHeartbeats 1000000
namespace Nb
open PySem PySem.Spec PyProof.Rows L2
theorem zipIdx_range {α : Type} (f : Nat → α) (n : Nat) : ((List.range n).map f).zipIdx = (List.range n).map fun k => (f k, k) := by
  apply List.ext_getElem?
  intro i
  rw [List.getElem?_zipIdx, List.getElem?_map, List.getElem?_map]
  by_cases hi : i < n
  · rw [List.getElem?_range hi]
    simp
  · rw [List.getElem?_eq_none (by rw [List.length_range]; omega)]
    rfl
structure Lad (w r : Nat) (c : Nat → List Rat) : Prop where
  hw : Hasw w r
  len : ∀ k, k ≤ r → (c k).length = w ^ k
  big : ∀ k, k ≤ r → ∀ q ∈ c k, Big q
def bnds (r : Nat) (c : Nat → List Rat) : List Rat := (List.range (r + 1)).flatMap c
theorem bnds_len {w r : Nat} {c : Nat → List Rat} (h : ∀ k, k ≤ r → (c k).length = w ^ k) : (bnds r c).length = off w (r + 1) := by
  unfold bnds
  induction r with
  | zero =>
    have := h 0 (Nat.le_refl _)
    show (List.flatMap c [0]).length = _
    rw [List.flatMap_cons, List.flatMap_nil, List.append_nil, this]
    rfl
  | succ r ih =>
    rw [List.range_succ, List.flatMap_append, List.length_append, ih fun k hk => h k (by omega), off_add w (r + 1)]
    show _ + (List.flatMap c [r + 1]).length = _
    rw [List.flatMap_cons, List.flatMap_nil, List.append_nil, h (r + 1) (Nat.le_refl _)]
theorem Lad.blen {w r : Nat} {c : Nat → List Rat} (h : Lad w r c) : (bnds r c).length = off w (r + 1) := bnds_len h.len
theorem Lad.bbig {w r : Nat} {c : Nat → List Rat} (h : Lad w r c) : ∀ q ∈ bnds r c, Big q := fun q hq => by
  obtain ⟨k, hk, hq⟩ := List.mem_flatMap.mp hq
  exact h.big k (by have := List.mem_range.mp hk; omega) q hq
abbrev tTabs (K : PySem.W.Frag) (Ct : Addr) (w r : Nat) (c : Nat → List Rat) : List Ty := (List.range (r + 1)).map fun k => tTab K Ct w k (c k)
abbrev tLad (K : PySem.W.Frag) (Ct : Addr) (w r : Nat) (c : Nat → List Rat) : Ty := tSeq K (tTabs K Ct w r c)
theorem tabs_get {K : PySem.W.Frag} {Ct : Addr} {w r k : Nat} {c : Nat → List Rat} (h : k ≤ r) : (tTabs K Ct w r c)[k]? = some (tTab K Ct w k (c k)) := by
  rw [List.getElem?_map, List.getElem?_range (by omega)]
  rfl
theorem tabs_len {K : PySem.W.Frag} {Ct : Addr} {w r : Nat} {c : Nat → List Rat} : (tTabs K Ct w r c).length = r + 1 := by simp
section
variable {K : PySem.W.Frag} {mg : Str → Option Value} {base : Heap} {P : Program} {w : World} {Ct Cp : Addr}
abbrev LD := Nat × Nat × (Nat → List Rat)
abbrev spLad (K : PySem.W.Frag) (Ct : Addr) (res : LD → Ty) : Sp := Pur (fun z : LD => [tLad K Ct z.1 z.2.1 z.2.2]) (fun z => Lad z.1 z.2.1 z.2.2) res
theorem sc87 : FnScope ["ladder", "at", "table"] ["ladder"] (defScope (top 87)) := ⟨rfl, rfl, rfl, by decide +kernel, rfl, by decide +kernel, by decide +kernel⟩
theorem ok_check_ladder (T : Txt K mg) (BT : TabT K mg Ct) : Ok P w K mg base 3 "check_ladder" ["ladder"] (spLad K Ct fun _ => tN) := by
  refine T.d_check_ladder.ok sc87 (fun _ => rfl) (fun _ _ _ _ _ _ us hl => match us, hl with | [_], _ => rfl) fun f cdv A outer s H E C0 C z hr x hp => ?_
  obtain ⟨w', r, c⟩ := z
  replace hp : Lad w' r c := hp
  show PB _ C [some (tLad K Ct w' r c), none, none] _ _ _
  refine pb_guard (pxt_eq (px_lenQ T.f_len (va 0 rfl)) px_int) (fun h => ?_) fun _ => ?_
  · have := of_decide_eq_true h
    rw [tabs_len] at this
    omega
  have e1 : ((tTabs K Ct w' r c).zipIdx.map fun z => tTup K [tI ((z.2 : Nat) : Int), z.1]) = (List.range (r + 1)).map fun k => tTup K [tI ((k : Nat) : Int), tTab K Ct w' k (c k)] := by
    rw [zipIdx_range, List.map_map]
    rfl
  refine pb_for (l := List.range (r + 1)) (tA := fun k => tTup K [tI ((k : Nat) : Int), tTab K Ct w' k (c k)]) PassesOwn.never rfl ((PIX.seq (i := 0) (fun G' h e => pix_enum T.f_enumerate (va 0 h)) (fun G' h e => pix_enumT T.f_enumerate (va 0 h)) rfl).cast' e1) (fun _ => C) (fun _ => [some (tLad K Ct w' r c), none, none]) (fun _ k => [some (tLad K Ct w' r c), some (tI ((k : Nat) : Int)), some (tTab K Ct w' k (c k))]) (js := [1, 2]) (fun _ => rfl) (fun _ _ h => h)
    (fun i a => pgx_tup rfl (pgxs_cons (nm sc87.nd 1) (pgxs_cons (nm sc87.nd 2) pgxs_nil))) (fun i a ha => ?_) (pb_nil fun σ H h => RtOf.of x h.base rfl)
  refine pb_guard (x := false) ((pxt_w (pxw_or (pxt_ne (px_prop (tab_width T BT) (w', a, c a) rfl hr (va 2 rfl) rfl trivial) (px_prop (tab_width T BT) (w', 0, c 0) rfl hr (px_ixQ (va 0 rfl) px_int (atI_nat (j := 0) (tabs_get (Nat.zero_le _)))) rfl trivial)) fun _ =>
    pxw_or1 (pxt_ne (px_prop (tab_rounds T BT) (w', a, c a) rfl hr (va 2 rfl) rfl trivial) (va 1 rfl)))).cast (by simp)) (fun h => nomatch h) fun _ => pb_endI (gi_keep (gi_drop (gi_drop gi_nil)))
theorem sc88 : FnScope ["ladder", "table", "cell"] ["ladder"] (defScope (top 88)) := ⟨rfl, rfl, rfl, by decide +kernel, rfl, by decide +kernel, by decide +kernel⟩
theorem flat_take_len {w r : Nat} {c : Nat → List Rat} (h : Lad w r c) (n : Nat) : (((List.range (r + 1)).take n).flatMap fun k => (c k).map (tQ K)).length ≤ 1000000 := by
  have h1 : ∀ m, (((List.range (r + 1)).take m).flatMap c).length ≤ (bnds r c).length := fun m => by
    have e : bnds r c = ((List.range (r + 1)).take m).flatMap c ++ ((List.range (r + 1)).drop m).flatMap c := by
      unfold bnds
      rw [← List.flatMap_append, List.take_append_drop]
    rw [e, List.length_append]
    omega
  have h2 := h1 n
  rw [h.blen] at h2
  have h3 := hasw_off h.hw
  have e : (((List.range (r + 1)).take n).flatMap fun k => (c k).map (tQ K)) = (((List.range (r + 1)).take n).flatMap c).map (tQ K) := by rw [List.map_flatMap]
  rw [e, List.length_map]
  omega
theorem ok_bounds (T : Txt K mg) (BT : TabT K mg Ct) : Ok P w K mg base 3 "ladder_bounds" ["ladder"] (spLad K Ct fun z => tLst ((bnds z.2.1 z.2.2).map (tQ K))) := by
  refine T.d_ladder_bounds.ok sc88 (fun _ => rfl) (fun _ _ _ _ _ _ us hl => match us, hl with | [_], _ => rfl) fun f cdv A outer s H E C0 C z hr x hp => ?_
  obtain ⟨w', r, c⟩ := z
  replace hp : Lad w' r c := hp
  show PB _ C [some (tLad K Ct w' r c), none, none] _ _ _
  refine pb_retP x ((px_lc2 (own := [("table", 1), ("cell", 2)]) (js := [1]) (js1 := [2]) (vs1 := [2]) (l := List.range (r + 1)) (tA := fun k => tTab K Ct w' k (c k)) (m := c) (tB := fun _ q => tQ K q) (E := fun _ q => tQ K q) rfl sc88.nd (psq 0 rfl) (blkOk_by (by kernel_rfl)) (by decide) (by decide) (by decide)
    (fun n => ⟨flat_take_len hp n, fun k hk => ?_⟩)
    (fun s H D cl fp d Vs a => nm sc88.nd 1) (fun s H D cl fp d Vs a ha hd => pix_list (px_prop (tab_cells T BT) (w', a, c a) rfl hr (va 1 rfl) rfl trivial)) (fun s H D cl fp d Vs a b => nm sc88.nd 2) (fun s H D cl fp d Vs a b ha hb hd => va 2 rfl)).cast ?_)
  · have hk' : k ≤ r := by have := List.mem_range.mp hk; omega
    rw [hp.len k hk']
    have := hasw_pow (hp.hw.le hk')
    omega
  · unfold bnds
    rw [List.map_flatMap]
end
end Nb
end -- A1
section -- A2
set_option maxHeartbeats 1000000
namespace Nb
open PySem PySem.Spec PyProof.Rows L2
theorem PXs.cast {X : Cx} {C : HC} {G : Env} {es : List Expr} {Ts Us : List Ty} (h : PXs X C G es Ts) (f : Ts = Us) : PXs X C G es Us := f ▸ h
theorem papE {X : Cx} {C : HC} {G : Env} {a : Expr} {T : Ty} {Ts Us : List Ty} {pos p1 apos cpos : Pos} {rest : List Stmt} {Nx : NX} {Rt : RT} {x : Str} {o : Addr} (i : Nat) (hE : Ts ++ [T] = Us) (ha : PX X (C.own o Ts) G a T) (hl : G[i]? = some (some (tR o))) (hz : Ts.length < 1000000) (hr : PB X (C.own o Us) G rest Nx Rt)
    (hN : X.N[i]? = some x := by rfl) (hv : Vis X.env.scope x := by first | exact .inl rfl | exact .inr (.inl rfl) | exact .inr (.inr rfl)) (hd : (x == ("__debug__" : Str)) = false := by decide) (hcd : (x == ("__classdict__" : Str)) = false := by decide)
    (hbase : attributeBase (.Name x p1) "append" X.env (eval (.Name x p1) X.env) = eval (.Name x p1) X.env := by rfl)
    (hfew : ((backTo cpos (starEach [a] X.env)).all (fun x => !x.1) && (backToKw cpos (keywordEach [] X.env)).all (fun x => x.1.isSome)
      && decide ([a].length + ([] : List Keyword).length + (if ([] : List Keyword).isEmpty then 0 else 1) < 30)) = true := by rfl)
    (hline : (apos.endLine == cpos.line) = true := by rfl) (hs : starEach [a] X.env = (false, eval a X.env) :: starEach [] X.env := by rfl)
    (hsw : swapsWith (.Call (.Attribute (.Name x p1) "append" apos) [a] [] cpos) none pos.line X.env = pure false := by rfl) :
    PB X (C.own o Ts) G (.Expr (.Call (.Attribute (.Name x p1) "append" apos) [a] [] cpos) pos :: rest) Nx Rt := by
  subst hE
  exact pap i ha hl hz hr hN hv hd hcd hbase hfew hline hs hsw
def shv (shs : List (List Rat)) (i y : Nat) : Rat := (shs.getD i []).getD y 0
/-- along the places -/
def recF (z0 : Rat) (g : Rat → Rat → Rat) (w : Nat) (shs : List (List Rat)) : Nat → Rat
  | 0 => z0
  | j + 1 => g (recF z0 g w shs (j / w)) (shv shs (j / w) (j % w))
termination_by j => j
decreasing_by exact Nat.lt_succ_of_le (Nat.div_le_self j w)
theorem recF_zero {z0 : Rat} {g : Rat → Rat → Rat} {w : Nat} {shs : List (List Rat)} : recF z0 g w shs 0 = z0 := by rw [recF]
theorem recF_succ {z0 : Rat} {g : Rat → Rat → Rat} {w : Nat} {shs : List (List Rat)} (j : Nat) : recF z0 g w shs (j + 1) = g (recF z0 g w shs (j / w)) (shv shs (j / w) (j % w)) := by rw [recF]
theorem recF_child {z0 : Rat} {g : Rat → Rat → Rat} {w : Nat} {shs : List (List Rat)} {i y : Nat} (h : y < w) : recF z0 g w shs (w * i + y + 1) = g (recF z0 g w shs i) (shv shs i y) := by
  rw [recF_succ, div_child h, mod_child h]
abbrev missF (w : Nat) (shs : List (List Rat)) : Nat → Rat := recF 0 (fun m s => m + (1 - s)) w shs
abbrev reachF (w : Nat) (shs : List (List Rat)) : Nat → Rat := recF 1 (fun m s => m * s) w shs
theorem missF_child {w : Nat} {shs : List (List Rat)} {i y : Nat} (h : y < w) : missF w shs (w * i + y + 1) = missF w shs i + (1 - shv shs i y) := recF_child (g := fun m s => m + (1 - s)) h
theorem reachF_child {w : Nat} {shs : List (List Rat)} {i y : Nat} (h : y < w) : reachF w shs (w * i + y + 1) = reachF w shs i * shv shs i y := recF_child (g := fun m s => m * s) h
theorem list_getD {α : Type} (d : α) (l : List α) : l = (List.range l.length).map fun i => l.getD i d := by
  apply List.ext_getElem?
  intro i
  rw [List.getElem?_map]
  by_cases hi : i < l.length
  · rw [List.getElem?_range hi, List.getElem?_eq_getElem hi]
    simp [List.getElem?_eq_getElem hi]
  · rw [List.getElem?_eq_none (by omega), List.getElem?_eq_none (by rw [List.length_range]; omega)]
    rfl
theorem enum_shs {K : PySem.W.Frag} (shs : List (List Rat)) : ((shs.map (tSh K)).zipIdx.map fun z => tTup K [tI ((z.2 : Nat) : Int), z.1]) = (List.range shs.length).map fun i => tTup K [tI ((i : Nat) : Int), tSh K (shs.getD i [])] := by
  conv => lhs; rw [list_getD [] shs]
  rw [List.map_map, zipIdx_range, List.map_map]
  rfl
theorem sh_row {K : PySem.W.Frag} {w : Nat} {l : List Rat} (h : l.length = w) : l.map (tQ K) = (List.range w).map fun y => tQ K (l.getD y 0) := by
  conv => lhs; rw [list_getD 0 l]
  rw [List.map_map, h]
  rfl
theorem Shrs.row {w n i : Nat} {shs : List (List Rat)} (h : Shrs w n shs) (hi : i < n) : Shr w (shs.getD i []) := by
  have hi' : i < shs.length := by rw [h.len]; exact hi
  have : shs.getD i [] = shs[i] := by simp [List.getElem?_eq_getElem hi']
  rw [this]
  exact h.all _ (List.getElem_mem hi')
theorem Shrs.mem {w n i y : Nat} {shs : List (List Rat)} (h : Shrs w n shs) (hi : i < n) (hy : y < w) : shv shs i y ∈ shs.getD i [] := by
  have hr := h.row hi
  have hy' : y < (shs.getD i []).length := by rw [hr.len]; exact hy
  have e : shv shs i y = (shs.getD i [])[y] := by
    show (shs.getD i []).getD y 0 = _
    rw [List.getD_eq_getElem?_getD, List.getElem?_eq_getElem hy']
    rfl
  rw [e]
  exact List.getElem_mem hy'
section
variable {K : PySem.W.Frag} {mg : Str → Option Value} {base : Heap} {P : Program} {w : World} {Ct Cp : Addr}
theorem sc89 : FnScope ["plan", "found", "at", "sharing", "share"] ["plan"] (defScope (top 89)) := ⟨rfl, rfl, rfl, by decide +kernel, rfl, by decide +kernel, by decide +kernel⟩
theorem sc90 : FnScope ["foe", "found", "at", "sharing", "share"] ["foe"] (defScope (top 90)) := ⟨rfl, rfl, rfl, by decide +kernel, rfl, by decide +kernel, by decide +kernel⟩
def recTs (K : PySem.W.Frag) (F : Nat → Rat) (n : Nat) : List Ty := (List.range n).map fun j => tQ K (F j)
theorem recTs_succ (F : Nat → Rat) (n : Nat) : recTs K F n ++ [tQ K (F n)] = recTs K F (n + 1) := by unfold recTs; rw [List.range_succ, List.map_append]; rfl
theorem recTs_get {F : Nat → Rat} {n i : Nat} (h : i < n) : (recTs K F n)[i]? = some (tQ K (F i)) := by unfold recTs; rw [List.getElem?_map, List.getElem?_range h]; rfl
theorem recTs_len (F : Nat → Rat) (n : Nat) : (recTs K F n).length = n := by unfold recTs; simp
structure PlanOk (w r : Nat) (shs : List (List Rat)) : Prop where
  hw : Hasw w r
  sh : Shrs w (off w r) shs
theorem PlanOk.szs {w r i y : Nat} {shs : List (List Rat)} (h : PlanOk w r shs) (hi : i < off w r) (hy : y < w) : Sz (shv shs i y) := (h.sh.row hi).sz.1 _ (h.sh.mem hi hy)
theorem ok_misses (T : Txt K mg) (BP : PlanT K mg Cp) : Ok P w K mg base 5 "misses_behind" ["plan"] (Pur (fun z : PD => [tPlan K Cp z.1 z.2.1 z.2.2]) (fun z => PlanOk z.1 z.2.1 z.2.2 ∧ (∀ j, j < off z.1 (z.2.1 + 1) → Sz (missF z.1 z.2.2 j)) ∧ ∀ i y, i < off z.1 z.2.1 → y < z.1 → Sz (1 - shv z.2.2 i y)) (fun z => tLst (recTs K (missF z.1 z.2.2) (off z.1 (z.2.1 + 1))))) := by
  refine T.d_misses_behind.ok sc89 (fun _ => rfl) (fun _ _ _ _ _ _ us hl => match us, hl with | [_], _ => rfl) fun f cdv A outer s H E C0 C z hr x hp => ?_
  obtain ⟨w', r, shs⟩ := z
  obtain ⟨hp, hz, hz1⟩ := hp
  replace hp : PlanOk w' r shs := hp
  replace hz : ∀ j, j < off w' (r + 1) → Sz (missF w' shs j) := hz
  replace hz1 : ∀ i y, i < off w' r → y < w' → Sz (1 - shv shs i y) := hz1
  have hoff := hasw_off hp.hw
  have hlen := hp.sh.len
  have w0 : 0 < w' := hp.hw.1.1
  show PB _ C [some (tPlan K Cp w' r shs), none, none, none, none] _ _ _
  have e0 : [tTup K [tI 0, tI 1]] = recTs K (missF w' shs) (w' * 0 + 1) := by
    show _ = [tQ K (missF w' shs 0)]
    rw [show missF w' shs 0 = 0 from recF_zero]
    rfl
  refine pb_new ((pxs_cons (px_tup (pxs_cons px_int (pxs_cons px_int pxs_nil))) pxs_nil).cast e0) (fun o => ?_) sc89.nd (i := 1) rfl (.inl rfl)
  refine pb_for (l := List.range shs.length) (tA := fun i => tTup K [tI ((i : Nat) : Int), tSh K (shs.getD i [])]) PassesOwn.never rfl ((pix_enum T.f_enumerate (px_prop (plan_shares T BP) (w', r, shs) rfl hr (va 0 rfl) rfl trivial)).cast' (enum_shs shs)) (fun i => C.own o (recTs K (missF w' shs) (w' * i + 1))) (fun i => [some (tPlan K Cp w' r shs), some (tR o), none, none, none])
    (fun _ i => [some (tPlan K Cp w' r shs), some (tR o), some (tI ((i : Nat) : Int)), some (tSh K (shs.getD i [])), none]) (js := [2, 3]) (fun _ => rfl) (fun _ _ h => h) (fun i a => pgx_tup rfl (pgxs_cons (nm sc89.nd 2) (pgxs_cons (nm sc89.nd 3) pgxs_nil))) (fun i a ha => ?_) ?_
  · have hia : i < shs.length ∧ a = i := by
      obtain ⟨h1, h2⟩ := List.getElem?_eq_some_iff.mp ha
      rw [List.getElem_range] at h2
      exact ⟨by simpa using h1, h2.symm⟩
    obtain ⟨hi, rfl⟩ := hia
    rw [hlen] at hi
    have hrow := (hp.sh.row hi).len
    have hnext : w' * (a + 1) + 1 ≤ off w' (r + 1) := Nat.succ_le_succ (Nat.mul_le_mul_left w' hi)
    refine pb_forN (j := 4) (l := List.range w') (tA := fun y => tQ K (shv shs a y)) PassesOwn.never rfl ((pix_tup (va 3 rfl)).cast' (sh_row hrow)) (fun y => C.own o (recTs K (missF w' shs) (w' * a + y + 1))) (fun y => [some (tPlan K Cp w' r shs), some (tR o), some (tI ((a : Nat) : Int)), some (tSh K (shs.getD a [])), none]) sc89.nd rfl (.inl rfl) (fun _ => rfl) (fun _ _ h => h) (fun y b hb => ?_) ?_
    · have hyb : y < w' ∧ b = y := by
        obtain ⟨h1, h2⟩ := List.getElem?_eq_some_iff.mp hb
        rw [List.getElem_range] at h2
        exact ⟨by simpa using h1, h2.symm⟩
      obtain ⟨hy, rfl⟩ := hyb
      have hay : a < w' * a + b + 1 := by have := Nat.le_mul_of_pos_left a w0; omega
      have hlt : w' * a + b + 1 < off w' (r + 1) := by
        rw [Nat.mul_succ] at hnext
        omega
      have e2 : recTs K (missF w' shs) (w' * a + b + 1) ++ [tQ K (missF w' shs a + (1 - shv shs a b))] = recTs K (missF w' shs) (w' * a + (b + 1) + 1) := by
        rw [show w' * a + (b + 1) + 1 = (w' * a + b + 1) + 1 from rfl, ← recTs_succ (missF w' shs) (w' * a + b + 1)]
        exact congrArg (fun q => recTs K (missF w' shs) (w' * a + b + 1) ++ [tQ K q]) (missF_child hy).symm
      refine papE 1 e2 (px_call (ok_add T) (missF w' shs a, 1 - shv shs a b) rfl hr (pxs_cons ((px_ixO (i := 1) rfl rfl (.inl rfl) (va 2 rfl) (atI_nat (recTs_get hay))).num (hz a (by omega))) (pxs_cons ((px_call (ok_sub T) (1, shv shs a b) rfl hr (pxs_cons (px_int.numI one_abs) (pxs_cons ((va 4 rfl).num (hp.szs hi hy)) pxs_nil)) ⟨sz_one, hp.szs hi hy⟩).num (hz1 a b hi hy)) pxs_nil)) ⟨hz a (by omega), hz1 a b hi hy⟩) rfl ?_ ?_
      · rw [recTs_len]; omega
      · exact pb_endI (gi_keep (gi_keep (gi_keep (gi_keep (gi_drop gi_nil)))))
    · rw [List.length_range]
      exact pb_endI (gi_keep (gi_keep (gi_drop (gi_drop (gi_keep gi_nil)))))
  · refine pb_freeze (i := 1) rfl (pb_retP x ((va 1 rfl).cast ?_))
    rw [List.length_range, hlen]
    rfl
theorem ok_chances (T : Txt K mg) (BP : PlanT K mg Cp) : Ok P w K mg base 5 "chances_behind" ["foe"] (Pur (fun z : PD => [tPlan K Cp z.1 z.2.1 z.2.2]) (fun z => PlanOk z.1 z.2.1 z.2.2 ∧ ∀ j, j < off z.1 (z.2.1 + 1) → Sz (reachF z.1 z.2.2 j)) (fun z => tLst (recTs K (reachF z.1 z.2.2) (off z.1 (z.2.1 + 1))))) := by
  refine T.d_chances_behind.ok sc90 (fun _ => rfl) (fun _ _ _ _ _ _ us hl => match us, hl with | [_], _ => rfl) fun f cdv A outer s H E C0 C z hr x hp => ?_
  obtain ⟨w', r, shs⟩ := z
  obtain ⟨hp, hz⟩ := hp
  replace hp : PlanOk w' r shs := hp
  replace hz : ∀ j, j < off w' (r + 1) → Sz (reachF w' shs j) := hz
  have hoff := hasw_off hp.hw
  have hlen := hp.sh.len
  have w0 : 0 < w' := hp.hw.1.1
  show PB _ C [some (tPlan K Cp w' r shs), none, none, none, none] _ _ _
  have e0 : [tTup K [tI 1, tI 1]] = recTs K (reachF w' shs) (w' * 0 + 1) := by
    show _ = [tQ K (reachF w' shs 0)]
    rw [show reachF w' shs 0 = 1 from recF_zero]
    rfl
  refine pb_new ((pxs_cons (px_tup (pxs_cons px_int (pxs_cons px_int pxs_nil))) pxs_nil).cast e0) (fun o => ?_) sc90.nd (i := 1) rfl (.inl rfl)
  refine pb_for (l := List.range shs.length) (tA := fun i => tTup K [tI ((i : Nat) : Int), tSh K (shs.getD i [])]) PassesOwn.never rfl ((pix_enum T.f_enumerate (px_prop (plan_shares T BP) (w', r, shs) rfl hr (va 0 rfl) rfl trivial)).cast' (enum_shs shs)) (fun i => C.own o (recTs K (reachF w' shs) (w' * i + 1))) (fun i => [some (tPlan K Cp w' r shs), some (tR o), none, none, none])
    (fun _ i => [some (tPlan K Cp w' r shs), some (tR o), some (tI ((i : Nat) : Int)), some (tSh K (shs.getD i [])), none]) (js := [2, 3]) (fun _ => rfl) (fun _ _ h => h) (fun i a => pgx_tup rfl (pgxs_cons (nm sc90.nd 2) (pgxs_cons (nm sc90.nd 3) pgxs_nil))) (fun i a ha => ?_) ?_
  · have hia : i < shs.length ∧ a = i := by
      obtain ⟨h1, h2⟩ := List.getElem?_eq_some_iff.mp ha
      rw [List.getElem_range] at h2
      exact ⟨by simpa using h1, h2.symm⟩
    obtain ⟨hi, rfl⟩ := hia
    rw [hlen] at hi
    have hrow := (hp.sh.row hi).len
    have hnext : w' * (a + 1) + 1 ≤ off w' (r + 1) := Nat.succ_le_succ (Nat.mul_le_mul_left w' hi)
    refine pb_forN (j := 4) (l := List.range w') (tA := fun y => tQ K (shv shs a y)) PassesOwn.never rfl ((pix_tup (va 3 rfl)).cast' (sh_row hrow)) (fun y => C.own o (recTs K (reachF w' shs) (w' * a + y + 1))) (fun y => [some (tPlan K Cp w' r shs), some (tR o), some (tI ((a : Nat) : Int)), some (tSh K (shs.getD a [])), none]) sc90.nd rfl (.inl rfl) (fun _ => rfl) (fun _ _ h => h) (fun y b hb => ?_) ?_
    · have hyb : y < w' ∧ b = y := by
        obtain ⟨h1, h2⟩ := List.getElem?_eq_some_iff.mp hb
        rw [List.getElem_range] at h2
        exact ⟨by simpa using h1, h2.symm⟩
      obtain ⟨hy, rfl⟩ := hyb
      have hay : a < w' * a + b + 1 := by have := Nat.le_mul_of_pos_left a w0; omega
      have hlt : w' * a + b + 1 < off w' (r + 1) := by
        rw [Nat.mul_succ] at hnext
        omega
      have e2 : recTs K (reachF w' shs) (w' * a + b + 1) ++ [tQ K (reachF w' shs a * shv shs a b)] = recTs K (reachF w' shs) (w' * a + (b + 1) + 1) := by
        rw [show w' * a + (b + 1) + 1 = (w' * a + b + 1) + 1 from rfl, ← recTs_succ (reachF w' shs) (w' * a + b + 1)]
        exact congrArg (fun q => recTs K (reachF w' shs) (w' * a + b + 1) ++ [tQ K q]) (reachF_child hy).symm
      refine papE 1 e2 (px_call (ok_mul T) (reachF w' shs a, shv shs a b) rfl hr (pxs_cons ((px_ixO (i := 1) rfl rfl (.inl rfl) (va 2 rfl) (atI_nat (recTs_get hay))).num (hz a (by omega))) (pxs_cons ((va 4 rfl).num (hp.szs hi hy)) pxs_nil)) ⟨hz a (by omega), hp.szs hi hy⟩) rfl ?_ ?_
      · rw [recTs_len]; omega
      · exact pb_endI (gi_keep (gi_keep (gi_keep (gi_keep (gi_drop gi_nil)))))
    · rw [List.length_range]
      exact pb_endI (gi_keep (gi_keep (gi_drop (gi_drop (gi_keep gi_nil)))))
  · refine pb_freeze (i := 1) rfl (pb_retP x ((va 1 rfl).cast ?_))
    rw [List.length_range, hlen]
    rfl
end
end Nb
end -- A2
section -- NbO
set_option maxHeartbeats 1000000
namespace Nb
open PySem PySem.Spec PyProof.Rows L2
def tXO (C : HC) (G : Env) (Ts : List Ty) : TE := fun σ H Q => EnvOk C G σ H ∧ ∀ o H2, EnvOk (C.own o Ts) G σ H2 → Ex (hid C.M H) (hid (C.own o Ts).M H2) → Q (.ref o) H2
def PXO (X : Cx) (C : HC) (G : Env) (e : Expr) (Ts : List Ty) : Prop := PE X e (tXO C G Ts)
def PXsetO (X : Cx) (C : HC) (G : Env) (st : Stmt) (i : Nat) (Ts : List Ty) : Prop := PS X st (tAsg (tXO C G Ts) (gName i))
/-- a def that gives a new list -/
def PurO {α : Type} (args : α → List Ty) (pre : α → Prop) (ls : α → List Ty) : Sp := fun vs H Q _ => ∃ (M : Addr → Bool) (z : α), (∀ a, M a = true → ∃ o, H a = some o) ∧ TyAll (hid M H) vs (args z) ∧ pre z ∧
  ∀ o xs H', Ex H H' → H o = none → H' o = some (.lst xs) → TyAll (hid (fun a => a == o || M a) H') xs (ls z) → Q (.ref o) H'
def RtO (C : HC) (Ts : List Ty) : RT := fun v H => (∀ a o, C.H0 a = some o → H a = some o) ∧ ∃ o xs, v = .ref o ∧ C.H0 o = none ∧ H o = some (.lst xs) ∧ TyAll (hid (fun a => a == o || C.M a) H) xs Ts
section
variable {X : Cx} {C C' : HC} {G G' : Env} {a b c e tg tg1 iter iter1 elt : Expr} {es : List Expr} {T U W : Ty} {Ts Us : List Ty} {pos p pos2 spos : Pos} {st : Stmt} {rest : List Stmt} {Nx : NX} {Rt : RT} {i : Nat} {o : Addr}
theorem PXO.px (h : PXO X C G e Ts) : PX X C G e (tLst Ts) := PE.imp h fun σ H Q ⟨ok, q⟩ => ⟨ok, fun o H2 x2 e2 => by
  obtain ⟨_, m, _, xs, h4, h5⟩ := id x2.base.om
  exact q _ H2 x2.of_own (e2.trans own_le) ⟨o, xs, rfl, hid_of m h4, h5.mono own_le⟩⟩
theorem PXO.cast (h : PXO X C G e Ts) (f : Ts = Us) : PXO X C G e Us := f ▸ h
theorem PXsetO.cast (h : PXsetO X C G st i Ts) (f : Ts = Us) : PXsetO X C G st i Us := f ▸ h
theorem set_eO {y : Str} {pos' : Pos} (hN : X.N.Nodup) (hi : X.N[i]? = some y) (hx : Loc X.env.scope y) (he : PXO X C G e Ts) (hs : swapsWith e (some (.Name y pos')) pos.line X.env = pure false := by rfl) (hf : X.fn y = true ∨ X.env.scope.names.lookup y = some .local := by first | exact .inl rfl | exact .inr rfl | assumption) :
    PXsetO X C G (.Assign [.Name y pos'] e pos) i Ts := ps_set hN hi hx he hs hf
theorem pb_letO (h : PXsetO X C G st i Ts) (hr : ∀ o, PB X (C.own o Ts) (G.set i (some (tR o))) rest Nx Rt) : PB X C G (st :: rest) Nx Rt :=
  PSs.imp (pss_cons h (PB_ex hr)) fun D σ H ⟨ok, q1, q2⟩ => ⟨ok, fun o H1 x1 e1 => ⟨o, x1.set (T := tR o) rfl, fun σ' H' n e => q1 σ' H' n fun a u q => own_le _ _ (e _ _ (e1 _ _ q)), q2⟩⟩
theorem pletO (nd : X.N.Nodup) (i : Nat) {x : Str} (he : PXO X C G e Ts) (hr : ∀ o, PB X (C.own o Ts) (G.set i (some (tR o))) rest Nx Rt) (hi : X.N[i]? = some x := by rfl) (hx : Loc X.env.scope x := by first | exact .inl rfl | exact .inr rfl) (hs : swapsWith e (some (.Name x pos2)) pos.line X.env = pure false := by rfl)
    (hf : X.fn x = true ∨ X.env.scope.names.lookup x = some .local := by first | exact .inl rfl | exact .inr rfl) : PB X C G (.Assign [.Name x pos2] e pos :: rest) Nx Rt := pb_letO (set_eO nd hi hx he hs hf) hr
theorem pb_retO {C0 : HC} (x : Ext0 C0 C) (he : PXO X C G e Ts) : PB X C G [.Return (some e) pos] Nx (RtO C0 Ts) :=
  PSs.imp (pss_one (ps_ret he)) fun D σ H ⟨ok, _, q2⟩ => ⟨ok, fun o H1 x1 e1 => q2 (.ref o) H1 (by
    obtain ⟨_, m, h0, xs, h4, h5⟩ := id x1.base.om
    refine ⟨fun a u e => x1.base.old a u (by show C.S a = false; rw [x.s]) (by show C.H0 a = some u; rw [x.h]; exact e), o, xs, rfl, by rw [← x.h]; exact h0, h4, h5.mono (hid_less fun a ha => ?_)⟩
    have ha' : (a == o || C0.M a) = true := ha
    show (a == o || C.M a) = true
    rw [Bool.or_eq_true] at ha' ⊢
    exact ha'.imp id (x.m a))⟩
/-- an own list given back -/
theorem pb_retOwn {C0 : HC} {y : Str} {p1 : Pos} (x : Ext0 C0 C) (i : Nat) (hl : G[i]? = some (some (tR o))) (hN : X.N[i]? = some y := by rfl) (hv : Vis X.env.scope y := by first | exact .inl rfl | exact .inr (.inl rfl) | exact .inr (.inr rfl)) (h1 : (y == ("__debug__" : Str)) = false := by decide) (h2 : (y == ("__classdict__" : Str)) = false := by decide) :
    PB X (C.own o Ts) G [.Return (some (.Name y p1)) pos] Nx (RtO C0 Ts) :=
  PSs.imp (pss_one (ps_ret (pe_var hN hv h1 h2))) fun D σ H ⟨ok, _, q2⟩ => by
    obtain ⟨v, e, p⟩ := ok.var hl
    obtain rfl : v = .ref o := p
    refine ⟨.ref o, e, q2 (.ref o) H ?_⟩
    obtain ⟨_, m, h0, xs, h4, h5⟩ := id ok.base.om
    refine ⟨fun a u e => ok.base.old a u (by show C.S a = false; rw [x.s]) (by show C.H0 a = some u; rw [x.h]; exact e), o, xs, rfl, by rw [← x.h]; exact h0, h4, h5.mono (hid_less fun a ha => ?_)⟩
    have ha' : (a == o || C0.M a) = true := ha
    show (a == o || C.M a) = true
    rw [Bool.or_eq_true] at ha' ⊢
    exact ha'.imp id (x.m a)
theorem EnvOk.takeown {σ : St} {H H' : Hp} {xs : List V} (x : EnvOk C G σ H) (e : Ex H H') (ho : H o = none) (h4 : H' o = some (.lst xs)) (hx : TyAll (hid (C.own o Ts).M H') xs Ts) : EnvOk (C.own o Ts) G σ H' ∧ Ex (hid C.M H) (hid (C.own o Ts).M H') := by
  have le : Ex (hid C.M H) (hid (C.own o Ts).M H') := fun a u q => by
    obtain ⟨m, q'⟩ := hid_some q
    refine hid_of ?_ (e _ _ q')
    show (a == o || C.M a) = false
    rw [m, Bool.or_false]
    exact beq_eq_false_iff_ne.mpr (ne_of_none q' ho)
  refine ⟨⟨⟨fun a u s q => e a u (x.base.old a u s q), fun a m => ?_, C.om e le x.base.om, x.base.fresh ho, x.base.h0 ho, xs, h4, hx⟩, x.env.imp fun _ _ h => h.mono le⟩, le⟩
  by_cases h : a = o
  · subst h; exact ⟨_, h4⟩
  · have m' : C.M a = true := by
      have : (a == o || C.M a) = true := m
      rw [beq_eq_false_iff_ne.mpr h, Bool.false_or] at this
      exact this
    obtain ⟨u, hu⟩ := x.base.hidd a m'
    exact ⟨u, e _ _ hu⟩
theorem pxo_call {α : Type} {args : α → List Ty} {pre : α → Prop} {ls : α → List Ty} {x : Str} {j k : Nat} {ps : List Str} (F : Ok X.prog X.w X.K X.mg X.base j x ps (PurO args pre ls)) (z : α) (hT : ls z = Ts) (hr : Room k X.A) (ha : PXs X C G (e :: es) (args z)) (hp : pre z)
    (hj : j ≤ k := by decide) (hg : Gl X x := by rfl) (hdb : (x == ("__debug__" : Str)) = false := by decide) (he : starEach (e :: es) X.env = (false, eval e X.env) :: starEach es X.env := by rfl) (hpl : (backTo pos (starEach es X.env)).any (·.1) = false := by rfl) :
    PXO X C G (.Call (.Name x p) (e :: es) [] pos) Ts := by
  obtain ⟨f, fd, hm, hk, hb, hF⟩ := F.ex
  subst hT
  refine PE.imp (pe_call (dvs := []) (E := E0) hF (hr.mono hj) hg hm hk hb .nil pass0 ha hdb he hpl) fun σ H Q ⟨x, q⟩ => ⟨x, fun vs H1 x1 e1 p1 => ?_⟩
  show PurO args pre ls (vs ++ []) H1 Q E0
  rw [List.append_nil]
  refine ⟨C.M, z, x1.base.hidd, p1, hp, fun o xs H' e2 ho h4 h5 => ?_⟩
  obtain ⟨z1, z2⟩ := x1.takeown e2 ho h4 h5
  exact q o H' z1 (e1.trans z2)
end
section
variable {X : Cx} {C C' : HC} {G G' G'' : Env} {a b c e tg tg1 iter iter1 elt : Expr} {ifs : List Expr} {scope : Scope} {own : List (Str × Nat)} {T U W : Ty} {Ts Us : List Ty} {pos p pos2 apos tpos spos : Pos} {i : Nat}
variable {α : Type} {l : List α} {tA E : α → Ty} {t : α → Bool} {Gt : α → Env} {js : List Nat}
theorem lc_okO {vs : List Nat} {σ : St} {H : Hp} {Q : VK} (hj : ∀ k ∈ js, k ∈ vs) (hl : l.length ≤ 1000000) (h : tXO C G ((l.filter t).map E) σ H Q) :
    tLc (tIX C G (l.map tA)) (fun v σ H Q => ∃ z : Addr × List Ty × α, (z.2.2 ∈ l ∧ C.M z.1 = false) ∧ tGX (C.own z.1 z.2.1) (wipeG G vs) (tA z.2.2) (Gt z.2.2) js v σ H Q)
      (fun σ H Q => ∃ z : Addr × List Ty × α, (z.2.2 ∈ l ∧ C.M z.1 = false) ∧ tXt (C.own z.1 z.2.1) (Gt z.2.2) (t z.2.2) σ H Q)
      (fun σ H Q => ∃ z : Addr × List Ty × α, (z.2.2 ∈ l ∧ C.M z.1 = false ∧ t z.2.2 = true) ∧ tX (C.own z.1 z.2.1) (Gt z.2.2) (E z.2.2) σ H Q) vs σ H Q := by
  obtain ⟨ok, q⟩ := h
  refine ⟨ok, fun J H1 x1 e1 y1 D hD => ?_⟩
  have mD := x1.base.fresh hD
  refine ⟨fun i m H' => m + i = l.length ∧ EnvOk (C.own D (((l.take i).filter t).map E)) G σ H' ∧ Ex (hid C.M H1) (hid (C.own D []).M H'), ⟨l.length, rfl, x1.mkown hD .nil, mkown_le hD⟩, ?_⟩
  rintro i m H' ⟨hm, x2, e2⟩
  obtain ⟨y2, y3⟩ := y1 (C.own D []).M H' e2 (fun a h => x2.base.hidd a h) i
  by_cases hi : i < l.length
  · have ha : l[i]? = some l[i] := List.getElem?_eq_getElem hi
    have hmem : l[i] ∈ l := List.getElem_mem hi
    obtain ⟨go, yl⟩ := y2 (tA l[i]) (by rw [List.getElem?_map, ha]; rfl)
    have tk : l.take (i + 1) = l.take i ++ [l[i]] := by rw [List.take_add_one, ha]; rfl
    refine .inr ⟨go, fun H2 => EnvOk (C.own D (((l.take (i + 1)).filter t).map E)) G σ H2 ∧ Ex (hid C.M H1) (hid (C.own D []).M H2), fun H2 ⟨x3, e3⟩ => ⟨m - 1, by omega, by omega, x3, e3⟩, fun v H2 hy => ?_⟩
    obtain ⟨e3, p3⟩ := yl v H2 hy
    have x3 := x2.ex e3
    refine ⟨(D, ((l.take i).filter t).map E, l[i]), ⟨hmem, mD⟩, x3.wipe vs, p3, fun σ2 x4 f4 => ⟨wipe_fix f4 hj, (D, ((l.take i).filter t).map E, l[i]), ⟨hmem, mD⟩, x4, fun H3 x5 e5 => ?_⟩⟩
    have e6 : Ex (hid C.M H1) (hid (C.own D []).M H3) := (e2.trans (hid_mono e3)).trans e5
    have back : ∀ {H4 : Hp} {σ4 : St} {G4 : Env}, EnvOk (C.own D (((l.take i).filter t).map E)) G4 σ4 H4 → Ex (hid (C.own D []).M H2) (hid (C.own D []).M H4) → EnvOk (C.own D (((l.take i).filter t).map E)) G σ H4 := fun x e => ⟨x.base, x3.env.imp fun _ _ h => h.mono e⟩
    cases ht : t l[i] with
    | true =>
      refine ⟨(D, ((l.take i).filter t).map E, l[i]), ⟨hmem, mD, ht⟩, x5, fun y H4 x7 e7 p7 => ?_⟩
      obtain ⟨_, _, _, xs, h4, h5⟩ := id x7.base.om
      refine ⟨xs, h4, ?_, ?_, e6.trans (e7.trans (wrown_le (Ts := []) (Us := [])))⟩
      · rw [h5.length, List.length_map]
        have h6 := List.length_filter_le t (l.take i)
        rw [List.length_take] at h6
        exact Nat.lt_of_le_of_lt (Nat.le_trans h6 (Nat.le_trans (Nat.min_le_right _ _) hl)) (by decide)
      · have x8 := (back x7 (e5.trans e7)).wrown (Us := ((l.take (i + 1)).filter t).map E) (xs := xs ++ [y]) (by
          rw [tk, List.filter_append, List.map_append, List.filter_cons, if_pos ht]
          exact h5.append (.cons p7 .nil))
        exact x8
    | false =>
      refine ⟨?_, e6⟩
      rw [tk, List.filter_append, List.filter_cons, if_neg (by rw [ht]; decide)]
      show EnvOk (C.own D ((List.filter t (List.take i l) ++ []).map E)) G σ H3
      rw [List.append_nil]
      exact back x5 e5
  · have hl : i = l.length := by omega
    refine .inl ⟨y3 (by rw [List.length_map]; exact hl.symm), ?_⟩
    subst hl
    rw [List.take_length] at x2
    exact q D H' x2 (e1.trans e2)
/-- [..] as a new list of one's own, given to a name -/
theorem set_lcO {y : Str} {py : Pos} (hc : X.calm = true) (hN : X.N.Nodup) (hy : X.N[i]? = some y) (hyl : X.env.scope.names.lookup y = some .local) (hsw : swapsWith (.ListComp elt [⟨tg, iter, ifs, 0⟩] scope pos) (some (.Name y py)) spos.line X.env = pure true)
    (hi : PIX X C G tg iter (l.map tA)) (ok : BlkOk X.N X.env.scope scope own) (hj : ∀ k ∈ js, k ∈ own.map (·.2)) (hl : l.length ≤ 1000000)
    (hg : ∀ s H D cl fp d Vs a, PGX (bk X s H scope D cl fp) (C.own d Vs) (wipeG G (own.map (·.2))) tg (tA a) (Gt a) js)
    (ht : ∀ s H D cl fp d Vs a, a ∈ l → C.M d = false → PTs (bk X s H scope D cl fp) ifs (tXt (C.own d Vs) (Gt a) (t a)))
    (he : ∀ s H D cl fp d Vs a, a ∈ l → C.M d = false → t a = true → PX (bk X s H scope D cl fp) (C.own d Vs) (Gt a) elt (E a)) (hs : ∀ x, foldedSetIterable iter X.env x = pure x := by intro _; rfl) :
    PXsetO X C G (.Assign [.Name y py] (.ListComp elt [⟨tg, iter, ifs, 0⟩] scope pos) spos) i ((l.filter t).map E) :=
  PS.imp (ps_setLc hc hN hy hyl hsw hi ok (fun s H D cl fp => PG_ex fun z : Addr × List Ty × α => PG_when fun h => hg s H D cl fp z.1 z.2.1 z.2.2) (fun s H D cl fp => PTs_ex fun z : Addr × List Ty × α => PTs_when fun h => ht s H D cl fp z.1 z.2.1 z.2.2 h.1 h.2)
    (fun s H D cl fp => PE_ex fun z : Addr × List Ty × α => pe_when fun h => he s H D cl fp z.1 z.2.1 z.2.2 h.1 h.2.1 h.2.2) hs) fun D σ H h => lc_okO hj hl h
variable {β : Type} {m : α → List β} {tB : α → β → Ty} {E2 : α → β → Ty} {Ga : α → Env} {Gb : α → β → Env} {js1 vs1 : List Nat}
theorem lc2_okO {vs : List Nat} {σ : St} {H : Hp} {Q : VK} (hj : ∀ k ∈ js, k ∈ vs) (hj1 : ∀ k ∈ js1, k ∈ vs1) (hl : ∀ n, ((l.take n).flatMap fun a => (m a).map (E2 a)).length ≤ 1000000 ∧ ∀ a ∈ l, (m a).length ≤ 1000000) (h : tXO C G (l.flatMap fun a => (m a).map (E2 a)) σ H Q) :
    tLc2 (tIX C G (l.map tA)) (fun v σ H Q => ∃ z : Addr × List Ty × α, (z.2.2 ∈ l ∧ C.M z.1 = false) ∧ tGX (C.own z.1 z.2.1) (wipeG G vs) (tA z.2.2) (Ga z.2.2) js v σ H Q)
      (fun σ H Q => ∃ z : Addr × List Ty × α, tXt (C.own z.1 z.2.1) (Ga z.2.2) true σ H Q)
      (fun σ H R => ∃ z : Addr × List Ty × α, (z.2.2 ∈ l ∧ C.M z.1 = false) ∧ tIX (C.own z.1 z.2.1) (Ga z.2.2) ((m z.2.2).map (tB z.2.2)) σ H R)
      (fun v σ H Q => ∃ z : Addr × List Ty × α × β, (z.2.2.1 ∈ l ∧ C.M z.1 = false) ∧ tGX (C.own z.1 z.2.1) (wipeG (Ga z.2.2.1) vs1) (tB z.2.2.1 z.2.2.2) (Gb z.2.2.1 z.2.2.2) js1 v σ H Q)
      (fun σ H Q => ∃ z : Addr × List Ty × α × β, tXt (C.own z.1 z.2.1) (Gb z.2.2.1 z.2.2.2) true σ H Q)
      (fun σ H Q => ∃ z : Addr × List Ty × α × β, (z.2.2.1 ∈ l ∧ z.2.2.2 ∈ m z.2.2.1 ∧ C.M z.1 = false) ∧ tX (C.own z.1 z.2.1) (Gb z.2.2.1 z.2.2.2) (E2 z.2.2.1 z.2.2.2) σ H Q) vs vs1 σ H Q := by
  obtain ⟨ok, q⟩ := h
  refine ⟨ok, fun J H1 x1 e1 y1 D hD => ?_⟩
  have mD := x1.base.fresh hD
  refine ⟨fun i k H' => k + i = l.length ∧ EnvOk (C.own D ((l.take i).flatMap fun a => (m a).map (E2 a))) G σ H' ∧ Ex (hid C.M H1) (hid (C.own D []).M H'), ⟨l.length, rfl, x1.mkown hD .nil, mkown_le hD⟩, ?_⟩
  rintro i k H' ⟨hk, x2, e2⟩
  obtain ⟨y2, y3⟩ := y1 (C.own D []).M H' e2 (fun a h => x2.base.hidd a h) i
  by_cases hi : i < l.length
  · have ha : l[i]? = some l[i] := List.getElem?_eq_getElem hi
    have hmem : l[i] ∈ l := List.getElem_mem hi
    obtain ⟨go, yl⟩ := y2 (tA l[i]) (by rw [List.getElem?_map, ha]; rfl)
    have tk := take_flat (f := fun a => (m a).map (E2 a)) ha
    generalize hU : (l.take i).flatMap (fun a => (m a).map (E2 a)) = Us at *
    refine .inr ⟨go, fun H2 => EnvOk (C.own D ((l.take (i + 1)).flatMap fun a => (m a).map (E2 a))) G σ H2 ∧ Ex (hid C.M H1) (hid (C.own D []).M H2), fun H2 ⟨x3, e3⟩ => ⟨k - 1, by omega, by omega, x3, e3⟩, fun v H2 hy => ?_⟩
    obtain ⟨e3, p3⟩ := yl v H2 hy
    have x3 := x2.ex e3
    refine ⟨(D, Us, l[i]), ⟨hmem, mD⟩, x3.wipe vs, p3, fun σ2 x4 f4 => ⟨wipe_fix f4 hj, (D, Us, l[i]), x4, fun H3 x5 e5 => ?_⟩⟩
    refine ⟨(D, Us, l[i]), ⟨hmem, mD⟩, x5, fun J1 H4 x6 e6 z1 => ?_⟩
    refine ⟨fun j n H => n + j = (m l[i]).length ∧ EnvOk (C.own D (Us ++ ((m l[i]).take j).map (E2 l[i]))) (Ga l[i]) σ2 H ∧ Ex (hid (C.own D []).M H4) (hid (C.own D []).M H), ⟨(m l[i]).length, rfl, by rw [List.take_zero, List.map_nil, List.append_nil]; exact x6, Ex.refl _⟩, ?_⟩
    rintro j n H5 ⟨hn, x7, e7⟩
    obtain ⟨z2, z3⟩ := z1 (C.own D []).M H5 e7 (fun a h => x7.base.hidd a h) j
    by_cases hj' : j < (m l[i]).length
    · have hb : (m l[i])[j]? = some (m l[i])[j] := List.getElem?_eq_getElem hj'
      obtain ⟨go1, yl1⟩ := z2 (tB l[i] (m l[i])[j]) (by rw [List.getElem?_map, hb]; rfl)
      have tk1 : (m l[i]).take (j + 1) = (m l[i]).take j ++ [(m l[i])[j]] := by rw [List.take_add_one, hb]; rfl
      refine .inr ⟨go1, fun H6 => EnvOk (C.own D (Us ++ ((m l[i]).take (j + 1)).map (E2 l[i]))) (Ga l[i]) σ2 H6 ∧ Ex (hid (C.own D []).M H4) (hid (C.own D []).M H6), fun H6 ⟨x8, e8⟩ => ⟨n - 1, by omega, by omega, x8, e8⟩, fun w H6 hy1 => ?_⟩
      obtain ⟨e8, p8⟩ := yl1 w H6 hy1
      have x8 := x7.ex e8
      refine ⟨(D, Us ++ ((m l[i]).take j).map (E2 l[i]), l[i], (m l[i])[j]), ⟨hmem, mD⟩, x8.wipe vs1, p8, fun σ3 x9 f9 => ⟨wipe_fix f9 hj1, (D, Us ++ ((m l[i]).take j).map (E2 l[i]), l[i], (m l[i])[j]), x9, fun H7 x10 e10 => ?_⟩⟩
      refine ⟨(D, Us ++ ((m l[i]).take j).map (E2 l[i]), l[i], (m l[i])[j]), ⟨hmem, List.getElem_mem hj', mD⟩, x10, fun y H8 x11 e11 p11 => ?_⟩
      obtain ⟨_, _, _, xs, h4, h5⟩ := id x11.base.om
      have back : EnvOk (C.own D (Us ++ ((m l[i]).take j).map (E2 l[i]))) (Ga l[i]) σ2 H8 := ⟨x11.base, x8.env.imp fun _ _ h => h.mono (e10.trans e11)⟩
      refine ⟨xs, h4, ?_, ?_, (e7.trans (hid_mono e8)).trans ((e10.trans e11).trans (wrown_le (Ts := []) (Us := [])))⟩
      · rw [h5.length, List.length_append, List.length_map, List.length_take]
        have h6 := (hl i).1
        have h7 := (hl i).2 _ hmem
        rw [hU] at h6
        refine Nat.lt_of_le_of_lt (?_ : _ ≤ 2000000) (by decide)
        have := Nat.min_le_right j (m l[i]).length
        omega
      · have x12 := back.wrown (Us := Us ++ ((m l[i]).take (j + 1)).map (E2 l[i])) (xs := xs ++ [y]) (by
          rw [tk1, List.map_append, ← List.append_assoc]
          exact h5.append (.cons p11 .nil))
        exact x12
    · have hjl : j = (m l[i]).length := by omega
      refine .inl ⟨z3 (by rw [List.length_map]; exact hjl.symm), ?_, ((e2.trans (hid_mono e3)).trans e5).trans (e6.trans e7)⟩
      subst hjl
      rw [List.take_length] at x7
      rw [tk]
      exact ⟨x7.base, x3.env.imp fun _ _ h => h.mono ((e5.trans e6).trans e7)⟩
  · have hl : i = l.length := by omega
    refine .inl ⟨y3 (by rw [List.length_map]; exact hl.symm), ?_⟩
    subst hl
    rw [List.take_length] at x2
    exact q D H' x2 (e1.trans e2)
theorem pxo_lc2 (hc : X.calm = true) (hN : X.N.Nodup) (hi : PIX X C G tg iter (l.map tA)) (ok : BlkOk X.N X.env.scope scope own) (hj : ∀ k ∈ js, k ∈ own.map (·.2)) (hj1 : ∀ k ∈ js1, k ∈ vs1) (hv : ∀ k ∈ vs1, k ∈ own.map (·.2)) (hl : ∀ n, ((l.take n).flatMap fun a => (m a).map (E2 a)).length ≤ 1000000 ∧ ∀ a ∈ l, (m a).length ≤ 1000000)
    (hg : ∀ s H D cl fp d Vs a, PGX (bk X s H scope D cl fp) (C.own d Vs) (wipeG G (own.map (·.2))) tg (tA a) (Ga a) js)
    (hi1 : ∀ s H D cl fp d Vs a, a ∈ l → C.M d = false → PIX (bk X s H scope D cl fp) (C.own d Vs) (Ga a) tg1 iter1 ((m a).map (tB a)))
    (hg1 : ∀ s H D cl fp d Vs a b, PGX (bk X s H scope D cl fp) (C.own d Vs) (wipeG (Ga a) vs1) tg1 (tB a b) (Gb a b) js1)
    (he : ∀ s H D cl fp d Vs a b, a ∈ l → b ∈ m a → C.M d = false → PX (bk X s H scope D cl fp) (C.own d Vs) (Gb a b) elt (E2 a b)) (hs : ∀ x, foldedSetIterable iter X.env x = pure x := by intro _; rfl) (hs1 : ∀ env x, foldedSetIterable iter1 env x = pure x := by intro _ _; rfl) :
    PXO X C G (.ListComp elt [⟨tg, iter, [], 0⟩, ⟨tg1, iter1, [], 0⟩] scope pos) (l.flatMap fun a => (m a).map (E2 a)) :=
  PE.imp (pe_lc2 hc hN hi ok hv (fun s H D cl fp => PG_ex fun z : Addr × List Ty × α => PG_when fun h => hg s H D cl fp z.1 z.2.1 z.2.2) (fun s H D cl fp => PTs_ex fun z : Addr × List Ty × α => pts_yes)
    (fun s H D cl fp => PI_ex fun z : Addr × List Ty × α => PI_when fun h => hi1 s H D cl fp z.1 z.2.1 z.2.2 h.1 h.2) (fun s H D cl fp => PG_ex fun z : Addr × List Ty × α × β => PG_when fun h => hg1 s H D cl fp z.1 z.2.1 z.2.2.1 z.2.2.2)
    (fun s H D cl fp => PTs_ex fun z : Addr × List Ty × α × β => pts_yes) (fun s H D cl fp => PE_ex fun z : Addr × List Ty × α × β => pe_when fun h => he s H D cl fp z.1 z.2.1 z.2.2.1 z.2.2.2 h.1 h.2.1 h.2.2) hs hs1) fun σ H Q h => lc2_okO hj hj1 hl h
end
section
variable {K : PySem.W.Frag} {mg : Str → Option Value} {base : Heap} {P : Program} {w : World}
theorem puro_ok {α : Type} {args : α → List Ty} {pre : α → Prop} {ls : α → List Ty} {x qual : Str} {params : Arguments} {body : List Stmt} {scope : Scope} {f : Addr} {fd : FuncData} {N ps : List Str} {k : Nat}
    (F : FunD K x qual params body scope [] [] f fd) (S : FnScope N ps scope) (hl : ∀ z, (args z).length = ps.length)
    (hb : ∀ (cdv : Value) (A : Around) (outer : List PySem.Env) (s : Shared) (H : Hp) (E : XK) (C0 C : HC) (z : α), Room k (A.deeper (envOfC qual scope s.heap.objs.size f cdv)) → Ext0 C0 C → pre z →
      PB (cxOf CX0 P w K mg base N qual scope f cdv A outer s H E).nox C (startG N.length (args z)) body (fun _ _ => False) (RtO C0 (ls z))) :
    FnOk P w K mg base CX0 (k + 1) f fd ps (PurO args pre ls) := by
  refine FunD.ok F S (fun vs H Q E ⟨M, z, _, h, _⟩ => by rw [h.length, hl]) (fun cdv A outer s H vs Q E hr ⟨M, z, tr, h, hp, q⟩ => ?_)
  refine ⟨_, PSs.nox (hb cdv A outer s H E (HC.at_ H M) (HC.at_ H M) z hr ⟨fun _ h => h, rfl, rfl⟩ hp), ⟨⟨fun a o _ e => e, tr, trivial⟩, start_env h⟩, fun σ' H' n _ => n.elim, fun v H' ⟨n1, o, xs, e, n2, n3, n4⟩ => by subst e; exact q o xs H' n1 n2 n3 n4⟩
theorem Def.okO {α : Type} {args : α → List Ty} {pre : α → Prop} {ls : α → List Ty} {x : Str} {st : Stmt} {N ps : List Str} {k : Nat} (D : Def K mg x st) (S : FnScope N ps (defScope st)) (hl : ∀ z, (args z).length = ps.length)
    (hbind : ∀ (kV doc pm : Value) (an : Option Addr) (cdv ct : Value) (us : List Value), us.length = ps.length → bindArgs (PySem.W.fnOf x x (defArgs st) (defBody st) (defScope st) .none kV doc pm an cdv ct) ⟨us, []⟩ = pure (ps.zip us))
    (hb : ∀ (f : Addr) (cdv : Value) (A : Around) (outer : List PySem.Env) (s : Shared) (H : Hp) (E : XK) (C0 C : HC) (z : α), Room k (A.deeper (envOfC x (defScope st) s.heap.objs.size f cdv)) → Ext0 C0 C → pre z →
      PB (cxOf CX0 P w K mg base N x (defScope st) f cdv A outer s H E).nox C (startG N.length (args z)) (defBody st) (fun _ _ => False) (RtO C0 (ls z))) :
    Ok P w K mg base (k + 1) x ps (PurO args pre ls) := by
  obtain ⟨f, fd, hm, F⟩ := D
  exact ⟨f, fd, hm, F.kp, F.bindsN hbind, puro_ok F S hl fun cdv A outer s H E C0 C z hr hx hp => hb f cdv A outer s H E C0 C z hr hx hp⟩
/-- .. seen as any list -/
theorem Ok.pur {α : Type} {args : α → List Ty} {pre : α → Prop} {ls : α → List Ty} {k : Nat} {x : Str} {ps : List Str} (h : Ok P w K mg base k x ps (PurO args pre ls)) : Ok P w K mg base k x ps (Pur args pre fun z => tLst (ls z)) := by
  obtain ⟨f, fd, h1, h2, h3, h4⟩ := h.ex
  refine ⟨f, fd, h1, h2, h3, h4.imp fun vs H Q E ⟨M, z, tr, hv, hp, q⟩ => ⟨M, z, tr, hv, hp, fun o xs H' e ho h5 h6 => q _ H' e ⟨o, xs, rfl, hid_of ?_ h5, h6.mono (hid_less fun a ha => ?_)⟩⟩⟩
  · cases hm : M o with
    | false => rfl
    | true => obtain ⟨u, hu⟩ := tr o hm; rw [ho] at hu; cases hu
  · show (a == o || M a) = true
    rw [ha, Bool.or_true]
end
end Nb
end -- NbO
section -- A3
set_option maxHeartbeats 1000000
namespace Nb
open PySem PySem.Spec PyProof.Rows L2
/-- the values behind the place at -/
def nx {α : Type} (w : Nat) (l : List α) (at_ : Nat) : List α := (l.drop (w * at_ + 1)).take w
def stepF (w : Nat) (l : List Rat) (i : Nat) : List Rat := if hgt (nx w l i) - 1 < l.getD i 0 then l.set i (hgt (nx w l i) - 1) else l
def foldsL (w n : Nat) (l : List Rat) : Nat → List Rat
  | 0 => l
  | i + 1 => stepF w (foldsL w n l i) (n - 1 - i)
theorem nx_map {α β : Type} (f : α → β) (w : Nat) (l : List α) (i : Nat) : nx w (l.map f) i = (nx w l i).map f := by unfold nx; rw [← List.map_drop, ← List.map_take]
theorem stepF_len (w : Nat) (l : List Rat) (i : Nat) : (stepF w l i).length = l.length := by unfold stepF; split <;> simp
theorem foldsL_len (w n : Nat) (l : List Rat) : ∀ i, (foldsL w n l i).length = l.length
  | 0 => rfl
  | i + 1 => by show (stepF _ _ _).length = _; rw [stepF_len, foldsL_len w n l i]
theorem nx_cut {α : Type} {w i : Nat} {l : List α} (h : w * i + 1 + w ≤ l.length) : cutT l (some ((w * i + 1 : Nat) : Int)) (some ((w * i + 1 + w : Nat) : Int)) = nx w l i := by
  unfold cutT nx
  rw [HT.sIx_nat, HT.sIx_nat, Nat.min_eq_left h, Nat.min_eq_left (show w * i + 1 ≤ l.length by omega)]
  congr 1
  omega
section
variable {K : PySem.W.Frag} {mg : Str → Option Value} {base : Heap} {P : Program} {w : World} {Ct Cp : Addr}
theorem sc91 : FnScope ["values", "at", "width", "start"] ["values", "at", "width"] (defScope (top 91)) := ⟨rfl, rfl, rfl, by decide +kernel, rfl, by decide +kernel, by decide +kernel⟩
theorem small_abs {n : Nat} (h : n ≤ 1000000) : ((n : Nat) : Int).natAbs < 2 ^ 8000 := by
  rw [Int.natAbs_natCast]
  exact Nat.lt_of_le_of_lt h (Nat.lt_of_lt_of_le (by decide : 1000000 < 2 ^ 20) (Nat.pow_le_pow_right (by omega) (by omega)))
theorem ok_next_see (T : Txt K mg) : Ok P w K mg base 1 "next_values" ["values", "at", "width"] (SeeSp (fun z : List Ty × Nat × Nat => z.1) (fun z => [tI (z.2.1 : Nat), tI (z.2.2 : Nat)]) (fun z => z.2.2 * z.2.1 + 1 + z.2.2 ≤ z.1.length ∧ z.1.length ≤ 1000 ∧ 1 ≤ z.2.2) (fun z => tLst (nx z.2.2 z.1 z.2.1))) := by
  obtain ⟨f, fd, hm, F⟩ := T.d_next_values
  refine ⟨f, fd, hm, F.kp, F.bindsN (fun _ _ _ _ _ _ us hl => match us, hl with | [_, _, _], _ => rfl), see_ok F sc91 (fun _ => rfl) fun cdv A outer s H E C0 o xs z hr hp hS => ?_⟩
  obtain ⟨Ts, i, w'⟩ := z
  obtain ⟨h1, h2, h3⟩ := hp
  replace h3 : 1 ≤ w' := h3
  replace h1 : w' * i + 1 + w' ≤ Ts.length := h1
  replace h2 : Ts.length ≤ 1000 := h2
  show PB _ (C0.see o xs Ts) [some (tR o), some (tI (i : Nat)), some (tI (w' : Nat)), none] _ _ _
  have hi : i ≤ 1000 := by
    have := Nat.le_mul_of_pos_left i h3
    omega
  refine plet sc91.nd 3 ((px_add (px_mulW (va 1 rfl) (va 2 rfl) (szMul (small_abs (by omega)) (small_abs (by omega)))) px_int).cast (show tI ((i : Int) * (w' : Int) + 1) = tI ((w' * i + 1 : Nat) : Int) by rw [Nat.mul_comm]; push_cast; rfl)) ?_
  refine pb_ret (T := tLst (nx w' Ts i)) ((px_slSee (i := 0) rfl (pox_some (va 3 rfl)) (pox_some ((px_add (va (T := tI ((w' * i + 1 : Nat) : Int)) 3 rfl) (va 2 rfl)).cast (show tI (((w' * i + 1 : Nat) : Int) + (w' : Int)) = tI ((w' * i + 1 + w' : Nat) : Int) by push_cast; rfl)))).cast (by rw [nx_cut h1])) fun v H' b p => ⟨fun a u e => b.old a u (by show C0.S a = false; rw [hS]) e, p⟩
theorem ok_next_val (T : Txt K mg) : Ok P w K mg base 1 "next_values" ["values", "at", "width"] (Pur (fun z : List Ty × Nat × Nat => [tLst z.1, tI (z.2.1 : Nat), tI (z.2.2 : Nat)]) (fun z => z.2.2 * z.2.1 + 1 + z.2.2 ≤ z.1.length ∧ z.1.length ≤ 1000 ∧ 1 ≤ z.2.2) (fun z => tLst (nx z.2.2 z.1 z.2.1))) := by
  refine T.d_next_values.ok sc91 (fun _ => rfl) (fun _ _ _ _ _ _ us hl => match us, hl with | [_, _, _], _ => rfl) fun f cdv A outer s H E C0 C z hr x hp => ?_
  obtain ⟨Ts, i, w'⟩ := z
  obtain ⟨h1, h2, h3⟩ := hp
  replace h3 : 1 ≤ w' := h3
  replace h1 : w' * i + 1 + w' ≤ Ts.length := h1
  replace h2 : Ts.length ≤ 1000 := h2
  have hi : i ≤ 1000 := by
    have := Nat.le_mul_of_pos_left i h3
    omega
  show PB _ C [some (tLst Ts), some (tI (i : Nat)), some (tI (w' : Nat)), none] _ _ _
  refine plet sc91.nd 3 ((px_add (px_mulW (va 1 rfl) (va 2 rfl) (szMul (small_abs (by omega)) (small_abs (by omega)))) px_int).cast (show tI ((i : Int) * (w' : Int) + 1) = tI ((w' * i + 1 : Nat) : Int) by rw [Nat.mul_comm]; push_cast; rfl)) ?_
  exact pb_retP x ((px_slL (va 0 rfl) (pox_some (va 3 rfl)) (pox_some ((px_add (va (T := tI ((w' * i + 1 : Nat) : Int)) 3 rfl) (va 2 rfl)).cast (show tI (((w' * i + 1 : Nat) : Int) + (w' : Int)) = tI ((w' * i + 1 + w' : Nat) : Int) by push_cast; rfl)))).cast (by rw [nx_cut h1]))
theorem sc92 : FnScope ["ladder", "table"] ["ladder"] (defScope (top 92)) := ⟨rfl, rfl, rfl, by decide +kernel, rfl, by decide +kernel, by decide +kernel⟩
theorem sum_pows (w : Nat) : ∀ r, ((List.range r).map fun k => ((w ^ k : Nat) : Int)).sum = ((off w r : Nat) : Int)
  | 0 => rfl
  | r + 1 => by
    rw [List.range_succ, List.map_append, List.sum_append, sum_pows w r, off_add]
    simp
theorem tabs_cut {K : PySem.W.Frag} {Ct : Addr} {w r : Nat} {c : Nat → List Rat} : cutT (tTabs K Ct w r c) none (some (-1)) = (List.range r).map fun k => tTab K Ct w k (c k) := by
  unfold cutT
  rw [tabs_len]
  show List.take (((-1 : Int) + ((r + 1 : Nat) : Int)).toNat - 0) (List.drop 0 _) = _
  rw [List.drop_zero, show ((-1 : Int) + ((r + 1 : Nat) : Int)).toNat - 0 = r by omega]
  unfold tTabs
  rw [← List.map_take, List.take_range, Nat.min_eq_left (Nat.le_succ r)]
theorem ok_inner_many (T : Txt K mg) (BT : TabT K mg Ct) : Ok P w K mg base 3 "inner_many" ["ladder"] (spLad K Ct fun z => tI ((off z.1 z.2.1 : Nat) : Int)) := by
  refine T.d_inner_many.ok sc92 (fun _ => rfl) (fun _ _ _ _ _ _ us hl => match us, hl with | [_], _ => rfl) fun f cdv A outer s H E C0 C z hr x hp => ?_
  obtain ⟨w', r, c⟩ := z
  replace hp : Lad w' r c := hp
  have r8 := hp.hw.r8
  show PB _ C [some (tLad K Ct w' r c), none] _ _ _
  have key : ∀ {G' : Env} {iter : Expr} {ep : Pos}, True := fun {_ _ _} => trivial
  refine pb_retP x ((px_sumI (ns := (List.range r).map fun k => ((w' ^ k : Nat) : Int)) rfl T.f_sum boot_sum ((PX.or (i := 0) (T := tLst (tTabs K Ct w' r c)) (U := tTup K (tTabs K Ct w' r c)) (Y := tLst ((List.range r).map fun k => tI ((w' ^ k : Nat) : Int))) (fun G' e h => ?_) (fun G' e h => ?_) rfl).cast (by rw [List.map_map]; rfl))).cast (by rw [sum_pows]))
  · subst e
    exact px_lcN (j := 1) (own := [("table", 1)]) (l := List.range r) (tA := fun k => tTab K Ct w' k (c k)) (E := fun k => tI ((w' ^ k : Nat) : Int)) rfl sc92.nd (pix_list ((px_slL (va 0 rfl) pox_none (pox_some (px_neg px_int))).cast (by rw [tabs_cut]))) (blkOk_by (by kernel_rfl)) (by decide) (by rw [List.length_range]; omega) (fun s H D cl fp d Vs a => nm sc92.nd 1)
      (fun s H D cl fp d Vs a ha hd => px_lenI (tab_len T BT) (w', a, c a) (by show tI ((c a).length : Nat) = _; rw [hp.len a (by have := List.mem_range.mp ha; omega)]) (by have := hasw_pow (hp.hw.le (s := a) (by have := List.mem_range.mp ha; omega)); omega) hr T.f_len (va 1 rfl) rfl trivial)
  · subst e
    exact px_lcN (j := 1) (own := [("table", 1)]) (l := List.range r) (tA := fun k => tTab K Ct w' k (c k)) (E := fun k => tI ((w' ^ k : Nat) : Int)) rfl sc92.nd (pix_tup ((px_slT (va 0 rfl) pox_none (pox_some (px_neg px_int)) (by rw [tabs_len]; show ¬ ((0 : Nat) = 0 ∧ ((-1 : Int) + ((r + 1 : Nat) : Int)).toNat = r + 1); omega)).cast (by rw [tabs_cut]))) (blkOk_by (by kernel_rfl)) (by decide) (by rw [List.length_range]; omega) (fun s H D cl fp d Vs a => nm sc92.nd 1)
      (fun s H D cl fp d Vs a ha hd => px_lenI (tab_len T BT) (w', a, c a) (by show tI ((c a).length : Nat) = _; rw [hp.len a (by have := List.mem_range.mp ha; omega)]) (by have := hasw_pow (hp.hw.le (s := a) (by have := List.mem_range.mp ha; omega)); omega) hr T.f_len (va 1 rfl) rfl trivial)
/-- what the folds need of sizes -/
structure FoldOk (w r : Nat) (c : Nat → List Rat) : Prop where
  lad : Lad w r c
  lvs : ∀ i, i < off w r → Lvs (nx w (foldsL w (off w r) (bnds r c) i) (off w r - 1 - i))
  szv : ∀ i, i < off w r → Sz (hgt (nx w (foldsL w (off w r) (bnds r c) i) (off w r - 1 - i)) - 1)
  szi : ∀ i, i ≤ off w r → ∀ q ∈ foldsL w (off w r) (bnds r c) i, Sz q
end
end Nb
end -- A3
section -- A4
set_option maxHeartbeats 1000000
namespace Nb
open PySem PySem.Spec PyProof.Rows L2
section
variable {X : Cx} {C : HC} {G : Env} {a b e : Expr} {T : Ty} {Ts Us : List Ty} {pos p p1 spos : Pos} {rest : List Stmt} {Nx : NX} {Rt : RT} {x : Str} {o : Addr}
/-- xs[j] = e, xs in slot i -/
theorem pset (i : Nat) {j : Nat} (hE : Ts.set j T = Us) (he : PX X (C.own o Ts) G e T) (hix : PX X (C.own o Ts) G b (tI (j : Nat))) (hl : G[i]? = some (some (tR o))) (hj : j < Ts.length) (hr : PB X (C.own o Us) G rest Nx Rt)
    (hN : X.N[i]? = some x := by rfl) (hv : Vis X.env.scope x := by first | exact .inl rfl | exact .inr (.inl rfl) | exact .inr (.inr rfl)) (hd : (x == ("__debug__" : Str)) = false := by decide) (hcd : (x == ("__classdict__" : Str)) = false := by decide)
    (ha : ∀ v, assign (.Subscript (.Name x p1) b spos) X.env v = (do
      let ov ← holding [v] (eval (.Name x p1) X.env)
      let iv ← holding [v, ov] (eval b X.env)
      standAt spos
      holding [v, ov, iv] (setItem ov iv v)
      release [v, ov, iv] []) := by intro _; rfl)
    (hs : swapsWithSole [.Subscript (.Name x p1) b spos] e pos.line X.env = pure false := by rfl) (hw : swappedStores [.Subscript (.Name x p1) b spos] e X.env = pure none := by rfl)
    (h1 : (assignEach [.Subscript (.Name x p1) b spos] X.env).map (·.2) = [assign (.Subscript (.Name x p1) b spos) X.env] := by rfl) :
    PB X (C.own o Ts) G (.Assign [.Subscript (.Name x p1) b spos] e pos :: rest) Nx Rt := by
  subst hE
  exact pb_setIx (i := i) (ps_asg he (pg_sub (tv i hN hv hd hcd) hix set_list ha) hs hw h1) hl hj hr
end
section
variable {X : Cx} {C : HC} {G : Env} {a tg : Expr} {pos p p2 pos3 : Pos}
theorem pix_revR {n : Nat} (hm : X.mg "range" = none) (hm2 : X.mg "reversed" = none) (ha : PX X C G a (tI (n : Nat))) (hn : n ≤ 1000000) (hg : Gl X "range" := by rfl) (hg2 : Gl X "reversed" := by rfl) (na : starEach [a] X.env = (false, eval a X.env) :: starEach [] X.env := by rfl)
    (nb : starEach [.Call (.Name "range" p) [a] [] pos] X.env = (false, eval (.Call (.Name "range" p) [a] [] pos) X.env) :: starEach [] X.env := by rfl) :
    PIX X C G tg (.Call (.Name "reversed" p2) [.Call (.Name "range" p) [a] [] pos] [] pos3) ((List.range n).map fun i => tI (((n - 1 - i : Nat) : Int))) :=
  pix_rev hm hm2 ha hn hg hg2 (pi_revR hg2 hm2 (prg_1 hg hm ha na) nb)
end
section
variable {K : PySem.W.Frag} {mg : Str → Option Value} {base : Heap} {P : Program} {w : World} {Ct Cp : Addr}
theorem ok_boundsO (T : Txt K mg) (BT : TabT K mg Ct) : Ok P w K mg base 3 "ladder_bounds" ["ladder"] (PurO (fun z : LD => [tLad K Ct z.1 z.2.1 z.2.2]) (fun z => Lad z.1 z.2.1 z.2.2) fun z => (bnds z.2.1 z.2.2).map (tQ K)) := by
  refine T.d_ladder_bounds.okO sc88 (fun _ => rfl) (fun _ _ _ _ _ _ us hl => match us, hl with | [_], _ => rfl) fun f cdv A outer s H E C0 C z hr x hp => ?_
  obtain ⟨w', r, c⟩ := z
  replace hp : Lad w' r c := hp
  show PB _ C [some (tLad K Ct w' r c), none, none] _ _ _
  refine pb_retO x ((pxo_lc2 (own := [("table", 1), ("cell", 2)]) (js := [1]) (js1 := [2]) (vs1 := [2]) (l := List.range (r + 1)) (tA := fun k => tTab K Ct w' k (c k)) (m := c) (tB := fun _ q => tQ K q) (E2 := fun _ q => tQ K q) rfl sc88.nd (psq 0 rfl) (blkOk_by (by kernel_rfl)) (by decide) (by decide) (by decide)
    (fun n => ⟨flat_take_len hp n, fun k hk => ?_⟩)
    (fun s H D cl fp d Vs a => nm sc88.nd 1) (fun s H D cl fp d Vs a ha hd => pix_list (px_prop (tab_cells T BT) (w', a, c a) rfl hr (va 1 rfl) rfl trivial)) (fun s H D cl fp d Vs a b => nm sc88.nd 2) (fun s H D cl fp d Vs a b ha hb hd => va 2 rfl)).cast ?_)
  · have hk' : k ≤ r := by have := List.mem_range.mp hk; omega
    rw [hp.len k hk']
    have := hasw_pow (hp.hw.le hk')
    omega
  · unfold bnds
    rw [List.map_flatMap]
theorem sc93 : FnScope ["ladder", "width", "folds", "at", "level"] ["ladder"] (defScope (top 93)) := ⟨rfl, rfl, rfl, by decide +kernel, rfl, by decide +kernel, by decide +kernel⟩
abbrev foldsOf (z : LD) : List Rat := foldsL z.1 (off z.1 z.2.1) (bnds z.2.1 z.2.2) (off z.1 z.2.1)
theorem map_set' {α β : Type} (f : α → β) (l : List α) (i : Nat) (a : α) : (l.map f).set i (f a) = (l.set i a).map f := (List.map_set (f := f) (l := l) (i := i) (a := a)).symm
theorem ok_folds (T : Txt K mg) (BT : TabT K mg Ct) : Ok P w K mg base 7 "anytime_folds" ["ladder"] (Pur (fun z : LD => [tLad K Ct z.1 z.2.1 z.2.2]) (fun z => FoldOk z.1 z.2.1 z.2.2) (fun z => tLst ((foldsOf z).map (tQ K)))) := by
  refine T.d_anytime_folds.ok sc93 (fun _ => rfl) (fun _ _ _ _ _ _ us hl => match us, hl with | [_], _ => rfl) fun f cdv A outer s H E C0 C z hr x hp => ?_
  obtain ⟨w', r, c⟩ := z
  replace hp : FoldOk w' r c := hp
  have hL := hp.lad
  have hoff := hasw_off hL.hw
  have w0 : 1 ≤ w' := hL.hw.1.1
  have hlen : ∀ i, (foldsL w' (off w' r) (bnds r c) i).length = off w' (r + 1) := fun i => by rw [foldsL_len, hL.blen]
  have hNle : off w' r ≤ 511 := Nat.le_trans (off_le (Nat.le_succ r)) hoff
  show PB _ C [some (tLad K Ct w' r c), none, none, none, none] _ _ _
  refine pb_expr (px_call (ok_check_ladder T BT) (w', r, c) rfl hr (pxs_cons (va 0 rfl) pxs_nil) hL) ?_
  refine plet sc93.nd 1 (px_prop (tab_width T BT) (w', 0, c 0) rfl hr (px_ixQ (va 0 rfl) px_int (atI_nat (j := 0) (tabs_get (Nat.zero_le _)))) rfl trivial) ?_
  refine pletO sc93.nd 2 (pxo_call (ok_boundsO T BT) (w', r, c) rfl hr (pxs_cons (va 0 rfl) pxs_nil) hL) fun o => ?_
  refine pb_forN (j := 3) (l := List.range (off w' r)) (tA := fun i => tI ((off w' r - 1 - i : Nat) : Int)) PassesOwn.never rfl (pix_revR (n := off w' r) T.f_range T.f_reversed (px_call (ok_inner_many T BT) (w', r, c) rfl hr (pxs_cons (va 0 rfl) pxs_nil) hL) (by omega))
    (fun i => C.own o ((foldsL w' (off w' r) (bnds r c) i).map (tQ K))) (fun i => [some (tLad K Ct w' r c), some (tI (w' : Nat)), some (tR o), none, none]) sc93.nd rfl (.inl rfl) (fun _ => rfl) (fun _ _ h => h) (fun i a ha => ?_) ?_
  · have hia : i < off w' r ∧ a = i := by
      obtain ⟨h1, h2⟩ := List.getElem?_eq_some_iff.mp ha
      rw [List.getElem_range] at h2
      exact ⟨by simpa using h1, h2.symm⟩
    obtain ⟨hi, rfl⟩ := hia
    have hj : off w' r - 1 - a < off w' r := by omega
    have hchild : w' * (off w' r - 1 - a) + 1 + w' ≤ off w' (r + 1) := by
      have : w' * (off w' r - 1 - a + 1) ≤ w' * off w' r := Nat.mul_le_mul_left w' hj
      rw [Nat.mul_succ] at this
      show _ ≤ w' * off w' r + 1
      omega
    have hjlen : off w' r - 1 - a < (foldsL w' (off w' r) (bnds r c) a).length := by
      rw [hlen]
      exact Nat.lt_of_lt_of_le hj (off_le (Nat.le_succ r))
    have hget : ((foldsL w' (off w' r) (bnds r c) a).map (tQ K))[off w' r - 1 - a]? = some (tQ K ((foldsL w' (off w' r) (bnds r c) a).getD (off w' r - 1 - a) 0)) := by
      rw [List.getElem?_map, List.getElem?_eq_getElem hjlen, List.getD_eq_getElem?_getD, List.getElem?_eq_getElem hjlen]
      rfl
    have hszi : Sz ((foldsL w' (off w' r) (bnds r c) a).getD (off w' r - 1 - a) 0) := by
      refine hp.szi a (by omega) _ ?_
      rw [List.getD_eq_getElem?_getD, List.getElem?_eq_getElem hjlen]
      exact List.getElem_mem hjlen
    refine plet sc93.nd 4 (px_call (ok_fill T) (nx w' (foldsL w' (off w' r) (bnds r c) a) (off w' r - 1 - a)) rfl hr (pxs_cons ((px_callSee (i := 2) (ok_next_see T) ((foldsL w' (off w' r) (bnds r c) a).map (tQ K), off w' r - 1 - a, w') rfl hr (G := [some (tLad K Ct w' r c), some (tI (w' : Nat)), some (tR o), some (tI ((off w' r - 1 - a : Nat) : Int)), none]) rfl rfl (pxs_cons (va 3 rfl) (pxs_cons (va 1 rfl) pxs_nil)) ⟨by show _ ≤ (List.map _ _).length; rw [List.length_map, hlen]; exact hchild, by show (List.map _ _).length ≤ _; rw [List.length_map, hlen]; omega, w0⟩).cast (congrArg tLst (nx_map (tQ K) w' _ _))) pxs_nil) (hp.lvs a hi)) ?_
    refine pb_if (C' := C.own o ((foldsL w' (off w' r) (bnds r c) (a + 1)).map (tQ K))) (G' := [some (tLad K Ct w' r c), some (tI (w' : Nat)), some (tR o), none, none])
      ((pxt_lt (px_call (ok_compare T) (hgt (nx w' (foldsL w' (off w' r) (bnds r c) a) (off w' r - 1 - a)) - 1, (foldsL w' (off w' r) (bnds r c) a).getD (off w' r - 1 - a) 0) rfl hr (pxs_cons ((va 4 rfl).num (hp.szv a hi)) (pxs_cons ((px_ixO (i := 2) rfl rfl (.inl rfl) (va 3 rfl) (atI_nat hget)).num hszi) pxs_nil)) trivial) px_int).cast (cmpR_lt _ _)) (fun h => ?_) (fun h => ?_) pb_end
    · refine pset 2 (Us := (foldsL w' (off w' r) (bnds r c) (a + 1)).map (tQ K)) (T := tQ K (hgt (nx w' (foldsL w' (off w' r) (bnds r c) a) (off w' r - 1 - a)) - 1)) (j := off w' r - 1 - a) ?_ (va 4 rfl) (va 3 rfl) rfl (by rw [List.length_map]; exact hjlen) (pb_endI (gi_keep (gi_keep (gi_keep (gi_drop (gi_drop gi_nil))))))
      rw [map_set']
      show _ = (stepF _ _ _).map _
      unfold stepF
      rw [if_pos (of_decide_eq_true h)]
    · rw [show foldsL w' (off w' r) (bnds r c) (a + 1) = foldsL w' (off w' r) (bnds r c) a from by show stepF _ _ _ = _; unfold stepF; rw [if_neg (of_decide_eq_false h)]]
      exact pb_endI (gi_keep (gi_keep (gi_keep (gi_drop (gi_drop gi_nil)))))
  · refine pb_freeze (i := 2) rfl (pb_retP x ((va 2 rfl).cast ?_))
    rw [List.length_range]
theorem sc94 : FnScope ["ladder"] ["ladder"] (defScope (top 94)) := ⟨rfl, rfl, rfl, by decide +kernel, rfl, by decide +kernel, by decide +kernel⟩
abbrev spFo (K : PySem.W.Frag) (Ct : Addr) (res : LD → Ty) : Sp := Pur (fun z : LD => [tLad K Ct z.1 z.2.1 z.2.2]) (fun z => FoldOk z.1 z.2.1 z.2.2) res
abbrev foldOf (z : LD) : Rat := (foldsOf z).getD 0 0
theorem off_pos (w r : Nat) : 0 < off w (r + 1) := Nat.succ_pos _
theorem FoldOk.flen {w r : Nat} {c : Nat → List Rat} (h : FoldOk w r c) : (foldsOf (w, r, c)).length = off w (r + 1) := by
  show (foldsL _ _ _ _).length = _
  rw [foldsL_len, h.lad.blen]
theorem ok_fold (T : Txt K mg) (BT : TabT K mg Ct) : Ok P w K mg base 8 "anytime_fold" ["ladder"] (spFo K Ct fun z => tQ K (foldOf z)) := by
  refine T.d_anytime_fold.ok sc94 (fun _ => rfl) (fun _ _ _ _ _ _ us hl => match us, hl with | [_], _ => rfl) fun f cdv A outer s H E C0 C z hr x hp => ?_
  obtain ⟨w', r, c⟩ := z
  replace hp : FoldOk w' r c := hp
  have h0 : 0 < (foldsOf (w', r, c)).length := by rw [hp.flen]; exact off_pos w' r
  show PB _ C [some (tLad K Ct w' r c)] _ _ _
  refine pb_retP x (px_ixL (px_call (ok_folds T BT) (w', r, c) rfl hr (pxs_cons (va 0 rfl) pxs_nil) hp) px_int (atI_nat (j := 0) ?_))
  rw [List.getElem?_map, List.getElem?_eq_getElem h0]
  show some (tQ K _) = some (tQ K ((foldsOf (w', r, c)).getD 0 0))
  rw [List.getD_eq_getElem?_getD, List.getElem?_eq_getElem h0]
  rfl
theorem sc95 : FnScope ["ladder", "folds", "at"] ["ladder"] (defScope (top 95)) := ⟨rfl, rfl, rfl, by decide +kernel, rfl, by decide +kernel, by decide +kernel⟩
/-- the folds behind each inner place -/
abbrev lvF (z : LD) : List (List Rat) := (List.range (off z.1 z.2.1)).map fun i => nx z.1 (foldsOf z) i
theorem ok_fold_levels (T : Txt K mg) (BT : TabT K mg Ct) : Ok P w K mg base 8 "fold_levels" ["ladder"] (spFo K Ct fun z => tLst ((lvF z).map fun l => tLst (l.map (tQ K)))) := by
  refine T.d_fold_levels.ok sc95 (fun _ => rfl) (fun _ _ _ _ _ _ us hl => match us, hl with | [_], _ => rfl) fun f cdv A outer s H E C0 C z hr x hp => ?_
  obtain ⟨w', r, c⟩ := z
  replace hp : FoldOk w' r c := hp
  have hL := hp.lad
  have hoff := hasw_off hL.hw
  have w0 : 1 ≤ w' := hL.hw.1.1
  have hNle : off w' r ≤ 511 := Nat.le_trans (off_le (Nat.le_succ r)) hoff
  have hfl := hp.flen
  show PB _ C [some (tLad K Ct w' r c), none, none] _ _ _
  refine plet sc95.nd 1 (px_call (ok_folds T BT) (w', r, c) rfl hr (pxs_cons (va 0 rfl) pxs_nil) hp) ?_
  refine pb_retP x ((px_lcN (j := 2) (own := [("at", 2)]) (l := List.range (off w' r)) (tA := fun i => tI ((i : Nat) : Int)) (E := fun i => tLst ((nx w' (foldsOf (w', r, c)) i).map (tQ K))) rfl sc95.nd (pix_range1 T.f_range (px_call (ok_inner_many T BT) (w', r, c) rfl hr (pxs_cons (va 0 rfl) pxs_nil) hL) (by omega)) (blkOk_by (by kernel_rfl)) (by decide) (by rw [List.length_range]; omega)
    (fun s H D cl fp d Vs a => nm sc95.nd 2) (fun s H D cl fp d Vs a ha hd => ?_)).cast (by rw [List.map_map]; rfl))
  have hi := List.mem_range.mp ha
  have hchild : w' * a + 1 + w' ≤ off w' (r + 1) := by
    have : w' * (a + 1) ≤ w' * off w' r := Nat.mul_le_mul_left w' hi
    rw [Nat.mul_succ] at this
    show _ ≤ w' * off w' r + 1
    omega
  refine (px_call (ok_next_val T) ((foldsOf (w', r, c)).map (tQ K), a, w') rfl hr (pxs_cons (va (T := tLst ((foldsOf (w', r, c)).map (tQ K))) 1 rfl) (pxs_cons (va 2 rfl) (pxs_cons (px_prop (tab_width T BT) (w', 0, c 0) rfl hr (px_ixQ (va 0 rfl) px_int (atI_nat (j := 0) (tabs_get (Nat.zero_le _)))) rfl trivial) pxs_nil))) ⟨by show _ ≤ (List.map _ _).length; rw [List.length_map, hfl]; exact hchild, by show (List.map _ _).length ≤ _; rw [List.length_map, hfl]; omega, w0⟩).cast ?_
  exact congrArg tLst (nx_map (tQ K) w' _ _)
end
end Nb
end -- A4
section -- A5
set_option maxHeartbeats 1000000
namespace Nb
open PySem PySem.Spec PyProof.Rows L2
theorem shs_sub {K : PySem.W.Frag} {shs : List (List Rat)} (h : ∀ l ∈ shs, ∀ q ∈ l, Sz q) : TySub (tLst (shs.map (tSh K))) (tShs K shs) := sub_lst (sub_map fun l hl => sub_seqT (sub_map fun q hq => sub_num (h l hl q hq)))
theorem shs_subL {K : PySem.W.Frag} {shs : List (List Rat)} (h : ∀ l ∈ shs, ∀ q ∈ l, Sz q) : TySub (tLst (shs.map fun l => tLst (l.map (tQ K)))) (tShs K shs) := sub_lst (sub_map fun l hl => sub_seqL (sub_map fun q hq => sub_num (h l hl q hq)))
theorem Shrs.szs {w n : Nat} {shs : List (List Rat)} (h : Shrs w n shs) : ∀ l ∈ shs, ∀ q ∈ l, Sz q := fun l hl => (h.all l hl).sz.1
theorem map_comp' {α β γ : Type} (f : α → β) (g : β → γ) (l : List α) : l.map (fun a => g (f a)) = (l.map f).map g := (List.map_map ..).symm
/-- lists by their places, walked together -/
theorem zip3_range {α β γ δ : Type} (d : α × β × γ → δ) (f : Nat → α) (g : Nat → β) (h : Nat → γ) (n m k : Nat) (N : Nat) (hN : min (min n m) k = N) :
    (((List.range n).map f).zip (((List.range m).map g).zip ((List.range k).map h))).map d = (List.range N).map fun i => d (f i, g i, h i) := by
  apply List.ext_getElem
  · simp only [List.length_map, List.length_zip, List.length_range]; omega
  · intro i h1 h2
    simp
theorem zip2_range {α β δ : Type} (d : α × β → δ) (f : Nat → α) (g : Nat → β) (n m : Nat) (N : Nat) (hN : min n m = N) :
    (((List.range n).map f).zip ((List.range m).map g)).map d = (List.range N).map fun i => d (f i, g i) := by
  apply List.ext_getElem
  · simp only [List.length_map, List.length_zip, List.length_range]; omega
  · intro i h1 h2
    simp
/-- stopped, by the text -/
def stB (w : Nat) (ss : List Str) (j : Nat) : Bool := decide (bT w j ∈ ss)
def leafB (w r j : Nat) : Bool := decide ((path w j).length = r)
def markF (w r : Nat) (st : Nat → Bool) : Nat → Nat
  | 0 => if leafB w r 0 || st 0 then 1 else 0
  | j + 1 => if markF w r st (j / w) ≠ 0 then 2 else if leafB w r (j + 1) || st (j + 1) then 1 else 0
termination_by j => j
decreasing_by exact Nat.lt_succ_of_le (Nat.div_le_self j w)
theorem markF_zero {w r : Nat} {st : Nat → Bool} : markF w r st 0 = if leafB w r 0 || st 0 then 1 else 0 := by rw [markF]
theorem markF_succ {w r : Nat} {st : Nat → Bool} (j : Nat) : markF w r st (j + 1) = if markF w r st (j / w) ≠ 0 then 2 else if leafB w r (j + 1) || st (j + 1) then 1 else 0 := by rw [markF]
section
variable {K : PySem.W.Frag} {mg : Str → Option Value} {base : Heap} {P : Program} {w : World} {Ct Cp : Addr}
theorem sc96 : FnScope ["ladder", "levels", "part"] ["ladder"] (defScope (top 96)) := ⟨rfl, rfl, rfl, by decide +kernel, rfl, by decide +kernel, by decide +kernel⟩
structure FoldOk2 (z : LD) : Prop where
  fo : FoldOk z.1 z.2.1 z.2.2
  lv : ∀ l ∈ lvF z, Lvs l
theorem lvF_len (z : LD) : (lvF z).length = off z.1 z.2.1 := by simp
theorem ok_chooser (T : Txt K mg) (BT : TabT K mg Ct) (BP : PlanT K mg Cp) : Ok P w K mg base 9 "anytime_chooser" ["ladder"] (Pur (fun z : LD => [tLad K Ct z.1 z.2.1 z.2.2]) (fun z => FoldOk2 z ∧ Shrs z.1 (off z.1 z.2.1) ((lvF z).map pour)) (fun z => tPlan K Cp z.1 z.2.1 ((lvF z).map pour))) := by
  refine T.d_anytime_chooser.ok sc96 (fun _ => rfl) (fun _ _ _ _ _ _ us hl => match us, hl with | [_], _ => rfl) fun f cdv A outer s H E C0 C z hr x hp => ?_
  obtain ⟨w', r, c⟩ := z
  obtain ⟨hf, hs⟩ := hp
  have hL := hf.fo.lad
  have hoff := hasw_off hL.hw
  have hNle : off w' r ≤ 511 := Nat.le_trans (off_le (Nat.le_succ r)) hoff
  show PB _ C [some (tLad K Ct w' r c), none, none] _ _ _
  refine plet sc96.nd 1 (px_call (ok_fold_levels T BT) (w', r, c) rfl hr (pxs_cons (va 0 rfl) pxs_nil) hf.fo) ?_
  refine pb_retP x (px_make (mk_plan T BP) (w', r, (lvF (w', r, c)).map pour) rfl hr (pxs_cons (px_prop (tab_width T BT) (w', 0, c 0) rfl hr (px_ixQ (va 0 rfl) px_int (atI_nat (j := 0) (tabs_get (Nat.zero_le _)))) rfl trivial) (pxs_cons ((px_sub (px_lenQ T.f_len (va 0 rfl)) px_int).cast ?_)
    (pxs_cons (PX.sub (T := tLst (((lvF (w', r, c)).map pour).map (tSh K))) ((px_lcN (j := 2) (own := [("part", 2)]) (l := lvF (w', r, c)) (tA := fun l => tLst (l.map (tQ K))) (E := fun l => tSh K (pour l)) rfl sc96.nd (pix_list (va 1 rfl)) (blkOk_by (by kernel_rfl)) (by decide) (by rw [lvF_len]; show off w' r ≤ _; omega) (fun s H D cl fp d Vs a => nm sc96.nd 2)
      (fun s H D cl fp d Vs a ha hd => px_call (ok_fill_shares T) a rfl hr (pxs_cons (va 2 rfl) pxs_nil) (hf.lv a ha))).cast (congrArg tLst (map_comp' pour (tSh K) _))) (shs_sub hs.szs)) pxs_nil))) ⟨hL.hw, hs⟩)
  show tI (((tTabs K Ct w' r c).length : Nat) - 1) = tI (r : Nat)
  rw [tabs_len]
  congr 2
  omega
theorem sc97 : FnScope ["ladder", "levels", "width", "rounds", "foe", "stops", "text", "bound", "part"] ["ladder"] (defScope (top 97)) := ⟨rfl, rfl, rfl, by decide +kernel, rfl, by decide +kernel, by decide +kernel⟩
/-- where the foe stops -/
def stopN (z : LD) (n : Nat) : List Str := (((List.range n).filter fun j => !decide (hgt (nx z.1 (foldsOf z) j) - 1 < (bnds z.2.1 z.2.2).getD j 0))).map (bT z.1)
abbrev stopF (z : LD) : List Str := stopN z (off z.1 z.2.1)
theorem stopN_succ (z : LD) (n : Nat) : stopN z (n + 1) = if (!decide (hgt (nx z.1 (foldsOf z) n) - 1 < (bnds z.2.1 z.2.2).getD n 0)) = true then stopN z n ++ [bT z.1 n] else stopN z n := by
  unfold stopN
  rw [List.range_succ, List.filter_append, List.map_append, List.filter_cons]
  split
  · rfl
  · simp
theorem stopN_len (z : LD) (n : Nat) : (stopN z n).length ≤ n := by
  unfold stopN
  rw [List.length_map]
  exact Nat.le_trans (List.length_filter_le _ _) (by rw [List.length_range]; exact Nat.le_refl _)
theorem ok_foe (T : Txt K mg) (BT : TabT K mg Ct) (BP : PlanT K mg Cp) : Ok P w K mg base 9 "anytime_foe" ["ladder"] (Pur (fun z : LD => [tLad K Ct z.1 z.2.1 z.2.2]) (fun z => FoldOk2 z ∧ (∀ l ∈ lvF z, rch l ≠ []) ∧ (∀ l ∈ lvF z, Sz (hgt l - 1)) ∧ Shrs z.1 (off z.1 z.2.1) ((lvF z).map even)) (fun z => tTup K [tPlan K Cp z.1 z.2.1 ((lvF z).map even), tLst ((stopF z).map tS)])) := by
  refine T.d_anytime_foe.ok sc97 (fun _ => rfl) (fun _ _ _ _ _ _ us hl => match us, hl with | [_], _ => rfl) fun f cdv A outer s H E C0 C z hr x hp => ?_
  obtain ⟨w', r, c⟩ := z
  obtain ⟨hf, hrc, hsz, hs⟩ := hp
  have hL := hf.fo.lad
  have hoff := hasw_off hL.hw
  have hNle : off w' r ≤ 511 := Nat.le_trans (off_le (Nat.le_succ r)) hoff
  have hrnd : tI (((tTabs K Ct w' r c).length : Nat) - 1) = tI (r : Nat) := by
    rw [tabs_len]
    congr 2
    omega
  show PB _ C [some (tLad K Ct w' r c), none, none, none, none, none, none, none, none] _ _ _
  refine plet sc97.nd 1 (px_call (ok_fold_levels T BT) (w', r, c) rfl hr (pxs_cons (va 0 rfl) pxs_nil) hf.fo) ?_
  refine plet sc97.nd 2 (px_prop (tab_width T BT) (w', 0, c 0) rfl hr (px_ixQ (va 0 rfl) px_int (atI_nat (j := 0) (tabs_get (Nat.zero_le _)))) rfl trivial) ?_
  refine plet sc97.nd 3 ((px_sub (px_lenQ T.f_len (va 0 rfl)) px_int).cast hrnd) ?_
  refine plet sc97.nd 4 (px_make (mk_plan T BP) (w', r, (lvF (w', r, c)).map even) rfl hr (pxs_cons (va 2 rfl) (pxs_cons (va 3 rfl)
    (pxs_cons (PX.sub (T := tLst (((lvF (w', r, c)).map even).map (tSh K))) ((px_lcN (j := 8) (own := [("part", 8)]) (l := lvF (w', r, c)) (tA := fun l => tLst (l.map (tQ K))) (E := fun l => tSh K (even l)) rfl sc97.nd (pix_list (va 1 rfl)) (blkOk_by (by kernel_rfl)) (by decide) (by rw [lvF_len]; show off w' r ≤ _; omega) (fun s H D cl fp d Vs a => nm sc97.nd 8)
      (fun s H D cl fp d Vs a ha hd => px_call (ok_fill_chances T) a rfl hr (pxs_cons (va 8 rfl) pxs_nil) ⟨hf.lv a ha, hrc a ha⟩)).cast (congrArg tLst (map_comp' even (tSh K) _))) (shs_sub hs.szs)) pxs_nil))) ⟨hL.hw, hs⟩) ?_
  refine pb_new pxs_nil (fun o => ?_) sc97.nd (i := 5) rfl (.inl rfl)
  have e1 : (((begs w' (off w' r)).map tS).zip (((bnds r c).map (tQ K)).zip ((lvF (w', r, c)).map fun l => tLst (l.map (tQ K))))).map (fun z => tTup K [z.1, z.2.1, z.2.2]) = (List.range (off w' r)).map fun j => tTup K [tS (bT w' j), tQ K ((bnds r c).getD j 0), tLst ((nx w' (foldsOf (w', r, c)) j).map (tQ K))] := by
    rw [list_getD 0 (bnds r c), hL.blen]
    unfold begs lvF
    rw [List.map_map, List.map_map, List.map_map]
    have hle : off w' r ≤ off w' (r + 1) := off_le (Nat.le_succ r)
    have e2 : (fun z => tTup K [z.1, z.2.1, z.2.2]) = fun z : Ty × Ty × Ty => tTup K [z.1, z.2.1, z.2.2] := rfl
    rw [zip3_range _ _ _ _ _ _ _ (off w' r) (by show min (min (off w' r) (off w' (r + 1))) (off w' r) = off w' r; omega)]
    refine List.map_congr_left fun j hj => ?_
    have hj := List.mem_range.mp hj
    have hj2 : j < off w' (r + 1) := by omega
    show tTup K [tS (bT w' j), tQ K ((bnds r c).getD j 0), _] = tTup K [tS (bT w' j), tQ K (((List.range (off w' (r + 1))).map fun i => (bnds r c).getD i 0).getD j 0), _]
    congr 4
    rw [List.getD_eq_getElem?_getD (l := List.map _ _), List.getElem?_map, List.getElem?_range hj2]
    rfl
  refine pb_for (l := List.range (off w' r)) (tA := fun j => tTup K [tS (bT w' j), tQ K ((bnds r c).getD j 0), tLst ((nx w' (foldsOf (w', r, c)) j).map (tQ K))]) PassesOwn.never rfl ((pix_zip3 T.f_zip (px_callN (ok_begs T) (r, w') rfl hr (pxs_cons (va 3 rfl) pxs_nil) (px_kw1 (va 2 rfl)) rfl hL.hw) (px_call (ok_bounds T BT) (w', r, c) rfl hr (pxs_cons (va 0 rfl) pxs_nil) hL) (va (T := tLst ((lvF (w', r, c)).map fun l => tLst (l.map (tQ K)))) 1 rfl)).cast' e1)
    (fun i => C.own o ((stopN (w', r, c) i).map tS)) (fun _ => [some (tLad K Ct w' r c), none, none, none, some (tPlan K Cp w' r ((lvF (w', r, c)).map even)), some (tR o), none, none, none])
    (fun _ j => [some (tLad K Ct w' r c), none, none, none, some (tPlan K Cp w' r ((lvF (w', r, c)).map even)), some (tR o), some (tS (bT w' j)), some (tQ K ((bnds r c).getD j 0)), some (tLst ((nx w' (foldsOf (w', r, c)) j).map (tQ K)))]) (js := [6, 7, 8]) (fun _ => rfl)
    (fun _ _ h => h.imp (gi_keep (gi_drop (gi_drop (gi_drop (gi_keep (gi_keep (gi_keep (gi_keep (gi_keep gi_nil))))))))))
    (fun i a => pgx_tup rfl (pgxs_cons (nm sc97.nd 6) (pgxs_cons (nm sc97.nd 7) (pgxs_cons (nm sc97.nd 8) pgxs_nil)))) (fun i a ha => ?_) ?_
  · have hia : i < off w' r ∧ a = i := by
      obtain ⟨h1, h2⟩ := List.getElem?_eq_some_iff.mp ha
      rw [List.getElem_range] at h2
      exact ⟨by simpa using h1, h2.symm⟩
    obtain ⟨hi, rfl⟩ := hia
    have hmem : nx w' (foldsOf (w', r, c)) a ∈ lvF (w', r, c) := List.mem_map.mpr ⟨a, List.mem_range.mpr hi, rfl⟩
    have hszb : Sz ((bnds r c).getD a 0) := by
      have hlt : a < (bnds r c).length := by
        rw [hL.blen]
        exact Nat.lt_of_lt_of_le hi (off_le (Nat.le_succ r))
      refine (hL.bbig _ ?_).sz
      rw [List.getD_eq_getElem?_getD, List.getElem?_eq_getElem hlt]
      exact List.getElem_mem hlt
    have hlen := stopN_len (w', r, c) a
    refine pb_ifLast ((pxt_le (px_call (ok_compare T) ((bnds r c).getD a 0, hgt (nx w' (foldsOf (w', r, c)) a) - 1) rfl hr (pxs_cons ((va 7 rfl).num hszb) (pxs_cons ((px_call (ok_fill T) (nx w' (foldsOf (w', r, c)) a) rfl hr (pxs_cons (va 8 rfl) pxs_nil) (hf.lv _ hmem)).num (hsz _ hmem)) pxs_nil)) trivial) px_int).cast (cmpR_le _ _)) (fun h => ?_) (fun h => ?_)
    · refine papE 5 (Us := (stopN (w', r, c) (a + 1)).map tS) (T := tS (bT w' a)) ?_ (va 6 rfl) rfl (by rw [List.length_map]; omega) (pb_endI (gi_keep (gi_drop (gi_drop (gi_drop (gi_keep (gi_keep (gi_drop (gi_drop (gi_drop gi_nil))))))))))
      rw [stopN_succ, if_pos h, List.map_append]
      rfl
    · rw [show stopN (w', r, c) (a + 1) = stopN (w', r, c) a by rw [stopN_succ, if_neg (by rw [h]; decide)]]
      exact pb_endI (gi_keep (gi_drop (gi_drop (gi_drop (gi_keep (gi_keep (gi_drop (gi_drop (gi_drop gi_nil)))))))))
  · rw [List.length_range]
    exact pb_freeze (i := 5) rfl (pb_retP x (px_tup (pxs_cons (va 4 rfl) (pxs_cons (va 5 rfl) pxs_nil))))
theorem sc99 : FnScope ["text", "rounds", "width"] ["text", "rounds", "width"] (defScope (top 99)) := ⟨rfl, rfl, rfl, by decide +kernel, rfl, by decide +kernel, by decide +kernel⟩
theorem ok_is_inner (T : Txt K mg) : Ok P w K mg base 5 "is_inner" ["text", "rounds", "width"] (Pur (fun z : Str × Nat × Nat => [tS z.1, tI (z.2.1 : Nat), tI (z.2.2 : Nat)]) (fun z => Hasw z.2.2 z.2.1 ∧ z.1.length ≤ 1000000) (fun z => tB (innB z.2.2 z.2.1 z.1))) := by
  refine T.d_is_inner.ok sc99 (fun _ => rfl) (fun _ _ _ _ _ _ us hl => match us, hl with | [_, _, _], _ => rfl) fun f cdv A outer s H E C0 C z hr x hp => ?_
  obtain ⟨t, r, w'⟩ := z
  obtain ⟨hw, hl⟩ := hp
  replace hw : Hasw w' r := hw
  replace hl : t.length ≤ 1000000 := hl
  have hl2 : t.length ≤ sizeLine := Nat.le_trans hl (by decide)
  show PB _ C [some (tS t), some (tI (r : Nat)), some (tI (w' : Nat))] _ _ _
  refine pb_retP x ((px_and (px_lt (px_lenS T.f_len (va 0 rfl) hl2) (va 1 rfl)) fun h => px_one ((px_callN (ok_is_row T) (t, t.length, w') rfl hr (pxs_cons (va 0 rfl) (pxs_cons (px_lenS T.f_len (va 0 rfl) hl2) pxs_nil)) (px_kw1 (va 2 rfl)) rfl ⟨hw.le (by have := of_decide_eq_true h; show t.length ≤ r; omega), hl⟩))).cast (congrArg tB ?_))
  show (decide ((t.length : Int) < (r : Int)) && (decide (t.length = t.length) && onlyS w' t)) = (decide (t.length < r) && onlyS w' t)
  rw [decide_eq_true (rfl : t.length = t.length), Bool.true_and]
  congr 1
  exact decide_eq_decide.mpr (by omega)
theorem sc100 : FnScope ["stops", "rounds", "width", "text"] ["stops", "rounds", "width"] (defScope (top 100)) := ⟨rfl, rfl, rfl, by decide +kernel, rfl, by decide +kernel, by decide +kernel⟩
/-- stops: inner beginnings -/
structure StOk (w r : Nat) (ss : List Str) : Prop where
  hw : Hasw w r
  few : ss.length ≤ 10000
  inn : ∀ t ∈ ss, innB w r t = true
theorem StOk.len {w r : Nat} {ss : List Str} (h : StOk w r ss) {t : Str} (ht : t ∈ ss) : t.length < 8 := by
  have h1 := h.inn t ht
  unfold innB at h1
  rw [Bool.and_eq_true] at h1
  have h2 := of_decide_eq_true h1.1
  have := h.hw.r8
  omega
abbrev SD := List Str × Nat × Nat
abbrev aSt (K : PySem.W.Frag) (z : SD) : List Ty := [tSeq K (z.1.map tS), tI (z.2.1 : Nat), tI (z.2.2 : Nat)]
theorem ok_check_stops (T : Txt K mg) : Ok P w K mg base 6 "check_stops" ["stops", "rounds", "width"] (Pur (aSt K) (fun z => StOk z.2.2 z.2.1 z.1) (fun z => tN)) := by
  refine T.d_check_stops.ok sc100 (fun _ => rfl) (fun _ _ _ _ _ _ us hl => match us, hl with | [_, _, _], _ => rfl) fun f cdv A outer s H E C0 C z hr x hp => ?_
  obtain ⟨ss, r, w'⟩ := z
  replace hp : StOk w' r ss := hp
  show PB _ C [some (tSeq K (ss.map tS)), some (tI (r : Nat)), some (tI (w' : Nat)), none] _ _ _
  refine pb_forN (j := 3) (l := ss) (tA := tS) PassesOwn.never rfl (psq 0 rfl) (fun _ => C) (fun i => [some (tSeq K (ss.map tS)), some (tI (r : Nat)), some (tI (w' : Nat)), none]) sc100.nd rfl (.inl rfl) (fun _ => rfl) (fun _ _ h => h) (fun i a ha => ?_) (pb_nil fun σ H h => RtOf.of x h.base rfl)
  have hm := List.mem_of_getElem? ha
  refine pb_guard (pxt_not (pxt_val (px_call (ok_is_inner T) (a, r, w') rfl hr (pxs_cons (va 3 rfl) (pxs_cons (va 1 rfl) (pxs_cons (va 2 rfl) pxs_nil))) ⟨hp.hw, by have := hp.len hm; show a.length ≤ _; omega⟩))) (fun h => ?_) fun _ => pb_endI (gi_keep (gi_keep (gi_keep (gi_drop gi_nil))))
  rw [show innB (a, r, w').2.2 (a, r, w').2.1 (a, r, w').1 = true from hp.inn a hm] at h
  cases h
end
end Nb
end -- A5
section -- NbP
set_option maxHeartbeats 1000000
namespace Nb
open PySem PySem.Spec PyProof.Rows L2
section
variable {X : Cx} {C : HC} {G : Env} {kx vx tg iter : Expr} {ifs : List Expr} {scope : Scope} {own : List (Str × Nat)} {pos spos py : Pos} {i : Nat} {y : Str}
theorem sw_dict {gs : List Comprehension} {l : Nat} {env : PySem.Env} (hk : env.scope.kind = .function) (hy : env.scope.names.lookup y = some .local) (hl : (py.line == pos.line) = true)
    (ha : (scope.names.any fun (n, k) => n == y && (k == .local || k == .cell)) = false) : swapsWith (.DictComp kx vx gs scope pos) (some (.Name y py)) l env = pure true := by
  have h1 : env.kindOf y = some .local := hy
  have h2 : env.blockKind = .function := by
    unfold Env.blockKind
    rw [hk]
    rfl
  unfold swapsWith
  simp only [h1, h2, ha, hl, Expr.pos]
  rfl
variable {wi : TI} {g : TG} {tt : TT} {tk tv : TE}
abbrev EachBlk (X : Cx) (scope : Scope) (p : Cx → Prop) : Prop := ∀ (s : Shared) (H : Hp) (D : Addr) (cl : List (Str × Addr)) (fp : List Addr), p (bk X s H scope D cl fp)
theorem ps_setDc (hc : X.calm = true) (hN : X.N.Nodup) (hi0 : X.N[i]? = some y) (hloc : X.env.scope.names.lookup y = some .local) (hsw : swapsWith (.DictComp kx vx [⟨tg, iter, ifs, 0⟩] scope pos) (some (.Name y py)) spos.line X.env = pure true)
    (hi : PI X tg iter wi) (ok : BlkOk X.N X.env.scope scope own) (h1 : EachBlk X scope fun Y => PG Y tg g) (h2 : EachBlk X scope fun Y => PTs Y ifs tt) (h3 : EachBlk X scope fun Y => PE Y kx tk) (h4 : EachBlk X scope fun Y => PE Y vx tv)
    (hs : ∀ z, foldedSetIterable iter X.env z = pure z := by intro _; rfl) : PS X (.Assign [.Name y py] (.DictComp kx vx [⟨tg, iter, ifs, 0⟩] scope pos) spos) (tAsg (tDc wi g tt tk tv (own.map (·.2))) (gName i)) := by
  refine ⟨fun pins s0 σ0 H0 D0 I0 h => ?_⟩
  rw [exec_Assign_Name_used _ _ _ _ hsw]
  refine wpAny_bind (wpAny_standAt ?_)
  refine wpAny_bind ?_
  show wpAny _ X.A (do let _ ← comprehension (.DictComp kx vx [⟨tg, iter, ifs, 0⟩] scope pos) scope X.env (firstIterPos [⟨tg, iter, ifs, 0⟩] pos) newDict false (eval iter X.env) (some (assign (.Name y py) X.env))) _ _ s0
  have hd : tDc wi g tt tk tv (own.map (·.2)) σ0 H0 (fun x H1 => gName i x σ0 H1 D0.nx) := h
  refine wpAny_bind (thn (dc_core (Qf := fun _ s1 => SP X pins D0 .next s1) hc hN I0 hi ok h1 h2 h3 h4 hs hd fun L B s1 m H1 I1 q hn fr => ?_) fun _ s1 hq => wpAny_pure (wpAny_pure hq))
  show wpAny _ X.A (assign (.Name y py) X.env (.ref L)) _ _ _
  refine wpAny_assign_Name (store_ok2 (v := V.ref L) I1 hN hi0 (.inl hloc) rfl (fun s2 I2 ⟨a, sb, ha⟩ => ?_) (.inr hloc))
  obtain ⟨g0, g1, g2, g3, g4, g5⟩ := fr
  have hBa : B ≠ a := by
    rcases ha with z | z
    · exact fun e => g1 (e.trans z)
    · exact fun e => g4 y a z e.symm
  exact ⟨m, hn.sameBut sb hBa, fun h5 sb5 => ⟨_, H1, I2.turned (t' := s2.toks) (fun b u hb e => (sb5.2 b hb).trans e) g0 g1 g3 g4 g5, q⟩⟩
variable {α : Type} {l : List α} {tA : α → Ty} {ky : α → Str} {E : α → Ty} {Gt : α → Env} {js : List Nat}
theorem set_dc (hc : X.calm = true) (hN : X.N.Nodup) (hi0 : X.N[i]? = some y) (hloc : X.env.scope.names.lookup y = some .local) (hsw : swapsWith (.DictComp kx vx [⟨tg, iter, [], 0⟩] scope pos) (some (.Name y py)) spos.line X.env = pure true)
    (hi : PIX X C G tg iter (l.map tA)) (ok : BlkOk X.N X.env.scope scope own) (hj : ∀ k ∈ js, k ∈ own.map (·.2)) (hl : l.length ≤ 100000)
    (hg : ∀ s H D cl fp d n m a, PGX (bk X s H scope D cl fp) (C.ownD d n m) (wipeG G (own.map (·.2))) tg (tA a) (Gt a) js)
    (hk : ∀ s H D cl fp d n m a, a ∈ l → C.M d = false → PX (bk X s H scope D cl fp) (C.ownD d n m) (Gt a) kx (tS (ky a)))
    (he : ∀ s H D cl fp d n m a, a ∈ l → C.M d = false → PX (bk X s H scope D cl fp) (C.ownD d n m) (Gt a) vx (E a)) (hs : ∀ z, foldedSetIterable iter X.env z = pure z := by intro _; rfl) :
    PXset X C G (.Assign [.Name y py] (.DictComp kx vx [⟨tg, iter, [], 0⟩] scope pos) spos) i (tDic fun s => decide (s ∈ l.map ky)) :=
  PS.imp (ps_setDc hc hN hi0 hloc hsw hi ok (fun s H D cl fp => PG_ex fun z : Addr × Nat × (Str → Bool) × α => PG_when fun h => hg s H D cl fp z.1 z.2.1 z.2.2.1 z.2.2.2) (fun s H D cl fp => PTs_ex fun z : Addr × Nat × (Str → Bool) × α => pts_yes)
    (fun s H D cl fp => PE_ex fun z : Addr × Nat × (Str → Bool) × α => pe_when fun h => hk s H D cl fp z.1 z.2.1 z.2.2.1 z.2.2.2 h.1 h.2) (fun s H D cl fp => PE_ex fun z : Addr × Nat × (Str → Bool) × α => pe_when fun h => he s H D cl fp z.1 z.2.1 z.2.2.1 z.2.2.2 h.1 h.2) hs) fun D σ H h => dc_ok hj hl h
theorem PXset.cast {st : Stmt} {T U : Ty} (h : PXset X C G st i T) (f : T = U) : PXset X C G st i U := f ▸ h
end
end Nb
end -- NbP
section -- A6
set_option maxHeartbeats 1000000
namespace Nb
open PySem PySem.Spec PyProof.Rows L2
def mkTs (F : Nat → Nat) (n : Nat) : List Ty := (List.range n).map fun j => tI ((F j : Nat) : Int)
theorem mkTs_succ (F : Nat → Nat) (n : Nat) : mkTs F n ++ [tI ((F n : Nat) : Int)] = mkTs F (n + 1) := by unfold mkTs; rw [List.range_succ, List.map_append]; rfl
theorem mkTs_get {F : Nat → Nat} {n i : Nat} (h : i < n) : (mkTs F n)[i]? = some (tI ((F i : Nat) : Int)) := by unfold mkTs; rw [List.getElem?_map, List.getElem?_range h]; rfl
theorem mkTs_len (F : Nat → Nat) (n : Nat) : (mkTs F n).length = n := by unfold mkTs; simp
theorem bT_len {w r j : Nat} (hw : 0 < w) (h : j < off w (r + 1)) : (bT w j).length ≤ r := by
  unfold bT
  rw [tx_len]
  have := path_len_lt hw h
  omega
section
variable {K : PySem.W.Frag} {mg : Str → Option Value} {base : Heap} {P : Program} {w : World} {Ct Cp : Addr}
theorem sc101 : FnScope ["stops", "rounds", "width", "stopped", "marks", "at", "text"] ["stops", "rounds", "width"] (defScope (top 101)) := ⟨rfl, rfl, rfl, by decide +kernel, rfl, by decide +kernel, by decide +kernel⟩
theorem ok_marks (T : Txt K mg) : Ok P w K mg base 5 "stop_marks" ["stops", "rounds", "width"] (Pur (aSt K) (fun z => StOk z.2.2 z.2.1 z.1) (fun z => tLst (mkTs (markF z.2.2 z.2.1 (stB z.2.2 z.1)) (off z.2.2 (z.2.1 + 1))))) := by
  refine T.d_stop_marks.ok sc101 (fun _ => rfl) (fun _ _ _ _ _ _ us hl => match us, hl with | [_, _, _], _ => rfl) fun f cdv A outer s H E C0 C z hr x hp => ?_
  obtain ⟨ss, r, w'⟩ := z
  replace hp : StOk w' r ss := hp
  have hw := hp.hw
  have w0 : 0 < w' := hw.1.1
  have w5 : w' ≤ 5 := hw.1.2
  have r8 := hw.r8
  have hoff := hasw_off hw
  have hfew := hp.few
  generalize hst : stB w' ss = st
  show PB _ C [some (tSeq K (ss.map tS)), some (tI (r : Nat)), some (tI (w' : Nat)), none, none, none, none] _ _ _
  have hdic : (fun s => decide (s ∈ ss.map fun a => a)) = fun s => decide (s ∈ ss) := by rw [List.map_id']
  refine pb_let ((set_dc (i := 3) (js := [6]) (own := [("text", 6)]) (l := ss) (tA := tS) (ky := fun a => a) (E := fun _ => tB true) rfl sc101.nd rfl rfl (sw_dict rfl rfl rfl (by decide +kernel)) (psq 0 rfl) (blkOk_by (by kernel_rfl)) (by decide) (by omega) (fun s H D cl fp d n m a => nm sc101.nd 6) (fun s H D cl fp d n m a ha hd => va 6 rfl) (fun s H D cl fp d n m a ha hd => px_bl)).cast (congrArg tDic hdic)) ?_
  refine pb_new pxs_nil (fun o => ?_) sc101.nd (i := 4) rfl (.inl rfl)
  have e1 : (((begs w' (off w' (r + 1))).map tS).zipIdx.map fun z => tTup K [tI ((z.2 : Nat) : Int), z.1]) = (List.range (off w' (r + 1))).map fun j => tTup K [tI ((j : Nat) : Int), tS (bT w' j)] := by
    unfold begs
    rw [List.map_map, zipIdx_range, List.map_map]
    rfl
  refine pb_for (l := List.range (off w' (r + 1))) (tA := fun j => tTup K [tI ((j : Nat) : Int), tS (bT w' j)]) PassesOwn.never rfl ((pix_enum T.f_enumerate (px_callN (ok_allBegs T) (r, w') rfl hr (pxs_cons (va 1 rfl) pxs_nil) (px_kw1 (va 2 rfl)) rfl hw)).cast' e1)
    (fun i => C.own o (mkTs (markF w' r st) i)) (fun _ => [none, some (tI (r : Nat)), some (tI (w' : Nat)), some (tDic fun s => decide (s ∈ ss)), some (tR o), none, none])
    (fun _ j => [none, some (tI (r : Nat)), some (tI (w' : Nat)), some (tDic fun s => decide (s ∈ ss)), some (tR o), some (tI ((j : Nat) : Int)), some (tS (bT w' j))]) (js := [5, 6]) (fun _ => rfl)
    (fun _ _ h => h.imp (gi_drop (gi_keep (gi_keep (gi_keep (gi_keep (gi_keep (gi_keep gi_nil))))))))
    (fun i a => pgx_tup rfl (pgxs_cons (nm sc101.nd 5) (pgxs_cons (nm sc101.nd 6) pgxs_nil))) (fun i a ha => ?_) ?_
  · have hia : i < off w' (r + 1) ∧ a = i := by
      obtain ⟨h1, h2⟩ := List.getElem?_eq_some_iff.mp ha
      rw [List.getElem_range] at h2
      exact ⟨by simpa using h1, h2.symm⟩
    obtain ⟨hi, rfl⟩ := hia
    have hbl := bT_len w0 hi
    have hpar : a ≠ 0 → (a - 1) / w' < a := fun h0 => Nat.lt_of_le_of_lt (Nat.div_le_self _ _) (by omega)
    have hapar : a ≠ 0 → markF w' r st a = if markF w' r st ((a - 1) / w') ≠ 0 then 2 else if leafB w' r a || st a then 1 else 0 := fun h0 => by
      obtain ⟨b, rfl⟩ : ∃ b, a = b + 1 := ⟨a - 1, by omega⟩
      rw [markF_succ]
      rfl
    have happ : ∀ {e : Expr} {n : Nat} {nx : List (Option Ty)}, True := fun {_ _ _} => trivial
    refine pb_ifLast (x := decide (a ≠ 0) && !decide (markF w' r st ((a - 1) / w') = 0)) (pxt_w (pxw_and ((pxt_gt (va 5 rfl) px_int).cast (decide_eq_decide.mpr (by omega))) fun h => pxw_and1 ((pxt_ne (px_ixO (i := 4) (T := tI ((markF w' r st ((a - 1) / w') : Nat) : Int)) rfl rfl (.inl rfl) (px_fdivW (px_sub (va 5 rfl) px_int) (va 2 rfl) (szDiv (by omega) (small_abs (by omega)))) ?_) (px_const T.c_GOES_ON)).cast ?_))) (fun h => ?_) fun h => ?_
    · have h0 : a ≠ 0 := of_decide_eq_true h
      have e2 : ((a : Int) - 1) / (w' : Int) = (((a - 1) / w' : Nat) : Int) := by
        rw [show (a : Int) - 1 = ((a - 1 : Nat) : Int) by omega]
        exact (Int.natCast_ediv _ _).symm
      rw [e2]
      exact atI_nat (mkTs_get (hpar h0))
    · congr 1
      exact decide_eq_decide.mpr (by omega)
    · rw [Bool.and_eq_true] at h
      have h0 : a ≠ 0 := of_decide_eq_true h.1
      have h1 : markF w' r st ((a - 1) / w') ≠ 0 := by simpa using h.2
      refine papE 4 (Us := mkTs (markF w' r st) (a + 1)) (T := tI 2) ?_ (px_const T.c_IS_OVER) rfl (by rw [mkTs_len]; omega) (pb_endI (gi_keep (gi_keep (gi_keep (gi_keep (gi_keep (gi_drop (gi_drop gi_nil))))))))
      rw [← mkTs_succ, hapar h0, if_pos h1]
      rfl
    · have hm : markF w' r st a = if leafB w' r a || st a then 1 else 0 := by
        by_cases h0 : a = 0
        · subst h0; exact markF_zero
        · rw [hapar h0, if_neg]
          intro h1
          rw [decide_eq_true h0, Bool.true_and, decide_eq_false h1] at h
          cases h
      refine pb_ifLast (x := leafB w' r a || st a) (pxt_w (pxw_or ((pxt_eq (px_lenS T.f_len (va 6 rfl) (Nat.le_trans hbl (Nat.le_trans r8 (by decide)))) (va 1 rfl)).cast (?_ : _ = leafB w' r a)) fun _ => pxw_or1 ((pxt_inD hr (va 6 rfl) (va 3 rfl)).cast (?_ : _ = st a)))) (fun h2 => ?_) fun h2 => ?_
      · unfold leafB
        refine decide_eq_decide.mpr ?_
        unfold bT
        rw [tx_len]
        omega
      · rw [← hst]
        rfl
      · refine papE 4 (Us := mkTs (markF w' r st) (a + 1)) (T := tI 1) ?_ (px_const T.c_ENDS) rfl (by rw [mkTs_len]; omega) (pb_endI (gi_keep (gi_keep (gi_keep (gi_keep (gi_keep (gi_drop (gi_drop gi_nil))))))))
        rw [← mkTs_succ, hm, if_pos h2]
        rfl
      · refine papE 4 (Us := mkTs (markF w' r st) (a + 1)) (T := tI 0) ?_ (px_const T.c_GOES_ON) rfl (by rw [mkTs_len]; omega) (pb_endI (gi_keep (gi_keep (gi_keep (gi_keep (gi_keep (gi_drop (gi_drop gi_nil))))))))
        rw [← mkTs_succ, hm, if_neg (by rw [h2]; decide)]
        rfl
  · rw [List.length_range]
    exact pb_freeze (i := 4) rfl (pb_retP x (va 4 rfl))
theorem sc102 : FnScope ["stops", "rounds", "width", "marks", "text", "mark"] ["stops", "rounds", "width"] (defScope (top 102)) := ⟨rfl, rfl, rfl, by decide +kernel, rfl, by decide +kernel, by decide +kernel⟩
/-- the ends in their order -/
def endsF (w r : Nat) (ss : List Str) : List Nat := (List.range (off w (r + 1))).filter fun j => decide (markF w r (stB w ss) j = 1)
def goesF (w r : Nat) (ss : List Str) : List Nat := (List.range (off w r)).filter fun j => decide (markF w r (stB w ss) j = 0)
theorem body_endings (T : Txt K mg) : BodyOk P w K mg base 6 "endings" (top 102) ["stops", "rounds", "width", "marks", "text", "mark"] (aSt K) (fun z => StOk z.2.2 z.2.1 z.1) (fun z => tLst ((endsF z.2.2 z.2.1 z.1).map fun j => tS (bT z.2.2 j))) := fun f cdv A outer s H E C0 C z hr x hp => by
  obtain ⟨ss, r, w'⟩ := z
  replace hp : StOk w' r ss := hp
  have hw := hp.hw
  have hoff := hasw_off hw
  show PB _ C [some (tSeq K (ss.map tS)), some (tI (r : Nat)), some (tI (w' : Nat)), none, none, none] _ _ _
  refine pb_expr (px_call (ok_check_rounds T) (r, w') rfl hr (pxs_cons (va 1 rfl) (pxs_cons (va 2 rfl) pxs_nil)) hw) ?_
  refine pb_expr (px_call (ok_check_stops T) (ss, r, w') rfl hr (pxs_cons (va 0 rfl) (pxs_cons (va 1 rfl) (pxs_cons (va 2 rfl) pxs_nil))) hp) ?_
  refine plet sc102.nd 3 (px_call (ok_marks T) (ss, r, w') rfl hr (pxs_cons (va 0 rfl) (pxs_cons (va 1 rfl) (pxs_cons (va 2 rfl) pxs_nil))) hp) ?_
  have e1 : (((begs w' (off w' (r + 1))).map tS).zip (mkTs (markF w' r (stB w' ss)) (off w' (r + 1)))).map (fun z => tTup K [z.1, z.2]) = (List.range (off w' (r + 1))).map fun j => tTup K [tS (bT w' j), tI ((markF w' r (stB w' ss) j : Nat) : Int)] := by
    unfold begs mkTs
    rw [List.map_map, zip2_range _ _ _ _ _ (off w' (r + 1)) (Nat.min_self _)]
    rfl
  exact pb_retP x (px_lc (js := [4, 5]) (own := [("text", 4), ("mark", 5)]) (l := List.range (off w' (r + 1))) (tA := fun j => tTup K [tS (bT w' j), tI ((markF w' r (stB w' ss) j : Nat) : Int)]) (t := fun j => decide (markF w' r (stB w' ss) j = 1)) (E := fun j => tS (bT w' j)) rfl sc102.nd
    ((pix_zip T.f_zip (px_callN (ok_allBegs T) (r, w') rfl hr (pxs_cons (va 1 rfl) pxs_nil) (px_kw1 (va 2 rfl)) rfl hw) (va (T := tLst (mkTs (markF w' r (stB w' ss)) (off w' (r + 1)))) 3 rfl)).cast' e1) (blkOk_by (by kernel_rfl)) (by decide) (by rw [List.length_range]; omega) (fun s H D cl fp d Vs a => pgx_tup rfl (pgxs_cons (nm sc102.nd 4) (pgxs_cons (nm sc102.nd 5) pgxs_nil)))
    (fun s H D cl fp d Vs a ha hd => pts_if ((pxt_eq (va 5 rfl) (px_const T.c_ENDS)).cast (decide_eq_decide.mpr (by omega)))) (fun s H D cl fp d Vs a ha hd _ => va 4 rfl))
theorem ok_endings (T : Txt K mg) : OkN P w K mg base 7 "endings" ["stops", "rounds", "width"] 2 ["width"] (Pur (aSt K) (fun z => StOk z.2.2 z.2.1 z.1) (fun z => tLst ((endsF z.2.2 z.2.1 z.1).map fun j => tS (bT z.2.2 j)))) :=
  T.d_endings.okN sc102 2 ["width"] (List.cons_ne_nil _ _) (fun _ => rfl) (fun _ _ _ _ _ _ us ws h1 h2 => match us, ws, h1, h2 with | [_, _], [_], _, _ => rfl) (body_endings T)
theorem ok_endings2 (T : Txt K mg) : OkD P w K mg base 7 "endings" ["stops", "rounds", "width"] [.int 2] (Pur (aSt K) (fun z => StOk z.2.2 z.2.1 z.1) (fun z => tLst ((endsF z.2.2 z.2.1 z.1).map fun j => tS (bT z.2.2 j)))) :=
  T.d_endings.okD sc102 2 (List.cons_ne_nil _ _) rfl (fun _ => rfl) (fun Dk doc pm an cdv ct us ks h1 h2 => match us, ks, h1, h2 with | [_, _], [_], _, _ => ⟨_, _, _, _, _, _, rfl, rfl, rfl⟩) (body_endings T)
end
end Nb
end -- A6
section -- A7
set_option maxHeartbeats 1000000
namespace Nb
open PySem PySem.Spec PyProof.Rows L2
abbrev bndJ (r : Nat) (c : Nat → List Rat) (j : Nat) : Rat := (bnds r c).getD j 0
theorem bnds_tys {K : PySem.W.Frag} {w r : Nat} {c : Nat → List Rat} (h : Lad w r c) : (bnds r c).map (tQ K) = (List.range (off w (r + 1))).map fun j => tQ K (bndJ r c j) := by
  conv => lhs; rw [list_getD 0 (bnds r c), h.blen]
  rw [List.map_map]
  rfl
theorem Lad.szj {w r j : Nat} {c : Nat → List Rat} (h : Lad w r c) (hj : j < off w (r + 1)) : Sz (bndJ r c j) := by
  have hlt : j < (bnds r c).length := by rw [h.blen]; exact hj
  refine (h.bbig _ ?_).sz
  show (bnds r c).getD j 0 ∈ _
  rw [List.getD_eq_getElem?_getD, List.getElem?_eq_getElem hlt]
  exact List.getElem_mem hlt
/-- what is spare at each place -/
def spare (w r : Nat) (c : Nat → List Rat) (shs : List (List Rat)) : List Rat := (List.range (off w (r + 1))).map fun j => bndJ r c j - missF w shs j
def gmax (shs : List (List Rat)) (j : Nat) : Rat := far 1 (shs.getD j [])
def missT (w : Nat) (shs : List (List Rat)) (j : Nat) : Rat := reachF w shs j * (1 - gmax shs j)
def meanT (w r : Nat) (c : Nat → List Rat) (shs : List (List Rat)) (j : Nat) : Rat := reachF w shs j * bndJ r c j
def missSum (w r : Nat) (shs : List (List Rat)) (ss : List Str) : Rat := qsum ((goesF w r ss).map (missT w shs))
def meanSum (w r : Nat) (c : Nat → List Rat) (shs : List (List Rat)) (ss : List Str) : Rat := qsum ((endsF w r ss).map (meanT w r c shs))
structure SlackOk (w r : Nat) (c : Nat → List Rat) (shs : List (List Rat)) : Prop where
  lad : Lad w r c
  plan : PlanOk w r shs
  m : ∀ j, j < off w (r + 1) → Sz (missF w shs j)
  m1 : ∀ i y, i < off w r → y < w → Sz (1 - shv shs i y)
  s : ∀ q ∈ spare w r c shs, Sz q
structure MissOk (w r : Nat) (shs : List (List Rat)) (ss : List Str) : Prop where
  plan : PlanOk w r shs
  st : StOk w r ss
  rc : ∀ j, j < off w (r + 1) → Sz (reachF w shs j)
  g1 : ∀ j, j < off w r → Sz (gmax shs j) ∧ Sz (1 - gmax shs j)
  t : SzL ((goesF w r ss).map (missT w shs))
structure MeanOk (w r : Nat) (c : Nat → List Rat) (shs : List (List Rat)) (ss : List Str) : Prop where
  lad : Lad w r c
  plan : PlanOk w r shs
  st : StOk w r ss
  rc : ∀ j, j < off w (r + 1) → Sz (reachF w shs j)
  t : SzL ((endsF w r ss).map (meanT w r c shs))
section
variable {K : PySem.W.Frag} {mg : Str → Option Value} {base : Heap} {P : Program} {w : World} {Ct Cp : Addr}
theorem sc98 : FnScope ["chooser", "ladder", "bound", "sofar"] ["chooser", "ladder"] (defScope (top 98)) := ⟨rfl, rfl, rfl, by decide +kernel, rfl, by decide +kernel, by decide +kernel⟩
theorem last_tab {K : PySem.W.Frag} {Ct : Addr} {w r : Nat} {c : Nat → List Rat} : atI (tTabs K Ct w r c) (-1) = some (tTab K Ct w r (c r)) := by
  unfold atI ixN
  rw [tabs_len]
  rw [if_neg (by omega), if_pos (by omega)]
  show (tTabs K Ct w r c)[((-1 : Int) + ((r + 1 : Nat) : Int)).toNat]? = _
  rw [show ((-1 : Int) + ((r + 1 : Nat) : Int)).toNat = r by omega]
  exact tabs_get (Nat.le_refl _)
theorem px_last {X : Cx} {C : HC} {G : Env} {a : Expr} {w' r : Nat} {c : Nat → List Rat} {pos p2 p3 : Pos} {jj : Nat} (ha : PX X C G a (tLad X.K Ct w' r c)) (hs : PlainIx (.UnaryOp .USub (.Constant (.int 1) jj p3) p2) := by intro _ _; rfl) : PX X C G (.Subscript a (.UnaryOp .USub (.Constant (.int 1) jj p3) p2) pos) (tTab X.K Ct w' r (c r)) :=
  px_ixQ ha (px_neg px_int) last_tab hs
theorem ok_slack (T : Txt K mg) (BT : TabT K mg Ct) (BP : PlanT K mg Cp) : Ok P w K mg base 6 "anytime_slack" ["chooser", "ladder"] (Pur (fun z : LD × List (List Rat) => [tPlan K Cp z.1.1 z.1.2.1 z.2, tLad K Ct z.1.1 z.1.2.1 z.1.2.2]) (fun z => SlackOk z.1.1 z.1.2.1 z.1.2.2 z.2) (fun z => tQ K (far (-1) (spare z.1.1 z.1.2.1 z.1.2.2 z.2)))) := by
  refine T.d_anytime_slack.ok sc98 (fun _ => rfl) (fun _ _ _ _ _ _ us hl => match us, hl with | [_, _], _ => rfl) fun f cdv A outer s H E C0 C z hr x hp => ?_
  obtain ⟨⟨w', r, c⟩, shs⟩ := z
  replace hp : SlackOk w' r c shs := hp
  have hL := hp.lad
  have hoff := hasw_off hL.hw
  show PB _ C [some (tPlan K Cp w' r shs), some (tLad K Ct w' r c), none, none] _ _ _
  refine pb_expr (px_call (ok_check_ladder T BT) (w', r, c) rfl hr (pxs_cons (va 1 rfl) pxs_nil) hL) ?_
  refine pb_guard (x := false) ((pxt_not (pxt_val (px_call (ok_same_shape T BT BP) ((w', r, shs), (w', r, c r)) rfl hr (pxs_cons (va 0 rfl) (pxs_cons (px_last (va 1 rfl)) pxs_nil)) trivial))).cast (by simp)) (fun h => nomatch h) fun _ => ?_
  have e1 : (((bnds r c).map (tQ K)).zip (recTs K (missF w' shs) (off w' (r + 1)))).map (fun z => tTup K [z.1, z.2]) = (List.range (off w' (r + 1))).map fun j => tTup K [tQ K (bndJ r c j), tQ K (missF w' shs j)] := by
    rw [bnds_tys hL]
    unfold recTs
    rw [zip2_range _ _ _ _ _ (off w' (r + 1)) (Nat.min_self _)]
  have hne : spare w' r c shs ≠ [] := fun e => by
    have := congrArg List.length e
    unfold spare at this
    rw [List.length_map, List.length_range] at this
    have h2 := off_pos w' r
    rw [this] at h2
    exact absurd h2 (Nat.lt_irrefl 0)
  refine pb_retP x (px_call (ok_least T) (spare w' r c shs) rfl hr (pxs_cons ((px_lc (js := [2, 3]) (own := [("bound", 2), ("sofar", 3)]) (l := List.range (off w' (r + 1))) (tA := fun j => tTup K [tQ K (bndJ r c j), tQ K (missF w' shs j)]) (t := fun _ => true) (E := fun j => tQ K (bndJ r c j - missF w' shs j)) rfl sc98.nd
    ((pix_zip T.f_zip (px_call (ok_bounds T BT) (w', r, c) rfl hr (pxs_cons (va 1 rfl) pxs_nil) hL) (px_call (ok_misses T BP) (w', r, shs) rfl hr (pxs_cons (va 0 rfl) pxs_nil) ⟨hp.plan, hp.m, hp.m1⟩)).cast' e1) (blkOk_by (by kernel_rfl)) (by decide) (by rw [List.length_range]; omega) (fun s H D cl fp d Vs a => pgx_tup rfl (pgxs_cons (nm sc98.nd 2) (pgxs_cons (nm sc98.nd 3) pgxs_nil)))
    (fun s H D cl fp d Vs a ha hd => pts_yes) (fun s H D cl fp d Vs a ha hd _ => px_call (ok_sub T) (bndJ r c a, missF w' shs a) rfl hr (pxs_cons ((va 2 rfl).num (hL.szj (List.mem_range.mp ha))) (pxs_cons ((va 3 rfl).num (hp.m a (List.mem_range.mp ha))) pxs_nil)) ⟨hL.szj (List.mem_range.mp ha), hp.m a (List.mem_range.mp ha)⟩)).cast (by rw [filter_yes]; exact congrArg tLst (map_comp' (fun j => bndJ r c j - missF w' shs j) (tQ K) _))) pxs_nil) ⟨hne, by show (List.map _ _).length ≤ _; rw [List.length_map, List.length_range]; omega, hp.s⟩)
theorem sc103 : FnScope ["foe", "stops", "marks", "parts", "sharing", "reach", "mark"] ["foe", "stops"] (defScope (top 103)) := ⟨rfl, rfl, rfl, by decide +kernel, rfl, by decide +kernel, by decide +kernel⟩
theorem filt_succ {α : Type} (p : Nat → Bool) (f : Nat → α) (n : Nat) : ((List.range (n + 1)).filter p).map f = if p n = true then ((List.range n).filter p).map f ++ [f n] else ((List.range n).filter p).map f := by
  rw [List.range_succ, List.filter_append, List.map_append, List.filter_cons]
  split
  · rfl
  · simp
theorem filt_len {α : Type} (p : Nat → Bool) (f : Nat → α) (n : Nat) : (((List.range n).filter p).map f).length ≤ n := by
  rw [List.length_map]
  exact Nat.le_trans (List.length_filter_le _ _) (by rw [List.length_range]; exact Nat.le_refl _)
theorem shs_tys {K : PySem.W.Frag} {n : Nat} {shs : List (List Rat)} (h : shs.length = n) : shs.map (tSh K) = (List.range n).map fun j => tSh K (shs.getD j []) := by
  conv => lhs; rw [list_getD [] shs, h]
  rw [List.map_map]
  rfl
theorem getD_ne {w n j : Nat} {shs : List (List Rat)} (h : Shrs w n shs) (hw : 0 < w) (hj : j < n) : shs.getD j [] ≠ [] := fun e => by
  have := (h.row hj).len
  rw [e] at this
  simp at this
  omega
theorem ok_smiss (T : Txt K mg) (BP : PlanT K mg Cp) : Ok P w K mg base 7 "stopped_misses" ["foe", "stops"] (Pur (fun z : PD × List Str => [tPlan K Cp z.1.1 z.1.2.1 z.1.2.2, tSeq K (z.2.map tS)]) (fun z => MissOk z.1.1 z.1.2.1 z.1.2.2 z.2) (fun z => tQ K (missSum z.1.1 z.1.2.1 z.1.2.2 z.2))) := by
  refine T.d_stopped_misses.ok sc103 (fun _ => rfl) (fun _ _ _ _ _ _ us hl => match us, hl with | [_, _], _ => rfl) fun f cdv A outer s H E C0 C z hr x hp => ?_
  obtain ⟨⟨w', r, shs⟩, ss⟩ := z
  replace hp : MissOk w' r shs ss := hp
  have hw := hp.plan.hw
  have w0 : 0 < w' := hw.1.1
  have hoff := hasw_off hw
  have hle : off w' r ≤ off w' (r + 1) := off_le (Nat.le_succ r)
  have hlen := hp.plan.sh.len
  show PB _ C [some (tPlan K Cp w' r shs), some (tSeq K (ss.map tS)), none, none, none, none, none] _ _ _
  refine pb_expr (px_call (ok_check_stops T) (ss, r, w') rfl hr (pxs_cons (va 1 rfl) (pxs_cons (px_prop (plan_rounds T BP) (w', r, shs) rfl hr (va 0 rfl) rfl trivial) (pxs_cons (px_prop (plan_width T BP) (w', r, shs) rfl hr (va 0 rfl) rfl trivial) pxs_nil))) hp.st) ?_
  refine plet sc103.nd 2 (px_call (ok_marks T) (ss, r, w') rfl hr (pxs_cons (va 1 rfl) (pxs_cons (px_prop (plan_rounds T BP) (w', r, shs) rfl hr (va 0 rfl) rfl trivial) (pxs_cons (px_prop (plan_width T BP) (w', r, shs) rfl hr (va 0 rfl) rfl trivial) pxs_nil))) hp.st) ?_
  refine pb_new pxs_nil (fun o => ?_) sc103.nd (i := 3) rfl (.inl rfl)
  have e1 : ((shs.map (tSh K)).zip ((recTs K (reachF w' shs) (off w' (r + 1))).zip (mkTs (markF w' r (stB w' ss)) (off w' (r + 1))))).map (fun z => tTup K [z.1, z.2.1, z.2.2]) = (List.range (off w' r)).map fun j => tTup K [tSh K (shs.getD j []), tQ K (reachF w' shs j), tI ((markF w' r (stB w' ss) j : Nat) : Int)] := by
    rw [shs_tys hlen]
    unfold recTs mkTs
    rw [zip3_range _ _ _ _ _ _ _ (off w' r) (by show min (min (off w' r) (off w' (r + 1))) (off w' (r + 1)) = off w' r; omega)]
  refine pb_for (l := List.range (off w' r)) (tA := fun j => tTup K [tSh K (shs.getD j []), tQ K (reachF w' shs j), tI ((markF w' r (stB w' ss) j : Nat) : Int)]) PassesOwn.never rfl ((pix_zip3 T.f_zip (px_prop (plan_shares T BP) (w', r, shs) rfl hr (va 0 rfl) rfl trivial) (px_call (ok_chances T BP) (w', r, shs) rfl hr (pxs_cons (va 0 rfl) pxs_nil) ⟨hp.plan, hp.rc⟩) (va (T := tLst (mkTs (markF w' r (stB w' ss)) (off w' (r + 1)))) 2 rfl)).cast' e1)
    (fun i => C.own o ((((List.range i).filter fun j => decide (markF w' r (stB w' ss) j = 0)).map fun j => tQ K (missT w' shs j)))) (fun _ => [none, none, none, some (tR o), none, none, none]) (fun _ j => [none, none, none, some (tR o), some (tSh K (shs.getD j [])), some (tQ K (reachF w' shs j)), some (tI ((markF w' r (stB w' ss) j : Nat) : Int))]) (js := [4, 5, 6]) (fun _ => rfl)
    (fun _ _ h => h.imp (gi_drop (gi_drop (gi_drop (gi_keep (gi_keep (gi_keep (gi_keep gi_nil)))))))) (fun i a => pgx_tup rfl (pgxs_cons (nm sc103.nd 4) (pgxs_cons (nm sc103.nd 5) (pgxs_cons (nm sc103.nd 6) pgxs_nil)))) (fun i a ha => ?_) ?_
  · have hia : i < off w' r ∧ a = i := by
      obtain ⟨h1, h2⟩ := List.getElem?_eq_some_iff.mp ha
      rw [List.getElem_range] at h2
      exact ⟨by simpa using h1, h2.symm⟩
    obtain ⟨hi, rfl⟩ := hia
    have hrow := hp.plan.sh.row hi
    have hfl := filt_len (fun j => decide (markF w' r (stB w' ss) j = 0)) (fun j => tQ K (missT w' shs j)) a
    have hsr := hp.rc a (by omega)
    have hg := hp.g1 a hi
    refine pb_ifLast (x := decide (markF w' r (stB w' ss) a = 0)) ((pxt_eq (va 6 rfl) (px_const T.c_GOES_ON)).cast (decide_eq_decide.mpr (show ((markF w' r (stB w' ss) a : Nat) : Int) = 0 ↔ markF w' r (stB w' ss) a = 0 by omega))) (fun h => ?_) (fun h => ?_)
    · refine papE 3 (Us := ((List.range (a + 1)).filter fun j => decide (markF w' r (stB w' ss) j = 0)).map fun j => tQ K (missT w' shs j)) (T := tQ K (missT w' shs a)) ?_
        (px_call (ok_mul T) (reachF w' shs a, 1 - gmax shs a) rfl hr (pxs_cons ((va 5 rfl).num hsr) (pxs_cons ((px_call (ok_sub T) (1, gmax shs a) rfl hr (pxs_cons (px_int.numI one_abs) (pxs_cons ((px_call (ok_greatest T) (shs.getD a []) rfl hr (pxs_cons (px_listOf T.f_list boot_list (va 4 rfl).seqT) pxs_nil) ⟨getD_ne hp.plan.sh w0 hi, by rw [hrow.len]; have := hw.1.2; omega, hrow.sz.1⟩).num hg.1) pxs_nil)) ⟨sz_one, hg.1⟩).num hg.2) pxs_nil)) ⟨hsr, hg.2⟩) rfl (by omega) (pb_endI (gi_drop (gi_drop (gi_drop (gi_keep (gi_drop (gi_drop (gi_drop gi_nil))))))))
      rw [filt_succ, if_pos h]
    · rw [show ((List.range (a + 1)).filter fun j => decide (markF w' r (stB w' ss) j = 0)).map (fun j => tQ K (missT w' shs j)) = ((List.range a).filter fun j => decide (markF w' r (stB w' ss) j = 0)).map fun j => tQ K (missT w' shs j) by rw [filt_succ, if_neg (by rw [h]; decide)]]
      exact pb_endI (gi_drop (gi_drop (gi_drop (gi_keep (gi_drop (gi_drop (gi_drop gi_nil)))))))
  · rw [List.length_range]
    refine pb_freeze (i := 3) rfl (pb_retP x (px_call (ok_total T) ((goesF w' r ss).map (missT w' shs)) rfl hr (pxs_cons ((va (T := tLst (((List.range (off w' r)).filter fun j => decide (markF w' r (stB w' ss) j = 0)).map fun j => tQ K (missT w' shs j))) 3 rfl).cast (congrArg tLst (map_comp' (missT w' shs) (tQ K) _))).seqL pxs_nil) hp.t))
theorem sc104 : FnScope ["foe", "stops", "ladder", "marks", "parts", "bound", "reach", "mark"] ["foe", "stops", "ladder"] (defScope (top 104)) := ⟨rfl, rfl, rfl, by decide +kernel, rfl, by decide +kernel, by decide +kernel⟩
theorem ok_smean (T : Txt K mg) (BT : TabT K mg Ct) (BP : PlanT K mg Cp) : Ok P w K mg base 7 "stopped_mean" ["foe", "stops", "ladder"] (Pur (fun z : LD × List (List Rat) × List Str => [tPlan K Cp z.1.1 z.1.2.1 z.2.1, tSeq K (z.2.2.map tS), tLad K Ct z.1.1 z.1.2.1 z.1.2.2]) (fun z => MeanOk z.1.1 z.1.2.1 z.1.2.2 z.2.1 z.2.2) (fun z => tQ K (meanSum z.1.1 z.1.2.1 z.1.2.2 z.2.1 z.2.2))) := by
  refine T.d_stopped_mean.ok sc104 (fun _ => rfl) (fun _ _ _ _ _ _ us hl => match us, hl with | [_, _, _], _ => rfl) fun f cdv A outer s H E C0 C z hr x hp => ?_
  obtain ⟨⟨w', r, c⟩, shs, ss⟩ := z
  replace hp : MeanOk w' r c shs ss := hp
  have hL := hp.lad
  have hw := hp.plan.hw
  have hoff := hasw_off hw
  show PB _ C [some (tPlan K Cp w' r shs), some (tSeq K (ss.map tS)), some (tLad K Ct w' r c), none, none, none, none, none] _ _ _
  refine pb_expr (px_call (ok_check_stops T) (ss, r, w') rfl hr (pxs_cons (va 1 rfl) (pxs_cons (px_prop (plan_rounds T BP) (w', r, shs) rfl hr (va 0 rfl) rfl trivial) (pxs_cons (px_prop (plan_width T BP) (w', r, shs) rfl hr (va 0 rfl) rfl trivial) pxs_nil))) hp.st) ?_
  refine pb_expr (px_call (ok_check_ladder T BT) (w', r, c) rfl hr (pxs_cons (va 2 rfl) pxs_nil) hL) ?_
  refine pb_guard (x := false) ((pxt_not (pxt_val (px_call (ok_same_shape T BT BP) ((w', r, shs), (w', r, c r)) rfl hr (pxs_cons (va 0 rfl) (pxs_cons (px_last (va 2 rfl)) pxs_nil)) trivial))).cast (by simp)) (fun h => nomatch h) fun _ => ?_
  refine plet sc104.nd 3 (px_call (ok_marks T) (ss, r, w') rfl hr (pxs_cons (va 1 rfl) (pxs_cons (px_prop (plan_rounds T BP) (w', r, shs) rfl hr (va 0 rfl) rfl trivial) (pxs_cons (px_prop (plan_width T BP) (w', r, shs) rfl hr (va 0 rfl) rfl trivial) pxs_nil))) hp.st) ?_
  refine pb_new pxs_nil (fun o => ?_) sc104.nd (i := 4) rfl (.inl rfl)
  have e1 : (((bnds r c).map (tQ K)).zip ((recTs K (reachF w' shs) (off w' (r + 1))).zip (mkTs (markF w' r (stB w' ss)) (off w' (r + 1))))).map (fun z => tTup K [z.1, z.2.1, z.2.2]) = (List.range (off w' (r + 1))).map fun j => tTup K [tQ K (bndJ r c j), tQ K (reachF w' shs j), tI ((markF w' r (stB w' ss) j : Nat) : Int)] := by
    rw [bnds_tys hL]
    unfold recTs mkTs
    rw [zip3_range _ _ _ _ _ _ _ (off w' (r + 1)) (by rw [Nat.min_self, Nat.min_self])]
  refine pb_for (l := List.range (off w' (r + 1))) (tA := fun j => tTup K [tQ K (bndJ r c j), tQ K (reachF w' shs j), tI ((markF w' r (stB w' ss) j : Nat) : Int)]) PassesOwn.never rfl ((pix_zip3 T.f_zip (px_call (ok_bounds T BT) (w', r, c) rfl hr (pxs_cons (va 2 rfl) pxs_nil) hL) (px_call (ok_chances T BP) (w', r, shs) rfl hr (pxs_cons (va 0 rfl) pxs_nil) ⟨hp.plan, hp.rc⟩) (va (T := tLst (mkTs (markF w' r (stB w' ss)) (off w' (r + 1)))) 3 rfl)).cast' e1)
    (fun i => C.own o ((((List.range i).filter fun j => decide (markF w' r (stB w' ss) j = 1)).map fun j => tQ K (meanT w' r c shs j)))) (fun _ => [none, none, none, none, some (tR o), none, none, none]) (fun _ j => [none, none, none, none, some (tR o), some (tQ K (bndJ r c j)), some (tQ K (reachF w' shs j)), some (tI ((markF w' r (stB w' ss) j : Nat) : Int))]) (js := [5, 6, 7]) (fun _ => rfl)
    (fun _ _ h => h.imp (gi_drop (gi_drop (gi_drop (gi_drop (gi_keep (gi_keep (gi_keep (gi_keep gi_nil))))))))) (fun i a => pgx_tup rfl (pgxs_cons (nm sc104.nd 5) (pgxs_cons (nm sc104.nd 6) (pgxs_cons (nm sc104.nd 7) pgxs_nil)))) (fun i a ha => ?_) ?_
  · have hia : i < off w' (r + 1) ∧ a = i := by
      obtain ⟨h1, h2⟩ := List.getElem?_eq_some_iff.mp ha
      rw [List.getElem_range] at h2
      exact ⟨by simpa using h1, h2.symm⟩
    obtain ⟨hi, rfl⟩ := hia
    have hfl := filt_len (fun j => decide (markF w' r (stB w' ss) j = 1)) (fun j => tQ K (meanT w' r c shs j)) a
    have hsr := hp.rc a hi
    have hsb := hL.szj hi
    refine pb_ifLast (x := decide (markF w' r (stB w' ss) a = 1)) ((pxt_eq (va 7 rfl) (px_const T.c_ENDS)).cast (decide_eq_decide.mpr (show ((markF w' r (stB w' ss) a : Nat) : Int) = 1 ↔ markF w' r (stB w' ss) a = 1 by omega))) (fun h => ?_) (fun h => ?_)
    · refine papE 4 (Us := ((List.range (a + 1)).filter fun j => decide (markF w' r (stB w' ss) j = 1)).map fun j => tQ K (meanT w' r c shs j)) (T := tQ K (meanT w' r c shs a)) ?_
        (px_call (ok_mul T) (reachF w' shs a, bndJ r c a) rfl hr (pxs_cons ((va 6 rfl).num hsr) (pxs_cons ((va 5 rfl).num hsb) pxs_nil)) ⟨hsr, hsb⟩) rfl (by omega) (pb_endI (gi_drop (gi_drop (gi_drop (gi_drop (gi_keep (gi_drop (gi_drop (gi_drop gi_nil)))))))))
      rw [filt_succ, if_pos h]
    · rw [show ((List.range (a + 1)).filter fun j => decide (markF w' r (stB w' ss) j = 1)).map (fun j => tQ K (meanT w' r c shs j)) = ((List.range a).filter fun j => decide (markF w' r (stB w' ss) j = 1)).map fun j => tQ K (meanT w' r c shs j) by rw [filt_succ, if_neg (by rw [h]; decide)]]
      exact pb_endI (gi_drop (gi_drop (gi_drop (gi_drop (gi_keep (gi_drop (gi_drop (gi_drop gi_nil))))))))
  · rw [List.length_range]
    refine pb_freeze (i := 4) rfl (pb_retP x (px_call (ok_total T) ((endsF w' r ss).map (meanT w' r c shs)) rfl hr (pxs_cons ((va (T := tLst (((List.range (off w' (r + 1))).filter fun j => decide (markF w' r (stB w' ss) j = 1)).map fun j => tQ K (meanT w' r c shs j))) 4 rfl).cast (congrArg tLst (map_comp' (meanT w' r c shs) (tQ K) _))).seqL pxs_nil) hp.t))
end
end Nb
end -- A7
section -- A8
set_option maxHeartbeats 1000000
namespace Nb
open PySem PySem.Spec PyProof.Rows L2
/-- what the foe's making asks -/
structure FoeOk (z : LD) : Prop where
  fo : FoldOk2 z
  rc : ∀ l ∈ lvF z, rch l ≠ []
  sz : ∀ l ∈ lvF z, Sz (hgt l - 1)
  sh : Shrs z.1 (off z.1 z.2.1) ((lvF z).map even)
structure PapOk (z : LD) : Prop where
  foe : FoeOk z
  cho : Shrs z.1 (off z.1 z.2.1) ((lvF z).map pour)
/-- a paper's parts -/
structure Pap where
  q : Rat
  cw : Nat
  cr : Nat
  cs : List (List Rat)
  fw : Nat
  fr : Nat
  fs : List (List Rat)
  ss : List Str
def sameB (w r : Nat) (p : Pap) : Bool := decide (p.cw = w) && decide (p.cr = r) && (decide (p.fw = w) && decide (p.fr = r))
/-- how a paper is judged -/
def judge (w r : Nat) (c : Nat → List Rat) (p : Pap) : Bool := sameB w r p && (p.ss.all (innB w r) && (!decide (far (-1) (spare w r c p.cs) < p.q) && !decide (missSum w r p.fs p.ss < meanSum w r c p.fs p.ss - p.q)))
structure JudgeOk (w r : Nat) (c : Nat → List Rat) (p : Pap) : Prop where
  lad : Lad w r c
  q : Sz p.q
  few : p.ss.length ≤ 10000
  len : ∀ t ∈ p.ss, t.length ≤ 1000000
  more : sameB w r p = true → p.ss.all (innB w r) = true → SlackOk w r c p.cs ∧ Sz (far (-1) (spare w r c p.cs)) ∧ MissOk w r p.fs p.ss ∧ Sz (missSum w r p.fs p.ss) ∧ MeanOk w r c p.fs p.ss ∧ Sz (meanSum w r c p.fs p.ss) ∧ Sz (meanSum w r c p.fs p.ss - p.q)
section
variable {K : PySem.W.Frag} {mg : Str → Option Value} {base : Heap} {P : Program} {w : World} {Ct Cp : Addr}
abbrev tPap (K : PySem.W.Frag) (Cp : Addr) (q : Rat) (w r : Nat) (cs fs : List (List Rat)) (ss : List Str) : Ty := tTup K [tQ K q, tPlan K Cp w r cs, tPlan K Cp w r fs, tLst (ss.map tS)]
theorem sc105 : FnScope ["ladder", "number", "foe", "stops"] ["ladder"] (defScope (top 105)) := ⟨rfl, rfl, rfl, by decide +kernel, rfl, by decide +kernel, by decide +kernel⟩
theorem ok_paper (T : Txt K mg) (BT : TabT K mg Ct) (BP : PlanT K mg Cp) : Ok P w K mg base 10 "anytime_paper" ["ladder"] (Pur (fun z : LD => [tLad K Ct z.1 z.2.1 z.2.2]) PapOk (fun z => tPap K Cp (foldOf z) z.1 z.2.1 ((lvF z).map pour) ((lvF z).map even) (stopF z))) := by
  refine T.d_anytime_paper.ok sc105 (fun _ => rfl) (fun _ _ _ _ _ _ us hl => match us, hl with | [_], _ => rfl) fun f cdv A outer s H E C0 C z hr x hp => ?_
  show PB _ C [some (tLad K Ct z.1 z.2.1 z.2.2), none, none, none] _ _ _
  refine plet sc105.nd 1 (px_call (ok_fold T BT) z rfl hr (pxs_cons (va 0 rfl) pxs_nil) hp.foe.fo.fo) ?_
  refine pb_asg (px_call (ok_foe T BT BP) z rfl hr (pxs_cons (va 0 rfl) pxs_nil) ⟨hp.foe.fo, hp.foe.rc, hp.foe.sz, hp.foe.sh⟩) (pgx_tup rfl (pgxs_cons (nm sc105.nd 2) (pgxs_cons (nm sc105.nd 3) pgxs_nil))) ?_
  exact pb_retP x (px_tup (pxs_cons (va 1 rfl) (pxs_cons (px_call (ok_chooser T BT BP) z rfl hr (pxs_cons (va 0 rfl) pxs_nil) ⟨hp.foe.fo, hp.cho⟩) (pxs_cons (va 2 rfl) (pxs_cons (va 3 rfl) pxs_nil)))))
theorem sc106 : FnScope ["ladder", "paper", "number", "chooser", "foe", "stops", "due", "last", "text"] ["ladder", "paper"] (defScope (top 106)) := ⟨rfl, rfl, rfl, by decide +kernel, rfl, by decide +kernel, by decide +kernel⟩
abbrev tPapH (K : PySem.W.Frag) (Cp : Addr) (p : Pap) : Ty := tTup K [tNum K p.q, tPlan K Cp p.cw p.cr p.cs, tPlan K Cp p.fw p.fr p.fs, tSeq K (p.ss.map tS)]
theorem ok_is_paper (T : Txt K mg) (BT : TabT K mg Ct) (BP : PlanT K mg Cp) : Ok P w K mg base 8 "is_anytime_paper" ["ladder", "paper"] (Pur (fun z : LD × Pap => [tLad K Ct z.1.1 z.1.2.1 z.1.2.2, tPapH K Cp z.2]) (fun z => JudgeOk z.1.1 z.1.2.1 z.1.2.2 z.2) (fun z => tB (judge z.1.1 z.1.2.1 z.1.2.2 z.2))) := by
  refine T.d_is_anytime_paper.ok sc106 (fun _ => rfl) (fun _ _ _ _ _ _ us hl => match us, hl with | [_, _], _ => rfl) fun f cdv A outer s H E C0 C z hr x hp => ?_
  obtain ⟨⟨w', r, c⟩, ⟨q, cw, cr, cs, fw, fr, fs, ss⟩⟩ := z
  replace hp : JudgeOk w' r c ⟨q, cw, cr, cs, fw, fr, fs, ss⟩ := hp
  have hL := hp.lad
  have hfew : ss.length ≤ 10000 := hp.few
  have hq : Sz q := hp.q
  show PB _ C [some (tLad K Ct w' r c), some (tTup K [tNum K q, tPlan K Cp cw cr cs, tPlan K Cp fw fr fs, tSeq K (ss.map tS)]), none, none, none, none, none, none, none] _ _ _
  refine pb_expr (px_call (ok_check_ladder T BT) (w', r, c) rfl hr (pxs_cons (va 0 rfl) pxs_nil) hL) ?_
  refine pb_asg (va 1 rfl) (pgx_tup rfl (pgxs_cons (nm sc106.nd 2) (pgxs_cons (nm sc106.nd 3) (pgxs_cons (nm sc106.nd 4) (pgxs_cons (nm sc106.nd 5) pgxs_nil))))) ?_
  refine plet sc106.nd 6 (px_call (ok_fraction T) q rfl hr (pxs_cons (va 2 rfl) pxs_nil) trivial) ?_
  refine plet sc106.nd 7 (px_last (va 0 rfl)) ?_
  refine pb_guard (x := !sameB w' r ⟨q, cw, cr, cs, fw, fr, fs, ss⟩) ((pxt_w (pxw_or (pxt_not (pxt_val (px_call (ok_same_shape T BT BP) ((cw, cr, cs), (w', r, c r)) rfl hr (pxs_cons (va 3 rfl) (pxs_cons (va 7 rfl) pxs_nil)) trivial))) fun _ => pxw_or1 (pxt_not (pxt_val (px_call (ok_same_shape T BT BP) ((fw, fr, fs), (w', r, c r)) rfl hr (pxs_cons (va 4 rfl) (pxs_cons (va 7 rfl) pxs_nil)) trivial))))).cast ?_) (fun h => ?_) fun h => ?_
  · exact (Bool.not_and _ _).symm
  · refine pb_retP x (px_bl.cast (congrArg tB ?_))
    unfold judge
    rw [show sameB w' r ⟨q, cw, cr, cs, fw, fr, fs, ss⟩ = false by simpa using h]
    rfl
  have hsame : sameB w' r ⟨q, cw, cr, cs, fw, fr, fs, ss⟩ = true := by simpa using h
  have hsm := hsame
  unfold sameB at hsm
  simp only [Bool.and_eq_true, decide_eq_true_eq] at hsm
  obtain ⟨⟨s1, s2⟩, s3, s4⟩ := hsm
  refine pb_guard (x := !ss.all (innB w' r)) ((pxt_not (pxt_val (px_allB (bs := ss.map (innB w' r)) rfl T.f_all boot_all ((px_lcN (j := 8) (own := [("text", 8)]) (l := ss) (tA := tS) (E := fun t => tB (innB w' r t)) rfl sc106.nd (psq 5 rfl) (blkOk_by (by kernel_rfl)) (by decide) (by omega) (fun s H D cl fp d Vs a => nm sc106.nd 8)
    (fun s H D cl fp d Vs a ha hd => px_call (ok_is_inner T) (a, r, w') rfl hr (pxs_cons (va 8 rfl) (pxs_cons (px_prop (tab_rounds T BT) (w', r, c r) rfl hr (va 7 rfl) rfl trivial) (pxs_cons (px_prop (tab_width T BT) (w', r, c r) rfl hr (va 7 rfl) rfl trivial) pxs_nil))) ⟨hL.hw, hp.len a ha⟩)).cast (congrArg tLst (map_comp' (innB w' r) tB _)))))).cast (by rw [List.all_map]; rfl)) (fun h2 => ?_) fun h2 => ?_
  · refine pb_retP x (px_bl.cast (congrArg tB ?_))
    unfold judge
    rw [hsame, show ss.all (innB w' r) = false by simpa using h2]
    rfl
  have hinn : ss.all (innB w' r) = true := by simpa using h2
  obtain ⟨m1, m2, m3, m4, m5, m6, m7⟩ := hp.more hsame hinn
  replace s3 : fw = cw := s3.trans s1.symm
  replace s4 : fr = cr := s4.trans s2.symm
  subst s1 s2 s3 s4
  refine pb_guard ((pxt_lt (px_call (ok_compare T) (far (-1) (spare fw fr c cs), q) rfl hr (pxs_cons ((px_call (ok_slack T BT BP) ((fw, fr, c), cs) rfl hr (pxs_cons (va 3 rfl) (pxs_cons (va 0 rfl) pxs_nil)) m1).num m2) (pxs_cons ((va (T := tQ K q) 6 rfl).num hq) pxs_nil)) trivial) px_int).cast (cmpR_lt _ _)) (fun h3 => ?_) fun h3 => ?_
  · refine pb_retP x (px_bl.cast (congrArg tB ?_))
    unfold judge
    rw [hsame, hinn, show decide (far (-1) (spare fw fr c cs) < q) = true from h3]
    rfl
  · refine pb_retP x ((px_ge (px_call (ok_compare T) (missSum fw fr fs ss, meanSum fw fr c fs ss - q) rfl hr (pxs_cons ((px_call (ok_smiss T BP) ((fw, fr, fs), ss) rfl hr (pxs_cons (va 4 rfl) (pxs_cons (va 5 rfl) pxs_nil)) m3).num m4) (pxs_cons ((px_call (ok_sub T) (meanSum fw fr c fs ss, q) rfl hr (pxs_cons ((px_call (ok_smean T BT BP) ((fw, fr, c), fs, ss) rfl hr (pxs_cons (va 4 rfl) (pxs_cons (va 5 rfl) (pxs_cons (va 0 rfl) pxs_nil))) m5).num m6) (pxs_cons ((va (T := tQ K q) 6 rfl).num hq) pxs_nil)) ⟨m6, hq⟩).num m7) pxs_nil)) trivial) px_int).cast (congrArg tB ?_))
    rw [cmpR_ge]
    unfold judge
    rw [hsame, hinn, show decide (far (-1) (spare fw fr c cs) < q) = false from h3]
    rfl
end
end Nb
end -- A8
section -- L3
set_option maxHeartbeats 1000000
namespace Nb
open PySem PySem.Spec PyProof.Rows L2
theorem toStr_dig {y : Nat} (h : y < 5) : ((toString (y : Int) : String) : Str) = dig y := by
  have : y = 0 ∨ y = 1 ∨ y = 2 ∨ y = 3 ∨ y = 4 := by omega
  rcases this with rfl | rfl | rfl | rfl | rfl <;> decide +kernel
theorem intTx_dig {y : Nat} (h : y < 5) : PySem.intText? (dig y) = some (y : Int) := by
  have : y = 0 ∨ y = 1 ∨ y = 2 ∨ y = 3 ∨ y = 4 := by omega
  rcases this with rfl | rfl | rfl | rfl | rfl <;> decide +kernel
theorem range_at {n i a : Nat} (h : (List.range n)[i]? = some a) : i < n ∧ a = i := by
  obtain ⟨h1, h2⟩ := List.getElem?_eq_some_iff.mp h
  rw [List.getElem_range] at h2
  exact ⟨by simpa using h1, h2.symm⟩
theorem log2_small {y : Nat} (h : y < 5) : (y : Int).natAbs.log2 < 1920 := by
  rw [Int.natAbs_natCast]
  have : y.log2 ≤ y := Nat.log2_le_self y
  omega
section
variable {K : PySem.W.Frag} {mg : Str → Option Value} {base : Heap} {P : Program} {w : World} {Ct Cp : Addr}
theorem sc122 : FnScope ["_law_width", "_law_size", "_law_found", "_law_k", "_law_longer", "_law_text", "_law_y"] ["_law_width", "_law_size"] (defScope (top 122)) := ⟨rfl, rfl, rfl, by decide +kernel, rfl, by decide +kernel, by decide +kernel⟩
/-- the texts of the next length, as far as place p and sign y -/
def nextTo (w k p y : Nat) : List Str := (List.range (w * p + y)).map fun q => bT w (off w (k + 1) + q)
theorem nextTo_snoc {w k p y : Nat} (hy : y < w) : nextTo w k p y ++ [bT w (off w k + p) ++ dig y] = nextTo w k p (y + 1) := by
  unfold nextTo
  rw [show w * p + (y + 1) = (w * p + y) + 1 from rfl, List.range_succ, List.map_append]
  congr 1
  show [_] = [bT w (off w (k + 1) + (w * p + y))]
  unfold bT
  rw [tx_snoc, show off w (k + 1) + (w * p + y) = w * (off w k + p) + y + 1 by show w * off w k + 1 + _ = _; rw [Nat.mul_add]; omega, path_child hy]
theorem nextTo_row {w k p : Nat} : nextTo w k p w = nextTo w k (p + 1) 0 := by unfold nextTo; rw [Nat.mul_succ]; rfl
theorem nextTo_all {w k : Nat} : nextTo w k (w ^ k) 0 = lvl w (k + 1) := by
  unfold nextTo lvl
  rw [Nat.pow_succ, Nat.mul_comm]
  rfl
theorem nextTo_len (w k p y : Nat) : (nextTo w k p y).length = w * p + y := by unfold nextTo; simp
theorem ok_ltexts (T : Txt K mg) : Ok P w K mg base 1 "_law_texts_b" ["_law_width", "_law_size"] (Pur (fun z : Nat × Nat => [tI (z.1 : Nat), tI (z.2 : Nat)]) (fun z => Hasw z.1 z.2) (fun z => tLst ((lvl z.1 z.2).map tS))) := by
  refine T.d__law_texts_b.ok sc122 (fun _ => rfl) (fun _ _ _ _ _ _ us hl => match us, hl with | [_, _], _ => rfl) fun f cdv A outer s H E C0 C z hr x hw => ?_
  obtain ⟨w', r⟩ := z
  replace hw : Hasw w' r := hw
  have w0 : 0 < w' := hw.1.1
  have w5 : w' ≤ 5 := hw.1.2
  have r8 := hw.r8
  show PB _ C [some (tI (w' : Nat)), some (tI (r : Nat)), none, none, none, none, none] _ _ _
  refine plet sc122.nd 2 ((px_lst (pxs_cons px_str pxs_nil)).cast (show tLst [tS ""] = tLst ((lvl w' 0).map tS) by rw [lvl_zero]; rfl)) ?_
  refine pb_forN (j := 3) (l := List.range r) (tA := fun i => tI ((i : Nat) : Int)) PassesOwn.never rfl (pix_range1 T.f_range (va 1 rfl) (by omega)) (fun _ => C) (fun i => [some (tI (w' : Nat)), some (tI (r : Nat)), some (tLst ((lvl w' i).map tS)), none, none, none, none]) sc122.nd rfl (.inl rfl) (fun _ => rfl) (fun _ _ h => h) (fun k a ha => ?_) ?_
  · obtain ⟨hk, rfl⟩ := range_at ha
    have hwk : Hasw w' (a + 1) := hw.le hk
    have hp1 := hasw_pow hwk
    refine pb_new pxs_nil (fun o => ?_) sc122.nd (i := 4) rfl (.inl rfl)
    refine pb_forN (j := 5) (l := List.range (w' ^ a)) (tA := fun p => tS (bT w' (off w' a + p))) PassesOwn.never rfl (pix_list ((px_listOf T.f_list boot_list (va 2 rfl).seqL).cast (congrArg tLst (show (lvl w' a).map tS = _ by unfold lvl; rw [List.map_map]; rfl)))) (fun p => C.own o ((nextTo w' a p 0).map tS)) (fun p => [some (tI (w' : Nat)), some (tI (r : Nat)), some (tLst ((lvl w' a).map tS)), none, some (tR o), none, none]) sc122.nd rfl (.inl rfl) (fun _ => rfl) (fun _ _ h => h.imp (gi_keep (gi_keep (gi_keep (gi_drop (gi_keep (gi_keep (gi_keep gi_nil)))))))) (fun p b hb => ?_) ?_
    · obtain ⟨hp, rfl⟩ := range_at hb
      have hb1 : w' * (b + 1) ≤ w' ^ (a + 1) := by
        rw [Nat.pow_succ, Nat.mul_comm (w' ^ a)]
        exact Nat.mul_le_mul_left w' hp
      rw [Nat.mul_succ] at hb1
      have hlt : off w' a + b < off w' (a + 1) := by rw [off_add]; omega
      have hbl := bT_len w0 hlt
      refine pb_forN (j := 6) (l := List.range w') (tA := fun y => tI ((y : Nat) : Int)) PassesOwn.never rfl (pix_range1 T.f_range (va 0 rfl) (by omega)) (fun y => C.own o ((nextTo w' a b y).map tS)) (fun y => [some (tI (w' : Nat)), some (tI (r : Nat)), some (tLst ((lvl w' a).map tS)), none, some (tR o), some (tS (bT w' (off w' a + b))), none]) sc122.nd rfl (.inl rfl) (fun _ => rfl) (fun _ _ h => h) (fun y d hd => ?_) ?_
      · obtain ⟨hy, rfl⟩ := range_at hd
        refine papE 4 (Us := (nextTo w' a b (d + 1)).map tS) (T := tS (bT w' (off w' a + b) ++ dig d)) (by rw [← nextTo_snoc hy, List.map_append]; rfl) (px_addS (va 5 rfl) ((px_strI T.f_str (va 6 rfl) (log2_small (by omega))).cast (congrArg tS (toStr_dig (by omega)))) ?_) rfl (by rw [List.length_map, nextTo_len]; omega) (pb_endI (gi_keep (gi_keep (gi_keep (gi_keep (gi_keep (gi_keep (gi_drop gi_nil))))))))
        exact Nat.le_trans (show (bT w' (off w' a + b)).length + 1 ≤ 100 by omega) (by decide)
      · rw [List.length_range, nextTo_row]
        exact pb_endI (gi_keep (gi_keep (gi_keep (gi_keep (gi_keep (gi_drop (gi_keep gi_nil)))))))
    · rw [List.length_range, nextTo_all]
      refine pb_freeze (i := 4) rfl ?_
      refine plet sc122.nd 2 (va 4 rfl) ?_
      exact pb_endI (gi_keep (gi_keep (gi_keep (gi_drop (gi_drop (gi_drop (gi_drop gi_nil)))))))
  · refine pb_retP x ((va 2 rfl).cast ?_)
    rw [List.length_range]
theorem sc123 : FnScope ["_law_width", "_law_rounds", "_law_found", "_law_size"] ["_law_width", "_law_rounds"] (defScope (top 123)) := ⟨rfl, rfl, rfl, by decide +kernel, rfl, by decide +kernel, by decide +kernel⟩
theorem ok_linner (T : Txt K mg) : Ok P w K mg base 2 "_law_inner" ["_law_width", "_law_rounds"] (Pur (fun z : Nat × Nat => [tI (z.1 : Nat), tI (z.2 : Nat)]) (fun z => Hasw z.1 z.2) (fun z => tLst ((begs z.1 (off z.1 z.2)).map tS))) := by
  refine T.d__law_inner.ok sc123 (fun _ => rfl) (fun _ _ _ _ _ _ us hl => match us, hl with | [_, _], _ => rfl) fun f cdv A outer s H E C0 C z hr x hw => ?_
  obtain ⟨w', r⟩ := z
  replace hw : Hasw w' r := hw
  have r8 := hw.r8
  have hoff := hasw_off hw
  show PB _ C [some (tI (w' : Nat)), some (tI (r : Nat)), none, none] _ _ _
  refine plet sc123.nd 2 (px_lst pxs_nil) ?_
  refine pb_forN (j := 3) (l := List.range r) (tA := fun i => tI ((i : Nat) : Int)) PassesOwn.never rfl (pix_range1 T.f_range (va 1 rfl) (by omega)) (fun _ => C) (fun i => [some (tI (w' : Nat)), some (tI (r : Nat)), some (tLst ((begs w' (off w' i)).map tS)), none]) sc123.nd rfl (.inl rfl) (fun _ => rfl) (fun _ _ h => h) (fun k a ha => ?_) ?_
  · obtain ⟨hk, rfl⟩ := range_at ha
    have h1 := hasw_off (hw.le (s := a) (by omega))
    have h2 := hasw_pow (hw.le (s := a) (by omega))
    have h3 : off w' a ≤ off w' (a + 1) := off_le (Nat.le_succ a)
    refine plet sc123.nd 2 (px_cat (va 2 rfl) (px_call (ok_ltexts T) (w', a) rfl hr (pxs_cons (va 0 rfl) (pxs_cons (va 3 rfl) pxs_nil)) (hw.le (by omega))) ?_) (pb_endI (gi_keep (gi_keep (gi_eq ?_ (gi_drop gi_nil)))))
    · show (List.map _ _).length + (List.map _ (lvl w' a)).length ≤ _
      rw [List.length_map, List.length_map, begs_len, lvl_length]
      omega
    · show tLst ((begs w' (off w' a)).map tS ++ (lvl w' a).map tS) = _
      rw [← List.map_append, begs_ext]
  · refine pb_retP x ((va 2 rfl).cast ?_)
    rw [List.length_range]
theorem sc124 : FnScope ["_law_width", "_law_text", "_law_found", "_law_sign"] ["_law_width", "_law_text"] (defScope (top 124)) := ⟨rfl, rfl, rfl, by decide +kernel, rfl, by decide +kernel, by decide +kernel⟩
theorem sc125 : FnScope ["_law_width", "_law_text", "_law_found", "_law_sign"] ["_law_width", "_law_text"] (defScope (top 125)) := ⟨rfl, rfl, rfl, by decide +kernel, rfl, by decide +kernel, by decide +kernel⟩
structure Digs (w : Nat) (t : List Nat) : Prop where
  w5 : w ≤ 5
  d : ∀ y ∈ t, y < w
  few : t.length ≤ 8
theorem fold_bound {w : Nat} {t : List Nat} (h : Digs w t) (c : Nat) (hc : c ≤ 1) (n : Nat) : (t.take n).foldl (fun a y => a * w + c + y) 0 + 1 ≤ 6 ^ 8 := by
  have h5 := h.w5
  have key : ∀ (m : Nat) (l : List Nat) (a : Nat), (∀ y ∈ l, y < w) → l.length ≤ m → l.foldl (fun a y => a * w + c + y) a + 1 ≤ 6 ^ m * (a + 1) := by
    intro m
    induction m with
    | zero =>
      intro l a _ hl
      have : l = [] := List.length_eq_zero_iff.mp (by omega)
      subst this
      simp
    | succ m ih =>
      intro l a hd hl
      cases l with
      | nil =>
        show a + 1 ≤ 6 ^ (m + 1) * (a + 1)
        exact Nat.le_mul_of_pos_left _ (Nat.pow_pos (by omega))
      | cons y r =>
        rw [List.foldl_cons]
        refine Nat.le_trans (ih r _ (fun z hz => hd z (List.mem_cons_of_mem _ hz)) (by simp at hl; omega)) ?_
        have hy := hd y List.mem_cons_self
        have h1 : a * w ≤ a * 5 := Nat.mul_le_mul_left a h5
        have h2 : a * w + c + y + 1 ≤ 6 * (a + 1) := by omega
        calc 6 ^ m * (a * w + c + y + 1) ≤ 6 ^ m * (6 * (a + 1)) := Nat.mul_le_mul_left _ h2
          _ = 6 ^ (m + 1) * (a + 1) := by rw [Nat.pow_succ, Nat.mul_assoc]
  have := key 8 (t.take n) 0 (fun y hy => h.d y (List.mem_of_mem_take hy)) (Nat.le_trans (List.length_take_le' n t) h.few)
  omega
theorem small_abs2 {n : Nat} (h : n + 1 ≤ 6 ^ 8) : ((n : Nat) : Int).natAbs < 2 ^ 8000 := by
  rw [Int.natAbs_natCast]
  have h2 : (6 : Nat) ^ 8 ≤ 2 ^ 30 := by decide
  exact Nat.lt_of_lt_of_le (show n < 2 ^ 30 by omega) (Nat.pow_le_pow_right (by omega) (by omega))
theorem tx_iter (t : List Nat) : (tx t).cps.toList.map (fun c => tS ⟨#[c]⟩) = t.map fun y => tS (dig y) := by
  rw [tx_codes, List.map_map]
  rfl
theorem dig_len (y : Nat) : (dig y).length = 1 := rfl
theorem ok_lplace (T : Txt K mg) : Ok P w K mg base 1 "_law_place" ["_law_width", "_law_text"] (Pur (fun z : Nat × List Nat => [tI (z.1 : Nat), tS (tx z.2)]) (fun z => Digs z.1 z.2) (fun z => tI ((plc z.1 z.2 : Nat) : Int))) := by
  refine T.d__law_place.ok sc124 (fun _ => rfl) (fun _ _ _ _ _ _ us hl => match us, hl with | [_, _], _ => rfl) fun f cdv A outer s H E C0 C z hr x hp => ?_
  obtain ⟨w', t⟩ := z
  replace hp : Digs w' t := hp
  have w5 := hp.w5
  show PB _ C [some (tI (w' : Nat)), some (tS (tx t)), none, none] _ _ _
  refine plet sc124.nd 2 px_int ?_
  refine pb_forN (j := 3) (l := t) (tA := fun y => tS (dig y)) PassesOwn.never rfl ((pix_str (va 1 rfl)).cast' (tx_iter t)) (fun _ => C) (fun i => [some (tI (w' : Nat)), some (tS (tx t)), some (tI ((plc w' (t.take i) : Nat) : Int)), none]) sc124.nd rfl (.inl rfl) (fun _ => rfl) (fun _ _ h => h) (fun i a ha => ?_) ?_
  · have hd := hp.d a (List.mem_of_getElem? ha)
    have hb := fold_bound hp 0 (by omega) i
    refine plet sc124.nd 2 (px_add (px_mulW (va 2 rfl) (va 0 rfl) (szMul (small_abs2 hb) (small_abs (by omega)))) (px_intS T.f_int (va 3 rfl) (intTx_dig (by omega)) (by rw [dig_len]; omega))) (pb_endI (gi_keep (gi_keep (gi_eq ?_ (gi_drop gi_nil)))))
    unfold plc
    rw [foldl_take ha]
    push_cast
    rfl
  · refine pb_retP x ((va 2 rfl).cast ?_)
    rw [List.take_length]
theorem ok_lindex (T : Txt K mg) : Ok P w K mg base 1 "_law_index" ["_law_width", "_law_text"] (Pur (fun z : Nat × List Nat => [tI (z.1 : Nat), tS (tx z.2)]) (fun z => Digs z.1 z.2) (fun z => tI ((idx z.1 z.2 : Nat) : Int))) := by
  refine T.d__law_index.ok sc125 (fun _ => rfl) (fun _ _ _ _ _ _ us hl => match us, hl with | [_, _], _ => rfl) fun f cdv A outer s H E C0 C z hr x hp => ?_
  obtain ⟨w', t⟩ := z
  replace hp : Digs w' t := hp
  have w5 := hp.w5
  show PB _ C [some (tI (w' : Nat)), some (tS (tx t)), none, none] _ _ _
  refine plet sc125.nd 2 px_int ?_
  refine pb_forN (j := 3) (l := t) (tA := fun y => tS (dig y)) PassesOwn.never rfl ((pix_str (va 1 rfl)).cast' (tx_iter t)) (fun _ => C) (fun i => [some (tI (w' : Nat)), some (tS (tx t)), some (tI ((idx w' (t.take i) : Nat) : Int)), none]) sc125.nd rfl (.inl rfl) (fun _ => rfl) (fun _ _ h => h) (fun i a ha => ?_) ?_
  · have hd := hp.d a (List.mem_of_getElem? ha)
    have hb := fold_bound hp 1 (by omega) i
    refine plet sc125.nd 2 (px_add (px_add (px_mulW (va 2 rfl) (va 0 rfl) (szMul (small_abs2 hb) (small_abs (by omega)))) px_int) (px_intS T.f_int (va 3 rfl) (intTx_dig (by omega)) (by rw [dig_len]; omega))) (pb_endI (gi_keep (gi_keep (gi_eq ?_ (gi_drop gi_nil)))))
    unfold idx
    rw [foldl_take ha]
    push_cast
    rfl
  · refine pb_retP x ((va 2 rfl).cast ?_)
    rw [List.take_length]
end
end Nb
end -- L3
section -- L4
set_option maxHeartbeats 1000000
namespace Nb
open PySem PySem.Spec PyProof.Rows L2
abbrev tShq (K : PySem.W.Frag) (shs : List (List Rat)) : Ty := tLst (shs.map fun l => tSeq K (l.map (tQ K)))
/-- what the misses down to round r ask -/
structure McOk (w r : Nat) (shs : List (List Rat)) : Prop where
  hw : Hasw w r
  row : ∀ i, i < off w r → i < shs.length ∧ (shs.getD i []).length = w
  m : ∀ j, j < off w (r + 1) → Sz (missF w shs j)
  s : ∀ i y, i < off w r → y < w → Sz (shv shs i y) ∧ Sz (1 - shv shs i y)
def lvTs (K : PySem.W.Frag) (F : Nat → Rat) (w k : Nat) : List Ty := (List.range (w ^ k)).map fun p => tQ K (F (off w k + p))
def nxTs (K : PySem.W.Frag) (F : Nat → Rat) (w k p y : Nat) : List Ty := (List.range (w * p + y)).map fun q => tQ K (F (off w (k + 1) + q))
section
variable {K : PySem.W.Frag}
theorem nxTs_snoc {F : Nat → Rat} {w k p y : Nat} (hy : y < w) {v : Rat} (h : F (w * (off w k + p) + y + 1) = v) : nxTs K F w k p y ++ [tQ K v] = nxTs K F w k p (y + 1) := by
  unfold nxTs
  rw [show w * p + (y + 1) = (w * p + y) + 1 from rfl, List.range_succ, List.map_append]
  congr 1
  show [_] = [tQ K (F (off w (k + 1) + (w * p + y)))]
  rw [show off w (k + 1) + (w * p + y) = w * (off w k + p) + y + 1 by show w * off w k + 1 + _ = _; rw [Nat.mul_add]; omega, h]
theorem nxTs_row {F : Nat → Rat} {w k p : Nat} : nxTs K F w k p w = nxTs K F w k (p + 1) 0 := by unfold nxTs; rw [Nat.mul_succ]; rfl
theorem nxTs_all {F : Nat → Rat} {w k : Nat} : nxTs K F w k (w ^ k) 0 = lvTs K F w (k + 1) := by
  unfold nxTs lvTs
  rw [Nat.pow_succ, Nat.mul_comm]
  rfl
theorem nxTs_len (F : Nat → Rat) (w k p y : Nat) : (nxTs K F w k p y).length = w * p + y := by unfold nxTs; simp
theorem lvTs_len (F : Nat → Rat) (w k : Nat) : (lvTs K F w k).length = w ^ k := by unfold lvTs; simp
theorem lvTs_get {F : Nat → Rat} {w k p : Nat} (h : p < w ^ k) : (lvTs K F w k)[p]? = some (tQ K (F (off w k + p))) := by unfold lvTs; rw [List.getElem?_map, List.getElem?_range h]; rfl
theorem shq_row {shs : List (List Rat)} {i : Nat} (h : i < shs.length) : (shs.map fun l => tSeq K (l.map (tQ K)))[i]? = some (tSeq K ((shs.getD i []).map (tQ K))) := by
  rw [List.getD_eq_getElem?_getD, List.getElem?_map, List.getElem?_eq_getElem h]
  rfl
theorem row_at {l : List Rat} {y : Nat} (h : y < l.length) : (l.map (tQ K))[y]? = some (tQ K (l.getD y 0)) := by
  rw [List.getD_eq_getElem?_getD, List.getElem?_map, List.getElem?_eq_getElem h]
  rfl
end
section
variable {K : PySem.W.Frag} {mg : Str → Option Value} {base : Heap} {P : Program} {w : World} {Ct Cp : Addr}
theorem sc127 : FnScope ["_law_width", "_law_rounds", "_law_shares", "_law_level", "_law_at", "_law_size", "_law_longer", "_law_value", "_law_y"] ["_law_width", "_law_rounds", "_law_shares"] (defScope (top 127)) := ⟨rfl, rfl, rfl, by decide +kernel, rfl, by decide +kernel, by decide +kernel⟩
theorem ok_lmiss (T : Txt K mg) : Ok P w K mg base 4 "_law_miss_cells_b" ["_law_width", "_law_rounds", "_law_shares"] (Pur (fun z : PD => [tI (z.1 : Nat), tI (z.2.1 : Nat), tShq K z.2.2]) (fun z => McOk z.1 z.2.1 z.2.2) (fun z => tLst (lvTs K (missF z.1 z.2.2) z.1 z.2.1))) := by
  refine T.d__law_miss_cells_b.ok sc127 (fun _ => rfl) (fun _ _ _ _ _ _ us hl => match us, hl with | [_, _, _], _ => rfl) fun f cdv A outer s H E C0 C z hr x hp => ?_
  obtain ⟨w', r, shs⟩ := z
  replace hp : McOk w' r shs := hp
  have hw := hp.hw
  have w0 : 0 < w' := hw.1.1
  have w5 : w' ≤ 5 := hw.1.2
  have r8 := hw.r8
  show PB _ C [some (tI (w' : Nat)), some (tI (r : Nat)), some (tShq K shs), none, none, none, none, none, none] _ _ _
  refine plet sc127.nd 3 ((px_lst (pxs_cons (px_tup (pxs_cons px_int (pxs_cons px_int pxs_nil))) pxs_nil)).cast (show tLst [tQ K 0] = tLst (lvTs K (missF w' shs) w' 0) by show _ = tLst [tQ K (missF w' shs 0)]; rw [show missF w' shs 0 = 0 from recF_zero])) ?_
  refine plet sc127.nd 4 px_int ?_
  refine pb_forN (j := 5) (l := List.range r) (tA := fun i => tI ((i : Nat) : Int)) PassesOwn.never rfl (pix_range1 T.f_range (va 1 rfl) (by omega)) (fun _ => C) (fun i => [some (tI (w' : Nat)), some (tI (r : Nat)), some (tShq K shs), some (tLst (lvTs K (missF w' shs) w' i)), some (tI ((off w' i : Nat) : Int)), none, none, none, none]) sc127.nd rfl (.inl rfl) (fun _ => rfl) (fun _ _ h => h) (fun k a ha => ?_) ?_
  · obtain ⟨hk, rfl⟩ := range_at ha
    have hwk : Hasw w' (a + 1) := hw.le hk
    have hp1 := hasw_pow hwk
    refine pb_new pxs_nil (fun o => ?_) sc127.nd (i := 6) rfl (.inl rfl)
    refine pb_forN (j := 7) (l := List.range (w' ^ a)) (tA := fun p => tQ K (missF w' shs (off w' a + p))) PassesOwn.never rfl (pix_list (px_listOf T.f_list boot_list (va 3 rfl).seqL)) (fun p => C.own o (nxTs K (missF w' shs) w' a p 0)) (fun p => [some (tI (w' : Nat)), some (tI (r : Nat)), some (tShq K shs), none, some (tI ((off w' a + p : Nat) : Int)), none, some (tR o), none, none]) sc127.nd rfl (.inl rfl) (fun _ => rfl) (fun _ _ h => h.imp (gi_keep (gi_keep (gi_keep (gi_drop (gi_keep (gi_drop (gi_keep (gi_keep (gi_keep gi_nil)))))))))) (fun p b hb => ?_) ?_
    · obtain ⟨hpb, rfl⟩ := range_at hb
      have hb1 : w' * (b + 1) ≤ w' ^ (a + 1) := by
        rw [Nat.pow_succ, Nat.mul_comm (w' ^ a)]
        exact Nat.mul_le_mul_left w' hpb
      rw [Nat.mul_succ] at hb1
      have hin : off w' a + b < off w' r := Nat.lt_of_lt_of_le (show off w' a + b < off w' (a + 1) by rw [off_add]; omega) (off_le hk)
      obtain ⟨hrl, hrow⟩ := hp.row _ hin
      have hms := hp.m (off w' a + b) (Nat.lt_of_lt_of_le hin (off_le (Nat.le_succ r)))
      refine pb_forN (j := 8) (l := List.range w') (tA := fun y => tI ((y : Nat) : Int)) PassesOwn.never rfl (pix_range1 T.f_range (va 0 rfl) (by omega)) (fun y => C.own o (nxTs K (missF w' shs) w' a b y)) (fun y => [some (tI (w' : Nat)), some (tI (r : Nat)), some (tShq K shs), none, some (tI ((off w' a + b : Nat) : Int)), none, some (tR o), some (tQ K (missF w' shs (off w' a + b))), none]) sc127.nd rfl (.inl rfl) (fun _ => rfl) (fun _ _ h => h) (fun y d hd => ?_) ?_
      · obtain ⟨hy, rfl⟩ := range_at hd
        have hss := hp.s _ d hin hy
        refine papE 6 (Us := nxTs K (missF w' shs) w' a b (d + 1)) (T := tQ K (missF w' shs (off w' a + b) + (1 - shv shs (off w' a + b) d))) (nxTs_snoc hy (missF_child hy)) (px_call (ok_plus T) (missF w' shs (off w' a + b), 1 - shv shs (off w' a + b) d) rfl hr (pxs_cons (va 7 rfl) (pxs_cons (px_call (ok_minus T) (1, shv shs (off w' a + b) d) rfl hr (pxs_cons (px_tup (pxs_cons px_int (pxs_cons px_int pxs_nil))) (pxs_cons (px_ixQ (px_ixL (va 2 rfl) (va 4 rfl) (atI_nat (shq_row hrl))) (va 8 rfl) (atI_nat (row_at (by rw [hrow]; exact hy)))) pxs_nil)) ⟨sz_one, hss.1⟩) pxs_nil)) ⟨hms, hss.2⟩) rfl
          (show (nxTs K (missF w' shs) w' a b d).length < 1000000 by rw [nxTs_len]; omega) (pb_endI (gi_keep (gi_keep (gi_keep (gi_drop (gi_keep (gi_drop (gi_keep (gi_keep (gi_drop gi_nil))))))))))
      · rw [List.length_range, nxTs_row]
        refine plet sc127.nd 4 ((px_add (va 4 rfl) px_int).cast (congrArg tI (show ((off w' a + b : Nat) : Int) + 1 = ((off w' a + (b + 1) : Nat) : Int) by omega))) ?_
        exact pb_endI (gi_keep (gi_keep (gi_keep (gi_drop (gi_keep (gi_drop (gi_keep (gi_drop (gi_keep gi_nil)))))))))
    · rw [List.length_range, nxTs_all]
      refine pb_freeze (i := 6) rfl ?_
      refine plet sc127.nd 3 (va 6 rfl) ?_
      exact pb_endI (gi_keep (gi_keep (gi_keep (gi_keep (gi_eq (by rw [off_add]) (gi_drop (gi_drop (gi_drop (gi_drop gi_nil)))))))))
  · refine pb_retP x ((va 3 rfl).cast ?_)
    rw [List.length_range]
theorem sc135 : FnScope ["_law_width", "_law_bounds_here", "_law_shares", "_law_found", "_law_size", "_law_cells", "_law_k"] ["_law_width", "_law_bounds_here", "_law_shares"] (defScope (top 135)) := ⟨rfl, rfl, rfl, by decide +kernel, rfl, by decide +kernel, by decide +kernel⟩
abbrev tBnd (K : PySem.W.Frag) (r : Nat) (c : Nat → List Rat) : Ty := tLst ((List.range (r + 1)).map fun k => tLst ((c k).map (tQ K)))
theorem bnd_row {r k : Nat} {c : Nat → List Rat} (h : k ≤ r) : ((List.range (r + 1)).map fun k => tLst ((c k).map (tQ K)))[k]? = some (tLst ((c k).map (tQ K))) := by
  rw [List.getElem?_map, List.getElem?_range (by omega)]
  rfl
/-- what is spare at round k -/
def spareK (w : Nat) (c : Nat → List Rat) (shs : List (List Rat)) (k : Nat) : List Rat := (List.range (w ^ k)).map fun p => (c k).getD p 0 - missF w shs (off w k + p)
def slackF (w : Nat) (c : Nat → List Rat) (shs : List (List Rat)) : Nat → Rat
  | 0 => (c 0).getD 0 0
  | k + 1 => qlow (slackF w c shs k :: spareK w c shs k)
structure LsOk (w r : Nat) (c : Nat → List Rat) (shs : List (List Rat)) : Prop where
  lad : Lad w r c
  mc : ∀ k, k ≤ r → McOk w k shs
  sp : ∀ k, k ≤ r → ∀ q ∈ spareK w c shs k, Sz q
theorem qlow_mem {l : List Rat} (h : l ≠ []) : qlow l ∈ l := by
  cases l with
  | nil => exact absurd rfl h
  | cons a r =>
    show (a :: r).foldl qlowStep a ∈ a :: r
    rcases qlow_mem_take a (a :: r) with e | e
    · rw [e]; exact List.mem_cons_self
    · exact e
theorem ok_lslack (T : Txt K mg) : Ok P w K mg base 5 "_law_slack_of" ["_law_width", "_law_bounds_here", "_law_shares"] (Pur (fun z : LD × List (List Rat) => [tI (z.1.1 : Nat), tBnd K z.1.2.1 z.1.2.2, tShq K z.2]) (fun z => LsOk z.1.1 z.1.2.1 z.1.2.2 z.2) (fun z => tQ K (slackF z.1.1 z.1.2.2 z.2 (z.1.2.1 + 1)))) := by
  refine T.d__law_slack_of.ok sc135 (fun _ => rfl) (fun _ _ _ _ _ _ us hl => match us, hl with | [_, _, _], _ => rfl) fun f cdv A outer s H E C0 C z hr x hp => ?_
  obtain ⟨⟨w', r, c⟩, shs⟩ := z
  replace hp : LsOk w' r c shs := hp
  have hL := hp.lad
  have hw := hL.hw
  have r8 := hw.r8
  have hc0 : 0 < (c 0).length := by rw [hL.len 0 (Nat.zero_le _)]; exact Nat.one_pos
  have hs0 : Sz ((c 0).getD 0 0) := by
    refine (hL.big 0 (Nat.zero_le _) _ ?_).sz
    rw [List.getD_eq_getElem?_getD, List.getElem?_eq_getElem hc0]
    exact List.getElem_mem hc0
  have hsl : ∀ k, k ≤ r + 1 → Sz (slackF w' c shs k) := by
    intro k
    induction k with
    | zero => intro _; exact hs0
    | succ k ih =>
      intro hk
      have := qlow_mem (l := slackF w' c shs k :: spareK w' c shs k) (List.cons_ne_nil _ _)
      rcases List.mem_cons.mp this with e | e
      · show Sz (qlow _)
        rw [e]
        exact ih (by omega)
      · exact hp.sp k (by omega) _ e
  show PB _ C [some (tI (w' : Nat)), some (tBnd K r c), some (tShq K shs), none, none, none, none] _ _ _
  refine plet sc135.nd 3 (px_ixL (px_ixL (va 1 rfl) px_int (atI_nat (j := 0) (bnd_row (Nat.zero_le _)))) px_int (atI_nat (j := 0) (row_at hc0))) ?_
  refine pb_forN (j := 4) (l := List.range (r + 1)) (tA := fun i => tI ((i : Nat) : Int)) PassesOwn.never rfl (pix_range1 T.f_range ((px_lenL T.f_len (va 1 rfl)).cast (by simp)) (by omega)) (fun _ => C) (fun i => [some (tI (w' : Nat)), some (tBnd K r c), some (tShq K shs), some (tQ K (slackF w' c shs i)), none, none, none]) sc135.nd rfl (.inr rfl) (fun _ => rfl) (fun _ _ h => h) (fun k a ha => ?_) ?_
  · obtain ⟨hk, rfl⟩ := range_at ha
    have hak : a ≤ r := by omega
    have hpw := hasw_pow (hw.le hak)
    have hcl := hL.len a hak
    refine plet sc135.nd 5 (px_call (ok_lmiss T) (w', a, shs) rfl hr (pxs_cons (va 0 rfl) (pxs_cons (va 4 rfl) (pxs_cons (va 2 rfl) pxs_nil))) (hp.mc a hak)) ?_
    refine plet sc135.nd 3 (px_call (ok_lowest T) (slackF w' c shs a :: spareK w' c shs a) rfl hr (pxs_cons (((px_cat (px_lst (pxs_cons (va 3 rfl) pxs_nil)) (px_lcN (j := 6) (own := [("_law_k", 6)]) (l := List.range (w' ^ a)) (tA := fun i => tI ((i : Nat) : Int)) (E := fun p => tQ K ((c a).getD p 0 - missF w' shs (off w' a + p))) rfl sc135.nd (pix_range1 T.f_range ((px_lenL T.f_len (va (T := tLst (lvTs K (missF w' shs) w' a)) 5 rfl)).cast (by rw [lvTs_len])) (by omega)) (blkOk_by (by kernel_rfl)) (by decide) (by rw [List.length_range]; omega)
      (fun s H D cl fp d Vs a => nm sc135.nd 6) (fun s H D cl fp d Vs p hpm hd => ?_)) ?_).cast ?_).seqL) pxs_nil) ⟨List.cons_ne_nil _ _, ?_⟩) (pb_endI (gi_keep (gi_keep (gi_keep (gi_keep (gi_drop (gi_drop (gi_keep gi_nil))))))))
    · have hpp := List.mem_range.mp hpm
      have hmem : (c a).getD p 0 ∈ c a := by
        have hlt : p < (c a).length := by rw [hcl]; exact hpp
        rw [List.getD_eq_getElem?_getD, List.getElem?_eq_getElem hlt]
        exact List.getElem_mem hlt
      have hsm := (hp.mc a hak).m (off w' a + p) (by rw [off_add]; omega)
      exact px_call (ok_minus T) ((c a).getD p 0, missF w' shs (off w' a + p)) rfl hr (pxs_cons (px_ixL (px_ixL (va 1 rfl) (va 4 rfl) (atI_nat (bnd_row hak))) (va 6 rfl) (atI_nat (row_at (by rw [hcl]; exact hpp)))) (pxs_cons (px_ixL (va 5 rfl) (va 6 rfl) (atI_nat (lvTs_get hpp))) pxs_nil)) ⟨(hL.big a hak _ hmem).sz, hsm⟩
    · rw [List.length_map, List.length_range]
      show 1 + w' ^ a ≤ _
      omega
    · show tLst ([tQ K (slackF w' c shs a)] ++ _) = tLst (tQ K (slackF w' c shs a) :: (spareK w' c shs a).map (tQ K))
      unfold spareK
      rw [List.map_map]
      rfl
    · intro v hv
      rcases List.mem_cons.mp hv with e | e
      · rw [e]; exact hsl a (by omega)
      · exact hp.sp a hak v e
  · refine pb_retP x ((va 3 rfl).cast ?_)
    rw [List.length_range]
theorem sc137 : FnScope ["_law_width", "_law_rounds", "_law_shares", "_law_sharing"] ["_law_width", "_law_rounds", "_law_shares"] (defScope (top 137)) := ⟨rfl, rfl, rfl, by decide +kernel, rfl, by decide +kernel, by decide +kernel⟩
theorem ok_lsharings (T : Txt K mg) : Ok P w K mg base 5 "_law_are_sharings" ["_law_width", "_law_rounds", "_law_shares"] (Pur (fun z : PD => [tI (z.1 : Nat), tI (z.2.1 : Nat), tLst (z.2.2.map (tSh K))]) (fun z => PlanOk z.1 z.2.1 z.2.2) (fun z => tB true)) := by
  refine T.d__law_are_sharings.ok sc137 (fun _ => rfl) (fun _ _ _ _ _ _ us hl => match us, hl with | [_, _, _], _ => rfl) fun f cdv A outer s H E C0 C z hr x hp => ?_
  obtain ⟨w', r, shs⟩ := z
  replace hp : PlanOk w' r shs := hp
  have w0 : 0 < w' := hp.hw.1.1
  show PB _ C [some (tI (w' : Nat)), some (tI (r : Nat)), some (tLst (shs.map (tSh K))), none] _ _ _
  refine pb_guard (x := false) ((pxt_ne (px_lenL T.f_len (va 2 rfl)) (px_lenL T.f_len (px_call (ok_linner T) (w', r) rfl hr (pxs_cons (va 0 rfl) (pxs_cons (va 1 rfl) pxs_nil)) hp.hw))).cast ?_) (fun h => nomatch h) fun _ => ?_
  · rw [List.length_map, List.length_map, begs_len, hp.sh.len]
    simp
  refine pb_forN (j := 3) (l := shs) (tA := tSh K) PassesOwn.never rfl (pix_list (va 2 rfl)) (fun _ => C) (fun _ => [some (tI (w' : Nat)), some (tI (r : Nat)), some (tLst (shs.map (tSh K))), none]) sc137.nd rfl (.inl rfl) (fun _ => rfl) (fun _ _ h => h) (fun i a ha => ?_) (pb_retP x px_bl)
  have hs := hp.sh.all a (List.mem_of_getElem? ha)
  have hne : a ≠ [] := fun e => by have := hs.len; rw [e] at this; simp at this; omega
  have hlow : 0 ≤ qlow a := hs.pos _ (qlow_mem hne)
  refine pb_guard (x := false) ((pxt_w (pxw_or (pxt_ne (px_lenT T.f_len (va 3 rfl)) (va 0 rfl)) fun _ => pxw_or (pxt_neD hr (T := tQ K (qsum a)) (U := tQ K 1) datQ datQ shaped_pair shaped_pair (px_call (ok_sum T) a rfl hr (pxs_cons (va 3 rfl).seqT pxs_nil) hs.sz) (px_tup (pxs_cons px_int (pxs_cons px_int pxs_nil)))) fun _ =>
    pxw_or1 (pxt_val (px_call (ok_below T) (qlow a, 0) rfl hr (pxs_cons (px_call (ok_lowest T) a rfl hr (pxs_cons (va 3 rfl).seqT pxs_nil) ⟨hne, hs.sz.1⟩) (pxs_cons (px_tup (pxs_cons px_int (pxs_cons px_int pxs_nil))) pxs_nil)) ⟨hs.sz.1 _ (qlow_mem hne), sz_zero⟩)))).cast ?_) (fun h => nomatch h) fun _ => pb_endI (gi_keep (gi_keep (gi_keep (gi_drop gi_nil))))
  have hl0 : decide (qlow a < 0) = false := decide_eq_false (Rat.not_lt.mpr hlow)
  show (!decide (((a.map (tQ K)).length : Int) = (w' : Int)) || (!PyData.eqv _ _ || decide (qlow a < 0))) = false
  rw [List.length_map, hs.len, eqv_pair, hs.one, hl0]
  simp
end
end Nb
end -- L4
section -- M3
set_option maxHeartbeats 1000000
namespace Nb
def goesB (w r : Nat) (st : Nat → Bool) (j : Nat) : Bool := decide (markF w r st j = 0)
def endsB (w r : Nat) (st : Nat → Bool) (j : Nat) : Bool := decide (markF w r st j = 1)
def lvP (w k : Nat) : List Nat := (List.range (w ^ k)).map fun p => off w k + p
def kids (w j : Nat) : List Nat := (List.range w).map fun y => w * j + y + 1
def actL (w r : Nat) (st : Nat → Bool) (k : Nat) : List Nat := (lvP w k).filter fun j => decide (markF w r st j ≠ 2)
def endsK (w r : Nat) (st : Nat → Bool) (k : Nat) : List Nat := (List.range (off w k)).filter (endsB w r st)
def goesK (w r : Nat) (st : Nat → Bool) (k : Nat) : List Nat := (List.range (off w k)).filter (goesB w r st)
section
variable {w r : Nat} {st : Nat → Bool}
theorem mark_cases (j : Nat) : markF w r st j = 0 ∨ markF w r st j = 1 ∨ markF w r st j = 2 := by
  cases j with
  | zero => rw [markF_zero]; split <;> simp
  | succ j => rw [markF_succ]; split <;> (try split) <;> simp
theorem mark_kid {j y : Nat} (h : y < w) : markF w r st (w * j + y + 1) ≠ 2 ↔ markF w r st j = 0 := by
  rw [markF_succ, div_child h]
  by_cases h0 : markF w r st j = 0
  · rw [if_neg (by simp [h0])]
    split <;> simp [h0]
  · rw [if_pos h0]
    simp [h0]
theorem lvP_mem {k j : Nat} (h : j ∈ lvP w k) : off w k ≤ j ∧ j < off w (k + 1) := by
  obtain ⟨p, hp, rfl⟩ := List.mem_map.mp h
  have := List.mem_range.mp hp
  rw [off_add]
  omega
theorem leaf_at (hw : 0 < w) {k j : Nat} (h : j ∈ lvP w k) : leafB w r j = decide (k = r) := by
  obtain ⟨h1, h2⟩ := lvP_mem h
  unfold leafB
  rw [path_len_of hw h1 h2]
theorem mark_act {j : Nat} (h : markF w r st j ≠ 2) : markF w r st j = if leafB w r j || st j then 1 else 0 := by
  cases j with
  | zero => exact markF_zero
  | succ j =>
    rw [markF_succ] at h ⊢
    by_cases h0 : markF w r st (j / w) ≠ 0
    · rw [if_pos h0] at h
      exact absurd rfl h
    · rw [if_neg h0]
theorem actL_mem {k j : Nat} (h : j ∈ actL w r st k) : j ∈ lvP w k ∧ markF w r st j ≠ 2 := by
  obtain ⟨h1, h2⟩ := List.mem_filter.mp h
  exact ⟨h1, of_decide_eq_true h2⟩
/-- the law's test -/
theorem test_act (hw : 0 < w) {k j : Nat} (h : j ∈ actL w r st k) : (decide (k = r) || st j) = endsB w r st j := by
  obtain ⟨h1, h2⟩ := actL_mem h
  have e := mark_act h2
  rw [leaf_at hw h1] at e
  unfold endsB
  rw [e]
  cases (decide (k = r) || st j) <;> rfl
theorem ends_goes {k j : Nat} (h : j ∈ actL w r st k) : goesB w r st j = !endsB w r st j := by
  obtain ⟨_, h2⟩ := actL_mem h
  unfold goesB endsB
  rcases mark_cases (w := w) (r := r) (st := st) j with e | e | e
  · rw [e]; rfl
  · rw [e]; rfl
  · exact absurd e h2
theorem range_split (m n : Nat) : List.range (m + n) = List.range m ++ (List.range n).map fun p => m + p := List.range_add
theorem range_off (k : Nat) : List.range (off w (k + 1)) = List.range (off w k) ++ lvP w k := by
  rw [off_add, range_split]
  rfl
theorem filter_act {k : Nat} {p : Nat → Bool} (h : ∀ j, p j = true → markF w r st j ≠ 2) : (actL w r st k).filter p = (lvP w k).filter p := by
  unfold actL
  rw [List.filter_filter]
  congr 1
  funext j
  cases hp : p j with
  | false => rfl
  | true => rw [Bool.true_and]; exact decide_eq_true (h j hp)
theorem ends_act {j : Nat} (h : endsB w r st j = true) : markF w r st j ≠ 2 := by
  have := of_decide_eq_true h
  omega
theorem goes_act {j : Nat} (h : goesB w r st j = true) : markF w r st j ≠ 2 := by
  have := of_decide_eq_true h
  omega
theorem endsK_next (k : Nat) : endsK w r st k ++ (actL w r st k).filter (endsB w r st) = endsK w r st (k + 1) := by
  unfold endsK
  rw [range_off, List.filter_append, filter_act fun j => ends_act]
theorem goesK_next (k : Nat) : goesK w r st k ++ (actL w r st k).filter (goesB w r st) = goesK w r st (k + 1) := by
  unfold goesK
  rw [range_off, List.filter_append, filter_act fun j => goes_act]
theorem lvP_next (k : Nat) : (lvP w k).flatMap (kids w) = lvP w (k + 1) := by
  unfold lvP
  rw [List.flatMap_map]
  have h := flat_range (fun q => off w (k + 1) + q) w (w ^ k)
  rw [show w ^ (k + 1) = w * w ^ k by rw [Nat.pow_succ, Nat.mul_comm], ← h]
  congr 1
  funext p
  unfold kids
  refine List.map_congr_left fun y hy => ?_
  show w * (off w k + p) + y + 1 = w * off w k + 1 + (w * p + y)
  rw [Nat.mul_add]
  omega
theorem kids_filter (j : Nat) : (kids w j).filter (fun i => decide (markF w r st i ≠ 2)) = if goesB w r st j then kids w j else [] := by
  unfold kids goesB
  by_cases h : markF w r st j = 0
  · rw [decide_eq_true h, if_pos rfl, List.filter_eq_self]
    intro i hi
    obtain ⟨y, hy, rfl⟩ := List.mem_map.mp hi
    exact decide_eq_true ((mark_kid (List.mem_range.mp hy)).mpr h)
  · rw [decide_eq_false h, if_neg (by decide), List.filter_eq_nil_iff]
    intro i hi
    obtain ⟨y, hy, rfl⟩ := List.mem_map.mp hi
    intro e
    exact h ((mark_kid (List.mem_range.mp hy)).mp (of_decide_eq_true e))
theorem flat_if {α β : Type} (p : α → Bool) (f : α → List β) : ∀ l : List α, l.flatMap (fun a => if p a then f a else []) = (l.filter p).flatMap f
  | [] => rfl
  | a :: l => by
    rw [List.flatMap_cons, flat_if p f l, List.filter_cons]
    cases p a <;> simp
theorem filter_flat {α β : Type} (q : β → Bool) (f : α → List β) : ∀ l : List α, (l.flatMap f).filter q = l.flatMap fun a => (f a).filter q
  | [] => rfl
  | a :: l => by rw [List.flatMap_cons, List.flatMap_cons, List.filter_append, filter_flat q f l]
theorem act_next (k : Nat) : ((actL w r st k).filter (goesB w r st)).flatMap (kids w) = actL w r st (k + 1) := by
  rw [filter_act fun j => goes_act]
  unfold actL
  rw [← lvP_next, filter_flat, ← flat_if]
  congr 1
  funext j
  exact (kids_filter j).symm
theorem goes_leaf (hw : 0 < w) {j : Nat} (h : j ∈ actL w r st r) : goesB w r st j = false := by
  rw [ends_goes h, ← test_act hw h]
  simp
theorem goes_last (hw : 0 < w) : (actL w r st r).filter (goesB w r st) = [] := by
  rw [List.filter_eq_nil_iff]
  intro j hj
  rw [goes_leaf hw hj]
  decide
theorem goesK_last (hw : 0 < w) : goesK w r st (r + 1) = goesK w r st r := by
  rw [← goesK_next, goes_last hw, List.append_nil]
theorem goesK_mono {k m : Nat} (h : k ≤ m) : goesK w r st k <+: goesK w r st m := by
  unfold goesK
  refine List.IsPrefix.filter _ ?_
  have := off_le (w := w) h
  obtain ⟨n, hn⟩ := Nat.exists_eq_add_of_le this
  rw [hn, range_split]
  exact List.prefix_append _ _
theorem goesK_part {k i : Nat} (hk : k < r) : goesK w r st k ++ ((actL w r st k).take i).filter (goesB w r st) <+: goesK w r st r := by
  refine List.IsPrefix.trans ?_ (goesK_mono (show k + 1 ≤ r from hk))
  rw [← goesK_next]
  exact (List.prefix_append_right_inj _).mpr (List.IsPrefix.filter _ (List.take_prefix i _))
end
end Nb
end -- M3
section -- L5
set_option maxHeartbeats 1000000
namespace Nb
open PySem PySem.Spec PyProof.Rows L2
/-- what the law takes off at a place -/
def mT (w : Nat) (shs : List (List Rat)) (j : Nat) : Rat := reachF w shs j * qlow ((shs.getD j []).map fun s => 1 - s)
abbrev tPr (K : PySem.W.Frag) (w : Nat) (shs : List (List Rat)) (j : Nat) : Ty := tTup K [tS (bT w j), tQ K (reachF w shs j)]
structure LwOk (w r : Nat) (shs : List (List Rat)) (ss : List Str) : Prop where
  hw : Hasw w r
  row : ∀ i, i < off w r → i < shs.length ∧ (shs.getD i []).length = w
  rc : ∀ j, j < off w (r + 1) → Sz (reachF w shs j)
  s : ∀ i, i < off w r → ∀ q ∈ shs.getD i [], Sz q ∧ Sz (1 - q)
  t : ∀ j, j < off w r → Sz (mT w shs j)
  sum : ∀ l, l <+: goesK w r (stB w ss) r → Sz (qsum (l.map (mT w shs)))
def actR (w r : Nat) (st : Nat → Bool) (k : Nat) : List Nat := if k ≤ r then actL w r st k else []
theorem actR_le {w r k : Nat} {st : Nat → Bool} (h : k ≤ r) : actR w r st k = actL w r st k := if_pos h
theorem take_filter_yes {α : Type} {p : α → Bool} {l : List α} {i : Nat} {a : α} (h : l[i]? = some a) (hp : p a = true) : (l.take (i + 1)).filter p = (l.take i).filter p ++ [a] := by
  rw [List.take_add_one, h, List.filter_append]
  show _ ++ List.filter p [a] = _
  rw [List.filter_cons, if_pos hp]
  rfl
theorem take_filter_no {α : Type} {p : α → Bool} {l : List α} {i : Nat} {a : α} (h : l[i]? = some a) (hp : p a = false) : (l.take (i + 1)).filter p = (l.take i).filter p := by
  rw [List.take_add_one, h, List.filter_append]
  show _ ++ List.filter p [a] = _
  rw [List.filter_cons, if_neg (by rw [hp]; decide)]
  exact List.append_nil _
theorem inV_str {s : Str} : ∀ ss : List Str, inV (.str s) (ss.map V.str) = decide (s ∈ ss)
  | [] => rfl
  | t :: ss => by
    have ih := inV_str (s := s) ss
    unfold inV at ih ⊢
    rw [List.map_cons, List.any_cons, ih]
    show ((t == s) || decide (s ∈ ss)) = _
    by_cases h : t = s
    · subst h; simp
    · rw [show (t == s) = false from beq_eq_false_iff_ne.mpr h]
      simp [Ne.symm h]
theorem flat_kids_len {w k : Nat} (l : List Nat) : (l.flatMap (kids w)).length = w * l.length := by
  induction l with
  | nil => rfl
  | cons a r ih =>
    rw [List.flatMap_cons, List.length_append, ih, List.length_cons, Nat.mul_succ]
    unfold kids
    rw [List.length_map, List.length_range]
    omega
section
variable {K : PySem.W.Frag} {mg : Str → Option Value} {base : Heap} {P : Program} {w : World} {Ct Cp : Addr}
theorem sc138 : FnScope ["_law_width", "_law_rounds", "_law_shares", "_law_stops", "_law_level", "_law_found", "_law_misses", "_law_size", "_law_longer", "_law_pair", "_law_sharing", "_law_rests", "_law_share", "_law_y"] ["_law_width", "_law_rounds", "_law_shares", "_law_stops"] (defScope (top 138)) := ⟨rfl, rfl, rfl, by decide +kernel, rfl, by decide +kernel, by decide +kernel⟩
theorem ok_lwalk (T : Txt K mg) : Ok P w K mg base 4 "_law_stopped_walk" ["_law_width", "_law_rounds", "_law_shares", "_law_stops"] (Pur (fun z : PD × List Str => [tI (z.1.1 : Nat), tI (z.1.2.1 : Nat), tShq K z.1.2.2, tSeq K (z.2.map tS)]) (fun z => LwOk z.1.1 z.1.2.1 z.1.2.2 z.2)
    (fun z => tTup K [tLst ((endsF z.1.1 z.1.2.1 z.2).map (tPr K z.1.1 z.1.2.2)), tQ K (qsum ((goesF z.1.1 z.1.2.1 z.2).map (mT z.1.1 z.1.2.2)))])) := by
  refine T.d__law_stopped_walk.ok sc138 (fun _ => rfl) (fun _ _ _ _ _ _ us hl => match us, hl with | [_, _, _, _], _ => rfl) fun f cdv A outer s H E C0 C z hr x hp => ?_
  obtain ⟨⟨w', r, shs⟩, ss⟩ := z
  replace hp : LwOk w' r shs ss := hp
  have hw := hp.hw
  have w0 : 0 < w' := hw.1.1
  have w5 : w' ≤ 5 := hw.1.2
  have r8 := hw.r8
  have hoff := hasw_off hw
  generalize hst : stB w' ss = st at *
  show PB _ C [some (tI (w' : Nat)), some (tI (r : Nat)), some (tShq K shs), some (tSeq K (ss.map tS)), none, none, none, none, none, none, none, none, none, none] _ _ _
  have e0 : tLst [tTup K [tS "", tQ K 1]] = tLst ((actR w' r st 0).map (tPr K w' shs)) := by
    rw [actR_le (Nat.zero_le _)]
    have h1 : actL w' r st 0 = [0] := by
      unfold actL lvP
      show List.filter _ [0] = [0]
      rw [List.filter_cons, if_pos]
      · rfl
      · refine decide_eq_true ?_
        rw [markF_zero]
        split <;> simp
    rw [h1]
    show _ = tLst [tTup K [tS (bT w' 0), tQ K (reachF w' shs 0)]]
    rw [show reachF w' shs 0 = 1 from recF_zero]
    unfold bT
    rw [path_zero]
    rfl
  refine plet sc138.nd 4 ((px_lst (pxs_cons (px_tup (pxs_cons px_str (pxs_cons (px_tup (pxs_cons px_int (pxs_cons px_int pxs_nil))) pxs_nil))) pxs_nil)).cast e0) ?_
  refine pb_new pxs_nil (fun o => ?_) sc138.nd (i := 5) rfl (.inl rfl)
  refine plet sc138.nd 6 (px_tup (pxs_cons px_int (pxs_cons px_int pxs_nil))) ?_
  refine pb_forN (j := 7) (l := List.range (r + 1)) (tA := fun i => tI ((i : Nat) : Int)) PassesOwn.never rfl (pix_range1 T.f_range ((px_add (va 1 rfl) px_int).cast (congrArg tI (show (r : Int) + 1 = ((r + 1 : Nat) : Int) by omega))) (by omega)) (fun k => C.own o ((endsK w' r st k).map (tPr K w' shs)))
    (fun k => [some (tI (w' : Nat)), some (tI (r : Nat)), some (tShq K shs), some (tSeq K (ss.map tS)), some (tLst ((actR w' r st k).map (tPr K w' shs))), some (tR o), some (tQ K (qsum ((goesK w' r st k).map (mT w' shs)))), none, none, none, none, none, none, none]) sc138.nd rfl (.inl rfl) (fun _ => rfl) (fun _ _ h => h) (fun k a ha => ?_) ?_
  · obtain ⟨hk, rfl⟩ := range_at ha
    have hak : a ≤ r := by omega
    rw [actR_le hak]
    have hpw := hasw_pow (hw.le hak)
    have hact : (actL w' r st a).length ≤ w' ^ a := by
      unfold actL
      refine Nat.le_trans (List.length_filter_le _ _) ?_
      unfold lvP
      rw [List.length_map, List.length_range]
      exact Nat.le_refl _
    refine plet sc138.nd 8 (px_lst pxs_nil) ?_
    refine pb_forN (j := 9) (l := actL w' r st a) (tA := tPr K w' shs) PassesOwn.never rfl (pix_list (va 4 rfl)) (fun i => C.own o ((endsK w' r st a ++ ((actL w' r st a).take i).filter (endsB w' r st)).map (tPr K w' shs)))
      (fun i => [some (tI (w' : Nat)), some (tI (r : Nat)), some (tShq K shs), some (tSeq K (ss.map tS)), none, some (tR o), some (tQ K (qsum ((goesK w' r st a ++ ((actL w' r st a).take i).filter (goesB w' r st)).map (mT w' shs)))), some (tI ((a : Nat) : Int)), some (tLst (((((actL w' r st a).take i).filter (goesB w' r st)).flatMap (kids w')).map (tPr K w' shs))), none, none, none, none, none]) sc138.nd rfl (by first | exact .inl rfl | exact .inr rfl) (fun _ => rfl)
      (fun _ _ h => ?_) (fun i j hj => ?_) ?_
    · simp only [List.take_zero, List.filter_nil, List.append_nil]
      exact h.imp (gi_keep (gi_keep (gi_keep (gi_keep (gi_drop (gi_keep (gi_keep (gi_keep (gi_keep (gi_keep (gi_keep (gi_keep (gi_keep (gi_keep gi_nil))))))))))))))
    · have hjm := List.mem_of_getElem? hj
      obtain ⟨hjl, hj2⟩ := actL_mem hjm
      obtain ⟨hl1, hl2⟩ := lvP_mem hjl
      have hlen : (bT w' j).length = a := by
        unfold bT
        rw [tx_len]
        exact path_len_of w0 hl1 hl2
      have hjr : j < off w' (r + 1) := Nat.lt_of_lt_of_le hl2 (off_le (by omega))
      refine pb_ifLast (x := endsB w' r st j) ((pxt_w (pxw_or ((pxt_eq (va 7 rfl) (va 1 rfl)).cast (decide_eq_decide.mpr (show ((a : Nat) : Int) = ((r : Nat) : Int) ↔ a = r by omega))) fun _ => pxw_or1 ((pxt_in (ys := ss.map V.str) rfl (by rw [List.all_map]; simp [flatV]) (px_ixT (va 9 rfl) px_int rfl) ((va (T := tSeq K (ss.map tS)) 3 rfl).cast (by rw [List.map_map]; rfl)) rfl).cast ((inV_str ss).trans (?_ : _ = st j))))).cast (test_act w0 hjm)) (fun h => ?_) fun h => ?_
      · rw [← hst]; rfl
      · refine papE 5 (Us := (endsK w' r st a ++ ((actL w' r st a).take (i + 1)).filter (endsB w' r st)).map (tPr K w' shs)) (T := tPr K w' shs j) ?_ (va 9 rfl) rfl ?_ (pb_endI ?_)
        · rw [take_filter_yes hj h, ← List.append_assoc]
          exact (List.map_append (f := tPr K w' shs) (l₁ := endsK w' r st a ++ ((actL w' r st a).take i).filter (endsB w' r st)) (l₂ := [j])).symm
        · rw [List.length_map, List.length_append]
          have h1 : (endsK w' r st a).length ≤ off w' a := by
            unfold endsK
            exact Nat.le_trans (List.length_filter_le _ _) (by rw [List.length_range]; exact Nat.le_refl _)
          have h2 : (((actL w' r st a).take i).filter (endsB w' r st)).length ≤ w' ^ a := Nat.le_trans (List.length_filter_le _ _) (Nat.le_trans (List.length_take_le' i _) hact)
          have h3 : off w' a ≤ off w' (r + 1) := off_le (by omega)
          omega
        · have hg : goesB w' r st j = false := by rw [ends_goes hjm, h]; rfl
          rw [take_filter_no hj hg]
          exact gi_keep (gi_keep (gi_keep (gi_keep (gi_keep (gi_keep (gi_keep (gi_keep (gi_keep (gi_drop (gi_keep (gi_keep (gi_keep (gi_keep gi_nil)))))))))))))
      · have hg : goesB w' r st j = true := by rw [ends_goes hjm, h]; rfl
        have har : a < r := by
          rcases Nat.lt_or_ge a r with h1 | h1
          · exact h1
          · have : a = r := by omega
            subst this
            rw [goes_leaf w0 hjm] at hg
            cases hg
        have hjn : j < off w' r := Nat.lt_of_lt_of_le hl2 (off_le har)
        obtain ⟨hrl, hrow⟩ := hp.row j hjn
        have hrs := hp.s j hjn
        have hrc := hp.rc j hjr
        have hne : (shs.getD j []).map (fun s => 1 - s) ≠ [] := fun e => by
          have := congrArg List.length e
          rw [List.length_map, hrow] at this
          simp at this
          omega
        have hpart : goesK w' r st a ++ ((actL w' r st a).take i).filter (goesB w' r st) <+: goesK w' r (stB w' ss) r := by rw [hst]; exact goesK_part har
        have hpart2 : goesK w' r st a ++ ((actL w' r st a).take (i + 1)).filter (goesB w' r st) <+: goesK w' r (stB w' ss) r := by rw [hst]; exact goesK_part har
        have hdig : Digs w' (path w' j) := ⟨w5, path_digits w0 j, by have h9 := path_len_of w0 hl1 hl2; omega⟩
        have hrest : ∀ q ∈ (shs.getD j []).map (fun s => 1 - s), Sz q := fun q hq => by
          obtain ⟨s, hs, rfl⟩ := List.mem_map.mp hq
          exact (hrs s hs).2
        have h6 : tQ K (qsum ((goesK w' r st a ++ ((actL w' r st a).take i).filter (goesB w' r st)).map (mT w' shs)) + mT w' shs j) = tQ K (qsum ((goesK w' r st a ++ ((actL w' r st a).take (i + 1)).filter (goesB w' r st)).map (mT w' shs))) := by
          rw [take_filter_yes hj hg, ← List.append_assoc, List.map_append (l₂ := [j]), qsum_append]
          show _ = tQ K (_ + qsum [mT w' shs j])
          rw [show qsum [mT w' shs j] = mT w' shs j by rw [qsum_cons, qsum_nil]; grind]
        have h8 : tLst (((((actL w' r st a).take i).filter (goesB w' r st)).flatMap (kids w')).map (tPr K w' shs) ++ (List.range w').map fun y => tPr K w' shs (w' * j + y + 1)) = tLst (((((actL w' r st a).take (i + 1)).filter (goesB w' r st)).flatMap (kids w')).map (tPr K w' shs)) := by
          rw [take_filter_yes hj hg, List.flatMap_append, List.map_append]
          congr 2
          show _ = (List.flatMap (kids w') [j]).map _
          rw [List.flatMap_cons, List.flatMap_nil, List.append_nil]
          unfold kids
          rw [List.map_map]
          rfl
        refine plet sc138.nd 10 (px_ixL (va 2 rfl) ((px_call (ok_lindex T) (w', path w' j) rfl hr (pxs_cons (va 0 rfl) (pxs_cons (px_ixT (T := tS (tx (path w' j))) (va 9 rfl) px_int rfl) pxs_nil)) hdig).cast (congrArg tI (congrArg (Nat.cast : Nat → Int) (idx_path j)))) (atI_nat (shq_row hrl))) ?_
        refine pb_let (set_lcN (i := 11) (j := 12) (own := [("_law_share", 12)]) (l := shs.getD j []) (tA := tQ K) (E := fun s => tQ K (1 - s)) rfl sc138.nd rfl rfl (sw_true rfl rfl rfl (by decide +kernel)) (psq 10 rfl) (blkOk_by (by kernel_rfl)) (by decide) (by omega) (fun s H D cl fp d Vs a => nm sc138.nd 12)
          (fun s H D cl fp d Vs a ha hd => px_call (ok_minus T) (1, a) rfl hr (pxs_cons (px_tup (pxs_cons px_int (pxs_cons px_int pxs_nil))) (pxs_cons (va 12 rfl) pxs_nil)) ⟨sz_one, (hrs a ha).1⟩)) ?_
        have elow : tLst ((shs.getD j []).map fun s => tQ K (1 - s)) = tLst (((shs.getD j []).map fun s => 1 - s).map (tQ K)) := congrArg tLst (map_comp' (fun s => 1 - s) (tQ K) _)
        have hzl := hrest _ (qlow_mem hne)
        refine plet sc138.nd 6 (px_call (ok_plus T) (qsum ((goesK w' r st a ++ ((actL w' r st a).take i).filter (goesB w' r st)).map (mT w' shs)), mT w' shs j) rfl hr (pxs_cons (va 6 rfl) (pxs_cons (px_call (ok_times T) (reachF w' shs j, qlow ((shs.getD j []).map fun s => 1 - s)) rfl hr (pxs_cons (px_ixT (va 9 rfl) px_int rfl) (pxs_cons (px_call (ok_lowest T) ((shs.getD j []).map fun s => 1 - s) rfl hr (pxs_cons (((va (T := tLst ((shs.getD j []).map fun s => tQ K (1 - s))) 11 rfl).cast elow).seqL) pxs_nil) ⟨hne, hrest⟩) pxs_nil)) ⟨hrc, hzl⟩) pxs_nil)) ⟨hp.sum _ hpart, hp.t j hjn⟩) ?_
        refine plet sc138.nd 8 (px_cat (va 8 rfl) (px_lcN (j := 13) (own := [("_law_y", 13)]) (l := List.range w') (tA := fun y => tI ((y : Nat) : Int)) (E := fun y => tPr K w' shs (w' * j + y + 1)) rfl sc138.nd (pix_range1 (n := w') T.f_range (va 0 rfl) (by omega)) (blkOk_by (by kernel_rfl)) (by decide) (by rw [List.length_range]; omega) (fun s H D cl fp d Vs a => nm sc138.nd 13)
          (fun s H D cl fp d Vs y hy hd => ?_)) ?_) (by
            rw [take_filter_no hj (show endsB w' r st j = false from h)]
            exact pb_endI (gi_keep (gi_keep (gi_keep (gi_keep (gi_keep (gi_keep (gi_eq h6 (gi_keep (gi_eq h8 (gi_drop (gi_drop (gi_drop (gi_keep (gi_keep gi_nil)))))))))))))))
        · have hy := List.mem_range.mp hy
          have hsy := (hrs (shv shs j y) (by
            show (shs.getD j []).getD y 0 ∈ _
            have hlt : y < (shs.getD j []).length := by rw [hrow]; exact hy
            rw [List.getD_eq_getElem?_getD (l := shs.getD j []), List.getElem?_eq_getElem hlt]
            exact List.getElem_mem hlt)).1
          refine (px_tup (pxs_cons (px_addS (px_ixT (T := tS (bT w' j)) (va 9 rfl) px_int rfl) ((px_strI T.f_str (va 13 rfl) (log2_small (by omega))).cast (congrArg tS (toStr_dig (by omega)))) (Nat.le_trans (show (bT w' j).length + 1 ≤ 100 by omega) (by decide))) (pxs_cons (px_call (ok_times T) (reachF w' shs j, shv shs j y) rfl hr (pxs_cons (px_ixT (va 9 rfl) px_int rfl) (pxs_cons (px_ixQ (va 10 rfl) (va 13 rfl) (atI_nat (row_at (by rw [hrow]; exact hy)))) pxs_nil)) ⟨hrc, hsy⟩) pxs_nil))).cast ?_
          show tTup K [tS (bT w' j ++ dig y), tQ K (reachF w' shs j * shv shs j y)] = tTup K [tS (bT w' (w' * j + y + 1)), tQ K (reachF w' shs (w' * j + y + 1))]
          rw [reachF_child hy]
          unfold bT
          rw [tx_snoc, path_child hy]
        · rw [List.length_map, List.length_map, List.length_range, flat_kids_len (k := 0)]
          have h2 : (((actL w' r st a).take i).filter (goesB w' r st)).length ≤ 256 := Nat.le_trans (List.length_filter_le _ _) (Nat.le_trans (List.length_take_le' i _) (Nat.le_trans hact hpw))
          have := Nat.mul_le_mul w5 h2
          omega
    · rw [List.take_length, endsK_next, goesK_next]
      refine plet sc138.nd 4 (va 8 rfl) (pb_endI (gi_keep (gi_keep (gi_keep (gi_keep (gi_eq ?_ (gi_keep (gi_keep (gi_drop (gi_drop (gi_keep (gi_keep (gi_keep (gi_keep (gi_keep gi_nil)))))))))))))))
      show tLst (((((actL w' r st a).filter (goesB w' r st)).flatMap (kids w')).map (tPr K w' shs))) = _
      rcases Nat.lt_or_ge a r with h1 | h1
      · rw [act_next, actR_le h1]
      · have : a = r := by omega
        subst this
        rw [goes_last w0]
        unfold actR
        rw [if_neg (by omega)]
        rfl
  · rw [List.length_range, goesK_last w0]
    refine pb_freeze (i := 5) rfl (pb_retP x ((px_tup (pxs_cons (va 5 rfl) (pxs_cons (va 6 rfl) pxs_nil))).cast ?_))
    rw [← hst]
    rfl
end
end Nb
end -- L5
section -- L6
set_option maxHeartbeats 1000000
namespace Nb
open PySem PySem.Spec PyProof.Rows L2
theorem depth_of (w : Nat) : ∀ {r j : Nat}, j < off w (r + 1) → ∃ k, k ≤ r ∧ off w k ≤ j ∧ j < off w (k + 1)
  | 0, j, h => ⟨0, Nat.le_refl _, Nat.zero_le _, h⟩
  | r + 1, j, h => by
    by_cases h2 : j < off w (r + 1)
    · obtain ⟨k, h3, h4⟩ := depth_of w h2
      exact ⟨k, by omega, h4⟩
    · exact ⟨r + 1, Nat.le_refl _, by omega, h⟩
theorem getD_app1 {l m : List Rat} {i : Nat} (h : i < l.length) : (l ++ m).getD i 0 = l.getD i 0 := by
  rw [List.getD_eq_getElem?_getD, List.getD_eq_getElem?_getD, List.getElem?_append_left h]
theorem getD_app2 {l m : List Rat} {i : Nat} : (l ++ m).getD (l.length + i) 0 = m.getD i 0 := by
  rw [List.getD_eq_getElem?_getD, List.getD_eq_getElem?_getD, List.getElem?_append_right (by omega), Nat.add_sub_cancel_left]
theorem bnds_succ (r : Nat) (c : Nat → List Rat) : bnds (r + 1) c = bnds r c ++ c (r + 1) := by
  unfold bnds
  rw [List.range_succ, List.flatMap_append]
  show _ ++ List.flatMap c [r + 1] = _
  rw [List.flatMap_cons, List.flatMap_nil, List.append_nil]
theorem bnds_at {w : Nat} {c : Nat → List Rat} : ∀ {r k p : Nat}, (∀ k, k ≤ r → (c k).length = w ^ k) → k ≤ r → p < w ^ k → bndJ r c (off w k + p) = (c k).getD p 0
  | 0, k, p, hl, hk, hp => by
    have : k = 0 := by omega
    subst this
    show (bnds 0 c).getD (0 + p) 0 = _
    unfold bnds
    show (List.flatMap c [0]).getD _ 0 = _
    rw [List.flatMap_cons, List.flatMap_nil, List.append_nil, Nat.zero_add]
  | r + 1, k, p, hl, hk, hp => by
    have hbl := bnds_len (w := w) (r := r) (c := c) fun k hk => hl k (by omega)
    show (bnds (r + 1) c).getD (off w k + p) 0 = _
    rw [bnds_succ]
    by_cases h : k = r + 1
    · subst h
      rw [← hbl, getD_app2]
    · have hk2 : k ≤ r := by omega
      have hlt : off w k + p < off w (k + 1) := by rw [off_add]; omega
      rw [getD_app1 (by rw [hbl]; exact Nat.lt_of_lt_of_le hlt (off_le (by omega)))]
      exact bnds_at (fun k hk => hl k (by omega)) hk2 hp
structure LmOk (w r : Nat) (c : Nat → List Rat) (shs : List (List Rat)) (ss : List Str) : Prop where
  lad : Lad w r c
  rc : ∀ j, j < off w (r + 1) → Sz (reachF w shs j)
  t : SzL ((endsF w r ss).map (meanT w r c shs))
structure WorthOk (w r : Nat) (c : Nat → List Rat) (shs : List (List Rat)) (ss : List Str) : Prop where
  lw : LwOk w r shs ss
  lm : LmOk w r c shs ss
  a : Sz (meanSum w r c shs ss)
  b : Sz (qsum ((goesF w r ss).map (mT w shs)))
/-- what the foe is worth, by the law -/
def worthF (w r : Nat) (c : Nat → List Rat) (shs : List (List Rat)) (ss : List Str) : Rat := meanSum w r c shs ss - qsum ((goesF w r ss).map (mT w shs))
section
variable {K : PySem.W.Frag} {mg : Str → Option Value} {base : Heap} {P : Program} {w : World} {Ct Cp : Addr}
abbrev WD := LD × List (List Rat) × List Str
abbrev tWalk (K : PySem.W.Frag) (z : WD) : Ty := tTup K [tLst ((endsF z.1.1 z.1.2.1 z.2.2).map (tPr K z.1.1 z.2.1)), tQ K (qsum ((goesF z.1.1 z.1.2.1 z.2.2).map (mT z.1.1 z.2.1)))]
theorem sc139 : FnScope ["_law_width", "_law_bounds_here", "_law_walk", "_law_pair"] ["_law_width", "_law_bounds_here", "_law_walk"] (defScope (top 139)) := ⟨rfl, rfl, rfl, by decide +kernel, rfl, by decide +kernel, by decide +kernel⟩
theorem ok_lmean (T : Txt K mg) : Ok P w K mg base 5 "_law_mean_of" ["_law_width", "_law_bounds_here", "_law_walk"] (Pur (fun z : WD => [tI (z.1.1 : Nat), tBnd K z.1.2.1 z.1.2.2, tWalk K z]) (fun z => LmOk z.1.1 z.1.2.1 z.1.2.2 z.2.1 z.2.2) (fun z => tQ K (meanSum z.1.1 z.1.2.1 z.1.2.2 z.2.1 z.2.2))) := by
  refine T.d__law_mean_of.ok sc139 (fun _ => rfl) (fun _ _ _ _ _ _ us hl => match us, hl with | [_, _, _], _ => rfl) fun f cdv A outer s H E C0 C z hr x hp => ?_
  obtain ⟨⟨w', r, c⟩, shs, ss⟩ := z
  replace hp : LmOk w' r c shs ss := hp
  have hL := hp.lad
  have hw := hL.hw
  have w0 : 0 < w' := hw.1.1
  have w5 : w' ≤ 5 := hw.1.2
  have r8 := hw.r8
  have hoff := hasw_off hw
  have hel : (endsF w' r ss).length ≤ 511 := Nat.le_trans (List.length_filter_le _ _) (by rw [List.length_range]; exact hoff)
  show PB _ C [some (tI (w' : Nat)), some (tBnd K r c), some (tWalk K ((w', r, c), shs, ss)), none] _ _ _
  refine pb_retP x (px_call (ok_sum T) ((endsF w' r ss).map (meanT w' r c shs)) rfl hr (pxs_cons (((px_lcN (j := 3) (own := [("_law_pair", 3)]) (l := endsF w' r ss) (tA := tPr K w' shs) (E := fun j => tQ K (meanT w' r c shs j)) rfl sc139.nd (pix_list (px_ixT (va 2 rfl) px_int rfl)) (blkOk_by (by kernel_rfl)) (by decide) (by omega) (fun s H D cl fp d Vs a => nm sc139.nd 3)
    (fun s H D cl fp d Vs j hj hd => ?_)).cast (congrArg tLst (map_comp' (meanT w' r c shs) (tQ K) _))).seqL) pxs_nil) hp.t)
  have hjr : j < off w' (r + 1) := List.mem_range.mp (List.mem_filter.mp hj).1
  obtain ⟨k, hk, hk1, hk2⟩ := depth_of w' hjr
  have hpk : j - off w' k < w' ^ k := by rw [off_add] at hk2; omega
  have hpl := path_len_of w0 hk1 hk2
  have hdig : Digs w' (path w' j) := ⟨w5, path_digits w0 j, by omega⟩
  have hplc : plc w' (path w' j) = j - off w' k := by
    have := plc_path w0 k (j - off w' k) hpk
    rwa [show off w' k + (j - off w' k) = j by omega] at this
  have hb : bndJ r c j = (c k).getD (j - off w' k) 0 := by
    have := bnds_at (w := w') hL.len hk hpk
    rwa [show off w' k + (j - off w' k) = j by omega] at this
  have hbl : (bT w' j).length = k := by
    unfold bT
    rw [tx_len, hpl]
  have hcl : j - off w' k < (c k).length := by rw [hL.len k hk]; exact hpk
  exact px_call (ok_times T) (reachF w' shs j, bndJ r c j) rfl hr (pxs_cons (px_ixT (va (T := tPr K w' shs j) 3 rfl) px_int rfl) (pxs_cons ((px_ixL (T := tQ K ((c k).getD (j - off w' k) 0)) (px_ixL (va 1 rfl) ((px_lenS T.f_len (px_ixT (T := tS (bT w' j)) (va (T := tPr K w' shs j) 3 rfl) px_int rfl) (Nat.le_trans (show (bT w' j).length ≤ 100 by omega) (by decide))).cast (congrArg tI (congrArg (Nat.cast : Nat → Int) hbl))) (atI_nat (bnd_row hk)))
     ((px_call (ok_lplace T) (w', path w' j) rfl hr (pxs_cons (va 0 rfl) (pxs_cons (px_ixT (T := tS (tx (path w' j))) (va (T := tPr K w' shs j) 3 rfl) px_int rfl) pxs_nil)) hdig).cast (congrArg tI (congrArg (Nat.cast : Nat → Int) hplc))) (atI_nat (row_at hcl))).cast (congrArg (tQ K) hb.symm)) pxs_nil)) ⟨hp.rc j hjr, hL.szj hjr⟩
theorem sc140 : FnScope ["_law_width", "_law_bounds_here", "_law_shares", "_law_stops", "_law_walk"] ["_law_width", "_law_bounds_here", "_law_shares", "_law_stops"] (defScope (top 140)) := ⟨rfl, rfl, rfl, by decide +kernel, rfl, by decide +kernel, by decide +kernel⟩
theorem bnd_count {r : Nat} {c : Nat → List Rat} : ((List.range (r + 1)).map fun k => tLst ((c k).map (tQ K))).length = r + 1 := by simp
theorem ok_lworth (T : Txt K mg) : Ok P w K mg base 6 "_law_worth_of" ["_law_width", "_law_bounds_here", "_law_shares", "_law_stops"] (Pur (fun z : WD => [tI (z.1.1 : Nat), tBnd K z.1.2.1 z.1.2.2, tShq K z.2.1, tSeq K (z.2.2.map tS)]) (fun z => WorthOk z.1.1 z.1.2.1 z.1.2.2 z.2.1 z.2.2) (fun z => tQ K (worthF z.1.1 z.1.2.1 z.1.2.2 z.2.1 z.2.2))) := by
  refine T.d__law_worth_of.ok sc140 (fun _ => rfl) (fun _ _ _ _ _ _ us hl => match us, hl with | [_, _, _, _], _ => rfl) fun f cdv A outer s H E C0 C z hr x hp => ?_
  obtain ⟨⟨w', r, c⟩, shs, ss⟩ := z
  replace hp : WorthOk w' r c shs ss := hp
  show PB _ C [some (tI (w' : Nat)), some (tBnd K r c), some (tShq K shs), some (tSeq K (ss.map tS)), none] _ _ _
  refine plet sc140.nd 4 (px_call (ok_lwalk T) ((w', r, shs), ss) rfl hr (pxs_cons (va 0 rfl) (pxs_cons ((px_sub (px_lenL T.f_len (va 1 rfl)) px_int).cast (congrArg tI (show (((List.range (r + 1)).map fun k => tLst ((c k).map (tQ K))).length : Int) - 1 = ((r : Nat) : Int) by rw [bnd_count]; omega))) (pxs_cons (va 2 rfl) (pxs_cons (va 3 rfl) pxs_nil)))) hp.lw) ?_
  exact pb_retP x (px_call (ok_minus T) (meanSum w' r c shs ss, qsum ((goesF w' r ss).map (mT w' shs))) rfl hr (pxs_cons (px_call (ok_lmean T) ((w', r, c), shs, ss) rfl hr (pxs_cons (va 0 rfl) (pxs_cons (va 1 rfl) (pxs_cons (va 4 rfl) pxs_nil))) hp.lm) (pxs_cons (px_ixT (T := tQ K (qsum ((goesF w' r ss).map (mT w' shs)))) (va (T := tWalk K ((w', r, c), shs, ss)) 4 rfl) px_int rfl) pxs_nil)) ⟨hp.a, hp.b⟩)
end
end Nb
end -- L6
section -- NbQ
set_option maxHeartbeats 1000000
namespace Nb
open PySem PySem.Spec PyProof.Rows L2
def isV (ns : List Int) : List V := ns.map V.int
def StOkN (ns : List Int) : Prop := ∃ a b c d e cells, ns = a :: b :: c :: d :: e :: cells ∧ 0 ≤ a
def Stor (p : Addr) (H : Hp) : Prop := ∃ ns : List Int, H p = some (.lst (isV ns)) ∧ StOkN ns
/-- all but p stands -/
def ExB (p : Addr) (H H' : Hp) : Prop := ∀ a o, a ≠ p → H a = some o → H' a = some o
theorem ExB.refl {p : Addr} {H : Hp} : ExB p H H := fun _ _ _ h => h
theorem ExB.trans {p : Addr} {H H1 H2 : Hp} (a : ExB p H H1) (b : ExB p H1 H2) : ExB p H H2 := fun x o n h => b x o n (a x o n h)
theorem Ex.exB {p : Addr} {H H' : Hp} (e : Ex H H') : ExB p H H' := fun a o _ h => e a o h
structure StC (C : HC) (p : Addr) : Prop where
  m : C.M p = true
  get : ∀ {H D : Hp}, C.Om H D → Stor p H
  put : ∀ {H H' D D' : Hp}, C.Om H D → ExB p H H' → Ex D D' → Stor p H' → C.Om H' D'
  old : C.S p = true ∨ C.H0 p = none
theorem StC.own {C : HC} {p o : Addr} {Ts : List Ty} (s : StC C p) : StC (C.own o Ts) p where
  m := own_M s.m
  get h := s.get h.1
  put := fun ⟨h1, h2, h3, xs, h4, h5⟩ k e d => ⟨s.put h1 k e d, h2, h3, xs, k o _ (fun z => by subst z; rw [s.m] at h2; cases h2) h4, h5.mono e⟩
  old := s.old
theorem hidB {C : HC} {p : Addr} {H H' : Hp} (m : C.M p = true) (k : ExB p H H') : Ex (hid C.M H) (hid C.M H') := hid_ex fun a o h q => k a o (fun z => by subst z; rw [m] at h; cases h) q
theorem EnvOk.put {C : HC} {p : Addr} {G : Env} {σ : St} {H H' : Hp} (s : StC C p) (x : EnvOk C G σ H) (k : ExB p H H') (d : Stor p H') : EnvOk C G σ H' := by
  have le := hidB s.m k
  refine ⟨⟨fun a o z q => k a o (fun e => ?_) (x.base.old a o z q), fun a m => ?_, s.put x.base.om k le d⟩, x.env.imp fun _ _ h => h.mono le⟩
  · subst e
    rcases s.old with h | h
    · rw [h] at z; cases z
    · rw [h] at q; cases q
  · by_cases h : a = p
    · subst h; obtain ⟨ns, h, _⟩ := d; exact ⟨_, h⟩
    · obtain ⟨o, ho⟩ := x.base.hidd a m; exact ⟨o, k a o h ho⟩
/-- the promise of a def that draws -/
def DrwSp {α : Type} (args : α → List Ty) (pre : α → Prop) (res : α → Ty) : Sp := fun vs H Q _ => ∃ (M : Addr → Bool) (z : α) (p : Addr) (rest : List V), vs = .ref p :: rest ∧ M p = true ∧ Stor p H ∧ (∀ a, M a = true → ∃ o, H a = some o) ∧ TyAll (hid M H) rest (args z) ∧ pre z ∧
  ∀ v H', ExB p H H' → Stor p H' → (res z).P (hid M H') v → Q v H'
section
variable {X : Cx} {C : HC} {G : Env} {a b c e : Expr} {es : List Expr} {T U W : Ty} {Ts Us : List Ty} {pos p2 : Pos} {p : Addr}
theorem px_draw {α : Type} {args : α → List Ty} {pre : α → Prop} {res : α → Ty} {x : Str} {j k : Nat} {ps : List Str} (F : Ok X.prog X.w X.K X.mg X.base j x ps (DrwSp args pre res)) (s : StC C p) (z : α) (hT : res z = T) (hr : Room k X.A) (ha : PXs X C G (e :: es) (tR p :: args z)) (hp : pre z)
    (hj : j ≤ k := by decide) (hg : Gl X x := by rfl) (hdb : (x == ("__debug__" : Str)) = false := by decide) (he : starEach (e :: es) X.env = (false, eval e X.env) :: starEach es X.env := by rfl) (hpl : (backTo pos (starEach es X.env)).any (·.1) = false := by rfl) :
    PX X C G (.Call (.Name x p2) (e :: es) [] pos) T := by
  obtain ⟨f, fd, hm, hk, hb, hF⟩ := F.ex
  subst hT
  refine PE.imp (pe_call (dvs := []) (E := E0) hF (hr.mono hj) hg hm hk hb .nil pass0 ha hdb he hpl) fun σ H Q ⟨x, q⟩ => ⟨x, fun vs H1 x1 e1 p1 => ?_⟩
  show DrwSp args pre res (vs ++ []) H1 Q E0
  rw [List.append_nil]
  cases p1 with
  | cons p1 t =>
    exact ⟨C.M, z, p, _, by rw [show _ = V.ref p from p1], s.m, s.get x1.base.om, x1.base.hidd, t, hp, fun v H' e2 d r => q v H' (x1.put s e2 d) (e1.trans (hidB s.m e2)) r⟩
/-- .. its arguments known by a relation -/
theorem px_callR {α : Type} {args : α → List Ty} {pre : α → Prop} {res : α → Ty} {x : Str} {j k : Nat} {ps : List Str} (F : Ok X.prog X.w X.K X.mg X.base j x ps (Pur args pre res)) (hU : ∀ D vs, TyAll D vs Us → ∃ z, pre z ∧ TyAll D vs (args z) ∧ ∀ D v, (res z).P D v → T.P D v) (hr : Room k X.A) (ha : PXs X C G (e :: es) Us)
    (hj : j ≤ k := by decide) (hg : Gl X x := by rfl) (hdb : (x == ("__debug__" : Str)) = false := by decide) (he : starEach (e :: es) X.env = (false, eval e X.env) :: starEach es X.env := by rfl) (hpl : (backTo pos (starEach es X.env)).any (·.1) = false := by rfl) :
    PX X C G (.Call (.Name x p2) (e :: es) [] pos) T := by
  obtain ⟨f, fd, hm, hk, hb, hF⟩ := F.ex
  refine PE.imp (pe_call (dvs := []) (E := E0) hF (hr.mono hj) hg hm hk hb .nil pass0 ha hdb he hpl) fun σ H Q ⟨x, q⟩ => ⟨x, fun vs H1 x1 e1 p1 => ?_⟩
  show Pur args pre res (vs ++ []) H1 Q E0
  rw [List.append_nil]
  obtain ⟨z, hz, ht, hw⟩ := hU _ _ p1
  exact pur_call z hz x1 ht fun v H2 x2 e2 p2 => q v H2 x2 (e1.trans e2) (hw _ _ p2)
theorem r2_exL {r : R2} {β : Type} {P : β → Prop} {T : β → Ty} (h : ∀ z, P z → R2Ok C r (T z) U W) : R2Ok C r (tEx P T) U W := fun H x y Q b ⟨z, hz, hx⟩ hy q => h z hz H x y Q b hx hy q
theorem r2_exR {r : R2} {β : Type} {P : β → Prop} {T : β → Ty} (h : ∀ z, P z → R2Ok C r U (T z) W) : R2Ok C r U (tEx P T) W := fun H x y Q b hx ⟨z, hz, hy⟩ q => h z hz H x y Q b hx hy q
theorem R2Ok.post {r : R2} {W' : Ty} (h : R2Ok C r T U W) (f : ∀ H v, W.P H v → W'.P H v) : R2Ok C r T U W' := fun H x y Q b hx hy q => h H x y Q b hx hy fun v H2 e p => q v H2 e (f _ _ p)
end
def HC.st (H : Hp) (M : Addr → Bool) (p : Addr) (hp : M p = true) : HC where
  H0 := H
  M := M
  S := fun a => a == p
  Om := fun H _ => Stor p H
  om := fun e _ ⟨ns, h, k⟩ => ⟨ns, e _ _ h, k⟩
  loc := fun {q H H' D} m k ⟨ns, h, r⟩ => ⟨ns, by rw [k p (fun z => by subst z; rw [hp] at m; cases m)]; exact h, r⟩
  sm := fun a s => by rw [show a = p from by simpa using s]; exact hp
/-- .. the cells known -/
def HC.stN (H : Hp) (M : Addr → Bool) (p : Addr) (hp : M p = true) (ns : List Int) : HC where
  H0 := H
  M := M
  S := fun a => a == p
  Om := fun H _ => H p = some (.lst (isV ns))
  om := fun e _ h => e _ _ h
  loc := fun {q H H' D} m k h => by rw [k p (fun z => by subst z; rw [hp] at m; cases m)]; exact h
  sm := fun a s => by rw [show a = p from by simpa using s]; exact hp
theorem st_C {H : Hp} {M : Addr → Bool} {p : Addr} {hp : M p = true} : StC (HC.st H M p hp) p := ⟨hp, fun h => h, fun _ _ _ h => h, .inl (by show (p == p) = true; simp)⟩
structure ExtS (p : Addr) (C0 C : HC) : Prop where
  m : ∀ a, C0.M a = true → C.M a = true
  h : C.H0 = C0.H0
  s : C.S = fun a => a == p
  st : StC C p
theorem ExtS.own {p o : Addr} {C0 C : HC} {Ts : List Ty} (x : ExtS p C0 C) : ExtS p C0 (C.own o Ts) := ⟨fun a h => own_M (x.m a h), x.h, x.s, x.st.own⟩
def RtS (p : Addr) (C : HC) (T : Ty) : RT := fun v H => ExB p C.H0 H ∧ Stor p H ∧ T.P (hid C.M H) v
section
variable {X : Cx} {C C0 : HC} {G : Env} {a b c e : Expr} {es : List Expr} {T U W : Ty} {Ts Us : List Ty} {pos p2 : Pos} {p : Addr} {ss rest : List Stmt} {Nx : NX} {Rt : RT} {H0 : Hp} {M : Addr → Bool} {hp : M p = true} {ns : List Int} {y : Str} {i : Nat} {st : Stmt}
theorem pb_retS (x : ExtS p C0 C) (he : PX X C G e T) : PB X C G [.Return (some e) pos] Nx (RtS p C0 T) := pb_ret he fun v H b h => ⟨fun a o n q => b.old a o (by rw [x.s]; show (a == p) = false; exact beq_eq_false_iff_ne.mpr n) (by rw [x.h]; exact q), x.st.get b.om, T.mono (hid_less x.m) h⟩
theorem st_to {σ : St} {H : Hp} (x : EnvOk (HC.stN H0 M p hp ns) G σ H) (k : StOkN ns) : EnvOk (HC.st H0 M p hp) G σ H := ⟨⟨x.base.old, x.base.hidd, ns, x.base.om, k⟩, x.env⟩
theorem pb_stEnter (h : ∀ a b c d e cells, 0 ≤ a → PB X (HC.stN H0 M p hp (a :: b :: c :: d :: e :: cells)) G ss Nx Rt) : PB X (HC.st H0 M p hp) G ss Nx Rt :=
  PSs.imp (PB_ex fun z : Int × Int × Int × Int × Int × List Int => PB_when fun hz : 0 ≤ z.1 => h z.1 z.2.1 z.2.2.1 z.2.2.2.1 z.2.2.2.2.1 z.2.2.2.2.2 hz) fun D σ H ⟨ok, q1, q2⟩ => by
    obtain ⟨ns, h1, a, b, c, d, e, cells, rfl, h2⟩ := id ok.base.om
    exact ⟨(a, b, c, d, e, cells), h2, ⟨⟨ok.base.old, ok.base.hidd, h1⟩, ok.env⟩, q1, q2⟩
theorem pb_stLeave (k : StOkN ns) (h : PB X (HC.st H0 M p hp) G ss Nx Rt) : PB X (HC.stN H0 M p hp ns) G ss Nx Rt := h.pre fun σ H x => st_to x k
theorem pb_endS {G' : Env} (k : StOkN ns) (g : GImp G G') : PB X (HC.stN H0 M p hp ns) G [] (EnvOk (HC.st H0 M p hp) G') Rt := pb_nil fun σ H h => st_to (h.imp g) k
/-- a cell -/
theorem px_cell {n : Int} {k : Int} {ix : Expr} {p1 : Pos} (i : Nat) (hl : G[i]? = some (some (tR p))) (hb : PX X (HC.stN H0 M p hp ns) G ix (tI n)) (h : atI ns n = some k) (hN : X.N[i]? = some y := by rfl) (hv : Vis X.env.scope y := by first | exact .inl rfl | exact .inr (.inl rfl) | exact .inr (.inr rfl)) (hs : PlainIx ix := by intro _ _; rfl) (h1 : (y == ("__debug__" : Str)) = false := by decide) (h2 : (y == ("__classdict__" : Str)) = false := by decide) :
    PX X (HC.stN H0 M p hp ns) G (.Subscript (.Name y p1) ix pos) (tI k) :=
  PE.imp (pe_ix ix_list (pe_var hN hv h1 h2) hb hs) fun σ H Q ⟨ok, q⟩ => by
    obtain ⟨v, e, pp⟩ := ok.var hl
    obtain rfl : v = .ref p := pp
    refine ⟨.ref p, e, ok, fun w H1 x1 e1 p1 => ?_⟩
    obtain rfl : w = .int n := p1
    have h4 : H1 p = some (.lst (isV ns)) := x1.base.om
    refine ⟨p, isV ns, n, .int k, rfl, rfl, SqL.of h4, ?_, q _ H1 x1 e1 rfl⟩
    unfold atI at h ⊢
    unfold isV
    rw [List.length_map]
    cases z : ixN ns.length n with
    | none => rw [z] at h; cases h
    | some j =>
      rw [z] at h
      have h' : ns[j]? = some k := h
      show (ns.map V.int)[j]? = some (V.int k)
      rw [List.getElem?_map, h']
      rfl
theorem px_lenSt {p1 : Pos} (hm : X.mg "len" = none) (i : Nat) (hl : G[i]? = some (some (tR p))) (hN : X.N[i]? = some y := by rfl) (hv : Vis X.env.scope y := by first | exact .inl rfl | exact .inr (.inl rfl) | exact .inr (.inr rfl)) (h1 : (y == ("__debug__" : Str)) = false := by decide) (h2 : (y == ("__classdict__" : Str)) = false := by decide)
    (hg : Gl X "len" := by rfl) (he : starEach [.Name y p1] X.env = (false, eval (.Name y p1) X.env) :: starEach [] X.env := by rfl) : PX X (HC.stN H0 M p hp ns) G (.Call (.Name "len" p2) [.Name y p1] [] pos) (tI (ns.length : Nat)) :=
  px_callB (Ts := [tR p]) call_len_seq (fun H vs Q bs h q => by
    cases h with
    | cons h t =>
      cases t
      have h4 : H p = some (.lst (isV ns)) := bs.om
      exact ⟨p, isV ns, by rw [show _ = V.ref p from h], .inl (SqL.of h4), q _ H (Ex.refl H) (by unfold isV; rw [List.length_map]; rfl)⟩) hm PySem.boot_len (pxs_cons (px_var hl hN hv h1 h2) pxs_nil he) hg (he := he)
/-- store[j] = e -/
theorem pb_setCell {j : Nat} {n : Int} (hq : PS X st (tAsg (tX (HC.stN H0 M p hp ns) G (tI n)) (gSub (tVar i) (tX (HC.stN H0 M p hp ns) G (tI (j : Nat))) rSetL))) (hl : G[i]? = some (some (tR p))) (hj : j < ns.length) (hr : PB X (HC.stN H0 M p hp (ns.set j n)) G rest Nx Rt) :
    PB X (HC.stN H0 M p hp ns) G (st :: rest) Nx Rt :=
  PSs.imp (pss_cons hq hr) fun D σ H ⟨ok, q1, q2⟩ => ⟨ok, fun v H1 x1 e1 p1 => by
    obtain rfl : v = .int n := p1
    obtain ⟨v', e, pp⟩ := x1.var hl
    obtain rfl : v' = .ref p := pp
    refine ⟨.ref p, e, x1, fun w H2 x2 e2 p2 => ?_⟩
    obtain rfl : w = .int (j : Nat) := p2
    have h4 : H2 p = some (.lst (isV ns)) := x2.base.om
    have hle : Ex (hid M H2) (hid M (upd H2 p (.lst ((isV ns).set j (.int n))))) := hid_ex fun a o h q => by
      rw [upd_ne (fun z => by subst z; rw [hp] at h; cases h)]; exact q
    refine ⟨p, isV ns, ((j : Nat) : Int), j, rfl, rfl, h4, ?_, ⟨⟨fun a o z q => ?_, fun a m => ?_, ?_⟩, x2.env.imp fun _ _ h => h.mono hle⟩, fun σ' H' n e => q1 σ' H' n (((e1.trans e2).trans hle).trans e), q2⟩
    · unfold ixN isV
      rw [List.length_map, if_pos (by omega), if_pos (by omega)]
      simp
    · have z' : (a == p) = false := z
      rw [upd_ne (beq_eq_false_iff_ne.mp z')]
      exact x2.base.old a o z q
    · by_cases h : a = p
      · subst h; exact ⟨_, upd_same⟩
      · rw [upd_ne h]; exact x2.base.hidd a m
    · show upd H2 p _ p = _
      rw [upd_same]
      unfold isV
      rw [List.map_set]⟩
theorem psetC {j : Nat} {n : Int} {ix v : Expr} {p1 spos : Pos} {ms : List Int} (i : Nat) (hE : ns.set j n = ms) (hv : PX X (HC.stN H0 M p hp ns) G v (tI n)) (hix : PX X (HC.stN H0 M p hp ns) G ix (tI (j : Nat))) (hl : G[i]? = some (some (tR p))) (hj : j < ns.length) (hr : PB X (HC.stN H0 M p hp ms) G rest Nx Rt)
    (hN : X.N[i]? = some y := by rfl) (hvv : Vis X.env.scope y := by first | exact .inl rfl | exact .inr (.inl rfl) | exact .inr (.inr rfl)) (hd : (y == ("__debug__" : Str)) = false := by decide) (hcd : (y == ("__classdict__" : Str)) = false := by decide)
    (ha : ∀ v, assign (.Subscript (.Name y p1) ix spos) X.env v = (do
      let ov ← holding [v] (eval (.Name y p1) X.env)
      let iv ← holding [v, ov] (eval ix X.env)
      standAt spos
      holding [v, ov, iv] (setItem ov iv v)
      release [v, ov, iv] []) := by intro _; rfl)
    (hs : swapsWithSole [.Subscript (.Name y p1) ix spos] v pos.line X.env = pure false := by rfl) (hw : swappedStores [.Subscript (.Name y p1) ix spos] v X.env = pure none := by rfl)
    (h1 : (assignEach [.Subscript (.Name y p1) ix spos] X.env).map (·.2) = [assign (.Subscript (.Name y p1) ix spos) X.env] := by rfl) :
    PB X (HC.stN H0 M p hp ns) G (.Assign [.Subscript (.Name y p1) ix spos] v pos :: rest) Nx Rt := by
  subst hE
  exact pb_setCell (i := i) (ps_asg hv (pg_sub (tv i hN hvv hd hcd) hix set_list ha) hs hw h1) hl hj hr
end
section
variable {K : PySem.W.Frag} {mg : Str → Option Value} {base : Heap} {P : Program} {w : World}
theorem drw_ok {α : Type} {args : α → List Ty} {pre : α → Prop} {res : α → Ty} {x qual : Str} {params : Arguments} {body : List Stmt} {scope : Scope} {f : Addr} {fd : FuncData} {N ps : List Str} {q0 : Str} {k : Nat}
    (F : FunD K x qual params body scope [] [] f fd) (S : FnScope N (q0 :: ps) scope) (hl : ∀ z, (args z).length = ps.length)
    (hb : ∀ (cdv : Value) (A : Around) (outer : List PySem.Env) (s : Shared) (H : Hp) (E : XK) (M : Addr → Bool) (p : Addr) (hp : M p = true) (z : α), Room k (A.deeper (envOfC qual scope s.heap.objs.size f cdv)) → pre z →
      PB (cxOf CX0 P w K mg base N qual scope f cdv A outer s H E).nox (HC.st H M p hp) (startG N.length (tR p :: args z)) body (fun _ _ => False) (RtS p (HC.st H M p hp) (res z))) :
    FnOk P w K mg base CX0 (k + 1) f fd (q0 :: ps) (DrwSp args pre res) := by
  refine FunD.ok F S (fun vs H Q E ⟨M, z, p, rest, e, _, _, _, h, _⟩ => by rw [e, List.length_cons, h.length, hl, List.length_cons]) (fun cdv A outer s H vs Q E hr ⟨M, z, p, rest, e, m, hs, tr, h, hp, q⟩ => ?_)
  subst e
  refine ⟨_, PSs.nox (hb cdv A outer s H E M p m z hr hp), ⟨⟨fun a o _ e => e, tr, hs⟩, start_env (.cons rfl h)⟩, fun σ' H' n _ => n.elim, fun v H' ⟨n1, n2, n3⟩ => q v H' n1 n2 n3⟩
theorem Def.okS {α : Type} {args : α → List Ty} {pre : α → Prop} {res : α → Ty} {x : Str} {st : Stmt} {N ps : List Str} {q0 : Str} {k : Nat} (D : Def K mg x st) (S : FnScope N (q0 :: ps) (defScope st)) (hl : ∀ z, (args z).length = ps.length)
    (hbind : ∀ (kV doc pm : Value) (an : Option Addr) (cdv ct : Value) (us : List Value), us.length = (q0 :: ps).length → bindArgs (PySem.W.fnOf x x (defArgs st) (defBody st) (defScope st) .none kV doc pm an cdv ct) ⟨us, []⟩ = pure ((q0 :: ps).zip us))
    (hb : ∀ (f : Addr) (cdv : Value) (A : Around) (outer : List PySem.Env) (s : Shared) (H : Hp) (E : XK) (M : Addr → Bool) (p : Addr) (hp : M p = true) (z : α), Room k (A.deeper (envOfC x (defScope st) s.heap.objs.size f cdv)) → pre z →
      PB (cxOf CX0 P w K mg base N x (defScope st) f cdv A outer s H E).nox (HC.st H M p hp) (startG N.length (tR p :: args z)) (defBody st) (fun _ _ => False) (RtS p (HC.st H M p hp) (res z))) :
    Ok P w K mg base (k + 1) x (q0 :: ps) (DrwSp args pre res) := by
  obtain ⟨f, fd, hm, F⟩ := D
  exact ⟨f, fd, hm, F.kp, F.bindsN hbind, drw_ok F S hl fun cdv A outer s H E M p hp z hr hz => hb f cdv A outer s H E M p hp z hr hz⟩
theorem ext_st {H : Hp} {M : Addr → Bool} {p : Addr} {hp : M p = true} : ExtS p (HC.st H M p hp) (HC.st H M p hp) := ⟨fun _ h => h, rfl, rfl, st_C⟩
end
abbrev tBelow (n : Int) : Ty := tEx (fun i : Int => 0 ≤ i ∧ i < n) tI
section
variable {K : PySem.W.Frag} {mg : Str → Option Value} {base : Heap} {P : Program} {w : World}
def PRM : Int := 2305843009213693951
theorem sc109 : FnScope ["_law_store_here", "_law_prime", "_law_found"] ["_law_store_here"] (defScope (top 109)) := ⟨rfl, rfl, rfl, by decide +kernel, rfl, by decide +kernel, by decide +kernel⟩
theorem mulC {i j : Int} (h : -(2 ^ 64) < j ∧ j < 2 ^ 64) : CMul i j := .inr h
theorem ok_mixed (T : Txt K mg) : Ok P w K mg base 1 "_law_mixed" ["_law_store_here"] (DrwSp (fun _ : Unit => []) (fun _ => True) (fun _ => tEx (fun i : Int => 0 ≤ i) tI)) := by
  refine T.d__law_mixed.okS sc109 (fun _ => rfl) (fun _ _ _ _ _ _ us hl => match us, hl with | [_], _ => rfl) fun f cdv A outer s H E M p hp z hr _ => ?_
  show PB _ _ [some (tR p), none, none] _ _ _
  refine pb_stEnter fun a b c d e cells h0 => ?_
  refine plet sc109.nd 1 px_int ?_
  refine psetC 0 rfl (px_add (px_cell 0 rfl px_int (k := d) (atI_nat (j := 3) rfl)) px_int) (px_int (i := 3)) rfl (by simp) ?_
  refine psetC 0 rfl (px_mod (px_toInt T.f_int boot_int (px_add (px_add (px_mul (px_cell 0 rfl px_int (k := c) (atI_nat (j := 2) rfl)) px_int (mulC (by decide))) (px_mul (px_cell 0 rfl px_int (k := d + 1) (atI_nat (j := 3) rfl)) px_int (mulC (by decide)))) px_int)) (va 1 rfl) (by decide)) (px_int (i := 2)) rfl (by simp) ?_
  generalize hm : (c * 68718952447 + (d + 1) * 1000003 + 97) % 2305843009213693951 = m
  have m0 : 0 ≤ m ∧ m < 2305843009213693951 := by omega
  refine plet sc109.nd 2 (px_mod (px_toInt T.f_int boot_int (px_add (px_mul (px_cell 0 rfl px_int (k := m) (atI_nat (j := 2) rfl)) (px_cell 0 rfl px_int (k := m) (atI_nat (j := 2) rfl)) (mulC (by omega))) (px_mul (px_cell 0 rfl px_int (k := d + 1) (atI_nat (j := 3) rfl)) px_int (mulC (by decide))))) px_int (by decide)) ?_
  refine pb_stLeave ⟨_, _, _, _, _, _, rfl, h0⟩ ?_
  exact pb_retS ext_st ((px_mod (px_toInt T.f_int boot_int (px_add (px_add (px_mul (va 2 rfl) px_int (mulC (by decide))) (px_fdiv (va 2 rfl) px_int ⟨by decide, by decide⟩)) px_int)) (va 1 rfl) (by decide)).sub fun H v h => ⟨_, Int.emod_nonneg _ (by decide), h⟩)
end
end Nb
end -- NbQ
section -- S1
set_option maxHeartbeats 1000000
namespace Nb
open PySem PySem.Spec PyProof.Rows L2
section
variable {K : PySem.W.Frag} {mg : Str → Option Value} {base : Heap} {P : Program} {w : World}
theorem sc110 : FnScope ["_law_store_here", "_law_many", "_law_cell", "_law_found"] ["_law_store_here", "_law_many"] (defScope (top 110)) := ⟨rfl, rfl, rfl, by decide +kernel, rfl, by decide +kernel, by decide +kernel⟩
abbrev spTake : Sp := DrwSp (fun n : Nat => [tI (n : Int)]) (fun n => n < 1000000) (fun n => tBelow (if n < 2 then 1 else (n : Int)))
theorem ok_take (T : Txt K mg) : Ok P w K mg base 2 "_law_take" ["_law_store_here", "_law_many"] spTake := by
  refine T.d__law_take.okS sc110 (fun _ => rfl) (fun _ _ _ _ _ _ us hl => match us, hl with | [_, _], _ => rfl) fun f cdv A outer s H E M p hp n hr hn => ?_
  replace hn : n < 1000000 := hn
  show PB _ _ [some (tR p), some (tI (n : Int)), none, none] _ _ _
  refine pb_guard (pxt_lt (va 1 rfl) px_int) (fun h => pb_retS ext_st (px_int.sub fun H v h => ⟨0, ⟨Int.le_refl _, by split <;> omega⟩, h⟩)) fun h => ?_
  have h2 : ¬ ((n : Int) < 2) := of_decide_eq_false h
  have hif : (if n < 2 then (1 : Int) else (n : Int)) = n := if_neg (by omega)
  rw [hif]
  refine pb_stEnter fun a b c d e cells h0 => ?_
  refine pb_if (x := (decide (b = 0)) && ((decide (e = 0)) && decide (a < ((a :: b :: c :: d :: e :: cells).length : Nat)))) (C' := HC.st H M p hp) (G' := [some (tR p), some (tI (n : Int)), none, none]) (pxt_w (pxw_and (pxt_eq (px_cell 0 rfl px_int (k := b) (atI_nat (j := 1) rfl)) px_int) fun _ => pxw_and (pxt_eq (px_cell 0 rfl px_int (k := e) (atI_nat (j := 4) rfl)) px_int) fun _ => pxw_and1 (pxt_lt (px_cell 0 rfl px_int (k := a) (atI_nat (j := 0) rfl)) (px_lenSt T.f_len 0 rfl)))) (fun ht => ?_) (fun _ => pb_endS ⟨_, _, _, _, _, _, rfl, h0⟩ (gi_keep (gi_keep (gi_keep (gi_keep gi_nil))))) ?_
  · rw [Bool.and_eq_true, Bool.and_eq_true] at ht
    have h4 : a < ((a :: b :: c :: d :: e :: cells).length : Nat) := of_decide_eq_true ht.2.2
    obtain ⟨a', rfl⟩ : ∃ a' : Nat, a = (a' : Int) := ⟨a.toNat, by omega⟩
    have h5 : a' < ((a' : Int) :: b :: c :: d :: e :: cells).length := by omega
    have h6 := List.getElem?_eq_getElem h5
    generalize ((a' : Int) :: b :: c :: d :: e :: cells)[a'] = g at h6
    refine plet sc110.nd 2 (px_toInt T.f_int boot_int (px_cell 0 rfl (px_cell 0 rfl px_int (k := (a' : Int)) (atI_nat (j := 0) rfl)) (k := g) (atI_nat h6))) ?_
    refine psetC 0 rfl (px_add (px_cell 0 rfl px_int (k := (a' : Int)) (atI_nat (j := 0) rfl)) px_int) (px_int (i := 0)) rfl (by simp) ?_
    refine psetC 0 rfl (px_mod (px_toInt T.f_int boot_int (px_add (px_add (px_cell 0 rfl px_int (k := c) (atI_nat (j := 2) rfl)) (px_mul (va 2 rfl) px_int (mulC (by decide)))) px_int)) px_int (by decide)) (px_int (i := 2)) rfl (by simp) ?_
    refine pb_ifLast (pxt_w (pxw_or (pxt_ge (va 2 rfl) (px_pow px_int px_int ⟨by decide, by decide, by decide⟩)) fun _ => pxw_or1 (pxt_le (va 2 rfl) (px_sub px_int (px_pow px_int px_int ⟨by decide, by decide, by decide⟩))))) (fun _ => ?_) (fun _ => ?_)
    · refine psetC 0 rfl (px_abs T.f_abs boot_abs (va 2 rfl)) (px_int (i := 1)) rfl (by simp) ?_
      exact pb_endS ⟨_, _, _, _, _, _, rfl, by omega⟩ (gi_keep (gi_keep (gi_drop (gi_keep gi_nil))))
    · refine psetC 0 rfl px_int (px_int (i := 4)) rfl (by simp) ?_
      exact pb_endS ⟨_, _, _, _, _, _, rfl, by omega⟩ (gi_keep (gi_keep (gi_drop (gi_keep gi_nil))))
  · refine pb_stEnter fun a b c d e cells h0 => ?_
    refine pb_guard (x := decide (0 < b)) (pxt_gt (px_cell 0 rfl px_int (k := b) (atI_nat (j := 1) rfl)) px_int) (fun h => ?_) fun h => ?_
    · refine plet sc110.nd 3 (px_mod (px_toInt T.f_int boot_int (px_cell 0 rfl px_int (k := b) (atI_nat (j := 1) rfl))) (va 1 rfl) (by omega)) ?_
      refine psetC 0 rfl (px_fdiv (px_cell 0 rfl px_int (k := b) (atI_nat (j := 1) rfl)) (va 1 rfl) ⟨by omega, by omega⟩) (px_int (i := 1)) rfl (by simp) ?_
      refine pb_stLeave ⟨_, _, _, _, _, _, rfl, h0⟩ ?_
      exact pb_retS ext_st ((va 3 rfl).sub fun H v h => ⟨_, ⟨Int.emod_nonneg _ (by omega), Int.emod_lt_of_pos _ (by omega)⟩, h⟩)
    · refine pb_if (x := decide (0 < e)) (C' := HC.st H M p hp) (G' := [some (tR p), some (tI (n : Int)), none, none]) (pxt_gt (px_cell 0 rfl px_int (k := e) (atI_nat (j := 4) rfl)) px_int) (fun _ => ?_) (fun _ => pb_endS ⟨_, _, _, _, _, _, rfl, h0⟩ (gi_keep (gi_keep (gi_keep (gi_keep gi_nil))))) ?_
      · refine psetC 0 rfl (px_sub (px_cell 0 rfl px_int (k := e) (atI_nat (j := 4) rfl)) px_int) (px_int (i := 4)) rfl (by simp) ?_
        exact pb_endS ⟨_, _, _, _, _, _, rfl, h0⟩ (gi_keep (gi_keep (gi_keep (gi_keep gi_nil))))
      · refine pb_retS ext_st (px_op op_mod (T := tEx (fun i : Int => 0 ≤ i) tI) (U := tI (n : Int)) (W := tBelow (n : Int)) (r2_exL fun i hi => R2Ok.post (W' := tBelow (n : Int)) (r2_I (show (0 : Int) < n by omega)) fun H v h => ⟨i % n, ⟨Int.emod_nonneg _ (by omega), Int.emod_lt_of_pos _ (by omega)⟩, h⟩) ?_ (va 1 rfl))
        refine px_callTy call_int1 (Ts := [tEx (fun i : Int => 0 ≤ i) tI]) (fun H vs Q _ h q => ?_) T.f_int boot_int (pxs_cons (px_draw (ok_mixed T) st_C () rfl hr (pxs_cons (va 0 rfl) pxs_nil) trivial) pxs_nil) rfl
        cases h with
        | cons h t =>
          cases t
          obtain ⟨i, hi, h⟩ := h
          exact .inl ⟨i, by rw [show _ = V.int i from h], q _ H (Ex.refl H) ⟨i, hi, rfl⟩⟩
end
end Nb
end -- S1
section -- NbR
set_option maxHeartbeats 1000000
namespace Nb
open PySem PySem.Spec PyProof.Rows L2
theorem all_ex {D : Hp} {α β : Type} {P : β → Prop} {T : β → Ty} : ∀ {l : List α} {xs : List V}, TyAll D xs (l.map fun _ => tEx P T) → ∃ zs : List β, zs.length = l.length ∧ (∀ z ∈ zs, P z) ∧ TyAll D xs (zs.map T)
  | [], _, .nil => ⟨[], rfl, fun _ h => (List.not_mem_nil h).elim, .nil⟩
  | _ :: l, _, .cons ⟨z, hz, h⟩ t => by
    obtain ⟨zs, h1, h2, h3⟩ := all_ex (l := l) t
    exact ⟨z :: zs, by rw [List.length_cons, h1]; rfl, fun y hy => by
      rcases List.mem_cons.mp hy with rfl | hy
      · exact hz
      · exact h2 y hy, .cons h h3⟩
section
variable {X : Cx} {C : HC} {G : Env} {a b c e : Expr} {T U : Ty} {pos p1 p2 p3 : Pos} {rest : List Stmt} {Nx : NX} {Rt : RT}
theorem PX.lstEx {α β : Type} {P : β → Prop} {T : β → Ty} {l : List α} (h : PX X C G e (tLst (l.map fun _ => tEx P T))) : PX X C G e (tEx (fun zs : List β => zs.length = l.length ∧ ∀ z ∈ zs, P z) fun zs => tLst (zs.map T)) :=
  h.sub fun H v ⟨a, xs, e, h2, h3⟩ => let ⟨zs, k1, k2, k3⟩ := all_ex h3; ⟨zs, ⟨k1, k2⟩, a, xs, e, h2, k3⟩
def tXtE (C : HC) (G : Env) (P : Bool → Prop) : TT := fun σ H Q => EnvOk C G σ H ∧ ∀ b H2, P b → EnvOk C G σ H2 → Ex (hid C.M H) (hid C.M H2) → Q b H2
def PXtE (X : Cx) (C : HC) (G : Env) (e : Expr) (P : Bool → Prop) : Prop := PT X e (tXtE C G P)
theorem pb_guardE {P : Bool → Prop} (hc : PXtE X C G c P) {A : List Stmt} (hA : P true → PB X C G A (fun _ _ => False) Rt) (hr : P false → PB X C G rest Nx Rt) : PB X C G (.If c A [] pos :: rest) Nx Rt :=
  PSs.imp (pss_cons (ps_if hc (PB_when hA) pss_nil) (PB_when hr)) fun D σ H ⟨ok, q1, q2⟩ => ⟨ok, fun b H1 hb x1 e1 => by
    cases b with
    | true => exact ⟨hb, x1, fun _ _ f => f.elim, q2⟩
    | false => exact ⟨hb, x1, fun σ' H' n e => q1 σ' H' n (e1.trans e), q2⟩⟩
/-- a draw against a number -/
theorem pxtE_eq {P : Int → Prop} {j : Int} (ha : PX X C G a (tEx P tI)) (hb : PX X C G b (tI j)) : PXtE X C G (.Compare a [.Eq] [b] pos) (fun _ => True) :=
  PT.imp (pt_cmpR op_eq ha hb (nomark _)) fun σ H Q ⟨ok, q⟩ => tOp_ok (T := tEx P tI) (U := tI j) (W := tEx (fun _ : Bool => True) tB) (Q := fun v H' => ∃ k, v = .bl k ∧ Q k H') (r2_exL fun i _ => R2Ok.post (r2_eq (x := .int i) (y := .int j) rfl) fun H v h => ⟨_, trivial, h⟩) ⟨ok, fun v H2 x2 e2 ⟨k, _, p⟩ => ⟨k, p, q k H2 trivial x2 e2⟩⟩ (fun _ q => q) fun _ _ q => q
theorem pxtE_and {x : Bool} {P : Bool → Prop} (ha : PXt X C G a x) (hb : x = true → PXtE X C G b P) (pos : Pos) : PXtE X C G (.BoolOp .And [a, b] pos) (fun r => r = true → x = true) :=
  PT.imp (pw_and ha (pw_when fun h => pw_and1 (hb h))).pt fun σ H Q ⟨ok, q⟩ => ⟨ok, fun H1 x1 e1 => by
    cases x with
    | true => exact ⟨rfl, x1, fun r H2 _ x2 e2 => q r H2 (fun _ => rfl) x2 (e1.trans e2)⟩
    | false => exact q false H1 (fun h => nomatch h) x1 e1⟩
/-- xs[::-1] -/
theorem px_revL {Ts : List Ty} {k : Nat} (ha : PX X C G e (tLst Ts)) : PX X C G (.Subscript e (.Slice none none (some (.UnaryOp .USub (.Constant (.int 1) k p1) p2)) p3) pos) (tLst Ts.reverse) :=
  PE.imp (pe_revL ha) fun σ H Q ⟨ok, q⟩ => ⟨ok, fun v H1 x1 e1 ⟨o, xs, h1, h2, h3⟩ => ⟨o, xs, h1, sqL_of_hid h2, fun p hp => by
    have e4 : Ex H1 (upd H1 p (.lst xs.reverse)) := Ex.new hp
    exact q _ _ (x1.ex e4) (e1.trans (hid_mono e4)) ⟨p, _, rfl, hid_of (x1.base.fresh hp) upd_same, (h3.mono (hid_mono e4)).reverse⟩⟩⟩
end
section
variable {X : Cx} {C : HC} {G : Env} {tg elt iter : Expr} {ifs : List Expr} {scope : Scope} {own : List (Str × Nat)} {pos : Pos}
theorem lc_okE {α : Type} {l : List α} {tA : α → Ty} {E : α → Ty} {Gt : α → Env} {vs js : List Nat} {σ : St} {H : Hp} {Q : VK} (hj : ∀ k ∈ js, k ∈ vs) (hl : l.length ≤ 1000000) (h : tX C G (tEx (fun zs : List α => (∀ z ∈ zs, z ∈ l) ∧ zs.length ≤ l.length) fun zs => tLst (zs.map E)) σ H Q) :
    tLc (tIX C G (l.map tA)) (fun v σ H Q => ∃ z : Addr × List Ty × α, (z.2.2 ∈ l ∧ C.M z.1 = false) ∧ tGX (C.own z.1 z.2.1) (wipeG G vs) (tA z.2.2) (Gt z.2.2) js v σ H Q)
      (fun σ H Q => ∃ z : Addr × List Ty × α, (z.2.2 ∈ l ∧ C.M z.1 = false) ∧ tXtE (C.own z.1 z.2.1) (Gt z.2.2) (fun _ => True) σ H Q)
      (fun σ H Q => ∃ z : Addr × List Ty × α, (z.2.2 ∈ l ∧ C.M z.1 = false) ∧ tX (C.own z.1 z.2.1) (Gt z.2.2) (E z.2.2) σ H Q) vs σ H Q := by
  obtain ⟨ok, q⟩ := h
  refine ⟨ok, fun J H1 x1 e1 y1 D hD => ?_⟩
  have mD := x1.base.fresh hD
  refine ⟨fun i m H' => m + i = l.length ∧ (∃ zs : List α, ((∀ z ∈ zs, z ∈ l) ∧ zs.length ≤ i) ∧ EnvOk (C.own D (zs.map E)) G σ H') ∧ Ex (hid C.M H1) (hid (C.own D []).M H'), ⟨l.length, rfl, ⟨[], ⟨fun _ h => (List.not_mem_nil h).elim, Nat.le_refl 0⟩, x1.mkown hD .nil⟩, mkown_le hD⟩, ?_⟩
  rintro i m H' ⟨hm, ⟨zs, ⟨hz1, hz2⟩, x2⟩, e2⟩
  obtain ⟨y2, y3⟩ := y1 (C.own D []).M H' e2 (fun a h => x2.base.hidd a h) i
  by_cases hi : i < l.length
  · have ha : l[i]? = some l[i] := List.getElem?_eq_getElem hi
    have hmem : l[i] ∈ l := List.getElem_mem hi
    obtain ⟨go, yl⟩ := y2 (tA l[i]) (by rw [List.getElem?_map, ha]; rfl)
    refine .inr ⟨go, fun H2 => (∃ zs : List α, ((∀ z ∈ zs, z ∈ l) ∧ zs.length ≤ i + 1) ∧ EnvOk (C.own D (zs.map E)) G σ H2) ∧ Ex (hid C.M H1) (hid (C.own D []).M H2), fun H2 ⟨x3, e3⟩ => ⟨m - 1, by omega, by omega, x3, e3⟩, fun v H2 hy => ?_⟩
    obtain ⟨e3, p3⟩ := yl v H2 hy
    have x3 := x2.ex e3
    refine ⟨(D, zs.map E, l[i]), ⟨hmem, mD⟩, x3.wipe vs, p3, fun σ2 x4 f4 => ⟨wipe_fix f4 hj, (D, zs.map E, l[i]), ⟨hmem, mD⟩, x4, fun ht H3 _ x5 e5 => ?_⟩⟩
    have e6 : Ex (hid C.M H1) (hid (C.own D []).M H3) := (e2.trans (hid_mono e3)).trans e5
    have back : ∀ {H4 : Hp} {σ4 : St} {G4 : Env}, EnvOk (C.own D (zs.map E)) G4 σ4 H4 → Ex (hid (C.own D []).M H2) (hid (C.own D []).M H4) → EnvOk (C.own D (zs.map E)) G σ H4 := fun x e => ⟨x.base, x3.env.imp fun _ _ h => h.mono e⟩
    cases ht with
    | true =>
      refine ⟨(D, zs.map E, l[i]), ⟨hmem, mD⟩, x5, fun y H4 x7 e7 p7 => ?_⟩
      obtain ⟨_, _, _, xs, h4, h5⟩ := id x7.base.om
      refine ⟨xs, h4, ?_, ?_, e6.trans (e7.trans (wrown_le (Ts := []) (Us := [])))⟩
      · rw [h5.length, List.length_map]
        exact Nat.lt_of_le_of_lt (Nat.le_trans hz2 (Nat.le_trans (Nat.le_of_lt hi) hl)) (by decide)
      · have x8 := (back x7 (e5.trans e7)).wrown (Us := (zs ++ [l[i]]).map E) (xs := xs ++ [y]) (by
          rw [List.map_append]
          exact h5.append (.cons p7 .nil))
        exact ⟨zs ++ [l[i]], ⟨fun z hz => by
          rcases List.mem_append.mp hz with h | h
          · exact hz1 z h
          · rw [List.mem_singleton.mp h]; exact hmem, by rw [List.length_append]; show zs.length + 1 ≤ i + 1; omega⟩, x8⟩
    | false => exact ⟨⟨zs, ⟨hz1, by omega⟩, back x5 e5⟩, e6⟩
  · have hl : i = l.length := by omega
    refine .inl ⟨y3 (by rw [List.length_map]; exact hl.symm), ?_⟩
    subst hl
    obtain ⟨_, m, _, xs, h4, h5⟩ := id x2.base.om
    exact q _ H' x2.of_own ((e1.trans e2).trans own_le) ⟨zs, ⟨hz1, hz2⟩, D, xs, rfl, hid_of m h4, h5.mono own_le⟩
variable {α : Type} {l : List α} {tA E : α → Ty} {Gt : α → Env} {js : List Nat} {i : Nat} {spos : Pos}
theorem set_lcE {y : Str} {py : Pos} (hc : X.calm = true) (hN : X.N.Nodup) (hy : X.N[i]? = some y) (hyl : X.env.scope.names.lookup y = some .local) (hsw : swapsWith (.ListComp elt [⟨tg, iter, ifs, 0⟩] scope pos) (some (.Name y py)) spos.line X.env = pure true)
    (hi : PIX X C G tg iter (l.map tA)) (ok : BlkOk X.N X.env.scope scope own) (hj : ∀ k ∈ js, k ∈ own.map (·.2)) (hl : l.length ≤ 1000000)
    (hg : ∀ s H D cl fp d Vs a, PGX (bk X s H scope D cl fp) (C.own d Vs) (wipeG G (own.map (·.2))) tg (tA a) (Gt a) js)
    (ht : ∀ s H D cl fp d Vs a, a ∈ l → C.M d = false → PTs (bk X s H scope D cl fp) ifs (tXtE (C.own d Vs) (Gt a) fun _ => True))
    (he : ∀ s H D cl fp d Vs a, a ∈ l → C.M d = false → PX (bk X s H scope D cl fp) (C.own d Vs) (Gt a) elt (E a)) (hs : ∀ x, foldedSetIterable iter X.env x = pure x := by intro _; rfl) :
    PXset X C G (.Assign [.Name y py] (.ListComp elt [⟨tg, iter, ifs, 0⟩] scope pos) spos) i (tEx (fun zs : List α => (∀ z ∈ zs, z ∈ l) ∧ zs.length ≤ l.length) fun zs => tLst (zs.map E)) :=
  PS.imp (ps_setLc hc hN hy hyl hsw hi ok (fun s H D cl fp => PG_ex fun z : Addr × List Ty × α => PG_when fun h => hg s H D cl fp z.1 z.2.1 z.2.2) (fun s H D cl fp => PTs_ex fun z : Addr × List Ty × α => PTs_when fun h => ht s H D cl fp z.1 z.2.1 z.2.2 h.1 h.2)
    (fun s H D cl fp => PE_ex fun z : Addr × List Ty × α => pe_when fun h => he s H D cl fp z.1 z.2.1 z.2.2 h.1 h.2) hs) fun D σ H h => lc_okE hj hl h
end
end Nb
end -- NbR
section -- S2
set_option maxHeartbeats 1000000
namespace Nb
open PySem PySem.Spec PyProof.Rows L2
def Sm (q : Rat) : Prop := Fr LL q ∧ -24 ≤ q ∧ q ≤ 24
theorem dvd_LL {d : Nat} (h0 : 0 < d) (h : d ≤ 31) : d ∣ LL := by
  have : ∀ d : Fin 32, 0 < d.val → d.val ∣ LL := by decide +kernel
  exact this ⟨d, by omega⟩ h0
theorem fr_div {n : Int} {d : Nat} (h0 : 0 < d) (h : d ∣ LL) : Fr LL (Rat.divInt n d) := by
  obtain ⟨e, he⟩ := h
  refine ⟨n * e, ?_⟩
  rw [he, Rat.divInt_eq_div, Rat.natCast_mul, Rat.intCast_mul, Rat.intCast_natCast, Rat.intCast_natCast]
  have hd : ((d : Nat) : Rat) ≠ 0 := by
    have : ((d : Nat) : Rat) ≠ ((0 : Nat) : Rat) := fun z => by have := Rat.natCast_inj.mp z; omega
    simpa using this
  grind
theorem sm_div {n : Int} {d : Nat} (h0 : 0 < d) (hd : d ≤ 12) (h1 : -24 ≤ n) (h2 : n ≤ 24) : Sm (Rat.divInt n d) := by
  have hd0 : (0 : Rat) < (((d : Nat) : Int) : Rat) := by
    have : (((0 : Int)) : Rat) < (((d : Nat) : Int) : Rat) := Rat.intCast_lt_intCast.mpr (by omega)
    simpa using this
  refine ⟨fr_div h0 (dvd_LL h0 (by omega)), ?_, ?_⟩
  · rw [Rat.divInt_eq_div]
    apply Rat.not_lt.mp
    rw [Rat.div_lt_iff hd0]
    intro h6
    have h5 : ((-24 * (d : Int) : Int) : Rat) ≤ (n : Rat) := Rat.intCast_le_intCast.mpr (by omega)
    rw [Rat.intCast_mul] at h5
    exact Rat.not_lt.mpr h5 h6
  · rw [Rat.divInt_eq_div]
    apply Rat.not_lt.mp
    intro h6
    have h5 : (n : Rat) ≤ ((24 * (d : Int) : Int) : Rat) := Rat.intCast_le_intCast.mpr (by omega)
    rw [Rat.intCast_mul] at h5
    have h7 := Rat.mul_lt_mul_of_pos_right h6 hd0
    have h8 : (n : Rat) / (((d : Nat) : Int) : Rat) * (((d : Nat) : Int) : Rat) = n := by
      have : (((d : Nat) : Int) : Rat) ≠ 0 := fun z => by rw [z] at hd0; exact Rat.lt_irrefl hd0
      grind
    rw [h8] at h7
    exact Rat.not_lt.mpr h5 h7
section
variable {X : Cx} {C : HC} {G : Env} {a b e : Expr} {pos p2 : Pos} {p : Addr}
theorem px_ixAny {Ts : List Ty} {W : Ty} {n : Int} (h0 : 0 ≤ n) (hn : n < (Ts.length : Nat)) (ha : PX X C G a (tLst Ts)) (hb : PX X C G b (tI n)) (hW : ∀ T ∈ Ts, ∀ H v, T.P H v → W.P H v) (hs : PlainIx b := by intro _ _; rfl) : PX X C G (.Subscript a b pos) W := by
  obtain ⟨j, rfl⟩ : ∃ j : Nat, n = (j : Int) := ⟨n.toNat, by omega⟩
  have hj : j < Ts.length := by omega
  exact (px_ixL ha hb (atI_nat (List.getElem?_eq_getElem hj)) hs).sub (hW _ (List.getElem_mem hj))
theorem px_ixDraw {ns : List Int} {n : Int} (hl : n = (ns.length : Nat)) (ha : PX X C G a (tLst (ns.map tI))) (hb : PX X C G b (tBelow n)) (hs : PlainIx b := by intro _ _; rfl) : PX X C G (.Subscript a b pos) (tEx (fun i => i ∈ ns) tI) :=
  px_ixR ix_list (U := tBelow n) (r2_exR fun i hi => by
    obtain ⟨j, rfl⟩ : ∃ j : Nat, i = (j : Int) := ⟨i.toNat, by omega⟩
    have hj : j < ns.length := by omega
    exact (ixL_ok (T := tI ns[j]) (atI_nat (by rw [List.getElem?_map, List.getElem?_eq_getElem hj]; rfl))).post fun H v h => ⟨_, List.getElem_mem hj, h⟩) ha hb hs
end
section
variable {K : PySem.W.Frag} {mg : Str → Option Value} {base : Heap} {P : Program} {w : World}
variable {X : Cx} {C : HC} {G : Env} {e s : Expr} {pos p2 : Pos} {p : Addr}
theorem px_take {k : Nat} (F : Ok X.prog X.w X.K X.mg X.base 2 "_law_take" ["_law_store_here", "_law_many"] spTake) (st : StC C p) (n : Nat) (h2 : 2 ≤ n) (hn : n < 1000000) (hr : Room k X.A) (hs : PX X C G s (tR p)) (ha : PX X C G e (tI (n : Int))) (hj : 2 ≤ k := by decide) (hg : Gl X "_law_take" := by rfl)
    (he : starEach [s, e] X.env = (false, eval s X.env) :: starEach [e] X.env := by rfl) (he2 : starEach [e] X.env = (false, eval e X.env) :: starEach [] X.env := by rfl) (hpl : (backTo pos (starEach [e] X.env)).any (·.1) = false := by rfl) :
    PX X C G (.Call (.Name "_law_take" p2) [s, e] [] pos) (tBelow (n : Int)) :=
  px_draw F st n (congrArg tBelow (if_neg (by omega))) hr (pxs_cons hs (pxs_cons ha pxs_nil he2) he) hn hj hg rfl he hpl
theorem sc111 : FnScope ["_law_store_here", "_law_many", "_law_kind"] ["_law_store_here", "_law_many"] (defScope (top 111)) := ⟨rfl, rfl, rfl, by decide +kernel, rfl, by decide +kernel, by decide +kernel⟩
theorem ok_edge (T : Txt K mg) : Ok P w K mg base 3 "_law_edge" ["_law_store_here", "_law_many"] spTake := by
  refine T.d__law_edge.okS sc111 (fun _ => rfl) (fun _ _ _ _ _ _ us hl => match us, hl with | [_, _], _ => rfl) fun f cdv A outer s H E M p hp n hr hn => ?_
  replace hn : n < 1000000 := hn
  show PB _ _ [some (tR p), some (tI (n : Int)), none] _ _ _
  refine pb_guard (pxt_lt (va 1 rfl) px_int) (fun h => pb_retS ext_st (px_int.sub fun H v h => ⟨0, ⟨Int.le_refl _, by split <;> omega⟩, h⟩)) fun h => ?_
  have h2 : ¬ ((n : Int) < 2) := of_decide_eq_false h
  have hif : (if n < 2 then (1 : Int) else (n : Int)) = n := if_neg (by omega)
  rw [hif]
  refine pletEx sc111.nd 2 (px_take (ok_take T) st_C 6 (by decide) (by decide) hr (va 0 rfl) px_int) fun kd hkd => ?_
  refine pb_guard (pxt_eq (va 2 rfl) px_int) (fun _ => pb_retS ext_st (px_int.sub fun H v h => ⟨0, ⟨Int.le_refl _, by omega⟩, h⟩)) fun _ => ?_
  refine pb_guard (pxt_eq (va 2 rfl) px_int) (fun _ => pb_retS ext_st ((px_sub (va 1 rfl) px_int).sub fun H v h => ⟨_, ⟨by omega, by omega⟩, h⟩)) fun _ => ?_
  exact pb_retS ext_st (px_take (ok_take T) st_C n (by omega) hn hr (va 0 rfl) (va 1 rfl))
theorem sc120 : FnScope ["_law_store_here", "_law_kind"] ["_law_store_here"] (defScope (top 120)) := ⟨rfl, rfl, rfl, by decide +kernel, rfl, by decide +kernel, by decide +kernel⟩
theorem sm_low {q : Rat} (h : Sm q) : Sm q := h
theorem ok_small (T : Txt K mg) : Ok P w K mg base 3 "_law_small" ["_law_store_here"] (DrwSp (fun _ : Unit => []) (fun _ => True) (fun _ => tEx Sm (tQ K))) := by
  refine T.d__law_small.okS sc120 (fun _ => rfl) (fun _ _ _ _ _ _ us hl => match us, hl with | [_], _ => rfl) fun f cdv A outer s H E M p hp z hr _ => ?_
  show PB _ _ [some (tR p), none] _ _ _
  refine pletEx sc120.nd 1 (px_take (ok_take T) st_C 12 (by decide) (by decide) hr (va 0 rfl) px_int) fun kd hkd => ?_
  refine pb_guard (pxt_lt (va 1 rfl) px_int) (fun h => ?_) fun _ => ?_
  · have h4 : kd < 4 := of_decide_eq_true h
    refine pb_retS ext_st (px_ixAny (Ts := [tQ K (Rat.divInt 0 1), tQ K (Rat.divInt 1 1), tQ K (Rat.divInt (-1) 1), tQ K (Rat.divInt 1 2)]) hkd.1 h4 (px_lst (pxs_cons ((px_tup (pxs_cons px_int (pxs_cons px_int pxs_nil))).cast (by rfl)) (pxs_cons ((px_tup (pxs_cons px_int (pxs_cons px_int pxs_nil))).cast (by rfl)) (pxs_cons ((px_tup (pxs_cons (px_sub (px_int (i := 0)) (px_int (i := 1))) (pxs_cons px_int pxs_nil))).cast (by rfl)) (pxs_cons ((px_tup (pxs_cons px_int (pxs_cons px_int pxs_nil))).cast (by rfl)) pxs_nil))))) (va 1 rfl) fun T hT => ?_)
    simp only [List.mem_cons, List.not_mem_nil, or_false] at hT
    rcases hT with rfl | rfl | rfl | rfl
    · exact fun H v h => ⟨_, sm_div (d := 1) (by decide) (by decide) (by decide) (by decide), h⟩
    · exact fun H v h => ⟨_, sm_div (d := 1) (by decide) (by decide) (by decide) (by decide), h⟩
    · exact fun H v h => ⟨_, sm_div (d := 1) (by decide) (by decide) (by decide) (by decide), h⟩
    · exact fun H v h => ⟨_, sm_div (d := 2) (by decide) (by decide) (by decide) (by decide), h⟩
  · refine pb_retS ext_st (px_callR (Us := [tEx (fun i : Int => -24 ≤ i ∧ i ≤ 24) tI, tEx (fun i : Int => 1 ≤ i ∧ i ≤ 12) tI]) (ok_low T) (fun D vs h => ?_) hr (pxs_cons (px_op op_sub (T := tBelow 49) (U := tI 24) (r2_exL fun i hi => r2_I0.post fun H v h => ⟨_, ⟨by omega, by omega⟩, h⟩) (px_take (ok_take T) st_C 49 (by decide) (by decide) hr (va 0 rfl) px_int) px_int) (pxs_cons (px_op op_add (T := tI 1) (U := tBelow 12) (r2_exR fun i hi => r2_I0.post fun H v h => ⟨_, ⟨by omega, by omega⟩, h⟩) px_int (px_take (ok_take T) st_C 12 (by decide) (by decide) hr (va 0 rfl) px_int)) pxs_nil)))
    cases h with
    | cons h t =>
      cases t with
      | cons h2 t =>
        cases t
        obtain ⟨i, hi, h⟩ := h
        obtain ⟨j, hj, h2⟩ := h2
        refine ⟨(i, j), ⟨by show (0 : Int) < j; omega, ?_, ?_⟩, .cons h (.cons h2 .nil), fun D v hv => ⟨Rat.divInt i j, ?_, hv⟩⟩
        · exact Nat.lt_of_lt_of_le (show i.natAbs < 100 by omega) (by decide +kernel)
        · exact Nat.lt_of_lt_of_le (show j.natAbs < 100 by omega) (by decide +kernel)
        · obtain ⟨d, rfl⟩ : ∃ d : Nat, j = (d : Int) := ⟨j.toNat, by omega⟩
          exact sm_div (by omega) (by omega) hi.1 hi.2
end
end Nb
end -- S2
section -- S3
set_option maxHeartbeats 1000000
namespace Nb
open PySem PySem.Spec PyProof.Rows L2
section
variable {K : PySem.W.Frag} {mg : Str → Option Value} {base : Heap} {P : Program} {w : World}
theorem sc141 : FnScope ["_law_store_here", "_law_value", "_law_part"] ["_law_store_here", "_law_value"] (defScope (top 141)) := ⟨rfl, rfl, rfl, by decide +kernel, rfl, by decide +kernel, by decide +kernel⟩
theorem ok_form (T : Txt K mg) : Ok P w K mg base 3 "_law_form" ["_law_store_here", "_law_value"] (DrwSp (fun q : Rat => [tQ K q]) (fun q => q.num.natAbs < 2 ^ 1900 ∧ q.den < 2 ^ 1900) (fun q => tNum K q)) := by
  refine T.d__law_form.okS sc141 (fun _ => rfl) (fun _ _ _ _ _ _ us hl => match us, hl with | [_, _], _ => rfl) fun f cdv A outer s H E M p hp q hr hz => ?_
  obtain ⟨hz1, hz2⟩ := hz
  show PB _ _ [some (tR p), some (tQ K q), none] _ _ _
  have up : ∀ n : Nat, n < 2 ^ 1900 → n < SZ := fun n h => Nat.lt_trans h (by unfold SZ; exact Nat.pow_lt_pow_right (by decide) (by decide))
  refine pb_guardE (pxtE_and (pxt_eq (px_ixT (T := tI (q.den : Int)) (va 1 rfl) px_int rfl) px_int) (fun _ => pxtE_eq (px_take (ok_take T) st_C 2 (by decide) (by decide) hr (va 0 rfl) px_int) px_int) _) (fun h => ?_) fun _ => ?_
  · have hd : (q.den : Int) = 1 := of_decide_eq_true (h rfl)
    refine pb_retS ext_st ((px_ixT (T := tI q.num) (va 1 rfl) px_int rfl).sub fun H v h => .inl ⟨q.num, h, up _ hz1, ?_⟩)
    have := Rat.num_divInt_den q
    rw [hd, Rat.divInt_eq_div] at this
    refine this.symm.trans ?_
    have h1 : (((1 : Int)) : Rat) = 1 := rfl
    rw [h1, Rat.div_def]
    grind
  · refine pletEx (P := fun i : Int => 1 ≤ i ∧ i ≤ 3) (T := tI) sc141.nd 2 (px_op op_add (T := tI 1) (U := tBelow 3) (r2_exR fun i hi => r2_I0.post fun H v h => ⟨_, ⟨by omega, by omega⟩, h⟩) px_int (px_take (ok_take T) st_C 3 (by decide) (by decide) hr (va 0 rfl) px_int)) fun i hi => ?_
    have hi2 : i = 1 ∨ i = 2 ∨ i = 3 := by omega
    refine pb_retS ext_st ((px_tup (Ts := [tI (q.num * i), tI ((q.den : Int) * i)]) (pxs_cons (px_mul (px_ixT (T := tI q.num) (va 1 rfl) px_int rfl) (va 2 rfl) (mulC (by omega))) (pxs_cons (px_mul (px_ixT (T := tI (q.den : Int)) (va 1 rfl) px_int rfl) (va 2 rfl) (mulC (by omega))) pxs_nil))).sub fun H v h => .inr ⟨_, _, h, ?_, ?_, ?_, ?_⟩)
    · have := q.den_pos
      exact Int.mul_pos (by omega) (by omega)
    · rw [Int.natAbs_mul]
      have : 2 ^ 1900 * 4 ≤ SZ := by decide +kernel
      have : i.natAbs ≤ 3 := by omega
      have := Nat.mul_le_mul_left q.num.natAbs this
      omega
    · rw [Int.natAbs_mul, Int.natAbs_natCast]
      have : 2 ^ 1900 * 4 ≤ SZ := by decide +kernel
      have : i.natAbs ≤ 3 := by omega
      have := Nat.mul_le_mul_left q.den this
      omega
    · rw [Rat.divInt_mul_right (by omega), Rat.num_divInt_den]
theorem sc133 : FnScope ["_law_store_here", "_law_width"] ["_law_store_here"] (defScope (top 133)) := ⟨rfl, rfl, rfl, by decide +kernel, rfl, by decide +kernel, by decide +kernel⟩
def capR (w : Nat) : Nat := [0, 9, 7, 4, 3, 3].getD w 0
theorem ok_frame (T : Txt K mg) : Ok P w K mg base 4 "_law_frame" ["_law_store_here"] (DrwSp (fun _ : Unit => []) (fun _ => True) (fun _ => tEx (fun z : Nat × Nat => (1 ≤ z.1 ∧ z.1 ≤ 5) ∧ z.2 < capR z.1) fun z => tTup K [tI (z.1 : Nat), tI (z.2 : Nat)])) := by
  refine T.d__law_frame.okS sc133 (fun _ => rfl) (fun _ _ _ _ _ _ us hl => match us, hl with | [_], _ => rfl) fun f cdv A outer s H E M p hp _ hr _ => ?_
  show PB _ _ [some (tR p), none] _ _ _
  refine pletEx (P := fun i : Int => i ∈ [2, 2, 2, 2, 3, 3, 1, 4, 5, 2]) (T := tI) sc133.nd 1 (px_ixDraw (n := (10 : Nat)) rfl (px_lst (pxs_cons px_int (pxs_cons px_int (pxs_cons px_int (pxs_cons px_int (pxs_cons px_int (pxs_cons px_int (pxs_cons px_int (pxs_cons px_int (pxs_cons px_int (pxs_cons px_int pxs_nil))))))))))) (px_take (ok_take T) st_C 10 (by decide) (by decide) hr (va 0 rfl) px_int)) fun i hi => ?_
  have h5 : i = 1 ∨ i = 2 ∨ i = 3 ∨ i = 4 ∨ i = 5 := by
    simp only [List.mem_cons, List.not_mem_nil, or_false] at hi
    omega
  obtain ⟨w', rfl⟩ : ∃ w' : Nat, i = (w' : Int) := ⟨i.toNat, by omega⟩
  have h6 : w' = 1 ∨ w' = 2 ∨ w' = 3 ∨ w' = 4 ∨ w' = 5 := by omega
  have hat : atI (α := Ty) [tI 9, tI 7, tI 4, tI 3, tI 3] ((w' : Int) - 1) = some (tI ((capR w' : Nat) : Int)) := by
    rcases h6 with rfl | rfl | rfl | rfl | rfl <;> rfl
  have hc : 2 ≤ capR w' ∧ capR w' < 1000000 := by
    rcases h6 with rfl | rfl | rfl | rfl | rfl <;> decide
  refine pb_retS ext_st ((px_tup (Ts := [tI (w' : Int), tBelow ((capR w' : Nat) : Int)]) (pxs_cons (va 1 rfl) (pxs_cons (px_draw (ok_edge T) st_C (capR w') (congrArg tBelow (if_neg (by omega))) hr (pxs_cons (va 0 rfl) (pxs_cons (px_ixL (px_lst (pxs_cons px_int (pxs_cons px_int (pxs_cons px_int (pxs_cons px_int (pxs_cons px_int pxs_nil)))))) (px_sub (va 1 rfl) px_int) hat) pxs_nil)) hc.2) pxs_nil))).sub ?_)
  rintro H v ⟨a, xs, e, h2, h3⟩
  cases h3 with
  | cons h3 t =>
    cases t with
    | cons h4 t =>
      obtain ⟨r, hr', h4⟩ := h4
      obtain ⟨r', rfl⟩ : ∃ r' : Nat, r = (r' : Int) := ⟨r.toNat, by omega⟩
      exact ⟨(w', r'), ⟨⟨by show 1 ≤ w'; omega, by show w' ≤ 5; omega⟩, by show r' < capR w'; omega⟩, a, _, e, h2, .cons h3 (.cons h4 t)⟩
theorem sc126 : FnScope ["_law_store_here", "_law_signs", "_law_size", "_law_found", "_law_k"] ["_law_store_here", "_law_signs", "_law_size"] (defScope (top 126)) := ⟨rfl, rfl, rfl, by decide +kernel, rfl, by decide +kernel, by decide +kernel⟩
def DigW (w n : Nat) (ds : List Nat) : Prop := ds.length = n ∧ ∀ d ∈ ds, d < w
theorem ok_free (T : Txt K mg) : Ok P w K mg base 3 "_law_free" ["_law_store_here", "_law_signs", "_law_size"] (DrwSp (fun z : Nat × Nat => [tS (tx (List.range z.1)), tI (z.2 : Nat)]) (fun z => (1 ≤ z.1 ∧ z.1 ≤ 5) ∧ z.2 ≤ 100) (fun z => tEx (DigW z.1 z.2) fun ds => tS (tx ds))) := by
  refine T.d__law_free.okS sc126 (fun _ => rfl) (fun _ _ _ _ _ _ us hl => match us, hl with | [_, _, _], _ => rfl) fun f cdv A outer s H E M p hp z hr hz => ?_
  obtain ⟨w', n⟩ := z
  obtain ⟨⟨hw1, hw5⟩, hn⟩ := hz
  replace hn : n ≤ 100 := hn
  show PB _ _ [some (tR p), some (tS (tx (List.range w'))), some (tI (n : Nat)), none, none] _ _ _
  refine plet sc126.nd 3 (px_str.sub (U := tEx (DigW w' 0) fun ds => tS (tx ds)) fun H v h => ⟨[], ⟨rfl, fun _ h => (List.not_mem_nil h).elim⟩, h⟩) ?_
  refine pb_forN (j := 4) (l := List.range n) (tA := fun i => tI ((i : Nat) : Int)) PassesOwn.never rfl (pix_range1 T.f_range (va 2 rfl) (by omega)) (fun _ => HC.st H M p hp) (fun i => [some (tR p), some (tS (tx (List.range w'))), some (tI (n : Nat)), some (tEx (DigW w' i) fun ds => tS (tx ds)), none]) sc126.nd rfl (.inl rfl) (fun _ => rfl) (fun _ _ h => h) (fun i a ha => ?_) ?_
  · obtain ⟨hin, rfl⟩ := range_at ha
    have hlen : ((tx (List.range w')).length : Nat) = w' := by rw [tx_len, List.length_range]
    refine plet (T := tEx (DigW w' (a + 1)) fun ds => tS (tx ds)) sc126.nd 3 (px_op op_add_str (T := tEx (DigW w' a) fun ds => tS (tx ds)) (U := tEx (fun d : Nat => d < w') fun d => tS (dig d)) (r2_exL fun ds hds => r2_exR fun d hd => fun H x y Q _ hx hy q => ⟨tx ds, dig d, hx, hy, ?_, q _ H (Ex.refl H) ⟨ds ++ [d], ⟨?_, ?_⟩, ?_⟩⟩) (va 3 rfl)
      (px_ixR ix_str (T := tS (tx (List.range w'))) (U := tBelow (w' : Int)) (r2_exR fun i hi H x y Q _ hx hy q => ⟨tx (List.range w'), i, 48 + i.toNat, hx, hy, ?_, ?_, q _ H (Ex.refl H) ⟨i.toNat, by omega, rfl⟩⟩) (va 1 rfl) (px_draw (ok_take T) st_C w' (congrArg tBelow (show (if w' < 2 then (1 : Int) else (w' : Int)) = (w' : Int) by split <;> omega)) hr (pxs_cons (va 0 rfl) (pxs_cons ((px_lenS T.f_len (va 1 rfl) (Nat.le_trans (show (tx (List.range w')).length ≤ 100 by omega) (by decide))).cast (congrArg tI (congrArg (Nat.cast : Nat → Int) hlen))) pxs_nil)) (show w' < 1000000 by omega)) (by intro _ _; rfl))) (pb_endI (gi_keep (gi_keep (gi_keep (gi_keep (gi_drop gi_nil))))))
    · rw [tx_len]
      show ds.length + 1 ≤ _
      rw [hds.1]
      exact Nat.le_trans (show a + 1 ≤ 200 by omega) (by decide)
    · rw [List.length_append, hds.1]
      rfl
    · intro e he
      rcases List.mem_append.mp he with h | h
      · exact hds.2 e h
      · rw [List.mem_singleton.mp h]; exact hd
    · exact congrArg V.str (tx_snoc ds d)
    · rw [hlen]
      exact Nat.le_trans (show w' ≤ 200 by omega) (by decide)
    · obtain ⟨j, rfl⟩ : ∃ j : Nat, i = (j : Int) := ⟨i.toNat, by omega⟩
      rw [tx_codes]
      have hj : j < w' := by omega
      refine atI_nat ?_
      rw [List.getElem?_map, List.getElem?_range hj]
      rfl
  · rw [List.length_range]
    exact pb_retS ext_st (va 3 rfl)
end
end Nb
end -- S3
section -- S4
set_option maxHeartbeats 1000000
namespace Nb
open PySem PySem.Spec PyProof.Rows L2
section
variable {X : Cx} {C : HC} {G : Env} {a b c e : Expr} {T U : Ty} {Ts Us : List Ty} {pos p2 : Pos} {rest A B : List Stmt} {Rt : RT} {x : Bool}
theorem px_slLE {P : Int → Prop} (ha : PX X C G a (tLst Ts)) (hh : PX X C G e (tEx P tI)) : PX X C G (.Subscript a (.Slice none (some e) none p2) pos) (tEx P fun i => tLst (cutT Ts none (some i))) :=
  PE.imp (pe_slice sl_list ha pox_none (po_some hh)) fun σ H Q ⟨ok, q⟩ => ⟨ok, fun v H1 x1 e1 ⟨o, xs, h1, h2, h3⟩ => ⟨x1, fun H2 x2 e2 => ⟨x2, fun w H3 x3 e3 ⟨i, hi, hw⟩ => ⟨i, hw, o, xs, h1, sqL_of_hid (e3 _ _ (e2 _ _ h2)), fun p hp => by
    have e4 : Ex H3 (upd H3 p (.lst (cutV xs none (some i)))) := Ex.new hp
    have hz : TyAll (hid C.M H1) (cutV xs none (some i)) (cutT Ts none (some i)) := by
      unfold cutV cutT
      rw [h3.length]
      exact (h3.drop _).take _
    exact q _ _ (x3.ex e4) (((e1.trans e2).trans e3).trans (hid_mono e4)) ⟨i, hi, p, _, rfl, hid_of (x3.base.fresh hp) upd_same, hz.mono ((e2.trans e3).trans (hid_mono e4))⟩⟩⟩⟩⟩
theorem px_catE {β : Type} {P : β → Prop} {Us : β → List Ty} (ha : PX X C G a (tLst Ts)) (hb : PX X C G b (tEx P fun z => tLst (Us z))) (hz : ∀ z, P z → Ts.length + (Us z).length ≤ 1000000) : PX X C G (.BinOp a .Add b pos) (tEx P fun z => tLst (Ts ++ Us z)) :=
  px_op op_cat (T := tLst Ts) (U := tEx P fun z => tLst (Us z)) (fun H x y Q bs hx ⟨z, hP, hy⟩ q => by
    obtain ⟨a, xs, rfl, h2, h3⟩ := hx
    obtain ⟨b, ys, rfl, h4, h5⟩ := hy
    refine ⟨a, b, xs, ys, rfl, rfl, hid_le _ _ h2, hid_le _ _ h4, by rw [h3.length, h5.length]; exact Nat.le_trans (hz z hP) (by decide), fun l hl => ?_⟩
    have e2 : Ex H (upd H l (.lst (xs ++ ys))) := Ex.new hl
    exact q _ _ e2 ⟨z, hP, l, _, rfl, hid_of (bs.fresh hl) upd_same, TyAll.mono (hid_mono e2) (h3.append h5)⟩) ha hb
theorem cutT_map {α β : Type} (f : α → β) (l : List α) (lo hi : Option Int) : cutT (l.map f) lo hi = (cutT l lo hi).map f := by
  unfold cutT
  rw [List.length_map, List.map_take, List.map_drop]
theorem cutT_mem {α : Type} {l : List α} {lo hi : Option Int} {x : α} (h : x ∈ cutT l lo hi) : x ∈ l := List.mem_of_mem_drop (List.mem_of_mem_take h)
theorem cutT_len {α : Type} (l : List α) (lo hi : Option Int) : (cutT l lo hi).length ≤ l.length := by
  unfold cutT
  rw [List.length_take, List.length_drop]
  omega
theorem pb_ifJ {Nx1 : NX} (hc : PXt X C G c x) (hA : x = true → PB X C G A Nx1 Rt) (hB : x = false → PB X C G B Nx1 Rt) (hr : PSs X rest (fun D σ H => Nx1 σ H ∧ ∀ v H', Rt v H' → D.rt v H')) : PB X C G (.If c A B pos :: rest) (fun _ _ => False) Rt :=
  PSs.imp (pss_cons (ps_if hc (PB_when hA) (PB_when hB)) hr) fun D σ H ⟨ok, q1, q2⟩ => ⟨ok, fun H1 x1 e1 => by
    cases x with
    | true => exact ⟨rfl, x1, fun σ' H' n e => ⟨n, q2⟩, q2⟩
    | false => exact ⟨rfl, x1, fun σ' H' n e => ⟨n, q2⟩, q2⟩⟩
theorem EnvOk.dropown {o o1 : Addr} {σ : St} {H : Hp} (x : EnvOk ((C.own o Ts).own o1 Us) G σ H) : EnvOk (C.own o1 Us) G σ H := by
  obtain ⟨⟨h1, h2, h3, _⟩, h4, h5, xs, h6, h7⟩ := id x.base.om
  have le : Ex (hid ((C.own o Ts).own o1 Us).M H) (hid (C.own o1 Us).M H) := hid_less fun a h => by
    have h' : (a == o1 || C.M a) = true := h
    show (a == o1 || (a == o || C.M a)) = true
    rw [Bool.or_eq_true] at h' ⊢
    rcases h' with h' | h'
    · exact .inl h'
    · exact .inr (by rw [h', Bool.or_true])
  have m1 : C.M o1 = false := by
    have h4' : (o1 == o || C.M o1) = false := h4
    exact (Bool.or_eq_false_iff.mp h4').2
  refine ⟨⟨x.base.old, fun a m => x.base.hidd a ?_, C.om (Ex.refl H) (hid_less fun a h => ?_) h1, m1, h5, xs, h6, h7.mono le⟩, x.env.imp fun _ _ h => h.mono le⟩
  · have h' : (a == o1 || C.M a) = true := m
    show (a == o1 || (a == o || C.M a)) = true
    rw [Bool.or_eq_true] at h' ⊢
    rcases h' with h' | h'
    · exact .inl h'
    · exact .inr (by rw [h', Bool.or_true])
  · have h' : (a == o1 || C.M a) = true := h
    show (a == o1 || (a == o || C.M a)) = true
    rw [Bool.or_eq_true] at h' ⊢
    rcases h' with h' | h'
    · exact .inl h'
    · exact .inr (by rw [h', Bool.or_true])
end
section
variable {K : PySem.W.Frag} {mg : Str → Option Value} {base : Heap} {P : Program} {w : World}
theorem sc136 : FnScope ["_law_store_here", "_law_width", "_law_rounds", "_law_one_in", "_law_found", "_law_text"] ["_law_store_here", "_law_width", "_law_rounds"] (defScope (top 136)) := ⟨rfl, rfl, rfl, by decide +kernel, rfl, by decide +kernel, by decide +kernel⟩
def StopsOk (w r : Nat) (ss : List Str) : Prop := (∀ s ∈ ss, s ∈ begs w (off w r)) ∧ ss.length ≤ 1000
theorem cut_few {α : Type} {l : List α} {i : Int} (h : i < 3) : (cutT l none (some i)).length ≤ l.length ∧ (0 ≤ i → (cutT l none (some i)).length ≤ 2) := by
  refine ⟨cutT_len l none (some i), fun h0 => ?_⟩
  unfold cutT
  rw [List.length_take]
  have e : HT.sIx l.length l.length (some i) ≤ 2 := by unfold HT.sIx; simp; rw [if_neg (by omega)]; omega
  omega
theorem ok_some (T : Txt K mg) : Ok P w K mg base 3 "_law_some" ["_law_store_here", "_law_width", "_law_rounds"] (DrwSp (fun z : Nat × Nat => [tI (z.1 : Nat), tI (z.2 : Nat)]) (fun z => Hasw z.1 z.2) (fun z => tEx (StopsOk z.1 z.2) fun ss => tLst (ss.map tS))) := by
  refine T.d__law_some.okS sc136 (fun _ => rfl) (fun _ _ _ _ _ _ us hl => match us, hl with | [_, _, _], _ => rfl) fun f cdv A outer s H E M p hp z hr hw => ?_
  obtain ⟨w', r⟩ := z
  replace hw : Hasw w' r := hw
  have hoff := Nat.le_trans (off_le (w := w') (Nat.le_succ r)) (hasw_off hw)
  show PB _ _ [some (tR p), some (tI (w' : Nat)), some (tI (r : Nat)), none, none, none] _ _ _
  refine pletEx (P := fun i : Int => 2 ≤ i ∧ i ≤ 5) (T := tI) sc136.nd 3 (px_op op_add (T := tI 2) (U := tBelow 4) (r2_exR fun i hi => r2_I0.post fun H v h => ⟨_, ⟨by omega, by omega⟩, h⟩) px_int (px_take (ok_take T) st_C 4 (by decide) (by decide) hr (va 0 rfl) px_int)) fun i hi => ?_
  obtain ⟨n, rfl⟩ : ∃ n : Nat, i = (n : Int) := ⟨i.toNat, by omega⟩
  refine pb_letEx (i := 4) (set_lcE (own := [("_law_text", 5)]) (l := begs w' (off w' r)) (tA := tS) (E := tS) (js := [5]) (Gt := fun s => [some (tR p), some (tI (w' : Nat)), some (tI (r : Nat)), some (tI (n : Int)), none, some (tS s)]) rfl sc136.nd rfl rfl (sw_true rfl rfl rfl (by decide +kernel)) (pix_list (px_call (ok_linner T) (w', r) rfl hr (pxs_cons (va 1 rfl) (pxs_cons (va 2 rfl) pxs_nil)) hw)) (blkOk_by (by kernel_rfl)) (by decide) (by rw [begs_len]; omega) (fun s H D cl fp d Vs a => nm sc136.nd 5)
    (fun s H D cl fp d Vs a _ _ => pts_one (pxtE_eq (px_take (ok_take T) st_C.own n (by omega) (by omega) hr (va 0 rfl) (va 3 rfl)) px_int)) (fun s H D cl fp d Vs a _ _ => va 5 rfl)) fun zs hz => ?_
  have hzl : zs.length ≤ 511 := by have := hz.2; rw [begs_len] at this; omega
  have hcl : ∀ i : Int, (cutT (zs.map tS) none (some i)).length ≤ zs.length := fun i => by have := cutT_len (zs.map tS) none (some i); rwa [List.length_map] at this
  refine pb_retS ext_st ((px_catE (Us := fun i => cutT (zs.map tS) none (some i)) (px_revL (va 4 rfl)) (px_slLE (va 4 rfl) (px_take (ok_take T) st_C 3 (by decide) (by decide) hr (va 0 rfl) px_int)) (fun i _ => ?_)).sub fun H v h => ?_)
  · have := hcl i
    rw [List.length_reverse, List.length_map]
    omega
  · obtain ⟨i, hi3, h⟩ := h
    refine ⟨zs.reverse ++ cutT zs none (some i), ⟨fun s hs => ?_, ?_⟩, ?_⟩
    · rcases List.mem_append.mp hs with h | h
      · exact hz.1 s (List.mem_reverse.mp h)
      · exact hz.1 s (cutT_mem h)
    · have := (cut_few (l := zs) hi3.2).2 hi3.1
      rw [List.length_append, List.length_reverse]
      omega
    · show (tLst ((zs.reverse ++ cutT zs none (some i)).map tS)).P H v
      rw [List.map_append, List.map_reverse, ← cutT_map]
      exact h
end
end Nb
end -- S4
section -- S5
set_option maxHeartbeats 1000000
namespace Nb
open PySem PySem.Spec PyProof.Rows L2
/-- a sharing whose parts have small denominators -/
structure ShL (w : Nat) (l : List Rat) : Prop where
  len : l.length = w
  fr : ∀ q ∈ l, Fr LL q
  lo : ∀ q ∈ l, 0 ≤ q
  hi : ∀ q ∈ l, q ≤ 31
  one : qsum l = 1
theorem sum_nn {ns : List Int} (h : ∀ n ∈ ns, 0 ≤ n) : 0 ≤ ns.sum := by
  induction ns with
  | nil => decide
  | cons n ns ih =>
    rw [List.sum_cons]
    have := h n List.mem_cons_self
    have := ih fun m hm => h m (List.mem_cons_of_mem _ hm)
    omega
theorem sum_le {ns : List Int} {b : Int} (h : ∀ n ∈ ns, n ≤ b) : ns.sum ≤ b * (ns.length : Nat) := by
  induction ns with
  | nil => simp
  | cons n ns ih =>
    rw [List.sum_cons, List.length_cons]
    have := h n List.mem_cons_self
    have := ih fun m hm => h m (List.mem_cons_of_mem _ hm)
    rw [Int.natCast_succ, Int.mul_add]
    omega
theorem sum_ones {ns : List Int} (h : ∀ n ∈ ns, n = 1) : ns.sum = (ns.length : Nat) := by
  induction ns with
  | nil => rfl
  | cons n ns ih =>
    rw [List.sum_cons, List.length_cons, ih fun m hm => h m (List.mem_cons_of_mem _ hm), h n List.mem_cons_self]
    omega
theorem sum_set {ns : List Int} {d : Int} : ∀ {i : Nat}, i < ns.length → (ns.set i (ns.getD i 0 + d)).sum = ns.sum + d := by
  induction ns with
  | nil => intro i h; exact absurd h (by simp)
  | cons n ns ih =>
    intro i h
    cases i with
    | zero =>
      rw [List.set_cons_zero, List.sum_cons, List.sum_cons]
      show n + d + ns.sum = _
      omega
    | succ i =>
      rw [List.set_cons_succ, List.sum_cons, List.sum_cons]
      have := ih (i := i) (by simpa using h)
      show n + (ns.set i (ns.getD i 0 + d)).sum = _
      omega
theorem qsum_div {ns : List Int} {W : Int} : qsum (ns.map fun n => Rat.divInt n W) = Rat.divInt ns.sum W := by
  rw [Rat.divInt_eq_div]
  induction ns with
  | nil =>
    show (0 : Rat) = ((0 : Int) : Rat) / (W : Rat)
    rw [show ((0 : Int) : Rat) = 0 from rfl, Rat.div_def, Rat.zero_mul]
  | cons n ns ih =>
    rw [List.map_cons, qsum_cons, ih, List.sum_cons, Rat.divInt_eq_div, Rat.intCast_add, Rat.div_def, Rat.div_def, Rat.div_def, Rat.add_mul]
theorem shl_of {w : Nat} {ns : List Int} (hl : ns.length = w) (h0 : ∀ n ∈ ns, 0 ≤ n) (h1 : ∀ n ∈ ns, n ≤ 31) (s0 : 1 ≤ ns.sum) (s1 : ns.sum ≤ 31) : ShL w (ns.map fun n => Rat.divInt n ns.sum) := by
  obtain ⟨d, hd⟩ : ∃ d : Nat, ns.sum = (d : Int) := ⟨ns.sum.toNat, by omega⟩
  rw [hd] at s0 s1
  have hd0 : (0 : Rat) < (((d : Nat) : Int) : Rat) := by
    have : (((0 : Int)) : Rat) < (((d : Nat) : Int) : Rat) := Rat.intCast_lt_intCast.mpr (by omega)
    simpa using this
  refine ⟨by rw [List.length_map, hl], fun q hq => ?_, fun q hq => ?_, fun q hq => ?_, ?_⟩
  · obtain ⟨n, hn, rfl⟩ := List.mem_map.mp hq
    rw [hd]
    exact fr_div (by omega) (dvd_LL (by omega) (by omega))
  · obtain ⟨n, hn, rfl⟩ := List.mem_map.mp hq
    rw [hd, Rat.divInt_eq_div]
    apply Rat.not_lt.mp
    rw [Rat.div_lt_iff hd0]
    intro h6
    rw [Rat.zero_mul] at h6
    have h5 : ((0 : Int) : Rat) ≤ (n : Rat) := Rat.intCast_le_intCast.mpr (h0 n hn)
    exact Rat.not_lt.mpr h5 h6
  · obtain ⟨n, hn, rfl⟩ := List.mem_map.mp hq
    rw [hd, Rat.divInt_eq_div]
    apply Rat.not_lt.mp
    intro h6
    have h5 : (n : Rat) ≤ ((31 * (d : Int) : Int) : Rat) := Rat.intCast_le_intCast.mpr (by have := h1 n hn; omega)
    rw [Rat.intCast_mul] at h5
    have h7 := Rat.mul_lt_mul_of_pos_right h6 hd0
    have h8 : (n : Rat) / (((d : Nat) : Int) : Rat) * (((d : Nat) : Int) : Rat) = n := by
      have : (((d : Nat) : Int) : Rat) ≠ 0 := fun z => by rw [z] at hd0; exact Rat.lt_irrefl hd0
      grind
    rw [h8] at h7
    exact Rat.not_lt.mpr h5 h7
  · rw [qsum_div, hd, Rat.divInt_eq_div]
    have : (((d : Nat) : Int) : Rat) ≠ 0 := fun z => by rw [z] at hd0; exact Rat.lt_irrefl hd0
    grind
theorem pb_ownEx {X : Cx} {C : HC} {G : Env} {o : Addr} {α β : Type} {l : List α} {p : β → Prop} {T : β → Ty} {ss : List Stmt} {Nx : NX} {Rt : RT} (h : ∀ zs : List β, zs.length = l.length → (∀ z ∈ zs, p z) → PB X (C.own o (zs.map T)) G ss Nx Rt) : PB X (C.own o (l.map fun _ => tEx p T)) G ss Nx Rt :=
  PSs.imp (PB_ex fun zs : List β => PB_when fun hz : zs.length = l.length ∧ ∀ z ∈ zs, p z => h zs hz.1 hz.2) fun D σ H ⟨ok, q1, q2⟩ => by
    obtain ⟨h1, h2, h3, xs, h4, h5⟩ := id ok.base.om
    obtain ⟨zs, k1, k2, k3⟩ := all_ex h5
    exact ⟨zs, ⟨k1, k2⟩, ⟨⟨ok.base.old, ok.base.hidd, h1, h2, h3, xs, h4, k3⟩, ok.env⟩, q1, q2⟩
section
variable {K : PySem.W.Frag} {mg : Str → Option Value} {base : Heap} {P : Program} {w : World}
theorem sc130 : FnScope ["_law_store_here", "_law_width", "_law_kind", "_law_weights", "_law_at", "_law_whole", "_law_y", "_law_weight"] ["_law_store_here", "_law_width"] (defScope (top 130)) := ⟨rfl, rfl, rfl, by decide +kernel, rfl, by decide +kernel, by decide +kernel⟩
/-- the weights, before one more is given -/
structure WtOk (w : Nat) (kd : Int) (ns : List Int) : Prop where
  len : ns.length = w
  lo : ∀ n ∈ ns, 0 ≤ n
  hi : ∀ n ∈ ns, n ≤ 6
  one : kd = 1 → ∀ n ∈ ns, n = 1
theorem wt_end {w : Nat} {kd : Int} {ns : List Int} (h : WtOk w kd ns) (h5 : w ≤ 5) {i : Nat} (hi : i < w) : ShL w ((ns.set i (ns.getD i 0 + (if kd = 1 then 0 else 1))).map fun n => Rat.divInt n (ns.set i (ns.getD i 0 + (if kd = 1 then 0 else 1))).sum) := by
  have hil : i < ns.length := by rw [h.len]; exact hi
  have hm : ns.getD i 0 ∈ ns := by
    rw [List.getD_eq_getElem?_getD, List.getElem?_eq_getElem hil]
    exact List.getElem_mem hil
  have hs := sum_set (ns := ns) (d := if kd = 1 then 0 else 1) hil
  have hs0 := sum_nn h.lo
  have hs1 := sum_le h.hi
  rw [h.len] at hs1
  have hd : (if kd = 1 then (0 : Int) else 1) = 0 ∧ kd = 1 ∨ (if kd = 1 then (0 : Int) else 1) = 1 := by
    by_cases hk : kd = 1
    · exact .inl ⟨if_pos hk, hk⟩
    · exact .inr (if_neg hk)
  have a1 := h.lo _ hm
  have a2 := h.hi _ hm
  refine shl_of (by rw [List.length_set, h.len]) (fun n hn => ?_) (fun n hn => ?_) ?_ ?_
  · rcases List.mem_or_eq_of_mem_set hn with h1 | h1
    · exact h.lo n h1
    · omega
  · rcases List.mem_or_eq_of_mem_set hn with h1 | h1
    · have := h.hi n h1; omega
    · omega
  · rw [hs]
    rcases hd with ⟨h1, hk⟩ | h1
    · rw [h1, sum_ones (h.one hk), h.len]; omega
    · omega
  · rw [hs]; omega
theorem wt_small {w : Nat} {kd : Int} {ns : List Int} (h : WtOk w kd ns) (h5 : w ≤ 5) {i : Nat} (hi : i < w) : 0 < (ns.set i (ns.getD i 0 + (if kd = 1 then 0 else 1))).sum ∧ (∀ n ∈ ns.set i (ns.getD i 0 + (if kd = 1 then 0 else 1)), n.natAbs < 100) ∧ (ns.set i (ns.getD i 0 + (if kd = 1 then 0 else 1))).sum < 100 := by
  have hil : i < ns.length := by rw [h.len]; exact hi
  have hm : ns.getD i 0 ∈ ns := by
    rw [List.getD_eq_getElem?_getD, List.getElem?_eq_getElem hil]
    exact List.getElem_mem hil
  have hs := sum_set (ns := ns) (d := if kd = 1 then 0 else 1) hil
  have hs0 := sum_nn h.lo
  have hs1 := sum_le h.hi
  rw [h.len] at hs1
  have hd : (if kd = 1 then (0 : Int) else 1) = 0 ∧ kd = 1 ∨ (if kd = 1 then (0 : Int) else 1) = 1 := by
    by_cases hk : kd = 1
    · exact .inl ⟨if_pos hk, hk⟩
    · exact .inr (if_neg hk)
  have a1 := h.lo _ hm
  have a2 := h.hi _ hm
  refine ⟨?_, fun n hn => ?_, ?_⟩
  · rw [hs]
    rcases hd with ⟨h1, hk⟩ | h1
    · rw [h1, sum_ones (h.one hk), h.len]; omega
    · omega
  · rcases List.mem_or_eq_of_mem_set hn with h1 | h1
    · have := h.hi n h1; have := h.lo n h1; omega
    · omega
  · rw [hs]; omega
theorem ok_dealt (T : Txt K mg) : Ok P w K mg base 3 "_law_dealt" ["_law_store_here", "_law_width"] (DrwSp (fun n : Nat => [tI (n : Int)]) (fun n => 1 ≤ n ∧ n ≤ 5) (fun n => tEx (ShL n) fun l => tLst (l.map (tQ K)))) := by
  refine T.d__law_dealt.okS sc130 (fun _ => rfl) (fun _ _ _ _ _ _ us hl => match us, hl with | [_, _], _ => rfl) fun f cdv A outer s H E M p hp w' hr hw => ?_
  obtain ⟨hw1, hw5⟩ := hw
  show PB _ _ [some (tR p), some (tI (w' : Nat)), none, none, none, none, none, none] _ _ _
  refine pletEx sc130.nd 2 (px_take (ok_take T) st_C 4 (by decide) (by decide) hr (va 0 rfl) px_int) fun kd hkd => ?_
  refine pb_letO (i := 3) (set_lcO (t := fun _ => true) (own := [("_law_y", 6)]) (l := List.range w') (tA := fun i => tI ((i : Nat) : Int)) (E := fun _ => tBelow 7) (js := [6]) (Gt := fun i => [some (tR p), some (tI (w' : Nat)), some (tI kd), none, none, none, some (tI ((i : Nat) : Int)), none]) rfl sc130.nd rfl rfl (sw_true rfl rfl rfl (by decide +kernel)) (pix_range1 T.f_range (va 1 rfl) (by omega)) (blkOk_by (by kernel_rfl)) (by decide) (by rw [List.length_range]; omega) (fun s H D cl fp d Vs a => nm sc130.nd 6)
    (fun s H D cl fp d Vs a _ _ => pts_yes) (fun s H D cl fp d Vs a _ _ _ => px_take (ok_take T) st_C.own 7 (by decide) (by decide) hr (va 0 rfl) px_int)) fun o => ?_
  rw [filter_yes]
  refine pb_ownEx fun ns hnl hn => ?_
  rw [List.length_range] at hnl
  refine pb_ifJ (x := decide (kd < 2)) (Nx1 := fun σ H' => ∃ z : Addr × List Int, WtOk w' kd z.2 ∧ EnvOk ((HC.st H M p hp).own z.1 (z.2.map tI)) [some (tR p), some (tI (w' : Nat)), some (tI kd), some (tR z.1), none, none, none, none] σ H') (pxt_lt (va 2 rfl) px_int) (fun ht => ?_) (fun ht => ?_) ?_
  · have h2 : kd < 2 := of_decide_eq_true ht
    refine pb_letO (i := 3) (set_lcO (t := fun _ => true) (own := [("_law_y", 6)]) (l := List.range w') (tA := fun i => tI ((i : Nat) : Int)) (E := fun _ => tI kd) (js := [6]) (Gt := fun i => [some (tR p), some (tI (w' : Nat)), some (tI kd), some (tR o), none, none, some (tI ((i : Nat) : Int)), none]) rfl sc130.nd rfl rfl (sw_true rfl rfl rfl (by decide +kernel)) (pix_range1 T.f_range (va 1 rfl) (by omega)) (blkOk_by (by kernel_rfl)) (by decide) (by rw [List.length_range]; omega) (fun s H D cl fp d Vs a => nm sc130.nd 6)
      (fun s H D cl fp d Vs a _ _ => pts_yes) (fun s H D cl fp d Vs a _ _ _ => va 2 rfl)) fun o1 => ?_
    rw [filter_yes]
    refine pb_nil fun σ H' h => ⟨(o1, (List.range w').map fun _ => kd), ⟨by simp, fun n hn => ?_, fun n hn => ?_, fun hk n hn => ?_⟩, ?_⟩
    · obtain ⟨_, _, rfl⟩ := List.mem_map.mp hn; omega
    · obtain ⟨_, _, rfl⟩ := List.mem_map.mp hn; omega
    · obtain ⟨_, _, rfl⟩ := List.mem_map.mp hn; exact hk
    · rw [List.map_map]
      exact h.dropown.imp (gi_keep (gi_keep (gi_keep (gi_keep (gi_keep (gi_keep (gi_keep (gi_keep gi_nil))))))))
  · have h2 : ¬ kd < 2 := of_decide_eq_false ht
    exact pb_nil fun σ H' h => ⟨(o, ns), ⟨hnl, fun n hn' => (hn n hn').1, fun n hn' => by have := (hn n hn').2; omega, fun hk => by omega⟩, h.imp (gi_keep (gi_keep (gi_keep (gi_keep (gi_keep (gi_keep (gi_keep (gi_keep gi_nil))))))))⟩
  · refine PSs.imp (PB_ex fun z : Addr × List Int => PB_when fun hz : WtOk w' kd z.2 => (?_ : PB _ ((HC.st H M p hp).own z.1 (z.2.map tI)) [some (tR p), some (tI (w' : Nat)), some (tI kd), some (tR z.1), none, none, none, none] _ (fun _ _ => False) (RtS p (HC.st H M p hp) (tEx (ShL w') fun l => tLst (l.map (tQ K)))))) fun D σ H' ⟨⟨z, hz, ok⟩, q2⟩ => ⟨z, hz, ok, fun _ _ h => h.elim, q2⟩
    obtain ⟨o, ns⟩ := z
    refine pletEx sc130.nd 4 (px_draw (ok_take T) st_C.own w' (T := tBelow (w' : Int)) (congrArg tBelow (show (if w' < 2 then (1 : Int) else (w' : Int)) = (w' : Int) by split <;> omega)) hr (pxs_cons (va 0 rfl) (pxs_cons (va 1 rfl) pxs_nil)) (show w' < 1000000 by omega)) fun i hi => ?_
    obtain ⟨j, rfl⟩ : ∃ j : Nat, i = (j : Int) := ⟨i.toNat, by omega⟩
    have hj : j < w' := by omega
    have hjl : j < ns.length := by have : ns.length = w' := hz.len; show j < ns.length; omega
    have hgt : (ns.map tI)[j]? = some (tI (ns.getD j 0)) := by
      rw [List.getElem?_map, List.getD_eq_getElem?_getD, List.getElem?_eq_getElem hjl]
      rfl
    have hat : atI (ns.map tI) (j : Int) = some (tI (ns.getD j 0)) := atI_nat hgt
    refine pset 3 (Us := (ns.set j (ns.getD j 0 + (if kd = 1 then 0 else 1))).map tI) (j := j) (T := tI (ns.getD j 0 + (if kd = 1 then 0 else 1))) (by rw [List.map_set]) ((px_add (px_ixO (i := 3) rfl rfl (.inl rfl) (va 4 rfl) hat) (px_toIntB T.f_int boot_int (px_ne (va 2 rfl) px_int))).cast (congrArg tI ?_)) (va 4 rfl) rfl (by rw [List.length_map]; exact hjl) ?_
    · by_cases hk : kd = 1
      · subst hk; rfl
      · rw [if_neg hk, decide_eq_false hk]; rfl
    · have hfin := wt_end hz hw5 hj
      have hsp : 0 < (ns.set j (ns.getD j 0 + (if kd = 1 then 0 else 1))).sum ∧ (∀ n ∈ ns.set j (ns.getD j 0 + (if kd = 1 then 0 else 1)), n.natAbs < 100) ∧ (ns.set j (ns.getD j 0 + (if kd = 1 then 0 else 1))).sum < 100 := wt_small hz hw5 hj
      generalize (ns.set j (ns.getD j 0 + (if kd = 1 then 0 else 1))) = ms at hfin hsp ⊢
      refine pb_freeze (i := 3) rfl ?_
      refine plet sc130.nd 5 (px_sumI rfl T.f_sum boot_sum (va 3 rfl)) ?_
      refine pb_retS ext_st (((px_lcN (j := 7) (own := [("_law_weight", 7)]) (l := ms) (tA := tI) (E := fun n => tQ K (Rat.divInt n ms.sum)) rfl sc130.nd (pix_list (va 3 rfl)) (blkOk_by (by kernel_rfl)) (by decide) (by have := hfin.len; rw [List.length_map] at this; omega) (fun s H D cl fp d Vs a => nm sc130.nd 7)
        (fun s H D cl fp d Vs n hn hd => px_call (ok_low T) (n, ms.sum) rfl hr (pxs_cons (va 7 rfl) (pxs_cons (va 5 rfl) pxs_nil)) ⟨hsp.1, Nat.lt_of_lt_of_le (hsp.2.1 n hn) (by decide +kernel), Nat.lt_of_lt_of_le (show ms.sum.natAbs < 100 by omega) (by decide +kernel)⟩)).cast (congrArg tLst (map_comp' (fun n => Rat.divInt n ms.sum) (tQ K) _))).sub fun H v h => ⟨_, hfin, h⟩)
end
end Nb
end -- S5
section -- M4
set_option maxHeartbeats 1000000
namespace Nb
open PySem PySem.Spec PyProof.Rows L2
theorem off_next (w k : Nat) : off w (k + 1) = w * off w k + 1 := rfl
theorem lev_ind {w r : Nat} (w0 : 0 < w) {P : Nat → Nat → Prop} (h0 : P 0 0) (hs : ∀ k i y, k < r → off w k ≤ i → i < off w (k + 1) → y < w → P k i → P (k + 1) (w * i + y + 1)) : ∀ k j, k ≤ r → off w k ≤ j → j < off w (k + 1) → P k j := by
  intro k
  induction k with
  | zero =>
    intro j _ h1 h2
    have h2' : j < w * 0 + 1 := h2
    have : j = 0 := by omega
    subst this; exact h0
  | succ k ih =>
    intro j hk h1 h2
    rw [off_next] at h1
    rw [off_next w (k + 1)] at h2
    have e : j = w * ((j - 1) / w) + (j - 1) % w + 1 := by
      have := Nat.div_add_mod (j - 1) w
      omega
    have hm := Nat.mod_lt (j - 1) w0
    have hi1 : off w k ≤ (j - 1) / w := (Nat.le_div_iff_mul_le w0).mpr (by rw [Nat.mul_comm]; omega)
    have hi2 : (j - 1) / w < off w (k + 1) := (Nat.div_lt_iff_lt_mul w0).mpr (by rw [Nat.mul_comm]; omega)
    rw [e]
    exact hs k _ _ (by omega) hi1 hi2 hm (ih _ (by omega) hi1 hi2)
structure ShsL (w n : Nat) (shs : List (List Rat)) : Prop where
  len : shs.length = n
  all : ∀ l ∈ shs, ShL w l
theorem LL_DD : LL ∣ DD := by decide +kernel
theorem Fr.dd {q : Rat} (h : Fr LL q) : Fr DD q := h.dvd LL_DD
theorem big_of {q : Rat} {b : Nat} (h : Fr DD q) (hb : b ≤ 2 ^ 60) (h1 : -(b : Rat) ≤ q) (h2 : q ≤ (b : Rat)) : Big q := by
  have : (b : Rat) ≤ ((2 ^ 60 : Nat) : Rat) := Rat.natCast_le_natCast.mpr hb
  exact ⟨h, by grind, by grind⟩
theorem ShL.big {w : Nat} {l : List Rat} (h : ShL w l) : ∀ q ∈ l, Big q := fun q hq => by
  have h1 := h.lo q hq
  have h2 := h.hi q hq
  exact big_of (b := 31) (h.fr q hq).dd (by decide) (by have : ((31 : Nat) : Rat) = 31 := rfl; grind) h2
theorem ShL.shr {w : Nat} {l : List Rat} (h : ShL w l) (h5 : w ≤ 5) : Shr w l := ⟨h.len, h.lo, h.one, szl_big (by rw [h.len]; omega) h.big⟩
theorem ShsL.shrs {w n : Nat} {shs : List (List Rat)} (h : ShsL w n shs) (h5 : w ≤ 5) : Shrs w n shs := ⟨h.len, fun l hl => (h.all l hl).shr h5⟩
theorem ShsL.row {w n i : Nat} {shs : List (List Rat)} (h : ShsL w n shs) (hi : i < n) : ShL w (shs.getD i []) := by
  have hi' : i < shs.length := by rw [h.len]; exact hi
  rw [List.getD_eq_getElem?_getD, List.getElem?_eq_getElem hi']
  exact h.all _ (List.getElem_mem hi')
theorem ShsL.mem {w n i y : Nat} {shs : List (List Rat)} (h : ShsL w n shs) (h5 : w ≤ 5) (hi : i < n) (hy : y < w) : shv shs i y ∈ shs.getD i [] := (h.shrs h5).mem hi hy
theorem ShsL.v {w n i y : Nat} {shs : List (List Rat)} (h : ShsL w n shs) (h5 : w ≤ 5) (hi : i < n) (hy : y < w) : Fr LL (shv shs i y) ∧ 0 ≤ shv shs i y ∧ shv shs i y ≤ 31 := by
  have hm := h.mem h5 hi hy
  exact ⟨(h.row hi).fr _ hm, (h.row hi).lo _ hm, (h.row hi).hi _ hm⟩
theorem missF_lev {w r n : Nat} {shs : List (List Rat)} (h : ShsL w n shs) (w0 : 0 < w) (h5 : w ≤ 5) (hn : off w r ≤ n) : ∀ k j, k ≤ r → off w k ≤ j → j < off w (k + 1) → Fr LL (missF w shs j) ∧ -((31 * k : Nat) : Rat) ≤ missF w shs j ∧ missF w shs j ≤ ((31 * k : Nat) : Rat) := by
  refine lev_ind w0 ?_ fun k i y hk h1 h2 hy ih => ?_
  · rw [show missF w shs 0 = 0 from recF_zero]
    exact ⟨Fr.zero, by decide, by decide⟩
  · rw [missF_child hy]
    have hin : i < n := Nat.lt_of_lt_of_le h2 (Nat.le_trans (off_le hk) hn)
    obtain ⟨v1, v2, v3⟩ := h.v h5 hin hy
    obtain ⟨i1, i2, i3⟩ := ih
    have e : ((31 * (k + 1) : Nat) : Rat) = ((31 * k : Nat) : Rat) + 31 := by
      rw [Nat.mul_add, Rat.natCast_add]; rfl
    rw [e]
    exact ⟨i1.add (Fr.one.sub v1), by grind, by grind⟩
theorem missF_big {w r n j : Nat} {shs : List (List Rat)} (h : ShsL w n shs) (hw : Hasw w r) (hn : off w r ≤ n) (hj : j < off w (r + 1)) : Fr LL (missF w shs j) ∧ -(300 : Rat) ≤ missF w shs j ∧ missF w shs j ≤ 300 := by
  have w0 : 0 < w := hw.1.1
  have r8 := hw.r8
  obtain ⟨k, hk, h1, h2⟩ := depth_of w hj
  obtain ⟨a, b, c⟩ := missF_lev h w0 hw.1.2 hn k j hk h1 h2
  have : ((31 * k : Nat) : Rat) ≤ ((300 : Nat) : Rat) := Rat.natCast_le_natCast.mpr (by omega)
  have e : ((300 : Nat) : Rat) = 300 := rfl
  rw [e] at this
  exact ⟨a, by grind, by grind⟩
theorem big300 {q : Rat} (h : Fr LL q ∧ -(300 : Rat) ≤ q ∧ q ≤ 300) : Big q := big_of (b := 300) h.1.dd (by decide) h.2.1 h.2.2
theorem ShsL.mc {w n r : Nat} {shs : List (List Rat)} (h : ShsL w n shs) (hw : Hasw w r) (hn : off w r ≤ n) : McOk w r shs where
  hw := hw
  row i hi := ⟨by rw [h.len]; omega, (h.row (show i < n by omega)).len⟩
  m j hj := (big300 (missF_big h hw hn hj)).sz
  s i y hi hy := by
    obtain ⟨v1, v2, v3⟩ := h.v hw.1.2 (show i < n by omega) hy
    have e : ((31 : Nat) : Rat) = 31 := rfl
    exact ⟨(big_of (b := 31) v1.dd (by decide) (by grind) (by grind)).sz, (big_of (b := 31) (Fr.one.sub v1).dd (by decide) (by grind) (by grind)).sz⟩
/-- bounds as they are drawn -/
structure CellsOk (n : Nat) (l : List Rat) : Prop where
  len : l.length = n
  all : ∀ q ∈ l, Fr LL q ∧ -(400 : Rat) ≤ q ∧ q ≤ 400
theorem CellsOk.big {n : Nat} {l : List Rat} (h : CellsOk n l) : ∀ q ∈ l, Big q := fun q hq => big_of (b := 400) (h.all q hq).1.dd (by decide) (h.all q hq).2.1 (h.all q hq).2.2
end Nb
end -- M4
section -- S6
set_option maxHeartbeats 1000000
namespace Nb
open PySem PySem.Spec PyProof.Rows L2
abbrev tShl (K : PySem.W.Frag) (shs : List (List Rat)) : Ty := tLst (shs.map fun l => tLst (l.map (tQ K)))
section
variable {K : PySem.W.Frag} {mg : Str → Option Value} {base : Heap} {P : Program} {w : World} {Ct Cp : Addr}
theorem sc131 : FnScope ["_law_store_here", "_law_width", "_law_rounds", "_law_one", "_law_text"] ["_law_store_here", "_law_width", "_law_rounds"] (defScope (top 131)) := ⟨rfl, rfl, rfl, by decide +kernel, rfl, by decide +kernel, by decide +kernel⟩
theorem shl_sub {K : PySem.W.Frag} {w n : Nat} {shs : List (List Rat)} (h1 : shs.length = n) (h2 : ∀ l ∈ shs, ShL w l) {H : Hp} {v : V} (h : (tShl K shs).P H v) : (tEx (ShsL w n) (tShl K)).P H v := ⟨shs, ⟨h1, h2⟩, h⟩
theorem ok_dealt_all (T : Txt K mg) : Ok P w K mg base 4 "_law_dealt_all" ["_law_store_here", "_law_width", "_law_rounds"] (DrwSp (fun z : Nat × Nat => [tI (z.1 : Nat), tI (z.2 : Nat)]) (fun z => Hasw z.1 z.2) (fun z => tEx (ShsL z.1 (off z.1 z.2)) (tShl K))) := by
  refine T.d__law_dealt_all.okS sc131 (fun _ => rfl) (fun _ _ _ _ _ _ us hl => match us, hl with | [_, _, _], _ => rfl) fun f cdv A outer s H E M p hp z hr hw => ?_
  obtain ⟨w', r⟩ := z
  replace hw : Hasw w' r := hw
  have hoff := Nat.le_trans (off_le (w := w') (Nat.le_succ r)) (hasw_off hw)
  have hw15 : 1 ≤ w' ∧ w' ≤ 5 := hw.1
  show PB _ _ [some (tR p), some (tI (w' : Nat)), some (tI (r : Nat)), none, none] _ _ _
  refine pletEx sc131.nd 3 (px_draw (ok_dealt T) st_C w' rfl hr (pxs_cons (va 0 rfl) (pxs_cons (va 1 rfl) pxs_nil)) hw15) fun l hl => ?_
  have hll : l.length = w' := hl.len
  refine pb_guardE (pxtE_eq (px_take (ok_take T) st_C 5 (by decide) (by decide) hr (va 0 rfl) px_int) px_int) (fun _ => ?_) fun _ => ?_
  · refine pb_retS ext_st ((px_lcN (j := 4) (own := [("_law_text", 4)]) (l := begs w' (off w' r)) (tA := tS) (E := fun _ => tLst (l.map (tQ K))) rfl sc131.nd (pix_list (px_call (ok_linner T) (w', r) rfl hr (pxs_cons (va 1 rfl) (pxs_cons (va 2 rfl) pxs_nil)) hw)) (blkOk_by (by kernel_rfl)) (by decide) (by rw [begs_len]; omega) (fun s H D cl fp d Vs a => nm sc131.nd 4)
      (fun s H D cl fp d Vs a _ _ => px_listOf T.f_list boot_list (va (T := tLst (l.map (tQ K))) 3 rfl).seqL)).sub fun H v h => shl_sub (shs := (begs w' (off w' r)).map fun _ => l) (by rw [List.length_map, begs_len]) (fun l' h' => ?_) (by show (tLst (((begs w' (off w' r)).map fun _ => l).map fun l => tLst (l.map (tQ K)))).P H v; rw [List.map_map]; exact h))
    obtain ⟨_, _, rfl⟩ := List.mem_map.mp h'
    exact hl
  · refine pb_retS ext_st ((px_lcN (j := 4) (own := [("_law_text", 4)]) (l := begs w' (off w' r)) (tA := tS) (E := fun _ => tEx (ShL w') fun l => tLst (l.map (tQ K))) rfl sc131.nd (pix_list (px_call (ok_linner T) (w', r) rfl hr (pxs_cons (va 1 rfl) (pxs_cons (va 2 rfl) pxs_nil)) hw)) (blkOk_by (by kernel_rfl)) (by decide) (by rw [begs_len]; omega) (fun s H D cl fp d Vs a => nm sc131.nd 4)
      (fun s H D cl fp d Vs a _ _ => px_draw (ok_dealt T) st_C.own w' rfl hr (pxs_cons (va 0 rfl) (pxs_cons (va 1 rfl) pxs_nil)) hw15)).lstEx.sub fun H v h => ?_)
    obtain ⟨zs, ⟨h1, h2⟩, h⟩ := h
    exact shl_sub (by rw [h1, begs_len]) h2 h
def evS (w n : Nat) : List (List Rat) := List.replicate n (List.replicate w (Rat.divInt 1 w))
theorem evS_ok {w n : Nat} (h : 1 ≤ w ∧ w ≤ 5) : ShsL w n (evS w n) := by
  refine ⟨by simp [evS], fun l hl => ?_⟩
  rw [List.eq_of_mem_replicate hl]
  have h1 : (List.replicate w (1 : Int)).sum = (w : Int) := by
    have := sum_ones (ns := List.replicate w (1 : Int)) fun n hn => List.eq_of_mem_replicate hn
    rwa [List.length_replicate] at this
  have := shl_of (w := w) (ns := List.replicate w (1 : Int)) (by simp) (fun n hn => by rw [List.eq_of_mem_replicate hn]; decide) (fun n hn => by rw [List.eq_of_mem_replicate hn]; decide) (by rw [h1]; omega) (by rw [h1]; omega)
  rw [h1, List.map_replicate] at this
  exact this
theorem sc132 : FnScope ["_law_width", "_law_rounds", "_law_text", "_law_y"] ["_law_width", "_law_rounds"] (defScope (top 132)) := ⟨rfl, rfl, rfl, by decide +kernel, rfl, by decide +kernel, by decide +kernel⟩
theorem map_const {α β : Type} (l : List α) (b : β) : l.map (fun _ => b) = List.replicate l.length b := List.map_const' ..
theorem ok_even_plan (T : Txt K mg) (BP : PlanT K mg Cp) : Ok P w K mg base 9 "_law_even" ["_law_width", "_law_rounds"] (Pur (fun z : Nat × Nat => [tI (z.1 : Nat), tI (z.2 : Nat)]) (fun z => Hasw z.1 z.2) (fun z => tPlan K Cp z.1 z.2 (evS z.1 (off z.1 z.2)))) := by
  refine T.d__law_even.ok sc132 (fun _ => rfl) (fun _ _ _ _ _ _ us hl => match us, hl with | [_, _], _ => rfl) fun f cdv A outer s H E C0 C z hr x hw => ?_
  obtain ⟨w', r⟩ := z
  replace hw : Hasw w' r := hw
  have hoff := Nat.le_trans (off_le (w := w') (Nat.le_succ r)) (hasw_off hw)
  have hw15 : 1 ≤ w' ∧ w' ≤ 5 := hw.1
  show PB _ C [some (tI (w' : Nat)), some (tI (r : Nat)), none, none] _ _ _
  have hnum : ∀ (H : Hp) (v : V), (tTup K [tI 1, tI (w' : Nat)]).P H v → (tNum K (Rat.divInt 1 w')).P H v := fun H v h => .inr ⟨1, w', h, by omega, by decide +kernel, Nat.lt_of_lt_of_le (show ((w' : Nat) : Int).natAbs < 100 by omega) (by decide +kernel), rfl⟩
  refine pb_retP x (px_make (mk_plan T BP) (w', r, evS w' (off w' r)) rfl hr (pxs_cons (va 0 rfl) (pxs_cons (va 1 rfl) (pxs_cons (PX.cast (T := tLst ((begs w' (off w' r)).map fun _ => tSeq K ((List.range w').map fun _ => tNum K (Rat.divInt 1 w')))) (px_lcN (j := 2) (own := [("_law_text", 2), ("_law_y", 3)]) (l := begs w' (off w' r)) (tA := tS) (E := fun _ => tSeq K ((List.range w').map fun _ => tNum K (Rat.divInt 1 w'))) rfl sc132.nd (pix_list (px_call (ok_linner T) (w', r) rfl hr (pxs_cons (va 0 rfl) (pxs_cons (va 1 rfl) pxs_nil)) hw)) (blkOk_by (by kernel_rfl)) (by decide) (by rw [begs_len]; omega) (fun s H D cl fp d Vs a => nm sc132.nd 2)
      (fun s H D cl fp d Vs a _ _ => PX.seqL ?_)) ?_) pxs_nil))) ⟨hw, (evS_ok hw15).shrs hw15.2⟩)
  · exact px_lcN (j := 3) (own := [("_law_y", 3)]) (l := List.range w') (tA := fun i => tI ((i : Nat) : Int)) (E := fun _ => tNum K (Rat.divInt 1 w')) rfl sc132.nd (pix_range1 T.f_range (va 0 rfl) (by omega)) (blkOk_by (by kernel_rfl)) (by decide) (by rw [List.length_range]; omega) (fun s H D cl fp d Vs a => nm sc132.nd 3) (fun s H D cl fp d Vs a _ _ => (px_tup (pxs_cons px_int (pxs_cons (va 0 rfl) pxs_nil))).sub hnum)
  · show tLst _ = tLst _
    rw [map_const, begs_len, map_const, List.length_range, evS, List.map_replicate, List.map_replicate]
    rfl
end
end Nb
end -- S6
section -- S7
set_option maxHeartbeats 1000000
namespace Nb
open PySem PySem.Spec PyProof.Rows L2
theorem all_exD {D : Hp} {β : Type} {P : Nat → β → Prop} {T : β → Ty} (z0 : β) : ∀ (l : List Nat), l.Nodup → ∀ xs : List V, TyAll D xs (l.map fun k => tEx (P k) T) → ∃ f : Nat → β, (∀ k ∈ l, P k (f k)) ∧ TyAll D xs (l.map fun k => T (f k))
  | [], _, _, .nil => ⟨fun _ => z0, fun _ h => (List.not_mem_nil h).elim, .nil⟩
  | k :: l, nd, _, .cons ⟨z, hz, h⟩ t => by
    obtain ⟨f, h1, h2⟩ := all_exD z0 l (List.nodup_cons.mp nd).2 _ t
    have hk := (List.nodup_cons.mp nd).1
    refine ⟨fun j => if j = k then z else f j, fun j hj => ?_, ?_⟩
    · by_cases e : j = k
      · subst e
        show P j (if j = j then z else f j)
        rw [if_pos rfl]; exact hz
      · show P j (if j = k then z else f j)
        rw [if_neg e]; exact h1 j ((List.mem_cons.mp hj).resolve_left e)
    · show TyAll _ _ (T (if k = k then z else f k) :: l.map fun j => T (if j = k then z else f j))
      rw [if_pos rfl, List.map_congr_left (g := fun j => T (f j)) fun j hj => congrArg T (if_neg fun e : j = k => hk (e ▸ hj))]
      exact .cons h h2
theorem TyAll.mapImp {D : Hp} {α : Type} {f g : α → Ty} (h : ∀ a H v, (f a).P H v → (g a).P H v) : ∀ {l : List α} {xs : List V}, TyAll D xs (l.map f) → TyAll D xs (l.map g)
  | [], _, .nil => .nil
  | _ :: _, _, .cons a t => .cons (h _ _ _ a) (TyAll.mapImp h t)
theorem Sm.cell {q : Rat} (h : Sm q) : Fr LL q ∧ -(400 : Rat) ≤ q ∧ q ≤ 400 := ⟨h.1, by have := h.2.1; grind, by have := h.2.2; grind⟩
theorem Sm.big {q : Rat} (h : Sm q) : Big q := big_of (b := 400) h.cell.1.dd (by decide) h.cell.2.1 h.cell.2.2
abbrev tCells (K : PySem.W.Frag) (n : Nat) : Ty := tEx (CellsOk n) fun l => tLst (l.map (tQ K))
def BndOk (w r : Nat) (c : Nat → List Rat) : Prop := ∀ k, k ≤ r → CellsOk (w ^ k) (c k)
section
variable {X : Cx} {C : HC} {G : Env} {a b : Expr} {Ts Us : List Ty} {pos : Pos}
theorem pxo_cat (ha : PX X C G a (tLst Ts)) (hb : PX X C G b (tLst Us)) (hz : Ts.length + Us.length ≤ 1000000) : PXO X C G (.BinOp a .Add b pos) (Ts ++ Us) :=
  PE.imp (pe_op op_cat ha hb) fun σ H Q ⟨ok, q⟩ => ⟨ok, fun v1 H1 x1 e1 p1 => ⟨x1, fun v2 H2 x2 e2 p2 => by
    obtain ⟨a, xs, rfl, h2, h3⟩ := p1
    obtain ⟨b, ys, rfl, h4, h5⟩ := p2
    refine ⟨a, b, xs, ys, rfl, rfl, hid_le _ _ (e2 _ _ h2), hid_le _ _ h4, by rw [h3.length, h5.length]; exact Nat.le_trans hz (by decide), fun l hl => ?_⟩
    exact q l _ (x2.mkown hl ((h3.mono e2).append h5)) ((e1.trans e2).trans (mkown_le hl))⟩⟩
end
section
variable {K : PySem.W.Frag} {mg : Str → Option Value} {base : Heap} {P : Program} {w : World} {Ct Cp : Addr}
theorem sc134 : FnScope ["_law_store_here", "_law_width", "_law_rounds", "_law_kind", "_law_more", "_law_shares", "_law_found", "_law_size", "_law_cells", "_law_text", "_law_value"] ["_law_store_here", "_law_width", "_law_rounds"] (defScope (top 134)) := ⟨rfl, rfl, rfl, by decide +kernel, rfl, by decide +kernel, by decide +kernel⟩
theorem ok_bounds_l (T : Txt K mg) : Ok P w K mg base 5 "_law_bounds" ["_law_store_here", "_law_width", "_law_rounds"] (DrwSp (fun z : Nat × Nat => [tI (z.1 : Nat), tI (z.2 : Nat)]) (fun z => Hasw z.1 z.2) (fun z => tEx (BndOk z.1 z.2) (tBnd K z.2))) := by
  refine T.d__law_bounds.okS sc134 (fun _ => rfl) (fun _ _ _ _ _ _ us hl => match us, hl with | [_, _, _], _ => rfl) fun f cdv A outer s H E M p hp z hr hw => ?_
  obtain ⟨w', r⟩ := z
  replace hw : Hasw w' r := hw
  have hw15 : 1 ≤ w' ∧ w' ≤ 5 := hw.1
  have r8 := hw.r8
  show PB _ _ [some (tR p), some (tI (w' : Nat)), some (tI (r : Nat)), none, none, none, none, none, none, none, none] _ _ _
  refine pletEx sc134.nd 3 (px_take (ok_take T) st_C 4 (by decide) (by decide) hr (va 0 rfl) px_int) fun kd hkd => ?_
  refine pletEx sc134.nd 4 (px_draw (ok_small T) st_C () rfl hr (pxs_cons (va 0 rfl) pxs_nil) trivial) fun more hmore => ?_
  refine pletEx sc134.nd 5 (px_draw (ok_dealt_all T) st_C (w', r) rfl hr (pxs_cons (va 0 rfl) (pxs_cons (va 1 rfl) (pxs_cons (va 2 rfl) pxs_nil))) hw) fun shs hshs => ?_
  replace hshs : ShsL w' (off w' r) shs := hshs
  refine pb_new pxs_nil (fun o => ?_) sc134.nd (i := 6) rfl (.inl rfl)
  refine pb_forN (j := 7) (l := List.range (r + 1)) (tA := fun i => tI ((i : Nat) : Int)) PassesOwn.never rfl (pix_range1 (n := r + 1) T.f_range (PX.cast (T := tI ((r : Int) + 1)) (px_add (va 2 rfl) px_int) rfl) (by omega)) (fun i => (HC.st H M p hp).own o ((List.range i).map fun k => tCells K (w' ^ k))) (fun i => [some (tR p), some (tI (w' : Nat)), some (tI (r : Nat)), some (tI kd), some (tQ K more), some (tShl K shs), some (tR o), none, none, none, none]) sc134.nd rfl (.inl rfl) (fun _ => rfl) (fun _ _ h => h) (fun i k hk => ?_) ?_
  · obtain ⟨hkr, rfl⟩ := range_at hk
    have hwk : Hasw w' k := hw.le (by omega)
    have hpk : w' ^ k ≤ 511 := Nat.le_trans (hasw_pow hwk) (by decide)
    have hll : (lvl w' k).length = w' ^ k := by unfold lvl; simp
    refine pb_let (i := 8) (set_lcN (j := 9) (own := [("_law_text", 9)]) (l := lvl w' k) (tA := tS) (E := fun _ => tEx Sm (tQ K)) rfl sc134.nd rfl rfl (sw_true rfl rfl rfl (by decide +kernel)) (pix_list (px_call (ok_ltexts T) (w', k) rfl hr (pxs_cons (va 1 rfl) (pxs_cons (va 7 rfl) pxs_nil)) hwk)) (blkOk_by (by kernel_rfl)) (by decide) (by omega) (fun s H D cl fp d Vs a => nm sc134.nd 9)
      (fun s H D cl fp d Vs a _ _ => px_draw (ok_small T) st_C.own.own () rfl hr (pxs_cons (va 0 rfl) pxs_nil) trivial)) ?_
    refine pb_weak (G' := [some (tR p), some (tI (w' : Nat)), some (tI (r : Nat)), some (tI kd), some (tQ K more), some (tShl K shs), some (tR o), some (tI (k : Nat)), some (tCells K (w' ^ k)), none, none]) (gi_keep (gi_keep (gi_keep (gi_keep (gi_keep (gi_keep (gi_keep (gi_keep (gi_imp (fun H v h => ?_) (gi_keep (gi_keep gi_nil))))))))))) ?_
    · obtain ⟨a, xs, e, h2, h3⟩ := h
      obtain ⟨zs, k1, k2, k3⟩ := all_ex h3
      exact ⟨zs, ⟨by rw [k1, hll], fun q hq => (k2 q hq).cell⟩, a, xs, e, h2, k3⟩
    refine pb_if (C' := (HC.st H M p hp).own o ((List.range k).map fun k => tCells K (w' ^ k))) (G' := [some (tR p), some (tI (w' : Nat)), some (tI (r : Nat)), some (tI kd), some (tQ K more), some (tShl K shs), some (tR o), some (tI (k : Nat)), some (tCells K (w' ^ k)), none, none]) (pxt_eq (va 3 rfl) px_int) (fun _ => ?_) (fun _ => pb_end) ?_
    · have hmc := hshs.mc hwk (off_le (show k ≤ r by omega))
      refine pb_let (i := 8) (set_lcN (j := 10) (own := [("_law_value", 10)]) (l := (List.range (w' ^ k)).map fun p => missF w' shs (off w' k + p)) (tA := tQ K) (E := fun q => tQ K (q + more)) rfl sc134.nd rfl rfl (sw_true rfl rfl rfl (by decide +kernel)) (pix_list ((px_call (ok_lmiss T) (w', k, shs) rfl hr (pxs_cons (va 1 rfl) (pxs_cons (va 7 rfl) (pxs_cons ((va (T := tShl K shs) 5 rfl).sub fun H v h => ?_) pxs_nil))) hmc).cast (congrArg tLst (show lvTs K (missF w' shs) w' k = _ by unfold lvTs; rw [List.map_map]; rfl)))) (blkOk_by (by kernel_rfl)) (by decide) (by simp; omega) (fun s H D cl fp d Vs a => nm sc134.nd 10)
        (fun s H D cl fp d Vs q hq _ => px_call (ok_plus T) (q, more) rfl hr (pxs_cons (va 10 rfl) (pxs_cons (va 4 rfl) pxs_nil)) ⟨?_, hmore.big.sz⟩)) ?_
      · obtain ⟨a, xs, e, h2, h3⟩ := h
        exact ⟨a, xs, e, h2, TyAll.mapImp (f := fun l => tLst (List.map (tQ K) l)) (g := fun l => tSeq K (List.map (tQ K) l)) (fun _ _ _ h => Or.inl h) h3⟩
      · obtain ⟨p, hp, rfl⟩ := List.mem_map.mp hq
        have hp' := List.mem_range.mp hp
        exact hmc.m _ (by rw [off_add]; omega)
      · refine pb_endI (gi_keep (gi_keep (gi_keep (gi_keep (gi_keep (gi_keep (gi_keep (gi_keep (gi_imp (fun H v h => ?_) (gi_keep (gi_keep gi_nil)))))))))))
        refine ⟨((List.range (w' ^ k)).map fun p => missF w' shs (off w' k + p)).map (· + more), ⟨by simp, fun q hq => ?_⟩, ?_⟩
        · obtain ⟨q', hq', rfl⟩ := List.mem_map.mp hq
          obtain ⟨p, hp, rfl⟩ := List.mem_map.mp hq'
          have hp' := List.mem_range.mp hp
          obtain ⟨m1, m2, m3⟩ := missF_big (j := off w' k + p) hshs hwk (off_le (show k ≤ r by omega)) (by rw [off_add]; omega)
          obtain ⟨s1, s2, s3⟩ := hmore
          exact ⟨m1.add s1, by grind, by grind⟩
        · show (tLst (List.map (tQ K) _)).P H v
          rw [List.map_map (f := (· + more))]
          exact h
    refine pb_if (x := decide (kd = 1) && decide (k < r)) (C' := (HC.st H M p hp).own o ((List.range k).map fun k => tCells K (w' ^ k))) (G' := [some (tR p), some (tI (w' : Nat)), some (tI (r : Nat)), some (tI kd), some (tQ K more), some (tShl K shs), some (tR o), some (tI (k : Nat)), some (tCells K (w' ^ k)), none, none]) (pxt_w (pxw_and (pxt_eq (va 3 rfl) px_int) fun _ => pxw_and1 ((pxt_lt (va 7 rfl) (va 2 rfl)).cast (by simp)))) (fun _ => ?_) (fun _ => pb_end) ?_
    · refine pb_let (i := 8) (set_lcN (j := 9) (own := [("_law_text", 9)]) (l := lvl w' k) (tA := tS) (E := fun _ => tQ K more) rfl sc134.nd rfl rfl (sw_true rfl rfl rfl (by decide +kernel)) (pix_list (px_call (ok_ltexts T) (w', k) rfl hr (pxs_cons (va 1 rfl) (pxs_cons (va 7 rfl) pxs_nil)) hwk)) (blkOk_by (by kernel_rfl)) (by decide) (by omega) (fun s H D cl fp d Vs a => nm sc134.nd 9)
        (fun s H D cl fp d Vs a _ _ => va 4 rfl)) ?_
      refine pb_endI (gi_keep (gi_keep (gi_keep (gi_keep (gi_keep (gi_keep (gi_keep (gi_keep (gi_imp (fun H v h => ?_) (gi_keep (gi_keep gi_nil)))))))))))
      refine ⟨(lvl w' k).map fun _ => more, ⟨by rw [List.length_map, hll], fun q hq => ?_⟩, ?_⟩
      · obtain ⟨_, _, rfl⟩ := List.mem_map.mp hq
        exact hmore.cell
      · show (tLst (List.map (tQ K) _)).P H v
        rw [List.map_map]
        exact h
    · exact papE 6 (Us := (List.range (k + 1)).map fun k => tCells K (w' ^ k)) (T := tCells K (w' ^ k)) (by rw [List.range_succ, List.map_append]; rfl) (va 8 rfl) rfl (show ((List.range k).map fun k => tCells K (w' ^ k)).length < 1000000 by rw [List.length_map, List.length_range]; omega) (pb_endI (gi_keep (gi_keep (gi_keep (gi_keep (gi_keep (gi_keep (gi_keep (gi_drop (gi_drop (gi_keep (gi_keep gi_nil))))))))))))
  · rw [List.length_range]
    refine pb_freeze (i := 6) rfl ?_
    refine pb_retS ext_st ((va (T := tLst ((List.range (r + 1)).map fun k => tCells K (w' ^ k))) 6 rfl).sub fun H v h => ?_)
    obtain ⟨a, xs, e, h2, h3⟩ := h
    obtain ⟨c, c1, c2⟩ := all_exD [] (List.range (r + 1)) List.nodup_range xs h3
    exact ⟨c, fun k hk => c1 k (List.mem_range.mpr (by omega)), a, xs, e, h2, c2⟩
theorem sc108 : FnScope ["_law_script", "_law_cell"] ["_law_script"] (defScope (top 108)) := ⟨rfl, rfl, rfl, by decide +kernel, rfl, by decide +kernel, by decide +kernel⟩
def stI (ns : List Int) : List Int := 5 :: 0 :: (1 + ((ns.length : Nat) : Int)) :: 0 :: 0 :: ns
abbrev stL (ns : List Int) : List Ty := (stI ns).map tI
theorem ok_store (T : Txt K mg) : Ok P w K mg base 1 "_law_store" ["_law_script"] (PurO (fun ns : List Int => [tLst (ns.map tI)]) (fun ns => ns.length ≤ 1000) stL) := by
  refine T.d__law_store.okO sc108 (fun _ => rfl) (fun _ _ _ _ _ _ us hl => match us, hl with | [_], _ => rfl) fun f cdv A outer s H E C0 C ns hr x hn => ?_
  replace hn : ns.length ≤ 1000 := hn
  show PB _ C [some (tLst (ns.map tI)), none] _ _ _
  refine pb_retO x ((pxo_cat (Us := ns.map tI) (px_lst (pxs_cons px_int (pxs_cons px_int (pxs_cons (px_add px_int (px_lenL T.f_len (va 0 rfl))) (pxs_cons px_int (pxs_cons px_int pxs_nil)))))) (px_lcN (j := 1) (own := [("_law_cell", 1)]) (l := ns) (tA := tI) (E := tI) rfl sc108.nd (pix_list (va 0 rfl)) (blkOk_by (by kernel_rfl)) (by decide) (by omega) (fun s H D cl fp d Vs a => nm sc108.nd 1)
    (fun s H D cl fp d Vs a _ _ => px_toInt T.f_int boot_int (va 1 rfl))) (by simp; omega)).cast ?_)
  show [tI 5, tI 0, tI (1 + ((ns.map tI).length : Nat)), tI 0, tI 0] ++ ns.map tI = _
  rw [List.length_map]
  rfl
end
/-- o is hidden and holds a store -/
def HC.str (C : HC) (o : Addr) : HC where
  H0 := C.H0
  M := fun a => a == o || C.M a
  S := C.S
  Om := fun H D => C.Om H D ∧ C.M o = false ∧ C.H0 o = none ∧ Stor o H
  om := fun e d ⟨h1, h2, h3, ns, h4, h5⟩ => ⟨C.om e d h1, h2, h3, ns, e _ _ h4, h5⟩
  loc := fun {p H H' D} m k ⟨h1, h2, h3, ns, h4, h5⟩ => by
    have m1 : (p == o || C.M p) = false := m
    rw [Bool.or_eq_false_iff] at m1
    have ne : o ≠ p := fun z => by subst z; simp at m1
    exact ⟨C.loc m1.2 k h1, h2, h3, ns, by rw [k o ne]; exact h4, h5⟩
  sm := fun a s => by show (a == o || C.M a) = true; rw [C.sm a s, Bool.or_true]
theorem str_C {C : HC} {o : Addr} (hx : C.H0 o = none) : StC (C.str o) o where
  m := by show (o == o || C.M o) = true; simp
  get h := h.2.2.2
  put := fun {H H' D D'} ⟨h1, h2, h3, ns, h4, h5⟩ k e d => by
    refine ⟨?_, h2, h3, d⟩
    have e1 : Ex H (upd H' o (.lst (isV ns))) := fun a u q => by
      by_cases h : a = o
      · subst h; rw [upd_same]; rw [h4] at q; exact q
      · rw [upd_ne h]; exact k a u h q
    exact C.loc h2 (fun a ha => (upd_ne ha).symm) (C.om e1 e h1)
  old := .inr hx
theorem pb_tostr {X : Cx} {C : HC} {G : Env} {o : Addr} {ns : List Int} {ss : List Stmt} {Nx : NX} {Rt : RT} (h : C.H0 o = none → PB X (C.str o) G ss Nx Rt) : PB X (C.own o (stL ns)) G ss Nx Rt :=
  PSs.imp (PB_when h) fun D σ H ⟨ok, q1, q2⟩ => by
    obtain ⟨h1, h2, h3, xs, h4, h5⟩ := id ok.base.om
    have e : xs = isV (stI ns) := tyAll_vals (ys := (stI ns).map V.int) (by rw [List.map_map]; exact h5)
    subst e
    exact ⟨h3, ⟨⟨ok.base.old, ok.base.hidd, h1, h2, h3, _, h4, _, _, _, _, _, _, rfl, by decide⟩, ok.env⟩, q1, q2⟩
end Nb
end -- S7
section -- L7
set_option maxHeartbeats 1000000
namespace Nb
open PySem PySem.Spec PyProof.Rows L2
/-- a value without parts -/
inductive Scl : V → Prop where
  | int (i : Int) : Scl (.int i)
  | bl (b : Bool) : Scl (.bl b)
  | str (s : Str) : Scl (.str s)
abbrev tFlat (K : PySem.W.Frag) (t : Bool) (vs : List V) : Ty := match t with
  | true => tTup K (vs.map tC)
  | false => tLst (vs.map tC)
section
variable {K : PySem.W.Frag} {mg : Str → Option Value} {base : Heap} {P : Program} {w : World}
theorem sc121 : FnScope ["_law_actual", "_law_due", "_law_k"] ["_law_actual", "_law_due"] (defScope (top 121)) := ⟨rfl, rfl, rfl, by decide +kernel, rfl, by decide +kernel, by decide +kernel⟩
theorem ok_same0 (T : Txt K mg) : Ok P w K mg base 1 "_law_same" ["_law_actual", "_law_due"] (Pur (fun v : V => [tC v, tC v]) Scl (fun _ => tB true)) := by
  refine T.d__law_same.ok sc121 (fun _ => rfl) (fun _ _ _ _ _ _ us hl => match us, hl with | [_, _], _ => rfl) fun f cdv A outer s H E C0 C v hr x hv => ?_
  show PB _ C [some (tC v), some (tC v), none] _ _ _
  cases hv with
  | int i =>
    refine pb_guard (x := false) (pxt_val (px_isi (n := "int") (m := "bool") hasI rfl T.f_isinstance (by exact T.f_bool) boot_bool (va 1 rfl))) (fun h => nomatch h) fun _ => ?_
    refine pb_guard (x := true) (pxt_val (px_isi (n := "int") (m := "int") hasI rfl T.f_isinstance T.f_int boot_int (va 1 rfl))) (fun _ => ?_) (fun h => nomatch h)
    refine pb_retP x ((px_and (x := true) (px_isi (n := "int") (m := "int") hasI rfl T.f_isinstance T.f_int boot_int (va 0 rfl)) fun _ => px_and (x := true) (px_not (x := false) (px_isi (n := "int") (m := "bool") hasI rfl T.f_isinstance T.f_bool boot_bool (va 0 rfl))) fun _ => px_one (px_eq (va 0 rfl) (va 1 rfl))).cast (by simp))
  | bl b =>
    refine pb_guard (x := true) (pxt_val (px_isi (n := "bool") (m := "bool") hasB rfl T.f_isinstance T.f_bool boot_bool (va 1 rfl))) (fun _ => ?_) (fun h => nomatch h)
    refine pb_retP x ((px_and (x := true) (px_isi (n := "bool") (m := "bool") hasB rfl T.f_isinstance T.f_bool boot_bool (va 0 rfl)) fun _ => px_one (px_cmp op_eq (r2_eq (x := .bl b) (y := .bl b) rfl) (va 0 rfl) (va 1 rfl) (nomark _))).cast (by simp))
  | str t =>
    refine pb_guard (x := false) (pxt_val (px_isi (n := "str") (m := "bool") hasS rfl T.f_isinstance T.f_bool boot_bool (va 1 rfl))) (fun h => nomatch h) fun _ => ?_
    refine pb_guard (x := false) (pxt_val (px_isi (n := "str") (m := "int") hasS rfl T.f_isinstance T.f_int boot_int (va 1 rfl))) (fun h => nomatch h) fun _ => ?_
    refine pb_guard (x := true) (pxt_val (px_isi (n := "str") (m := "str") hasS rfl T.f_isinstance T.f_str boot_str (va 1 rfl))) (fun _ => ?_) (fun h => nomatch h)
    refine pb_retP x ((px_and (x := true) (px_isi (n := "str") (m := "str") hasS rfl T.f_isinstance T.f_str boot_str (va 0 rfl)) fun _ => px_one (px_eqS (va 0 rfl) (va 1 rfl))).cast (by simp))
theorem ok_same1 (T : Txt K mg) : Ok P w K mg base 2 "_law_same" ["_law_actual", "_law_due"] (Pur (fun z : Bool × List V => [tFlat K z.1 z.2, tFlat K z.1 z.2]) (fun z => (∀ v ∈ z.2, Scl v) ∧ z.2.length ≤ 1000) (fun _ => tB true)) := by
  refine T.d__law_same.ok sc121 (fun _ => rfl) (fun _ _ _ _ _ _ us hl => match us, hl with | [_, _], _ => rfl) fun f cdv A outer s H E C0 C z hr x hz => ?_
  obtain ⟨t, vs⟩ := z
  obtain ⟨hv, hn⟩ := hz
  replace hn : vs.length ≤ 1000 := hn
  have hit : ∀ {j : Nat} {v : V}, vs[j]? = some v → atI (vs.map tC) (j : Int) = some (tC v) := fun {j v} h => atI_nat (by rw [List.getElem?_map, h]; rfl)
  have hat : ∀ {j : Nat}, j < vs.length → vs[j]? = some (vs.getD j .non) := fun {j} h => by rw [List.getD_eq_getElem?_getD, List.getElem?_eq_getElem h]; rfl
  cases t with
  | true =>
    show PB _ C [some (tTup K (vs.map tC)), some (tTup K (vs.map tC)), none] _ _ _
    refine pb_guard (x := false) (pxt_val (px_isi (n := "tuple") (m := "bool") hasT rfl T.f_isinstance T.f_bool boot_bool (va 1 rfl))) (fun h => nomatch h) fun _ => ?_
    refine pb_guard (x := false) (pxt_val (px_isi (n := "tuple") (m := "int") hasT rfl T.f_isinstance T.f_int boot_int (va 1 rfl))) (fun h => nomatch h) fun _ => ?_
    refine pb_guard (x := false) (pxt_val (px_isi (n := "tuple") (m := "str") hasT rfl T.f_isinstance T.f_str boot_str (va 1 rfl))) (fun h => nomatch h) fun _ => ?_
    refine pb_if (x := true) (C' := C) (G' := [some (tTup K (vs.map tC)), some (tTup K (vs.map tC)), none]) (pxt_val (px_isi (n := "tuple") (m := "tuple") hasT rfl T.f_isinstance T.f_tuple boot_tuple (va 1 rfl))) (fun _ => ?_) (fun h => nomatch h) ?_
    · exact pb_guard (x := false) (pxt_not (x := true) (pxt_val (px_isi (n := "tuple") (m := "tuple") hasT rfl T.f_isinstance T.f_tuple boot_tuple (va 0 rfl)))) (fun h => nomatch h) fun _ => pb_end
    refine pb_guard (x := false) ((pxt_ne (px_lenT T.f_len (va 0 rfl)) (px_lenT T.f_len (va 1 rfl))).cast (by simp)) (fun h => nomatch h) fun _ => ?_
    refine pb_forN (j := 2) (l := List.range vs.length) (tA := fun i => tI ((i : Nat) : Int)) PassesOwn.never rfl (pix_range1 T.f_range ((px_lenT T.f_len (va 1 rfl)).cast (by rw [List.length_map])) (by omega)) (fun _ => C) (fun _ => [some (tTup K (vs.map tC)), some (tTup K (vs.map tC)), none]) sc121.nd rfl (.inl rfl) (fun _ => rfl) (fun _ _ h => h) (fun i a ha => ?_) (pb_retP x px_bl)
    obtain ⟨hi, rfl⟩ := range_at ha
    exact pb_guard (x := false) (pxt_not (x := true) (pxt_val (px_call (ok_same0 T) (vs.getD a .non) rfl hr (pxs_cons (px_ixT (va 0 rfl) (va 2 rfl) (hit (hat hi))) (pxs_cons (px_ixT (va 1 rfl) (va 2 rfl) (hit (hat hi))) pxs_nil)) (hv _ (List.mem_of_getElem? (hat hi)))))) (fun h => nomatch h) fun _ => pb_endI (gi_keep (gi_keep (gi_drop gi_nil)))
  | false =>
    show PB _ C [some (tLst (vs.map tC)), some (tLst (vs.map tC)), none] _ _ _
    refine pb_guard (x := false) (pxt_val (px_isi (n := "list") (m := "bool") hasL rfl T.f_isinstance T.f_bool boot_bool (va 1 rfl))) (fun h => nomatch h) fun _ => ?_
    refine pb_guard (x := false) (pxt_val (px_isi (n := "list") (m := "int") hasL rfl T.f_isinstance T.f_int boot_int (va 1 rfl))) (fun h => nomatch h) fun _ => ?_
    refine pb_guard (x := false) (pxt_val (px_isi (n := "list") (m := "str") hasL rfl T.f_isinstance T.f_str boot_str (va 1 rfl))) (fun h => nomatch h) fun _ => ?_
    refine pb_if (x := false) (C' := C) (G' := [some (tLst (vs.map tC)), some (tLst (vs.map tC)), none]) (pxt_val (px_isi (n := "list") (m := "tuple") hasL rfl T.f_isinstance T.f_tuple boot_tuple (va 1 rfl))) (fun h => nomatch h) (fun _ => ?_) ?_
    · exact pb_guard (x := false) (pxt_not (x := true) (pxt_val (px_isi (n := "list") (m := "list") hasL rfl T.f_isinstance T.f_list boot_list (va 0 rfl)))) (fun h => nomatch h) fun _ => pb_end
    refine pb_guard (x := false) ((pxt_ne (px_lenL T.f_len (va 0 rfl)) (px_lenL T.f_len (va 1 rfl))).cast (by simp)) (fun h => nomatch h) fun _ => ?_
    refine pb_forN (j := 2) (l := List.range vs.length) (tA := fun i => tI ((i : Nat) : Int)) PassesOwn.never rfl (pix_range1 T.f_range ((px_lenL T.f_len (va 1 rfl)).cast (by rw [List.length_map])) (by omega)) (fun _ => C) (fun _ => [some (tLst (vs.map tC)), some (tLst (vs.map tC)), none]) sc121.nd rfl (.inl rfl) (fun _ => rfl) (fun _ _ h => h) (fun i a ha => ?_) (pb_retP x px_bl)
    obtain ⟨hi, rfl⟩ := range_at ha
    exact pb_guard (x := false) (pxt_not (x := true) (pxt_val (px_call (ok_same0 T) (vs.getD a .non) rfl hr (pxs_cons (px_ixL (va 0 rfl) (va 2 rfl) (hit (hat hi))) (pxs_cons (px_ixL (va 1 rfl) (va 2 rfl) (hit (hat hi))) pxs_nil)) (hv _ (List.mem_of_getElem? (hat hi)))))) (fun h => nomatch h) fun _ => pb_endI (gi_keep (gi_keep (gi_drop gi_nil)))
end
end Nb
end -- L7
section -- M5
set_option maxHeartbeats 1000000
namespace Nb
theorem qsum_split {α : Type} (g : α → Rat) (p : α → Bool) (l : List α) : qsum (l.map g) = qsum ((l.filter p).map g) + qsum ((l.filter fun x => !p x).map g) := by
  induction l with
  | nil => show (0 : Rat) = 0 + 0; grind
  | cons a l ih =>
    rw [List.map_cons, qsum_cons, ih, List.filter_cons, List.filter_cons]
    cases p a with
    | true =>
      show _ = qsum ((a :: l.filter p).map g) + qsum ((l.filter fun x => !p x).map g)
      rw [List.map_cons, qsum_cons]
      grind
    | false =>
      show _ = qsum ((l.filter p).map g) + qsum ((a :: l.filter fun x => !p x).map g)
      rw [List.map_cons, qsum_cons]
      grind
theorem qsum_congr {α : Type} {f g : α → Rat} {l : List α} (h : ∀ a ∈ l, f a = g a) : qsum (l.map f) = qsum (l.map g) := by rw [List.map_congr_left h]
theorem qsum_mono {α : Type} {f g : α → Rat} {l : List α} (h : ∀ a ∈ l, f a ≤ g a) : qsum (l.map f) ≤ qsum (l.map g) := by
  induction l with
  | nil => exact Rat.le_refl
  | cons a l ih =>
    rw [List.map_cons, List.map_cons, qsum_cons, qsum_cons]
    have := h a List.mem_cons_self
    have := ih fun b hb => h b (List.mem_cons_of_mem _ hb)
    grind
theorem qsum_zero {α : Type} {f : α → Rat} {l : List α} (h : ∀ a ∈ l, f a = 0) : qsum (l.map f) = 0 := by
  induction l with
  | nil => rfl
  | cons a l ih =>
    rw [List.map_cons, qsum_cons, h a List.mem_cons_self, ih fun b hb => h b (List.mem_cons_of_mem _ hb)]
    grind
theorem qsum_add {α : Type} (f g : α → Rat) (l : List α) : qsum (l.map fun a => f a + g a) = qsum (l.map f) + qsum (l.map g) := by
  induction l with
  | nil => show (0 : Rat) = 0 + 0; grind
  | cons a l ih =>
    rw [List.map_cons, List.map_cons, List.map_cons, qsum_cons, qsum_cons, qsum_cons, ih]
    grind
theorem qsum_scale {α : Type} (c : Rat) (f : α → Rat) (l : List α) : qsum (l.map fun a => c * f a) = c * qsum (l.map f) := by
  induction l with
  | nil => show (0 : Rat) = c * 0; grind
  | cons a l ih =>
    rw [List.map_cons, List.map_cons, qsum_cons, qsum_cons, ih]
    grind
theorem qsum_const {α : Type} (c : Rat) (l : List α) : qsum (l.map fun _ => c) = (l.length : Rat) * c := by
  induction l with
  | nil => show (0 : Rat) = ((0 : Nat) : Rat) * c; rw [show ((0 : Nat) : Rat) = 0 from rfl]; grind
  | cons a l ih =>
    rw [List.map_cons, qsum_cons, ih, List.length_cons, Rat.natCast_add, show ((1 : Nat) : Rat) = 1 from rfl]
    grind
theorem qsum_id (l : List Rat) : qsum (l.map fun x => x) = qsum l := by rw [List.map_id']
/-- what is poured up to h -/
def wat (h : Rat) (l : List Rat) : Rat := qsum (l.map fun x => if x < h then h - x else 0)
theorem sum_less (h : Rat) (l : List Rat) : qsum (l.map fun x => h - x) = (l.length : Rat) * h - qsum l := by
  induction l with
  | nil => show (0 : Rat) = ((0 : Nat) : Rat) * h - 0; rw [show ((0 : Nat) : Rat) = 0 from rfl]; grind
  | cons a l ih =>
    rw [List.map_cons, qsum_cons, ih, List.length_cons, Rat.natCast_add, show ((1 : Nat) : Rat) = 1 from rfl, qsum_cons]
    grind
theorem wat_hgt : ∀ (n : Nat) {l : List Rat}, l.length ≤ n → l ≠ [] → wat (hgt l) l = 1 := by
  intro n
  induction n with
  | zero => intro l hl h; exact absurd (List.length_eq_zero_iff.mp (by omega)) h
  | succ n ih =>
    intro l hl h
    by_cases he : (lowR l).length = l.length
    · rw [hgt_done he]
      have hall : ∀ x ∈ l, x < topR l := fun x hx => by
        have : lowR l = l := List.Sublist.eq_of_length List.filter_sublist he
        rw [← this] at hx
        exact of_decide_eq_true (List.mem_filter.mp hx).2
      unfold wat
      rw [qsum_congr (g := fun x => topR l - x) fun x hx => if_pos (hall x hx), sum_less]
      have := topR_mul h
      grind
    · rw [hgt_next he]
      have hlt : (lowR l).length ≤ n := by
        have := List.length_filter_le (fun x => decide (x < topR l)) l
        unfold lowR at he ⊢
        omega
      have hl0 := lowR_ne h
      have i1 := ih hlt hl0
      have hle : hgt (lowR l) ≤ topR l := by
        refine Rat.not_lt.mp fun hgt' => ?_
        have a1 : wat (hgt (lowR l)) (lowR l) = ((lowR l).length : Rat) * hgt (lowR l) - qsum (lowR l) := by
          unfold wat
          rw [qsum_congr (g := fun x => hgt (lowR l) - x) fun x hx => if_pos (by
            have : x < topR l := of_decide_eq_true (List.mem_filter.mp hx).2
            grind), sum_less]
        have a2 := topR_mul h
        have a3 := qsum_split (fun x => topR l - x) (fun x => decide (x < topR l)) l
        rw [sum_less] at a3
        have a4 : qsum ((l.filter fun x => !decide (x < topR l)).map fun x => topR l - x) ≤ 0 := by
          have := qsum_mono (f := fun x => topR l - x) (g := fun _ => (0 : Rat)) (l := l.filter fun x => !decide (x < topR l)) fun x hx => by
            have h1 := (List.mem_filter.mp hx).2
            have h2 : ¬ x < topR l := of_decide_eq_false (by simpa using h1)
            grind
          rwa [qsum_zero (f := fun _ => (0 : Rat)) (fun _ _ => rfl)] at this
        have a5 : qsum ((l.filter fun x => decide (x < topR l)).map fun x => topR l - x) = ((lowR l).length : Rat) * topR l - qsum (lowR l) := sum_less _ _
        have a6 := len_pos_cast hl0
        have a7 := Rat.mul_lt_mul_of_pos_left hgt' a6
        grind
      have b1 := qsum_split (fun x => if x < hgt (lowR l) then hgt (lowR l) - x else 0) (fun x => decide (x < topR l)) l
      have b2 : qsum ((l.filter fun x => !decide (x < topR l)).map fun x => if x < hgt (lowR l) then hgt (lowR l) - x else 0) = 0 := qsum_zero fun x hx => by
        have h1 := (List.mem_filter.mp hx).2
        have h2 : ¬ x < topR l := of_decide_eq_false (by simpa using h1)
        exact if_neg (by grind)
      unfold wat
      rw [b1, b2]
      have : wat (hgt (lowR l)) (lowR l) = 1 := i1
      unfold wat lowR at this
      unfold lowR
      rw [this]
      grind
theorem pour_one {l : List Rat} (h : l ≠ []) : qsum (pour l) = 1 := wat_hgt l.length (Nat.le_refl _) h
theorem pour_len (l : List Rat) : (pour l).length = l.length := by unfold pour; simp
theorem even_len (l : List Rat) : (even l).length = l.length := by unfold even; simp
theorem pour_lo {l : List Rat} : ∀ q ∈ pour l, 0 ≤ q := fun q hq => by
  obtain ⟨x, _, rfl⟩ := List.mem_map.mp hq
  show 0 ≤ if x < hgt l then hgt l - x else 0
  split <;> grind
theorem qsum_nn {l : List Rat} (h : ∀ q ∈ l, 0 ≤ q) : 0 ≤ qsum l := by
  have := qsum_mono (f := fun _ => (0 : Rat)) (g := fun x => x) (l := l) h
  rwa [qsum_zero (f := fun _ => (0 : Rat)) (fun _ _ => rfl), qsum_id] at this
theorem le_qsum {l : List Rat} (h : ∀ q ∈ l, 0 ≤ q) : ∀ q ∈ l, q ≤ qsum l := by
  induction l with
  | nil => exact fun _ h => (List.not_mem_nil h).elim
  | cons a l ih =>
    intro q hq
    rw [qsum_cons]
    have h1 := h a List.mem_cons_self
    have h2 := qsum_nn fun b hb => h b (List.mem_cons_of_mem _ hb)
    rcases List.mem_cons.mp hq with rfl | hq
    · grind
    · have := ih (fun b hb => h b (List.mem_cons_of_mem _ hb)) q hq
      grind
/-- those that are reached -/
def rchL (l : List Rat) : List Rat := l.filter fun x => !decide (hgt l < x)
theorem rch_many (l : List Rat) : (rch l).length = (rchL l).length := by
  unfold rch rchL
  rw [List.length_map]
  have : ∀ (h : Rat) (l : List Rat) (n : Nat), ((l.zipIdx n).filter fun z => !decide (h < z.1)).length = (l.filter fun x => !decide (h < x)).length := by
    intro h l
    induction l with
    | nil => intro n; rfl
    | cons a l ih =>
      intro n
      rw [List.zipIdx_cons, List.filter_cons, List.filter_cons]
      cases (!decide (h < a)) with
      | true => simp [ih]
      | false => simpa using ih (n + 1)
  exact this _ _ 0
theorem rchL_sum {l : List Rat} (h : l ≠ []) : ((rchL l).length : Rat) * hgt l - qsum (rchL l) = 1 := by
  rw [← sum_less, ← pour_one h]
  unfold pour
  rw [qsum_split (fun x => if x < hgt l then hgt l - x else 0) (fun x => !decide (hgt l < x)) l]
  have e2 : qsum ((l.filter fun x => !!decide (hgt l < x)).map fun x => if x < hgt l then hgt l - x else 0) = 0 := qsum_zero fun x hx => by
    have h1 := (List.mem_filter.mp hx).2
    have h2 : hgt l < x := of_decide_eq_true (by simpa using h1)
    exact if_neg (by grind)
  rw [e2]
  have e1 : qsum ((l.filter fun x => !decide (hgt l < x)).map fun x => if x < hgt l then hgt l - x else 0) = qsum ((rchL l).map fun x => hgt l - x) := qsum_congr fun x hx => by
    have h1 := (List.mem_filter.mp hx).2
    have h2 : ¬ hgt l < x := of_decide_eq_false (by simpa using h1)
    by_cases h3 : x < hgt l
    · exact if_pos h3
    · rw [if_neg h3]
      grind
  rw [e1]
  grind
theorem rchL_ne {l : List Rat} (h : l ≠ []) : rchL l ≠ [] := fun e => by
  have := rchL_sum h
  rw [e] at this
  have z : ((([] : List Rat).length : Nat) : Rat) = 0 := rfl
  rw [z, qsum_nil] at this
  grind
theorem rch_ne {l : List Rat} (h : l ≠ []) : rch l ≠ [] := fun e => by
  have := rch_many l
  rw [e] at this
  exact rchL_ne h (List.length_eq_zero_iff.mp this.symm)
theorem part_mul {l : List Rat} (h : l ≠ []) : ((rchL l).length : Rat) * part l = 1 := by
  have := len_pos_cast (rchL_ne h)
  unfold part
  rw [rch_many]
  grind
theorem part_pos {l : List Rat} (h : l ≠ []) : 0 < part l := by
  have h1 := len_pos_cast (rchL_ne h)
  have h2 := part_mul h
  refine Rat.not_le.mp fun h3 => ?_
  have := Rat.mul_le_mul_of_nonneg_left h3 (Rat.le_of_lt h1)
  grind
theorem even_lo {l : List Rat} (h : l ≠ []) : ∀ q ∈ even l, 0 ≤ q := fun q hq => by
  obtain ⟨x, _, rfl⟩ := List.mem_map.mp hq
  have := part_pos h
  show 0 ≤ if hgt l < x then 0 else part l
  split <;> grind
/-- a sum against the even shares -/
theorem even_dot {l : List Rat} (g : Rat → Rat) : qsum (l.map fun x => (if hgt l < x then 0 else part l) * g x) = part l * qsum ((rchL l).map g) := by
  rw [qsum_split (fun x => (if hgt l < x then 0 else part l) * g x) (fun x => !decide (hgt l < x)) l]
  have e2 : qsum ((l.filter fun x => !!decide (hgt l < x)).map fun x => (if hgt l < x then 0 else part l) * g x) = 0 := qsum_zero fun x hx => by
    have h1 := (List.mem_filter.mp hx).2
    have h2 : hgt l < x := of_decide_eq_true (by simpa using h1)
    rw [if_pos h2]
    grind
  rw [e2, ← qsum_scale]
  have e1 : qsum ((l.filter fun x => !decide (hgt l < x)).map fun x => (if hgt l < x then 0 else part l) * g x) = qsum ((rchL l).map fun x => part l * g x) := qsum_congr fun x hx => by
    have h1 := (List.mem_filter.mp hx).2
    have h2 : ¬ hgt l < x := of_decide_eq_false (by simpa using h1)
    rw [if_neg h2]
  rw [e1]
  grind
theorem even_one {l : List Rat} (h : l ≠ []) : qsum (even l) = 1 := by
  have e := even_dot (l := l) fun _ => 1
  have e1 : qsum (l.map fun x => (if hgt l < x then 0 else part l) * 1) = qsum (even l) := qsum_congr fun x _ => by grind
  rw [e1, qsum_const] at e
  rw [e]
  have := part_mul h
  grind
theorem even_mean {l : List Rat} (h : l ≠ []) : qsum (l.map fun x => (if hgt l < x then 0 else part l) * x) = hgt l - part l := by
  rw [even_dot fun x => x, qsum_id]
  have h1 := rchL_sum h
  have h2 := part_mul h
  grind
end Nb
end -- M5
section -- M6
set_option maxHeartbeats 1000000
namespace Nb
open PySem PySem.Spec PyProof.Rows L2
theorem cmp_neg (v f : Rat) : (cmpR v f = -1) ↔ v < f := by
  unfold cmpR
  by_cases h : v < f
  · rw [if_pos h]; exact ⟨fun _ => h, fun _ => rfl⟩
  · rw [if_neg h]
    split
    · exact ⟨fun z => absurd z (by decide), fun z => absurd z h⟩
    · exact ⟨fun z => absurd z (by decide), fun z => absurd z h⟩
theorem cmp_pos (v f : Rat) : (cmpR v f = 1) ↔ f < v := by
  unfold cmpR
  by_cases h : v < f
  · rw [if_pos h]; exact ⟨fun z => absurd z (by decide), fun z => by grind⟩
  · rw [if_neg h]
    by_cases h2 : f < v
    · rw [if_pos h2]; exact ⟨fun _ => h2, fun _ => rfl⟩
    · rw [if_neg h2]; exact ⟨fun z => absurd z (by decide), fun z => absurd z h2⟩
theorem far_low (l : List Rat) : far (-1) l = qlow l := by
  cases l with
  | nil => rfl
  | cons a l =>
    show (a :: l).foldl (farStep (-1)) a = (a :: l).foldl qlowStep a
    congr 1
    funext f v
    unfold farStep qlowStep
    by_cases h : v < f
    · rw [if_pos ((cmp_neg v f).mpr h), if_pos h]
    · rw [if_neg (fun z => h ((cmp_neg v f).mp z)), if_neg h]
theorem foldl_low (l : List Rat) : ∀ a : Rat, l.foldl qlowStep a ≤ a ∧ ∀ x ∈ l, l.foldl qlowStep a ≤ x := by
  induction l with
  | nil => exact fun a => ⟨Rat.le_refl, fun _ h => (List.not_mem_nil h).elim⟩
  | cons b l ih =>
    intro a
    obtain ⟨h1, h2⟩ := ih (qlowStep a b)
    rw [List.foldl_cons]
    have h3 : qlowStep a b ≤ a ∧ qlowStep a b ≤ b := by
      unfold qlowStep
      split <;> constructor <;> grind
    refine ⟨by grind, fun x hx => ?_⟩
    rcases List.mem_cons.mp hx with rfl | hx
    · grind
    · exact h2 x hx
theorem qlow_le {l : List Rat} : ∀ x ∈ l, qlow l ≤ x := by
  cases l with
  | nil => exact fun _ h => (List.not_mem_nil h).elim
  | cons a l => exact (foldl_low (a :: l) a).2
theorem qlow_eq {l : List Rat} {m : Rat} (h1 : m ∈ l) (h2 : ∀ x ∈ l, m ≤ x) : qlow l = m := by
  have a := qlow_le m h1
  have b := h2 _ (qlow_mem (List.ne_nil_of_mem h1))
  grind
theorem foldl_top (l : List Rat) : ∀ a : Rat, (a ≤ l.foldl (farStep 1) a ∧ ∀ x ∈ l, x ≤ l.foldl (farStep 1) a) ∧ (l.foldl (farStep 1) a = a ∨ l.foldl (farStep 1) a ∈ l) := by
  induction l with
  | nil => exact fun a => ⟨⟨Rat.le_refl, fun _ h => (List.not_mem_nil h).elim⟩, .inl rfl⟩
  | cons b l ih =>
    intro a
    obtain ⟨⟨h1, h2⟩, h0⟩ := ih (farStep 1 a b)
    rw [List.foldl_cons]
    have h3 : (a ≤ farStep 1 a b ∧ b ≤ farStep 1 a b) ∧ (farStep 1 a b = a ∨ farStep 1 a b = b) := by
      unfold farStep
      by_cases h : cmpR b a = 1
      · rw [if_pos h]
        have := (cmp_pos b a).mp h
        exact ⟨⟨by grind, Rat.le_refl⟩, .inr rfl⟩
      · rw [if_neg h]
        have : ¬ a < b := fun z => h ((cmp_pos b a).mpr z)
        exact ⟨⟨Rat.le_refl, by grind⟩, .inl rfl⟩
    refine ⟨⟨by grind, fun x hx => ?_⟩, ?_⟩
    · rcases List.mem_cons.mp hx with rfl | hx
      · grind
      · exact h2 x hx
    · rcases h0 with h0 | h0
      · rw [h0]
        rcases h3.2 with e | e
        · exact .inl e
        · exact .inr (by rw [e]; exact List.mem_cons_self)
      · exact .inr (List.mem_cons_of_mem _ h0)
theorem far_top {l : List Rat} (h : l ≠ []) : far 1 l ∈ l ∧ ∀ x ∈ l, x ≤ far 1 l := by
  cases l with
  | nil => exact absurd rfl h
  | cons a l =>
    obtain ⟨⟨_, h2⟩, h0⟩ := foldl_top (a :: l) a
    refine ⟨?_, h2⟩
    rcases h0 with e | e
    · show (a :: l).foldl (farStep 1) a ∈ _
      rw [e]; exact List.mem_cons_self
    · exact e
theorem far_co {l : List Rat} (h : l ≠ []) : 1 - far 1 l = qlow (l.map fun s => 1 - s) := by
  obtain ⟨h1, h2⟩ := far_top h
  refine (qlow_eq (List.mem_map.mpr ⟨_, h1, rfl⟩) fun x hx => ?_).symm
  obtain ⟨y, hy, rfl⟩ := List.mem_map.mp hx
  have := h2 y hy
  grind
section
variable {w r : Nat} {c : Nat → List Rat} {shs : List (List Rat)}
theorem slackF_le : ∀ {m k p : Nat}, k < m → p < w ^ k → slackF w c shs m ≤ (c k).getD p 0 - missF w shs (off w k + p)
  | m + 1, k, p, hk, hp => by
    show qlow (slackF w c shs m :: spareK w c shs m) ≤ _
    by_cases h : k = m
    · subst h
      exact qlow_le _ (List.mem_cons_of_mem _ (List.mem_map.mpr ⟨p, List.mem_range.mpr hp, rfl⟩))
    · have h1 := qlow_le (l := slackF w c shs m :: spareK w c shs m) _ List.mem_cons_self
      have h2 := slackF_le (m := m) (k := k) (p := p) (by omega) hp
      grind
theorem slackF_mem : ∀ m : Nat, ∃ k p, (k < m ∨ k = 0) ∧ p < w ^ k ∧ slackF w c shs m = (c k).getD p 0 - missF w shs (off w k + p)
  | 0 => ⟨0, 0, .inr rfl, by rw [Nat.pow_zero]; exact Nat.zero_lt_one, by
    show (c 0).getD 0 0 = (c 0).getD 0 0 - missF w shs 0
    rw [show missF w shs 0 = 0 from recF_zero]
    grind⟩
  | m + 1 => by
    have h := qlow_mem (l := slackF w c shs m :: spareK w c shs m) (List.cons_ne_nil _ _)
    rcases List.mem_cons.mp h with h | h
    · obtain ⟨k, p, h1, h2, h3⟩ := slackF_mem m
      exact ⟨k, p, h1.imp (by omega) id, h2, h.trans h3⟩
    · obtain ⟨p, hp, e⟩ := List.mem_map.mp h
      exact ⟨m, p, .inl (by omega), List.mem_range.mp hp, e.symm⟩
theorem bndJ_at (hl : ∀ k, k ≤ r → (c k).length = w ^ k) {k p : Nat} (hk : k ≤ r) (hp : p < w ^ k) : bndJ r c (off w k + p) = (c k).getD p 0 := bnds_at hl hk hp
theorem slack_eq (w0 : 0 < w) (hl : ∀ k, k ≤ r → (c k).length = w ^ k) : far (-1) (spare w r c shs) = slackF w c shs (r + 1) := by
  rw [far_low]
  refine qlow_eq ?_ fun x hx => ?_
  · obtain ⟨k, p, h1, h2, h3⟩ := slackF_mem (w := w) (c := c) (shs := shs) (r + 1)
    have hk : k ≤ r := by omega
    rw [h3, ← bndJ_at hl hk h2]
    exact List.mem_map.mpr ⟨off w k + p, List.mem_range.mpr (Nat.lt_of_lt_of_le (show off w k + p < off w (k + 1) by rw [off_add]; omega) (off_le (by omega))), rfl⟩
  · obtain ⟨j, hj, rfl⟩ := List.mem_map.mp hx
    obtain ⟨k, hk, h1, h2⟩ := depth_of w (List.mem_range.mp hj)
    have hp : j - off w k < w ^ k := by rw [off_add] at h2; omega
    have e := bndJ_at hl hk hp
    have h3 := slackF_le (w := w) (c := c) (shs := shs) (m := r + 1) (k := k) (p := j - off w k) (by omega) hp
    rw [show off w k + (j - off w k) = j by omega] at e h3
    show _ ≤ bndJ r c j - missF w shs j
    rw [e]
    exact h3
theorem low_le {x : Rat} (h : ∀ j, j < off w (r + 1) → x ≤ bndJ r c j - missF w shs j) (w0 : 0 < w) : x ≤ far (-1) (spare w r c shs) := by
  rw [far_low]
  have hm := qlow_mem (l := spare w r c shs) (by
    intro e
    have := congrArg List.length e
    simp [spare] at this
    have := off_pos w r
    omega)
  obtain ⟨j, hj, e⟩ := List.mem_map.mp hm
  rw [← e]
  exact h j (List.mem_range.mp hj)
theorem low_at {j : Nat} (hj : j < off w (r + 1)) : far (-1) (spare w r c shs) ≤ bndJ r c j - missF w shs j := by
  rw [far_low]
  exact qlow_le _ (List.mem_map.mpr ⟨j, List.mem_range.mpr hj, rfl⟩)
theorem miss_mT (h : ∀ j, j < off w r → shs.getD j [] ≠ []) (ss : List Str) : missSum w r shs ss = qsum ((goesF w r ss).map (mT w shs)) := by
  unfold missSum
  refine qsum_congr fun j hj => ?_
  have hj' : j < off w r := List.mem_range.mp (List.mem_filter.mp hj).1
  unfold missT mT gmax
  rw [far_co (h j hj')]
end
section
variable {w r : Nat} {st : Nat → Bool}
theorem tele_k (U : Nat → Rat) : ∀ k : Nat, qsum ((endsK w r st k).map U) + qsum ((actL w r st k).map U) = U 0 + qsum ((goesK w r st k).map fun j => qsum ((kids w j).map U) - U j)
  | 0 => by
    have e0 : actL w r st 0 = [0] := by
      unfold actL lvP
      show List.filter _ [0] = [0]
      rw [List.filter_cons]
      have : markF w r st 0 ≠ 2 := by rw [markF_zero]; split <;> decide
      rw [decide_eq_true this]
      rfl
    have e1 : endsK w r st 0 = [] := rfl
    have e2 : goesK w r st 0 = [] := rfl
    rw [e0, e1, e2]
    show qsum [] + qsum [U 0] = U 0 + qsum []
    rw [qsum_cons, qsum_nil]
    grind
  | k + 1 => by
    have ih := tele_k U k
    rw [← endsK_next, ← goesK_next, List.map_append, List.map_append, qsum_append, qsum_append]
    have s1 := qsum_split U (endsB w r st) (actL w r st k)
    have s2 : (actL w r st k).filter (fun x => !endsB w r st x) = (actL w r st k).filter (goesB w r st) := List.filter_congr fun j hj => (ends_goes hj).symm
    rw [s2] at s1
    have s3 : qsum ((actL w r st (k + 1)).map U) = qsum (((actL w r st k).filter (goesB w r st)).map fun j => qsum ((kids w j).map U)) := by
      rw [← act_next]
      generalize (actL w r st k).filter (goesB w r st) = l
      induction l with
      | nil => rfl
      | cons a l ih =>
        rw [List.flatMap_cons, List.map_append, qsum_append, ih, List.map_cons, qsum_cons]
    have s4 : qsum (((actL w r st k).filter (goesB w r st)).map fun j => qsum ((kids w j).map U) - U j) = qsum (((actL w r st k).filter (goesB w r st)).map fun j => qsum ((kids w j).map U)) - qsum (((actL w r st k).filter (goesB w r st)).map U) := by
      generalize (actL w r st k).filter (goesB w r st) = l
      induction l with
      | nil => show (0 : Rat) = 0 - 0; grind
      | cons a l ih =>
        rw [List.map_cons, List.map_cons, List.map_cons, qsum_cons, qsum_cons, qsum_cons, ih]
        grind
    rw [s3, s4]
    grind
end
theorem tele {w r : Nat} (w0 : 0 < w) (ss : List Str) (U : Nat → Rat) : qsum ((endsF w r ss).map U) = U 0 + qsum ((goesF w r ss).map fun j => qsum ((kids w j).map U) - U j) := by
  have h := tele_k (w := w) (r := r) (st := stB w ss) U (r + 1)
  have e : actL w r (stB w ss) (r + 1) = [] := by
    rw [← act_next, goes_last w0]
    rfl
  rw [e, goesK_last w0] at h
  have e1 : endsK w r (stB w ss) (r + 1) = endsF w r ss := rfl
  have e2 : goesK w r (stB w ss) r = goesF w r ss := rfl
  rw [e1, e2, List.map_nil, qsum_nil] at h
  grind
end Nb
end -- M6
section -- M7
set_option maxHeartbeats 1000000
namespace Nb
open PySem PySem.Spec PyProof.Rows L2
theorem stepF_get {w i j : Nat} {l : List Rat} : (stepF w l i)[j]? = if j = i ∧ i < l.length then some (if hgt (nx w l i) - 1 < l.getD i 0 then hgt (nx w l i) - 1 else l.getD i 0) else l[j]? := by
  unfold stepF
  by_cases h : hgt (nx w l i) - 1 < l.getD i 0
  · rw [if_pos h, if_pos h]
    by_cases hj : j = i
    · subst hj
      by_cases hl : j < l.length
      · rw [if_pos ⟨rfl, hl⟩, List.getElem?_set_self hl]
      · rw [if_neg (fun z => hl z.2), List.getElem?_eq_none (by rw [List.length_set]; omega), List.getElem?_eq_none (by omega)]
    · rw [if_neg (fun z => hj z.1), List.getElem?_set_ne (fun z => hj z.symm)]
  · rw [if_neg h, if_neg h]
    by_cases hj : j = i ∧ i < l.length
    · obtain ⟨rfl, hl⟩ := hj
      rw [if_pos ⟨rfl, hl⟩, List.getD_eq_getElem?_getD, List.getElem?_eq_getElem hl]
      rfl
    · rw [if_neg hj]
theorem folds_low {w n : Nat} {B : List Rat} : ∀ i, i ≤ n → ∀ j, j < n - i → (foldsL w n B i)[j]? = B[j]?
  | 0, _, _, _ => rfl
  | i + 1, hi, j, hj => by
    show (stepF w (foldsL w n B i) (n - 1 - i))[j]? = _
    rw [stepF_get, if_neg (fun z => by omega), folds_low i (by omega) j (by omega)]
theorem folds_high {w n : Nat} {B : List Rat} {i j : Nat} (hj : n - i ≤ j) : ∀ d, i + d ≤ n → (foldsL w n B (i + d))[j]? = (foldsL w n B i)[j]?
  | 0, _ => rfl
  | d + 1, hd => by
    show (stepF w (foldsL w n B (i + d)) (n - 1 - (i + d)))[j]? = _
    rw [stepF_get, if_neg (fun z => by omega), folds_high hj d (by omega)]
theorem nx_get {w i y : Nat} {l : List Rat} : (nx w l i)[y]? = if y < w then l[w * i + 1 + y]? else none := by
  unfold nx
  rw [List.getElem?_take, List.getElem?_drop]
theorem nx_same {w i : Nat} {l m : List Rat} (h : ∀ j, i < j → l[j]? = m[j]?) (w0 : 0 < w) : nx w l i = nx w m i := by
  apply List.ext_getElem?
  intro y
  rw [nx_get, nx_get]
  by_cases hy : y < w
  · rw [if_pos hy, if_pos hy, h]
    have := Nat.le_mul_of_pos_left i w0
    omega
  · rw [if_neg hy, if_neg hy]
section
variable {w n : Nat} {B : List Rat}
theorem folds_then (w0 : 0 < w) {j : Nat} (hj : j < n) : nx w (foldsL w n B (n - 1 - j)) j = nx w (foldsL w n B n) j := by
  refine nx_same (fun k hk => ?_) w0
  have := folds_high (w := w) (B := B) (n := n) (i := n - 1 - j) (j := k) (by omega) (j + 1) (by omega)
  rw [show n - 1 - j + (j + 1) = n by omega] at this
  exact this.symm
theorem folds_at (w0 : 0 < w) {j : Nat} (hj : j < n) (hB : n ≤ B.length) : (foldsL w n B n).getD j 0 = if hgt (nx w (foldsL w n B n) j) - 1 < B.getD j 0 then hgt (nx w (foldsL w n B n) j) - 1 else B.getD j 0 := by
  have h1 := folds_high (w := w) (B := B) (n := n) (i := n - 1 - j + 1) (j := j) (by omega) j (by omega)
  rw [show n - 1 - j + 1 + j = n by omega] at h1
  have h2 : (foldsL w n B (n - 1 - j + 1))[j]? = (stepF w (foldsL w n B (n - 1 - j)) (n - 1 - (n - 1 - j)))[j]? := rfl
  rw [show n - 1 - (n - 1 - j) = j by omega, stepF_get, foldsL_len, if_pos ⟨rfl, by omega⟩, folds_then w0 hj] at h2
  have h3 : (foldsL w n B (n - 1 - j)).getD j 0 = B.getD j 0 := by
    rw [List.getD_eq_getElem?_getD, folds_low (n - 1 - j) (by omega) j (by omega), ← List.getD_eq_getElem?_getD]
  rw [h3] at h2
  rw [List.getD_eq_getElem?_getD, h1, h2]
  rfl
theorem folds_leaf {j : Nat} (hj : n ≤ j) : (foldsL w n B n).getD j 0 = B.getD j 0 := by
  have h1 := folds_high (w := w) (B := B) (n := n) (i := 0) (j := j) (by omega) n (by omega)
  rw [Nat.zero_add] at h1
  rw [List.getD_eq_getElem?_getD, h1, List.getD_eq_getElem?_getD]
  rfl
end
/-- the folds of a ladder -/
abbrev FF (z : LD) (j : Nat) : Rat := (foldsOf z).getD j 0
/-- the values behind a place -/
abbrev HH (z : LD) (j : Nat) : Rat := hgt (nx z.1 (foldsOf z) j)
section
variable {w r : Nat} {c : Nat → List Rat}
structure Ldr (w r : Nat) (c : Nat → List Rat) : Prop where
  w0 : 0 < w
  len : ∀ k, k ≤ r → (c k).length = w ^ k
theorem Ldr.bl (h : Ldr w r c) : (bnds r c).length = off w (r + 1) := bnds_len h.len
theorem Ldr.inner (h : Ldr w r c) {j : Nat} (hj : j < off w r) : FF (w, r, c) j = if HH (w, r, c) j - 1 < bndJ r c j then HH (w, r, c) j - 1 else bndJ r c j := folds_at h.w0 hj (by rw [h.bl]; exact off_le (Nat.le_succ r))
theorem Ldr.leaf (h : Ldr w r c) {j : Nat} (hj : off w r ≤ j) : FF (w, r, c) j = bndJ r c j := folds_leaf hj
theorem Ldr.le (h : Ldr w r c) (j : Nat) : FF (w, r, c) j ≤ bndJ r c j := by
  by_cases hj : j < off w r
  · rw [h.inner hj]
    split <;> grind
  · rw [h.leaf (by omega)]
    exact Rat.le_refl
theorem Ldr.leH (h : Ldr w r c) {j : Nat} (hj : j < off w r) : FF (w, r, c) j ≤ HH (w, r, c) j - 1 := by
  rw [h.inner hj]
  split <;> grind
theorem kid_lt {j : Nat} (hj : j < off w r) {y : Nat} (hy : y < w) : w * j + y + 1 < off w (r + 1) := by
  rw [off_next]
  have := Nat.mul_le_mul_left w (show j + 1 ≤ off w r from hj)
  rw [Nat.mul_succ] at this
  omega
theorem Ldr.nx (h : Ldr w r c) {j : Nat} (hj : j < off w r) : Nb.nx w (foldsOf (w, r, c)) j = (List.range w).map fun y => FF (w, r, c) (w * j + y + 1) := by
  apply List.ext_getElem?
  intro y
  rw [nx_get, List.getElem?_map]
  by_cases hy : y < w
  · rw [if_pos hy, List.getElem?_range hy]
    have hl : w * j + 1 + y < (foldsOf (w, r, c)).length := by
      rw [show (foldsOf (w, r, c)).length = (bnds r c).length from foldsL_len _ _ _ _, h.bl]
      have := kid_lt hj hy
      omega
    show (foldsOf (w, r, c))[w * j + 1 + y]? = some ((foldsOf (w, r, c)).getD (w * j + y + 1) 0)
    rw [List.getD_eq_getElem?_getD, show w * j + y + 1 = w * j + 1 + y by omega, List.getElem?_eq_getElem hl]
    rfl
  · rw [if_neg hy, List.getElem?_eq_none (by rw [List.length_range]; omega)]
    rfl
theorem Ldr.nx_ne (h : Ldr w r c) {j : Nat} (hj : j < off w r) : Nb.nx w (foldsOf (w, r, c)) j ≠ [] := by
  rw [h.nx hj]
  intro e
  have := congrArg List.length e
  simp at this
  have := h.w0
  omega
theorem lvF_row {z : LD} {g : List Rat → List Rat} {j : Nat} (hj : j < off z.1 z.2.1) : ((lvF z).map g).getD j [] = g (Nb.nx z.1 (foldsOf z) j) := by
  rw [List.getD_eq_getElem?_getD, List.getElem?_map, List.getElem?_map, List.getElem?_range hj]
  rfl
theorem map_getD {f : Rat → Rat} {l : List Rat} {y : Nat} (h : y < l.length) : (l.map f).getD y 0 = f (l.getD y 0) := by
  rw [List.getD_eq_getElem?_getD, List.getElem?_map, List.getD_eq_getElem?_getD, List.getElem?_eq_getElem h]
  rfl
theorem range_getD {f : Nat → Rat} {n y : Nat} (h : y < n) : ((List.range n).map f).getD y 0 = f y := by
  rw [List.getD_eq_getElem?_getD, List.getElem?_map, List.getElem?_range h]
  rfl
/-- the chooser keeps the fold -/
theorem keeps (h : Ldr w r c) : foldOf (w, r, c) ≤ far (-1) (spare w r c ((lvF (w, r, c)).map pour)) := by
  have key : ∀ k j, k ≤ r → off w k ≤ j → j < off w (k + 1) → FF (w, r, c) 0 ≤ FF (w, r, c) j - missF w ((lvF (w, r, c)).map pour) j := by
    refine lev_ind h.w0 ?_ fun k i y hk h1 h2 hy ih => ?_
    · rw [show missF w ((lvF (w, r, c)).map pour) 0 = 0 from recF_zero]
      grind
    · have hi : i < off w r := Nat.lt_of_lt_of_le h2 (off_le hk)
      rw [missF_child hy]
      have e : shv ((lvF (w, r, c)).map pour) i y = if FF (w, r, c) (w * i + y + 1) < HH (w, r, c) i then HH (w, r, c) i - FF (w, r, c) (w * i + y + 1) else 0 := by
        unfold shv
        rw [lvF_row (z := (w, r, c)) hi]
        unfold pour
        rw [map_getD (by rw [h.nx hi]; simpa using hy)]
        have e2 : (Nb.nx w (foldsOf (w, r, c)) i).getD y 0 = FF (w, r, c) (w * i + y + 1) := by rw [h.nx hi, range_getD hy]
        show (if (Nb.nx w (foldsOf (w, r, c)) i).getD y 0 < _ then _ - (Nb.nx w (foldsOf (w, r, c)) i).getD y 0 else 0) = _
        rw [e2]
      rw [e]
      have hH := h.leH hi
      split <;> grind
  refine low_le (fun j hj => ?_) h.w0
  obtain ⟨k, hk, h1, h2⟩ := depth_of w hj
  have a := key k j hk h1 h2
  have b := h.le j
  show FF (w, r, c) 0 ≤ _
  grind
end
end Nb
end -- M7
section -- M8
set_option maxHeartbeats 1000000
namespace Nb
open PySem PySem.Spec PyProof.Rows L2
theorem kids_sum (w j : Nat) (U : Nat → Rat) : qsum ((kids w j).map U) = qsum ((List.range w).map fun y => U (w * j + y + 1)) := by
  unfold kids
  rw [List.map_map]
  rfl
section
variable {w r : Nat} {c : Nat → List Rat}
theorem goes_lt {ss : List Str} {j : Nat} (h : j ∈ goesF w r ss) : j < off w r ∧ markF w r (stB w ss) j = 0 := ⟨List.mem_range.mp (List.mem_filter.mp h).1, of_decide_eq_true (List.mem_filter.mp h).2⟩
theorem ends_lt {ss : List Str} {j : Nat} (h : j ∈ endsF w r ss) : j < off w (r + 1) ∧ markF w r (stB w ss) j = 1 := ⟨List.mem_range.mp (List.mem_filter.mp h).1, of_decide_eq_true (List.mem_filter.mp h).2⟩
theorem goes_no {ss : List Str} {j : Nat} (h : j ∈ goesF w r ss) : stB w ss j = false := by
  have h2 := (goes_lt h).2
  have h3 := mark_act (w := w) (r := r) (st := stB w ss) (j := j) (by omega)
  rw [h2] at h3
  cases e : stB w ss j with
  | false => rfl
  | true => rw [e, Bool.or_true] at h3; exact absurd h3 (by decide)
theorem ends_yes {ss : List Str} {j : Nat} (h : j ∈ endsF w r ss) : leafB w r j = true ∨ stB w ss j = true := by
  have h2 := (ends_lt h).2
  have h3 := mark_act (w := w) (r := r) (st := stB w ss) (j := j) (by omega)
  rw [h2] at h3
  cases e : leafB w r j with
  | true => exact .inl rfl
  | false =>
    cases e2 : stB w ss j with
    | true => exact .inr rfl
    | false => rw [e, e2] at h3; exact absurd h3 (by decide)
theorem leaf_off (w0 : 0 < w) {j : Nat} (hj : j < off w (r + 1)) (h : leafB w r j = true) : off w r ≤ j := by
  obtain ⟨k, hk, h1, h2⟩ := depth_of w hj
  have e := path_len_of w0 h1 h2
  unfold leafB at h
  rw [e] at h
  have : k = r := of_decide_eq_true h
  subst this
  exact h1
theorem stop_iff {j : Nat} : stB w (stopF (w, r, c)) j = true ↔ j < off w r ∧ ¬ (HH (w, r, c) j - 1 < bndJ r c j) := by
  unfold stB
  rw [decide_eq_true_iff]
  show bT w j ∈ (((List.range (off w r)).filter fun j => !decide (HH (w, r, c) j - 1 < bndJ r c j)).map (bT w)) ↔ _
  constructor
  · intro h
    obtain ⟨i, hi, e⟩ := List.mem_map.mp h
    obtain rfl := bT_inj e
    obtain ⟨h1, h2⟩ := List.mem_filter.mp hi
    exact ⟨List.mem_range.mp h1, of_decide_eq_false (by simpa using h2)⟩
  · rintro ⟨h1, h2⟩
    exact List.mem_map.mpr ⟨j, List.mem_filter.mpr ⟨List.mem_range.mpr h1, by rw [decide_eq_false h2]; rfl⟩, rfl⟩
theorem even_min {l : List Rat} (h : l ≠ []) : qlow ((even l).map fun s => 1 - s) = 1 - part l := by
  have hp := part_pos h
  refine qlow_eq ?_ fun x hx => ?_
  · obtain ⟨x, hx⟩ := List.exists_mem_of_ne_nil _ (rchL_ne h)
    obtain ⟨h1, h2⟩ := List.mem_filter.mp hx
    have h3 : ¬ hgt l < x := of_decide_eq_false (by simpa using h2)
    exact List.mem_map.mpr ⟨part l, List.mem_map.mpr ⟨x, h1, if_neg h3⟩, rfl⟩
  · obtain ⟨y, hy, rfl⟩ := List.mem_map.mp hx
    obtain ⟨v, _, rfl⟩ := List.mem_map.mp hy
    show 1 - part l ≤ 1 - (if hgt l < v then 0 else part l)
    split <;> grind
/-- what the foe shows -/
theorem shows (h : Ldr w r c) : worthF w r c ((lvF (w, r, c)).map even) (stopF (w, r, c)) = foldOf (w, r, c) := by
  have t := tele (w := w) (r := r) h.w0 (stopF (w, r, c)) fun j => reachF w ((lvF (w, r, c)).map even) j * FF (w, r, c) j
  have e1 : qsum ((endsF w r (stopF (w, r, c))).map fun j => reachF w ((lvF (w, r, c)).map even) j * FF (w, r, c) j) = meanSum w r c ((lvF (w, r, c)).map even) (stopF (w, r, c)) := by
    unfold meanSum
    refine qsum_congr fun j hj => ?_
    unfold meanT
    have hlt := (ends_lt hj).1
    have : FF (w, r, c) j = bndJ r c j := by
      rcases ends_yes hj with h1 | h1
      · exact h.leaf (leaf_off h.w0 hlt h1)
      · obtain ⟨h2, h3⟩ := stop_iff.mp h1
        rw [h.inner h2, if_neg h3]
    rw [this]
  have e2 : qsum ((goesF w r (stopF (w, r, c))).map fun j => qsum ((kids w j).map fun j => reachF w ((lvF (w, r, c)).map even) j * FF (w, r, c) j) - reachF w ((lvF (w, r, c)).map even) j * FF (w, r, c) j) = qsum ((goesF w r (stopF (w, r, c))).map (mT w ((lvF (w, r, c)).map even))) := by
    refine qsum_congr fun j hj => ?_
    have hjn := (goes_lt hj).1
    have hs := goes_no hj
    have hlt : HH (w, r, c) j - 1 < bndJ r c j := by
      refine Decidable.byContradiction fun hn => ?_
      have := stop_iff.mpr ⟨hjn, hn⟩
      rw [hs] at this
      cases this
    have hF : FF (w, r, c) j = HH (w, r, c) j - 1 := by rw [h.inner hjn, if_pos hlt]
    have hne := h.nx_ne hjn
    have hrow : ((lvF (w, r, c)).map even).getD j [] = even (Nb.nx w (foldsOf (w, r, c)) j) := lvF_row (z := (w, r, c)) hjn
    have hsh : ∀ y, y < w → shv ((lvF (w, r, c)).map even) j y = if HH (w, r, c) j < FF (w, r, c) (w * j + y + 1) then 0 else part (Nb.nx w (foldsOf (w, r, c)) j) := fun y hy => by
      unfold shv
      rw [hrow]
      unfold even
      rw [map_getD (by rw [h.nx hjn]; simpa using hy)]
      have e2 : (Nb.nx w (foldsOf (w, r, c)) j).getD y 0 = FF (w, r, c) (w * j + y + 1) := by rw [h.nx hjn, range_getD hy]
      show (if _ < (Nb.nx w (foldsOf (w, r, c)) j).getD y 0 then _ else _) = _
      rw [e2]
    have hk : qsum ((kids w j).map fun j => reachF w ((lvF (w, r, c)).map even) j * FF (w, r, c) j) = reachF w ((lvF (w, r, c)).map even) j * (HH (w, r, c) j - part (Nb.nx w (foldsOf (w, r, c)) j)) := by
      have hm := even_mean hne
      rw [h.nx hjn, List.map_map] at hm
      rw [kids_sum]
      have hm2 : qsum ((List.range w).map fun y => (if HH (w, r, c) j < FF (w, r, c) (w * j + y + 1) then 0 else part (Nb.nx w (foldsOf (w, r, c)) j)) * FF (w, r, c) (w * j + y + 1)) = HH (w, r, c) j - part (Nb.nx w (foldsOf (w, r, c)) j) := by
        unfold HH
        rw [show Nb.nx (w, r, c).1 (foldsOf (w, r, c)) j = (List.range w).map fun y => FF (w, r, c) (w * j + y + 1) from h.nx hjn]
        exact hm
      rw [← hm2, ← qsum_scale]
      refine qsum_congr fun y hy => ?_
      rw [reachF_child (List.mem_range.mp hy), hsh y (List.mem_range.mp hy)]
      grind
    rw [hk, hF]
    unfold mT
    rw [hrow, even_min hne]
    grind
  rw [e1, e2] at t
  unfold worthF
  rw [t]
  have e0 : reachF w ((lvF (w, r, c)).map even) 0 = 1 := recF_zero
  rw [e0]
  show 1 * FF (w, r, c) 0 + _ - _ = FF (w, r, c) 0
  grind
end
structure Sg (w n : Nat) (shs : List (List Rat)) : Prop where
  len : ∀ i, i < n → (shs.getD i []).length = w
  pos : ∀ i, i < n → ∀ q ∈ shs.getD i [], 0 ≤ q
  one : ∀ i, i < n → qsum (shs.getD i []) = 1
section
variable {w n : Nat} {shs : List (List Rat)}
theorem Sg.row (h : Sg w n shs) {i : Nat} (hi : i < n) : shs.getD i [] = (List.range w).map fun y => shv shs i y := by
  have := list_getD (0 : Rat) (shs.getD i [])
  rw [h.len i hi] at this
  exact this
theorem Sg.nn (h : Sg w n shs) {i y : Nat} (hi : i < n) (hy : y < w) : 0 ≤ shv shs i y := h.pos i hi _ (by rw [h.row hi]; exact List.mem_map.mpr ⟨y, List.mem_range.mpr hy, rfl⟩)
theorem Sg.sum (h : Sg w n shs) {i : Nat} (hi : i < n) : qsum ((List.range w).map fun y => shv shs i y) = 1 := by rw [← h.row hi]; exact h.one i hi
theorem reach_nn {r : Nat} (h : Sg w n shs) (w0 : 0 < w) (hn : off w r ≤ n) : ∀ j, j < off w (r + 1) → 0 ≤ reachF w shs j := fun j hj => by
  obtain ⟨k, hk, h1, h2⟩ := depth_of w hj
  refine lev_ind (P := fun _ j => 0 ≤ reachF w shs j) w0 ?_ (fun k i y hk h1 h2 hy ih => ?_) k j hk h1 h2
  · rw [show reachF w shs 0 = 1 from recF_zero]; decide
  · rw [reachF_child hy]
    exact Rat.mul_nonneg ih (h.nn (Nat.lt_of_lt_of_le h2 (Nat.le_trans (off_le hk) hn)) hy)
end
theorem dual {w r n m : Nat} {c : Nat → List Rat} {sg tau : List (List Rat)} {s : Rat} (w0 : 0 < w) (hs : Sg w n sg) (ht : Sg w m tau) (hn : off w r ≤ n) (hm : off w r ≤ m) (ss : List Str)
    (h : ∀ j, j < off w (r + 1) → s ≤ bndJ r c j - missF w sg j) : s ≤ worthF w r c tau ss := by
  have t := tele (w := w) (r := r) w0 ss fun j => reachF w tau j * (missF w sg j + s)
  have e1 : qsum ((endsF w r ss).map fun j => reachF w tau j * (missF w sg j + s)) ≤ meanSum w r c tau ss := by
    unfold meanSum
    refine qsum_mono fun j hj => ?_
    unfold meanT
    have hj' := (ends_lt hj).1
    have h1 := h j hj'
    refine Rat.mul_le_mul_of_nonneg_left (by grind) (reach_nn ht w0 hm j hj')
  have e2 : qsum ((goesF w r ss).map (mT w tau)) ≤ qsum ((goesF w r ss).map fun j => qsum ((kids w j).map fun j => reachF w tau j * (missF w sg j + s)) - reachF w tau j * (missF w sg j + s)) := by
    refine qsum_mono fun j hj => ?_
    have hjr := (goes_lt hj).1
    have hjn : j < n := by omega
    have hjm : j < m := by omega
    have hr0 := reach_nn ht w0 hm j (Nat.lt_of_lt_of_le hjr (off_le (Nat.le_succ r)))
    have hk : qsum ((kids w j).map fun j => reachF w tau j * (missF w sg j + s)) - reachF w tau j * (missF w sg j + s) = reachF w tau j * (1 - qsum ((List.range w).map fun y => shv tau j y * shv sg j y)) := by
      rw [kids_sum]
      have : qsum ((List.range w).map fun y => reachF w tau (w * j + y + 1) * (missF w sg (w * j + y + 1) + s)) = qsum ((List.range w).map fun y => (reachF w tau j * (missF w sg j + s + 1)) * shv tau j y + (-(reachF w tau j)) * (shv tau j y * shv sg j y)) := by
        refine qsum_congr fun y hy => ?_
        rw [reachF_child (List.mem_range.mp hy), missF_child (List.mem_range.mp hy)]
        grind
      rw [this, qsum_add (fun y => (reachF w tau j * (missF w sg j + s + 1)) * shv tau j y) fun y => (-(reachF w tau j)) * (shv tau j y * shv sg j y), qsum_scale, qsum_scale, ht.sum hjm]
      grind
    rw [hk]
    unfold mT
    refine Rat.mul_le_mul_of_nonneg_left ?_ hr0
    generalize hq : qlow ((tau.getD j []).map fun s => 1 - s) = q
    have hle : qsum ((List.range w).map fun y => shv tau j y * shv sg j y) ≤ qsum ((List.range w).map fun y => (1 - q) * shv sg j y) := by
      refine qsum_mono fun y hy => ?_
      have hy' := List.mem_range.mp hy
      have h1 : q ≤ 1 - shv tau j y := by
        rw [← hq]
        refine qlow_le _ (List.mem_map.mpr ⟨shv tau j y, ?_, rfl⟩)
        rw [ht.row hjm]
        exact List.mem_map.mpr ⟨y, hy, rfl⟩
      exact Rat.mul_le_mul_of_nonneg_right (by grind) (hs.nn hjn hy')
    rw [qsum_scale, hs.sum hjn] at hle
    grind
  unfold worthF
  have e0 : reachF w tau 0 = 1 := recF_zero
  have e3 : missF w sg 0 = 0 := recF_zero
  rw [e0, e3] at t
  grind
end Nb
end -- M8
section -- M9
set_option maxHeartbeats 1000000
namespace Nb
open PySem PySem.Spec PyProof.Rows L2
def DM : Nat := LL * 60 ^ 5
theorem DM_DD : DM ∣ DD := by decide +kernel
theorem LL_DM : LL ∣ DM := ⟨60 ^ 5, rfl⟩
theorem pw_DM {k : Nat} (h : k ≤ 5) : LL * 60 ^ k ∣ DM := Nat.mul_dvd_mul_left LL (Nat.pow_dvd_pow 60 h)
/-- bounds of a play -/
structure Dt (w r : Nat) (c : Nat → List Rat) : Prop where
  hw : Hasw w r
  r5 : r ≤ 5
  b : BndOk w r c
/-- |q| ≤ b -/
def Ab (b : Nat) (q : Rat) : Prop := -(b : Rat) ≤ q ∧ q ≤ (b : Rat)
theorem Ab.mono {a b : Nat} {q : Rat} (h : Ab a q) (e : a ≤ b) : Ab b q := by
  have : (a : Rat) ≤ (b : Rat) := Rat.natCast_le_natCast.mpr e
  exact ⟨by have := h.1; grind, by have := h.2; grind⟩
theorem Ab.add {a b : Nat} {p q : Rat} (h : Ab a p) (g : Ab b q) : Ab (a + b) (p + q) := by
  unfold Ab at *
  rw [Rat.natCast_add]
  exact ⟨by grind, by grind⟩
theorem Ab.sub {a b : Nat} {p q : Rat} (h : Ab a p) (g : Ab b q) : Ab (a + b) (p - q) := by
  unfold Ab at *
  rw [Rat.natCast_add]
  exact ⟨by grind, by grind⟩
theorem Ab.mulN {a b : Nat} {p q : Rat} (h0 : 0 ≤ p) (h : Ab a p) (g : Ab b q) : Ab (a * b) (p * q) := by
  unfold Ab at *
  rw [Rat.natCast_mul]
  have hb : (0 : Rat) ≤ (b : Rat) := Rat.natCast_nonneg
  have h1 := Rat.mul_le_mul_of_nonneg_left g.2 h0
  have h2 := Rat.mul_le_mul_of_nonneg_left g.1 h0
  have h3 := Rat.mul_le_mul_of_nonneg_right h.2 hb
  exact ⟨by grind, by grind⟩
theorem Ab.one : Ab 1 1 := ⟨by decide, by decide⟩
theorem Ab.big {b : Nat} {q : Rat} (h : Ab b q) (f : Fr DD q) (hb : b ≤ 2 ^ 60) : Big q := big_of f hb h.1 h.2
section
variable {w r : Nat} {c : Nat → List Rat}
theorem Dt.ldr (h : Dt w r c) : Ldr w r c := ⟨h.hw.1.1, fun k hk => (h.b k hk).len⟩
theorem Dt.lad (h : Dt w r c) : Lad w r c := ⟨h.hw, fun k hk => (h.b k hk).len, fun k hk => (h.b k hk).big⟩
theorem Dt.bnd (h : Dt w r c) {j : Nat} (hj : j < off w (r + 1)) : Fr LL (bndJ r c j) ∧ Ab 400 (bndJ r c j) := by
  obtain ⟨k, hk, h1, h2⟩ := depth_of w hj
  have hp : j - off w k < w ^ k := by rw [off_add] at h2; omega
  have e := bndJ_at (c := c) (r := r) h.ldr.len hk hp
  rw [show off w k + (j - off w k) = j by omega] at e
  have hl : j - off w k < (c k).length := by rw [h.ldr.len k hk]; exact hp
  have hm : (c k).getD (j - off w k) 0 ∈ c k := by
    rw [List.getD_eq_getElem?_getD, List.getElem?_eq_getElem hl]
    exact List.getElem_mem hl
  rw [e]
  obtain ⟨a, b, d⟩ := (h.b k hk).all _ hm
  exact ⟨a, b, d⟩
theorem top_ab {m : List Rat} {b : Nat} (h : m ≠ []) (ha : ∀ x ∈ m, Ab b x) : -(b : Rat) ≤ topR m ∧ topR m ≤ (b : Rat) + 1 := by
  have hl := len_pos_cast h
  have h1 := topR_mul h
  have hB : (0 : Rat) ≤ (b : Rat) := Rat.natCast_nonneg
  have h2 := qsum_bound (l := m) hB ha
  have h3 : (1 : Rat) ≤ (m.length : Rat) := natCast_one_le (List.length_pos_iff.mpr h)
  constructor
  · refine Rat.not_lt.mp fun h4 => ?_
    have := Rat.mul_lt_mul_of_pos_right h4 hl
    grind
  · refine Rat.not_lt.mp fun h4 => ?_
    have := Rat.mul_lt_mul_of_pos_right h4 hl
    grind
theorem hgt_ab {l : List Rat} {b D : Nat} (h : Lvs l) (ha : ∀ x ∈ l, Ab b x) (hf : ∀ x ∈ l, Fr D x) : Fr (D * 60) (hgt l) ∧ -(b : Rat) ≤ hgt l ∧ hgt l ≤ (b : Rat) + 1 := by
  obtain ⟨m, h1, h2, h3⟩ := hgt_spec l.length (Nat.le_refl _) h
  rw [h2]
  have hlen : 0 < m.length := List.length_pos_iff.mpr h1.ne
  have hd : m.length ∣ 60 := by
    have := h1.few
    have : m.length = 1 ∨ m.length = 2 ∨ m.length = 3 ∨ m.length = 4 ∨ m.length = 5 := by omega
    rcases this with e | e | e | e | e <;> rw [e] <;> decide
  exact ⟨((Fr.one.add (Fr.qsum fun q hq => hf q (h3 q hq))).divN hlen).dvd (Nat.mul_dvd_mul_left _ hd), top_ab h1.ne fun x hx => ha x (h3 x hx)⟩
theorem Dt.fold (h : Dt w r c) : ∀ d k, k + d = r → ∀ j, off w k ≤ j → j < off w (k + 1) → Fr (LL * 60 ^ d) (FF (w, r, c) j) ∧ Ab (400 + 2 * d) (FF (w, r, c) j)
  | 0, k, e, j, h1, h2 => by
    have : k = r := by omega
    subst this
    rw [h.ldr.leaf h1]
    obtain ⟨a, b⟩ := h.bnd h2
    exact ⟨by rw [Nat.pow_zero, Nat.mul_one]; exact a, b⟩
  | d + 1, k, e, j, h1, h2 => by
    have hw5 := h.hw.1.2
    have hjr : j < off w r := Nat.lt_of_lt_of_le h2 (off_le (by omega))
    have hk : ∀ y, y < w → Fr (LL * 60 ^ d) (FF (w, r, c) (w * j + y + 1)) ∧ Ab (400 + 2 * d) (FF (w, r, c) (w * j + y + 1)) := fun y hy => by
      refine h.fold d (k + 1) (by omega) _ ?_ ?_
      · rw [off_next]
        have := Nat.mul_le_mul_left w h1
        omega
      · rw [off_next w (k + 1)]
        have := Nat.mul_le_mul_left w (show j + 1 ≤ off w (k + 1) from h2)
        rw [Nat.mul_succ] at this
        omega
    have hmem : ∀ x ∈ Nb.nx w (foldsOf (w, r, c)) j, Fr (LL * 60 ^ d) x ∧ Ab (400 + 2 * d) x := fun x hx => by
      rw [h.ldr.nx hjr] at hx
      obtain ⟨y, hy, rfl⟩ := List.mem_map.mp hx
      exact hk y (List.mem_range.mp hy)
    have hdv : LL * 60 ^ d ∣ DD := Nat.dvd_trans (pw_DM (by have := h.r5; omega)) DM_DD
    have hl : Lvs (Nb.nx w (foldsOf (w, r, c)) j) := ⟨h.ldr.nx_ne hjr, by rw [h.ldr.nx hjr]; simpa using hw5, fun q hq => (hmem q hq).2.big ((hmem q hq).1.dvd hdv) (by have := h.r5; exact Nat.le_trans (show 400 + 2 * d ≤ 500 by omega) (by decide))⟩
    obtain ⟨a1, a2, a3⟩ := hgt_ab hl (fun x hx => (hmem x hx).2) fun x hx => (hmem x hx).1
    have hb := h.bnd (j := j) (Nat.lt_of_lt_of_le h2 (off_le (by omega)))
    have e60 : LL * 60 ^ (d + 1) = LL * 60 ^ d * 60 := by rw [Nat.pow_succ, Nat.mul_assoc]
    rw [h.ldr.inner hjr, e60]
    have hb2 := hb.2.mono (show 400 ≤ 400 + 2 * (d + 1) by omega)
    have c1 : ((400 + 2 * (d + 1) : Nat) : Rat) = ((400 + 2 * d : Nat) : Rat) + 2 := by
      rw [show 400 + 2 * (d + 1) = 400 + 2 * d + 2 by omega, Rat.natCast_add]
      rfl
    have c2 : ((400 : Nat) : Rat) ≤ ((400 + 2 * d : Nat) : Rat) := Rat.natCast_le_natCast.mpr (by omega)
    split
    · rename_i hlt
      refine ⟨a1.sub Fr.one, ?_, ?_⟩
      · rw [c1]
        show _ ≤ hgt _ - 1
        grind
      · rw [c1]
        show hgt _ - 1 ≤ _
        grind
    · exact ⟨hb.1.dvd (Nat.dvd_trans (Nat.dvd_mul_right LL (60 ^ d)) (Nat.dvd_mul_right _ 60)), hb2⟩
theorem Dt.foldJ (h : Dt w r c) {j : Nat} (hj : j < off w (r + 1)) : Fr DM (FF (w, r, c) j) ∧ Ab 410 (FF (w, r, c) j) := by
  obtain ⟨k, hk, h1, h2⟩ := depth_of w hj
  obtain ⟨a, b⟩ := h.fold (r - k) k (by omega) j h1 h2
  have := h.r5
  exact ⟨a.dvd (pw_DM (by omega)), b.mono (by omega)⟩
theorem Dt.row (h : Dt w r c) {j : Nat} (hj : j < off w r) : (∀ x ∈ Nb.nx w (foldsOf (w, r, c)) j, Fr DM x ∧ Ab 410 x) ∧ Lvs (Nb.nx w (foldsOf (w, r, c)) j) := by
  have hmem : ∀ x ∈ Nb.nx w (foldsOf (w, r, c)) j, Fr DM x ∧ Ab 410 x := fun x hx => by
    rw [h.ldr.nx hj] at hx
    obtain ⟨y, hy, rfl⟩ := List.mem_map.mp hx
    exact h.foldJ (kid_lt hj (List.mem_range.mp hy))
  refine ⟨hmem, h.ldr.nx_ne hj, by rw [h.ldr.nx hj]; simpa using h.hw.1.2, fun q hq => (hmem q hq).2.big ((hmem q hq).1.dvd DM_DD) (by decide)⟩
/-- the height behind a place -/
theorem Dt.hh (h : Dt w r c) {j : Nat} (hj : j < off w r) : Fr DM (HH (w, r, c) j) ∧ Ab 411 (HH (w, r, c) j) := by
  obtain ⟨k, hk, h1, h2⟩ := depth_of w (Nat.lt_of_lt_of_le hj (off_le (Nat.le_succ r)))
  have hkr : k < r := by
    rcases Nat.lt_or_ge k r with h3 | h3
    · exact h3
    · have : k = r := by omega
      subst this
      omega
  have hr5 := h.r5
  obtain ⟨m1, m2⟩ := h.row hj
  have hmem : ∀ x ∈ Nb.nx w (foldsOf (w, r, c)) j, Fr (LL * 60 ^ (r - k - 1)) x := fun x hx => by
    rw [h.ldr.nx hj] at hx
    obtain ⟨y, hy, rfl⟩ := List.mem_map.mp hx
    have hy := List.mem_range.mp hy
    refine (h.fold (r - k - 1) (k + 1) (by omega) _ ?_ ?_).1
    · rw [off_next]
      have := Nat.mul_le_mul_left w h1
      omega
    · rw [off_next w (k + 1)]
      have := Nat.mul_le_mul_left w (show j + 1 ≤ off w (k + 1) from h2)
      rw [Nat.mul_succ] at this
      omega
  obtain ⟨a1, a2, a3⟩ := hgt_ab m2 (fun x hx => (m1 x hx).2) hmem
  refine ⟨a1.dvd ?_, ?_, ?_⟩
  · rw [Nat.mul_assoc, ← Nat.pow_succ]
    exact pw_DM (by omega)
  · have : ((411 : Nat) : Rat) = ((410 : Nat) : Rat) + 1 := by rw [show 411 = 410 + 1 from rfl, Rat.natCast_add]; rfl
    grind
  · have : ((411 : Nat) : Rat) = ((410 : Nat) : Rat) + 1 := by rw [show 411 = 410 + 1 from rfl, Rat.natCast_add]; rfl
    grind
theorem Dt.foldOk (h : Dt w r c) : FoldOk w r c where
  lad := h.lad
  lvs i hi := by
    have e := folds_then (w := w) (n := off w r) (B := bnds r c) h.ldr.w0 (j := off w r - 1 - i) (by omega)
    rw [show off w r - 1 - (off w r - 1 - i) = i by omega] at e
    rw [e]
    exact (h.row (by omega)).2
  szv i hi := by
    have e := folds_then (w := w) (n := off w r) (B := bnds r c) h.ldr.w0 (j := off w r - 1 - i) (by omega)
    rw [show off w r - 1 - (off w r - 1 - i) = i by omega] at e
    rw [e]
    obtain ⟨a, b⟩ := h.hh (j := off w r - 1 - i) (by omega)
    exact ((b.sub Ab.one).big ((a.sub Fr.one).dvd DM_DD) (by decide)).sz
  szi i hi q hq := by
    obtain ⟨j, hj, rfl⟩ := List.getElem_of_mem hq
    have hjl : j < off w (r + 1) := by rw [foldsL_len, h.ldr.bl] at hj; exact hj
    by_cases hjn : j < off w r - i
    · have e := folds_low (w := w) (n := off w r) (B := bnds r c) i hi j hjn
      rw [List.getElem?_eq_getElem hj] at e
      have e2 : bndJ r c j = (foldsL w (off w r) (bnds r c) i)[j] := by
        show (bnds r c).getD j 0 = _
        rw [List.getD_eq_getElem?_getD, ← e]
        rfl
      rw [← e2]
      obtain ⟨a, b⟩ := h.bnd hjl
      exact (b.big a.dd (by decide)).sz
    · have e := folds_high (w := w) (n := off w r) (B := bnds r c) (i := i) (j := j) (by omega) (off w r - i) (by omega)
      rw [show i + (off w r - i) = off w r by omega, List.getElem?_eq_getElem hj] at e
      have e2 : FF (w, r, c) j = (foldsL w (off w r) (bnds r c) i)[j] := by
        show (foldsL w (off w r) (bnds r c) (off w r)).getD j 0 = _
        rw [List.getD_eq_getElem?_getD, e]
        rfl
      rw [← e2]
      obtain ⟨a, b⟩ := h.foldJ hjl
      exact (b.big (a.dvd DM_DD) (by decide)).sz
theorem lvF_mem {z : LD} {l : List Rat} (h : l ∈ lvF z) : ∃ j, j < off z.1 z.2.1 ∧ l = Nb.nx z.1 (foldsOf z) j := by
  obtain ⟨j, hj, rfl⟩ := List.mem_map.mp h
  exact ⟨j, List.mem_range.mp hj, rfl⟩
theorem Dt.foldOk2 (h : Dt w r c) : FoldOk2 (w, r, c) := ⟨h.foldOk, fun l hl => by
  obtain ⟨j, hj, rfl⟩ := lvF_mem hl
  exact (h.row hj).2⟩
end
end Nb
end -- M9
section -- M10
set_option maxHeartbeats 1000000
namespace Nb
open PySem PySem.Spec PyProof.Rows L2
theorem ab31 {q : Rat} (h0 : 0 ≤ q) (h : q ≤ 31) : Ab 31 q := by
  have h1 : (0 : Rat) ≤ ((31 : Nat) : Rat) := by decide
  exact ⟨by grind, h⟩
/-- a chooser's shares -/
structure Cho (w n : Nat) (shs : List (List Rat)) : Prop where
  len : shs.length = n
  row : ∀ l ∈ shs, l.length = w
  fr : ∀ l ∈ shs, ∀ q ∈ l, Fr DM q
  lo : ∀ l ∈ shs, ∀ q ∈ l, 0 ≤ q
  hi : ∀ l ∈ shs, ∀ q ∈ l, q ≤ 31
  one : ∀ l ∈ shs, qsum l = 1
theorem ShsL.cho {w n : Nat} {shs : List (List Rat)} (h : ShsL w n shs) : Cho w n shs :=
  ⟨h.len, fun l hl => (h.all l hl).len, fun l hl q hq => ((h.all l hl).fr q hq).dvd LL_DM, fun l hl => (h.all l hl).lo, fun l hl => (h.all l hl).hi, fun l hl => (h.all l hl).one⟩
section
variable {w n r : Nat} {shs : List (List Rat)}
theorem Cho.mem (h : Cho w n shs) {i : Nat} (hi : i < n) : shs.getD i [] ∈ shs := by
  have hi' : i < shs.length := by rw [h.len]; exact hi
  rw [List.getD_eq_getElem?_getD, List.getElem?_eq_getElem hi']
  exact List.getElem_mem hi'
theorem Cho.sg (h : Cho w n shs) : Sg w n shs := ⟨fun i hi => h.row _ (h.mem hi), fun i hi => h.lo _ (h.mem hi), fun i hi => h.one _ (h.mem hi)⟩
theorem Cho.big (h : Cho w n shs) {l : List Rat} (hl : l ∈ shs) : ∀ q ∈ l, Big q := fun q hq => (ab31 (h.lo l hl q hq) (h.hi l hl q hq)).big ((h.fr l hl q hq).dvd DM_DD) (by decide)
theorem Cho.shrs (h : Cho w n shs) (h5 : w ≤ 5) : Shrs w n shs := ⟨h.len, fun l hl => ⟨h.row l hl, h.lo l hl, h.one l hl, szl_big (by rw [h.row l hl]; omega) (h.big hl)⟩⟩
theorem Cho.v (h : Cho w n shs) {i y : Nat} (hi : i < n) (hy : y < w) : Fr DM (shv shs i y) ∧ 0 ≤ shv shs i y ∧ Ab 31 (shv shs i y) := by
  have hm : shv shs i y ∈ shs.getD i [] := by rw [h.sg.row hi]; exact List.mem_map.mpr ⟨y, List.mem_range.mpr hy, rfl⟩
  have h0 := h.lo _ (h.mem hi) _ hm
  exact ⟨h.fr _ (h.mem hi) _ hm, h0, ab31 h0 (h.hi _ (h.mem hi) _ hm)⟩
theorem Cho.miss (h : Cho w n shs) (hw : Hasw w r) (hn : off w r ≤ n) {j : Nat} (hj : j < off w (r + 1)) : Fr DM (missF w shs j) ∧ Ab 300 (missF w shs j) := by
  have r8 := hw.r8
  obtain ⟨k, hk, h1, h2⟩ := depth_of w hj
  have key := lev_ind (w := w) (r := r) (P := fun k j => Fr DM (missF w shs j) ∧ Ab (32 * k) (missF w shs j)) hw.1.1 ?_ (fun k i y hk h1 h2 hy ih => ?_) k j hk h1 h2
  · exact ⟨key.1, key.2.mono (by omega)⟩
  · rw [show missF w shs 0 = 0 from recF_zero]
    exact ⟨Fr.zero, by decide, by decide⟩
  · obtain ⟨v1, v0, v2⟩ := h.v (i := i) (Nat.lt_of_lt_of_le h2 (Nat.le_trans (off_le hk) hn)) hy
    rw [missF_child hy]
    exact ⟨ih.1.add (Fr.one.sub v1), (ih.2.add (Ab.one.sub v2)).mono (by omega)⟩
theorem Cho.plan (h : Cho w n shs) (hw : Hasw w r) (hn : n = off w r) : PlanOk w r shs := ⟨hw, hn ▸ h.shrs hw.1.2⟩
theorem Cho.mc (h : Cho w n shs) (hw : Hasw w r) (hn : off w r ≤ n) : McOk w r shs where
  hw := hw
  row i hi := ⟨by rw [h.len]; omega, h.row _ (h.mem (by omega))⟩
  m j hj := by
    obtain ⟨a, b⟩ := h.miss hw hn hj
    exact (b.big (a.dvd DM_DD) (by decide)).sz
  s i y hi hy := by
    obtain ⟨v1, v0, v2⟩ := h.v (show i < n by omega) hy
    exact ⟨(v2.big (v1.dvd DM_DD) (by decide)).sz, ((Ab.one.sub v2).big ((Fr.one.sub v1).dvd DM_DD) (by decide)).sz⟩
theorem Cho.spare (h : Cho w n shs) {c : Nat → List Rat} (d : Dt w r c) (hn : off w r ≤ n) {j : Nat} (hj : j < off w (r + 1)) : Fr DM (bndJ r c j - missF w shs j) ∧ Ab 700 (bndJ r c j - missF w shs j) := by
  obtain ⟨a, b⟩ := h.miss d.hw hn hj
  obtain ⟨a2, b2⟩ := d.bnd hj
  exact ⟨(a2.dvd LL_DM).sub a, b2.sub b⟩
theorem Cho.slack (h : Cho w n shs) {c : Nat → List Rat} (d : Dt w r c) (hn : n = off w r) : SlackOk w r c shs where
  lad := d.lad
  plan := h.plan d.hw hn
  m := (h.mc d.hw (by omega)).m
  m1 i y hi hy := ((h.mc d.hw (by omega)).s i y hi hy).2
  s q hq := by
    obtain ⟨j, hj, rfl⟩ := List.mem_map.mp hq
    obtain ⟨a, b⟩ := h.spare d (by omega) (List.mem_range.mp hj)
    exact (b.big (a.dvd DM_DD) (by decide)).sz
theorem Cho.low (h : Cho w n shs) {c : Nat → List Rat} (d : Dt w r c) (hn : n = off w r) : Fr DM (far (-1) (Nb.spare w r c shs)) ∧ Ab 700 (far (-1) (Nb.spare w r c shs)) := by
  rw [far_low]
  have hm := qlow_mem (l := Nb.spare w r c shs) (by
    intro e
    have := congrArg List.length e
    simp [Nb.spare] at this
    have := off_pos w r
    omega)
  obtain ⟨j, hj, e⟩ := List.mem_map.mp hm
  rw [← e]
  exact h.spare d (by omega) (List.mem_range.mp hj)
theorem Cho.ls (h : Cho w n shs) {c : Nat → List Rat} (d : Dt w r c) (hn : n = off w r) : LsOk w r c shs where
  lad := d.lad
  mc k hk := h.mc (d.hw.le hk) (by rw [hn]; exact off_le hk)
  sp k hk q hq := by
    obtain ⟨p, hp, rfl⟩ := List.mem_map.mp hq
    have hp := List.mem_range.mp hp
    have e := bndJ_at (c := c) (r := r) d.ldr.len hk hp
    obtain ⟨a, b⟩ := h.spare d (by omega) (j := off w k + p) (Nat.lt_of_lt_of_le (show off w k + p < off w (k + 1) by rw [off_add]; omega) (off_le (by omega)))
    rw [e] at a b
    exact (b.big (a.dvd DM_DD) (by decide)).sz
end
section
variable {w r : Nat} {c : Nat → List Rat}
theorem Dt.pour (d : Dt w r c) : Cho w (off w r) ((lvF (w, r, c)).map Nb.pour) := by
  have key : ∀ l ∈ (lvF (w, r, c)).map Nb.pour, ∃ j, j < off w r ∧ l = Nb.pour (Nb.nx w (foldsOf (w, r, c)) j) := fun l hl => by
    obtain ⟨l', hl', rfl⟩ := List.mem_map.mp hl
    obtain ⟨j, hj, rfl⟩ := lvF_mem hl'
    exact ⟨j, hj, rfl⟩
  refine ⟨by rw [List.length_map, lvF_len], fun l hl => ?_, fun l hl q hq => ?_, fun l hl q hq => ?_, fun l hl q hq => ?_, fun l hl => ?_⟩
  · obtain ⟨j, hj, rfl⟩ := key l hl
    rw [pour_len, d.ldr.nx hj]
    simp
  · obtain ⟨j, hj, rfl⟩ := key l hl
    obtain ⟨x, hx, rfl⟩ := List.mem_map.mp hq
    show Fr DM (if x < hgt _ then hgt _ - x else 0)
    split
    · exact (d.hh hj).1.sub ((d.row hj).1 x hx).1
    · exact Fr.zero
  · obtain ⟨j, hj, rfl⟩ := key l hl
    exact pour_lo q hq
  · obtain ⟨j, hj, rfl⟩ := key l hl
    have := le_qsum pour_lo q hq
    rw [pour_one (d.ldr.nx_ne hj)] at this
    grind
  · obtain ⟨j, hj, rfl⟩ := key l hl
    exact pour_one (d.ldr.nx_ne hj)
theorem Dt.even (d : Dt w r c) : ShsL w (off w r) ((lvF (w, r, c)).map Nb.even) := by
  refine ⟨by rw [List.length_map, lvF_len], fun l hl => ?_⟩
  obtain ⟨l', hl', rfl⟩ := List.mem_map.mp hl
  obtain ⟨j, hj, rfl⟩ := lvF_mem hl'
  have hne := d.ldr.nx_ne hj
  refine ⟨by rw [even_len, d.ldr.nx hj]; simp, fun q hq => ?_, even_lo hne, fun q hq => ?_, even_one hne⟩
  · obtain ⟨x, hx, rfl⟩ := List.mem_map.mp hq
    show Fr LL (if hgt _ < x then 0 else part _)
    split
    · exact Fr.zero
    · have h1 : (rch (Nb.nx w (foldsOf (w, r, c)) j)).length ≤ 5 := Nat.le_trans (rch_len _) (d.row hj).2.few
      have h0 : 0 < (rch (Nb.nx w (foldsOf (w, r, c)) j)).length := List.length_pos_iff.mpr (rch_ne hne)
      refine Fr.dvd (D := 1 * (rch (Nb.nx w (foldsOf (w, r, c)) j)).length) (Fr.divN (Fr.one (D := 1)) h0) ?_
      rw [Nat.one_mul]
      exact dvd_LL h0 (by omega)
  · have := le_qsum (even_lo hne) q hq
    rw [even_one hne] at this
    grind
theorem Dt.papOk (d : Dt w r c) : PapOk (w, r, c) where
  foe := ⟨d.foldOk2, fun l hl => by
      obtain ⟨j, hj, rfl⟩ := lvF_mem hl
      exact rch_ne (d.ldr.nx_ne hj), fun l hl => by
      obtain ⟨j, hj, rfl⟩ := lvF_mem hl
      obtain ⟨a, b⟩ := d.hh hj
      exact ((b.sub Ab.one).big ((a.sub Fr.one).dvd DM_DD) (by decide)).sz, d.even.cho.shrs d.hw.1.2⟩
  cho := d.pour.shrs d.hw.1.2
end
section
variable {w n r : Nat} {shs : List (List Rat)} {c : Nat → List Rat}
theorem ShsL.reach (h : ShsL w n shs) (d : Dt w r c) (hn : off w r ≤ n) {j : Nat} (hj : j < off w (r + 1)) : Fr (LL ^ 5) (reachF w shs j) ∧ 0 ≤ reachF w shs j ∧ Ab (31 ^ 5) (reachF w shs j) := by
  obtain ⟨k, hk, h1, h2⟩ := depth_of w hj
  have r5 := d.r5
  have key := lev_ind (w := w) (r := r) (P := fun k j => Fr (LL ^ k) (reachF w shs j) ∧ 0 ≤ reachF w shs j ∧ Ab (31 ^ k) (reachF w shs j)) d.ldr.w0 ?_ (fun k i y hk h1 h2 hy ih => ?_) k j hk h1 h2
  · exact ⟨key.1.dvd (Nat.pow_dvd_pow LL (by omega)), key.2.1, key.2.2.mono (Nat.pow_le_pow_right (by decide) (by omega))⟩
  · rw [show reachF w shs 0 = 1 from recF_zero]
    exact ⟨Fr.one, by decide, Ab.one⟩
  · obtain ⟨v1, v2, v3⟩ := h.v d.hw.1.2 (i := i) (Nat.lt_of_lt_of_le h2 (Nat.le_trans (off_le hk) hn)) hy
    obtain ⟨i1, i2, i3⟩ := ih
    rw [reachF_child hy, Nat.pow_succ, Nat.pow_succ]
    exact ⟨i1.mul v1, Rat.mul_nonneg i2 v2, i3.mulN i2 (ab31 v2 v3)⟩
theorem LL5_DD : LL ^ 5 ∣ DD := by decide +kernel
theorem LL6_DD : LL ^ 5 * LL ∣ DD := by decide +kernel
theorem ShsL.top (h : ShsL w n shs) (w0 : 0 < w) {j : Nat} (hj : j < n) : Fr LL (gmax shs j) ∧ Ab 31 (gmax shs j) := by
  have hr := h.row hj
  have hne : shs.getD j [] ≠ [] := fun e => by
    have := hr.len
    rw [e] at this
    simp at this
    omega
  have hm := (far_top hne).1
  exact ⟨hr.fr _ hm, ab31 (hr.lo _ hm) (hr.hi _ hm)⟩
theorem ShsL.missT (h : ShsL w n shs) (d : Dt w r c) (hn : off w r ≤ n) {j : Nat} (hj : j < off w r) : Fr (LL ^ 5 * LL) (missT w shs j) ∧ Ab (31 ^ 5 * 32) (missT w shs j) := by
  obtain ⟨a1, a2, a3⟩ := h.reach d hn (Nat.lt_of_lt_of_le hj (off_le (Nat.le_succ r)))
  obtain ⟨b1, b2⟩ := h.top d.ldr.w0 (show j < n by omega)
  exact ⟨a1.mul (Fr.one.sub b1), a3.mulN a2 (Ab.one.sub b2)⟩
theorem ShsL.meanT (h : ShsL w n shs) (d : Dt w r c) (hn : off w r ≤ n) {j : Nat} (hj : j < off w (r + 1)) : Fr (LL ^ 5 * LL) (meanT w r c shs j) ∧ Ab (31 ^ 5 * 400) (meanT w r c shs j) := by
  obtain ⟨a1, a2, a3⟩ := h.reach d hn hj
  obtain ⟨b1, b2⟩ := d.bnd hj
  exact ⟨a1.mul b1, a3.mulN a2 b2⟩
theorem ab_sum {α : Type} {l : List α} {f : α → Rat} {b m : Nat} (hl : l.length ≤ m) (h : ∀ a ∈ l, Ab b (f a)) : Ab (m * b) (qsum (l.map f)) := by
  have h1 := qsum_bound (l := l.map f) (B := (b : Rat)) Rat.natCast_nonneg fun q hq => by
    obtain ⟨a, ha, rfl⟩ := List.mem_map.mp hq
    exact h a ha
  rw [List.length_map] at h1
  have h2 : Ab (l.length * b) (qsum (l.map f)) := by
    unfold Ab
    rw [Rat.natCast_mul]
    exact h1
  exact h2.mono (Nat.mul_le_mul_right b hl)
theorem goes_few (w r : Nat) (ss : List Str) (hw : Hasw w r) : (goesF w r ss).length ≤ 511 := Nat.le_trans (List.length_filter_le _ _) (by rw [List.length_range]; exact Nat.le_trans (off_le (Nat.le_succ r)) (hasw_off hw))
theorem ends_few (w r : Nat) (ss : List Str) (hw : Hasw w r) : (endsF w r ss).length ≤ 511 := Nat.le_trans (List.length_filter_le _ _) (by rw [List.length_range]; exact hasw_off hw)
theorem ShsL.missSum (h : ShsL w n shs) (d : Dt w r c) (hn : off w r ≤ n) (ss : List Str) : Fr (LL ^ 5 * LL) (missSum w r shs ss) ∧ Ab (511 * (31 ^ 5 * 32)) (missSum w r shs ss) :=
  ⟨Fr.qsum fun q hq => by
    obtain ⟨j, hj, rfl⟩ := List.mem_map.mp hq
    exact (h.missT d hn (goes_lt hj).1).1, ab_sum (goes_few w r ss d.hw) fun j hj => (h.missT d hn (goes_lt hj).1).2⟩
theorem ShsL.meanSum (h : ShsL w n shs) (d : Dt w r c) (hn : off w r ≤ n) (ss : List Str) : Fr (LL ^ 5 * LL) (meanSum w r c shs ss) ∧ Ab (511 * (31 ^ 5 * 400)) (meanSum w r c shs ss) :=
  ⟨Fr.qsum fun q hq => by
    obtain ⟨j, hj, rfl⟩ := List.mem_map.mp hq
    exact (h.meanT d hn (ends_lt hj).1).1, ab_sum (ends_few w r ss d.hw) fun j hj => (h.meanT d hn (ends_lt hj).1).2⟩
theorem ShsL.missOk (h : ShsL w n shs) (d : Dt w r c) (hn : n = off w r) {ss : List Str} (hs : StOk w r ss) : MissOk w r shs ss where
  plan := h.cho.plan d.hw hn
  st := hs
  rc j hj := by
    obtain ⟨a, _, b⟩ := h.reach d (by omega) hj
    exact (b.big (a.dvd LL5_DD) (by decide)).sz
  g1 j hj := by
    obtain ⟨a, b⟩ := h.top d.ldr.w0 (show j < n by omega)
    exact ⟨(b.big a.dd (by decide)).sz, ((Ab.one.sub b).big (Fr.one.sub a).dd (by decide)).sz⟩
  t := szl_big (by rw [List.length_map]; exact Nat.le_trans (goes_few w r ss d.hw) (by decide)) fun q hq => by
    obtain ⟨j, hj, rfl⟩ := List.mem_map.mp hq
    obtain ⟨a, b⟩ := h.missT d (by omega) (goes_lt hj).1
    exact b.big (a.dvd LL6_DD) (by decide)
theorem ShsL.meanOk (h : ShsL w n shs) (d : Dt w r c) (hn : n = off w r) {ss : List Str} (hs : StOk w r ss) : MeanOk w r c shs ss where
  lad := d.lad
  plan := h.cho.plan d.hw hn
  st := hs
  rc j hj := by
    obtain ⟨a, _, b⟩ := h.reach d (by omega) hj
    exact (b.big (a.dvd LL5_DD) (by decide)).sz
  t := szl_big (by rw [List.length_map]; exact Nat.le_trans (ends_few w r ss d.hw) (by decide)) fun q hq => by
    obtain ⟨j, hj, rfl⟩ := List.mem_map.mp hq
    obtain ⟨a, b⟩ := h.meanT d (by omega) (ends_lt hj).1
    exact b.big (a.dvd LL6_DD) (by decide)
theorem ShsL.mT_eq (h : ShsL w n shs) (w0 : 0 < w) {j : Nat} (hj : j < n) : mT w shs j = Nb.missT w shs j := by
  have hr := h.row hj
  have hne : shs.getD j [] ≠ [] := fun e => by
    have := hr.len
    rw [e] at this
    simp at this
    omega
  unfold mT Nb.missT gmax
  rw [far_co hne]
theorem ShsL.lwOk (h : ShsL w n shs) (d : Dt w r c) (hn : n = off w r) (ss : List Str) : LwOk w r shs ss where
  hw := d.hw
  row i hi := ⟨by rw [h.len]; omega, (h.row (show i < n by omega)).len⟩
  rc j hj := by
    obtain ⟨a, _, b⟩ := h.reach d (by omega) hj
    exact (b.big (a.dvd LL5_DD) (by decide)).sz
  s i hi q hq := by
    have hr := h.row (show i < n by omega)
    have b := ab31 (hr.lo q hq) (hr.hi q hq)
    exact ⟨(b.big (hr.fr q hq).dd (by decide)).sz, ((Ab.one.sub b).big (Fr.one.sub (hr.fr q hq)).dd (by decide)).sz⟩
  t j hj := by
    rw [h.mT_eq d.ldr.w0 (show j < n by omega)]
    obtain ⟨a, b⟩ := h.missT d (by omega) hj
    exact (b.big (a.dvd LL6_DD) (by decide)).sz
  sum l hl := by
    have hm : ∀ j ∈ l, j < off w r := fun j hj => (goes_lt (ss := ss) (hl.subset hj)).1
    have hlen : l.length ≤ 511 := Nat.le_trans hl.length_le (goes_few w r ss d.hw)
    have hb : Ab (511 * (31 ^ 5 * 32)) (qsum (l.map (mT w shs))) := ab_sum hlen fun j hj => by
      rw [h.mT_eq d.ldr.w0 (by have := hm j hj; omega)]
      exact (h.missT d (by omega) (hm j hj)).2
    refine (hb.big (Fr.qsum fun q hq => ?_) (by decide)).sz
    obtain ⟨j, hj, rfl⟩ := List.mem_map.mp hq
    rw [h.mT_eq d.ldr.w0 (by have := hm j hj; omega)]
    exact (h.missT d (by omega) (hm j hj)).1.dvd LL6_DD
theorem ShsL.lmOk (h : ShsL w n shs) (d : Dt w r c) (hn : n = off w r) (ss : List Str) : LmOk w r c shs ss where
  lad := d.lad
  rc j hj := by
    obtain ⟨a, _, b⟩ := h.reach d (by omega) hj
    exact (b.big (a.dvd LL5_DD) (by decide)).sz
  t := szl_big (by rw [List.length_map]; exact Nat.le_trans (ends_few w r ss d.hw) (by decide)) fun q hq => by
    obtain ⟨j, hj, rfl⟩ := List.mem_map.mp hq
    obtain ⟨a, b⟩ := h.meanT d (by omega) (ends_lt hj).1
    exact b.big (a.dvd LL6_DD) (by decide)
theorem ShsL.miss_mT (h : ShsL w n shs) (w0 : 0 < w) (hn : n = off w r) (ss : List Str) : Nb.missSum w r shs ss = qsum ((goesF w r ss).map (mT w shs)) :=
  qsum_congr fun j hj => (h.mT_eq w0 (by have := (goes_lt hj).1; omega)).symm
theorem ShsL.worthOk (h : ShsL w n shs) (d : Dt w r c) (hn : n = off w r) (ss : List Str) : WorthOk w r c shs ss where
  lw := h.lwOk d hn ss
  lm := h.lmOk d hn ss
  a := by
    obtain ⟨a, b⟩ := h.meanSum d (by omega) ss
    exact (b.big (a.dvd LL6_DD) (by decide)).sz
  b := by
    rw [← h.miss_mT d.ldr.w0 hn]
    obtain ⟨a, b⟩ := h.missSum d (by omega) ss
    exact (b.big (a.dvd LL6_DD) (by decide)).sz
theorem ShsL.worth (h : ShsL w n shs) (d : Dt w r c) (hn : n = off w r) (ss : List Str) : Fr (LL ^ 5 * LL) (worthF w r c shs ss) ∧ Ab (2 ^ 45) (worthF w r c shs ss) := by
  obtain ⟨a, b⟩ := h.meanSum d (by omega) ss
  obtain ⟨a2, b2⟩ := h.missSum d (by omega) ss
  unfold worthF
  rw [← h.miss_mT d.ldr.w0 hn]
  exact ⟨a.sub a2, (b.sub b2).mono (by decide)⟩
end
end Nb
end -- M10
section -- L8
set_option maxHeartbeats 1000000
namespace Nb
open PySem PySem.Spec PyProof.Rows L2
theorem StopsOk.st {w r : Nat} {ss : List Str} (h : StopsOk w r ss) (hw : Hasw w r) : StOk w r ss := ⟨hw, by have := h.2; omega, fun t ht => by
  obtain ⟨j, hj, rfl⟩ := List.mem_map.mp (h.1 t ht)
  exact innB_bT hw.1.1 (List.mem_range.mp hj)⟩
theorem stopF_ok {w r : Nat} {c : Nat → List Rat} (hw : Hasw w r) : StOk w r (stopF (w, r, c)) := ⟨hw, by
  show (List.map _ _).length ≤ _
  rw [List.length_map]
  refine Nat.le_trans (List.length_filter_le _ _) ?_
  rw [List.length_range]
  exact Nat.le_trans (Nat.le_trans (off_le (Nat.le_succ r)) (hasw_off hw)) (by decide), fun t ht => by
  obtain ⟨j, hj, rfl⟩ := List.mem_map.mp ht
  exact innB_bT hw.1.1 (List.mem_range.mp (List.mem_filter.mp hj).1)⟩
/-- all that a play draws -/
structure Drw where
  w : Nat
  r : Nat
  c : Nat → List Rat
  s0 : List (List Rat)
  s1 : List (List Rat)
  ss : List Str
structure DrwOk (d : Drw) : Prop where
  dt : Dt d.w d.r d.c
  h0 : ShsL d.w (off d.w d.r) d.s0
  h1 : ShsL d.w (off d.w d.r) d.s1
  st : StOk d.w d.r d.ss
section
variable {K : PySem.W.Frag} {mg : Str → Option Value} {base : Heap} {P : Program} {w : World} {Ct Cp : Addr}
abbrev tThings (K : PySem.W.Frag) (Cp : Addr) (d : Drw) : Ty := tLst [tPlan K Cp d.w d.r d.s0, tPlan K Cp d.w d.r d.s1, tLst (d.ss.map tS), tShl K d.s0, tShl K d.s1]
theorem flatQ (K : PySem.W.Frag) (q : Rat) : tQ K q = tFlat K true [.int q.num, .int (q.den : Int)] := rfl
theorem flatS (K : PySem.W.Frag) (ss : List Str) : tLst (ss.map tS) = tFlat K false (ss.map V.str) := by
  show _ = tLst ((ss.map V.str).map tC)
  rw [List.map_map]
  rfl
section
variable {X : Cx} {C : HC} {G : Env} {a b : Expr} {pos p : Pos} {k : Nat}
theorem sameQ (T : Txt X.K X.mg) {q : Rat} (hr : Room k X.A) (hk : 2 ≤ k) (ha : PX X C G a (tQ X.K q)) (hb : PX X C G b (tQ X.K q)) (hg : Gl X "_law_same" := by rfl) (he : starEach [a, b] X.env = (false, eval a X.env) :: starEach [b] X.env := by rfl) (he2 : starEach [b] X.env = (false, eval b X.env) :: starEach [] X.env := by rfl) (hpl : (backTo pos (starEach [b] X.env)).any (·.1) = false := by rfl) :
    PXt X C G (.Call (.Name "_law_same" p) [a, b] [] pos) true :=
  pxt_val (px_call (ok_same1 T) (true, [.int q.num, .int (q.den : Int)]) rfl hr (pxs_cons ha (pxs_cons hb pxs_nil he2) he) ⟨fun v hv => by
    simp only [List.mem_cons, List.not_mem_nil, or_false] at hv
    rcases hv with rfl | rfl <;> exact .int _, by show 2 ≤ 1000; decide⟩ hk hg rfl he hpl)
theorem sameS (T : Txt X.K X.mg) {ss : List Str} (hr : Room k X.A) (hk : 2 ≤ k) (hn : ss.length ≤ 1000) (ha : PX X C G a (tLst (ss.map tS))) (hb : PX X C G b (tLst (ss.map tS))) (hg : Gl X "_law_same" := by rfl) (he : starEach [a, b] X.env = (false, eval a X.env) :: starEach [b] X.env := by rfl) (he2 : starEach [b] X.env = (false, eval b X.env) :: starEach [] X.env := by rfl) (hpl : (backTo pos (starEach [b] X.env)).any (·.1) = false := by rfl) :
    PX X C G (.Call (.Name "_law_same" p) [a, b] [] pos) (tB true) :=
  px_call (ok_same1 T) (false, ss.map V.str) rfl hr (pxs_cons (ha.cast (flatS X.K ss)) (pxs_cons (hb.cast (flatS X.K ss)) pxs_nil he2) he) ⟨fun v hv => by
    obtain ⟨s, _, rfl⟩ := List.mem_map.mp hv
    exact .str s, by rw [List.length_map]; exact hn⟩ hk hg rfl he hpl
theorem sameB' (T : Txt X.K X.mg) {x : Bool} (hr : Room k X.A) (hk : 1 ≤ k) (ha : PX X C G a (tB x)) (hb : PX X C G b (tB x)) (hg : Gl X "_law_same" := by rfl) (he : starEach [a, b] X.env = (false, eval a X.env) :: starEach [b] X.env := by rfl) (he2 : starEach [b] X.env = (false, eval b X.env) :: starEach [] X.env := by rfl) (hpl : (backTo pos (starEach [b] X.env)).any (·.1) = false := by rfl) :
    PXt X C G (.Call (.Name "_law_same" p) [a, b] [] pos) true :=
  pxt_val (px_call (ok_same0 T) (.bl x) rfl hr (pxs_cons ha (pxs_cons hb pxs_nil he2) he) (.bl x) hk hg rfl he hpl)
theorem PX.shq {shs : List (List Rat)} (h : PX X C G a (tShl X.K shs)) : PX X C G a (tShq X.K shs) := h.sub fun H v ⟨o, xs, e, h2, h3⟩ => ⟨o, xs, e, h2, TyAll.mapImp (f := fun l => tLst (List.map (tQ X.K) l)) (g := fun l => tSeq X.K (List.map (tQ X.K) l)) (fun _ _ _ h => Or.inl h) h3⟩
end
theorem sc142 : FnScope ["_law_width", "_law_bounds_here", "_law_ladder", "_law_things", "_law_handed", "_law_rounds", "_law_walk", "_law_pair"] ["_law_width", "_law_bounds_here", "_law_ladder", "_law_things", "_law_handed"] (defScope (top 142)) := ⟨rfl, rfl, rfl, by decide +kernel, rfl, by decide +kernel, by decide +kernel⟩
theorem bnd_len' (K : PySem.W.Frag) (r : Nat) (c : Nat → List Rat) : (((List.range (r + 1)).map fun k => tLst ((c k).map (tQ K))).length : Int) - 1 = ((r : Nat) : Int) := by rw [bnd_count]; omega
theorem ok_drawn (T : Txt K mg) (BT : TabT K mg Ct) (BP : PlanT K mg Cp) : Ok P w K mg base 8 "_law_drawn" ["_law_width", "_law_bounds_here", "_law_ladder", "_law_things", "_law_handed"]
    (Pur (fun d : Drw => [tI (d.w : Nat), tBnd K d.r d.c, tLad K Ct d.w d.r d.c, tThings K Cp d, tSeq K (d.ss.map tS)]) (fun d => DrwOk d ∧ d.ss.length ≤ 1000) (fun _ => tB true)) := by
  refine T.d__law_drawn.ok sc142 (fun _ => rfl) (fun _ _ _ _ _ _ us hl => match us, hl with | [_, _, _, _, _], _ => rfl) fun f cdv A outer s H E C0 C d hr x hp => ?_
  obtain ⟨w', r, c, s0, s1, ss⟩ := d
  obtain ⟨⟨dt, h0, h1, st⟩, hn⟩ := hp
  replace dt : Dt w' r c := dt
  replace h0 : ShsL w' (off w' r) s0 := h0
  replace h1 : ShsL w' (off w' r) s1 := h1
  replace st : StOk w' r ss := st
  replace hn : ss.length ≤ 1000 := hn
  have w0 := dt.ldr.w0
  have hel := ends_few w' r ss dt.hw
  show PB _ C [some (tI (w' : Nat)), some (tBnd K r c), some (tLad K Ct w' r c), some (tThings K Cp ⟨w', r, c, s0, s1, ss⟩), some (tSeq K (ss.map tS)), none, none, none] _ _ _
  refine plet sc142.nd 5 ((px_sub (px_lenL T.f_len (va 1 rfl)) px_int).cast (congrArg tI (bnd_len' K r c))) ?_
  refine plet sc142.nd 6 (px_call (ok_lwalk T) ((w', r, s1), ss) rfl hr (pxs_cons (va 0 rfl) (pxs_cons (va 5 rfl) (pxs_cons (px_ixL (T := tShl K s1) (va 3 rfl) px_int rfl).shq (pxs_cons (px_ixL (T := tLst (ss.map tS)) (va 3 rfl) px_int rfl).seqL pxs_nil)))) (h1.lwOk dt rfl ss)) ?_
  refine pb_guard (x := false) (pxt_not (x := true) (sameQ T hr (by decide) (px_call (ok_slack T BT BP) ((w', r, c), s0) rfl hr (pxs_cons (px_ixL (T := tPlan K Cp w' r s0) (va 3 rfl) px_int rfl) (pxs_cons (va 2 rfl) pxs_nil)) (h0.cho.slack dt rfl))
    ((px_call (ok_lslack T) ((w', r, c), s0) rfl hr (pxs_cons (va 0 rfl) (pxs_cons (va 1 rfl) (pxs_cons (px_ixL (T := tShl K s0) (va 3 rfl) px_int rfl).shq pxs_nil))) (h0.cho.ls dt rfl)).cast (congrArg (tQ K) (slack_eq w0 dt.ldr.len).symm)))) (fun h => nomatch h) fun _ => ?_
  refine pb_guard (x := false) (pxt_not (x := true) (pxt_val (sameS T (ss := (endsF w' r ss).map (bT w')) hr (by decide) (by rw [List.length_map]; omega) ((px_callN (ok_endings T) (ss, r, w') rfl hr (pxs_cons (va 4 rfl) (pxs_cons (va 5 rfl) pxs_nil)) (px_kw1 (va 0 rfl)) rfl st).cast (by rw [List.map_map]; rfl))
    ((px_lcN (j := 7) (own := [("_law_pair", 7)]) (l := endsF w' r ss) (tA := tPr K w' s1) (E := fun j => tS (bT w' j)) rfl sc142.nd (pix_list (px_ixT (T := tLst ((endsF w' r ss).map (tPr K w' s1))) (va 6 rfl) px_int rfl)) (blkOk_by (by kernel_rfl)) (by decide) (by omega) (fun s H D cl fp d Vs a => nm sc142.nd 7) (fun s H D cl fp d Vs j _ _ => px_ixT (T := tS (bT w' j)) (va 7 rfl) px_int rfl)).cast (by rw [List.map_map]; rfl))))) (fun h => nomatch h) fun _ => ?_
  refine pb_guard (x := decide ((w' : Int) = 2) && false) (pxt_w (pxw_and (pxt_eq (va 0 rfl) px_int) fun h => pxw_and1 (pxt_not (x := true) (pxt_val (sameS T (ss := (endsF w' r ss).map (bT w')) hr (by decide) (by rw [List.length_map]; omega) ((px_callD (ok_endings2 T) (ss, r, 2) rfl hr (pxs_cons (va 4 rfl) (pxs_cons (va 5 rfl) pxs_nil)) rfl (by
      have e : w' = 2 := by have := of_decide_eq_true h; omega
      exact e ▸ st)).cast (by
      have e : w' = 2 := by have := of_decide_eq_true h; omega
      subst e
      rw [List.map_map]; rfl))
    ((px_lcN (j := 7) (own := [("_law_pair", 7)]) (l := endsF w' r ss) (tA := tPr K w' s1) (E := fun j => tS (bT w' j)) rfl sc142.nd (pix_list (px_ixT (T := tLst ((endsF w' r ss).map (tPr K w' s1))) (va 6 rfl) px_int rfl)) (blkOk_by (by kernel_rfl)) (by decide) (by omega) (fun s H D cl fp d Vs a => nm sc142.nd 7) (fun s H D cl fp d Vs j _ _ => px_ixT (T := tS (bT w' j)) (va 7 rfl) px_int rfl)).cast (by rw [List.map_map]; rfl))))))) (fun h => by rw [Bool.and_false] at h; cases h) fun _ => ?_
  refine pb_guard (x := false) (pxt_not (x := true) (sameQ T hr (by decide) (px_call (ok_smiss T BP) ((w', r, s1), ss) rfl hr (pxs_cons (px_ixL (T := tPlan K Cp w' r s1) (va 3 rfl) px_int rfl) (pxs_cons (va 4 rfl) pxs_nil)) (h1.missOk dt rfl st))
    ((px_ixT (T := tQ K (qsum ((goesF w' r ss).map (mT w' s1)))) (va 6 rfl) px_int rfl).cast (congrArg (tQ K) (h1.miss_mT w0 rfl ss).symm)))) (fun h => nomatch h) fun _ => ?_
  refine pb_guard (x := false) (pxt_not (x := true) (sameQ T hr (by decide) (px_call (ok_smean T BT BP) ((w', r, c), s1, ss) rfl hr (pxs_cons (px_ixL (T := tPlan K Cp w' r s1) (va 3 rfl) px_int rfl) (pxs_cons (va 4 rfl) (pxs_cons (va 2 rfl) pxs_nil))) (h1.meanOk dt rfl st))
    (px_call (ok_lmean T) ((w', r, c), s1, ss) rfl hr (pxs_cons (va 0 rfl) (pxs_cons (va 1 rfl) (pxs_cons (va 6 rfl) pxs_nil))) (h1.lmOk dt rfl ss)))) (fun h => nomatch h) fun _ => ?_
  exact pb_retP x (sameS T hr (by decide) hn (px_listOf T.f_list boot_list (va 4 rfl)) (px_ixL (T := tLst (ss.map tS)) (va 3 rfl) px_int rfl))
end
end Nb
end -- L8
section -- M11
set_option maxHeartbeats 1000000
namespace Nb
open PySem PySem.Spec PyProof.Rows L2
theorem mark_mem {w r : Nat} {ss tt : List Str} (h : ∀ t, t ∈ ss ↔ t ∈ tt) : stB w ss = stB w tt := by
  funext j
  unfold stB
  by_cases hm : bT w j ∈ ss
  · rw [decide_eq_true hm, decide_eq_true ((h _).mp hm)]
  · rw [decide_eq_false hm, decide_eq_false (fun z => hm ((h _).mpr z))]
theorem worth_mem {w r : Nat} {c : Nat → List Rat} {shs : List (List Rat)} {ss tt : List Str} (h : ∀ t, t ∈ ss ↔ t ∈ tt) : worthF w r c shs ss = worthF w r c shs tt := by
  unfold worthF meanSum endsF goesF
  rw [mark_mem (w := w) (r := r) h]
/-- what the chooser of shares cs keeps -/
abbrev lowF (w r : Nat) (c : Nat → List Rat) (cs : List (List Rat)) : Rat := far (-1) (spare w r c cs)
section
variable {w r : Nat} {c : Nat → List Rat}
theorem judge_eq {q : Rat} {cs fs : List (List Rat)} {ss : List Str} (d : Dt w r c) (hf : ShsL w (off w r) fs) (hi : StOk w r ss) : judge w r c ⟨q, w, r, cs, w, r, fs, ss⟩ = (!decide (lowF w r c cs < q) && !decide (q < worthF w r c fs ss)) := by
  unfold judge sameB
  have e1 : ss.all (innB w r) = true := List.all_eq_true.mpr hi.inn
  have e2 : decide (missSum w r fs ss < meanSum w r c fs ss - q) = decide (q < worthF w r c fs ss) := by
    unfold worthF
    rw [← hf.miss_mT d.ldr.w0 rfl ss]
    by_cases h : missSum w r fs ss < meanSum w r c fs ss - q
    · rw [decide_eq_true h, decide_eq_true (by grind)]
    · rw [decide_eq_false h, decide_eq_false (by grind)]
  show (decide (w = w) && decide (r = r) && (decide (w = w) && decide (r = r)) && (ss.all (innB w r) && (!decide (far (-1) (spare w r c cs) < q) && !decide (missSum w r fs ss < meanSum w r c fs ss - q)))) = _
  rw [e1, e2]
  simp
theorem form_ok {q : Rat} (h : Big q) : q.num.natAbs < 2 ^ 1900 ∧ q.den < 2 ^ 1900 := by
  have h1 := Nat.le_of_dvd DD_pos h.1.den_dvd
  have h2 := num_bound h.2.1 h.2.2
  have h3 : 2 ^ 60 * q.den ≤ 2 ^ 60 * DD := Nat.mul_le_mul_left _ h1
  have h4 : 2 ^ 60 * DD < 2 ^ 1900 := by decide +kernel
  have h5 : DD < 2 ^ 1900 := by decide +kernel
  exact ⟨by omega, by omega⟩
theorem judgeOk {q : Rat} {cs fs : List (List Rat)} {ss : List Str} (d : Dt w r c) (hq : Big q) (hc : Cho w (off w r) cs) (hf : ShsL w (off w r) fs) (hi : StOk w r ss) : JudgeOk w r c ⟨q, w, r, cs, w, r, fs, ss⟩ where
  lad := d.lad
  q := hq.sz
  few := hi.few
  len t ht := Nat.le_trans (Nat.le_of_lt (hi.len ht)) (by decide)
  more _ _ := by
    obtain ⟨a, b⟩ := hc.low d rfl
    obtain ⟨a1, b1⟩ := hf.missSum d (Nat.le_refl _) ss
    obtain ⟨a2, b2⟩ := hf.meanSum d (Nat.le_refl _) ss
    have hb : Ab (2 ^ 60) q := hq.2
    refine ⟨hc.slack d rfl, (b.big (a.dvd DM_DD) (by decide)).sz, hf.missOk d rfl hi, (b1.big (a1.dvd LL6_DD) (by decide)).sz, hf.meanOk d rfl hi, (b2.big (a2.dvd LL6_DD) (by decide)).sz, ?_⟩
    obtain ⟨x1, x2⟩ := b2.sub hb
    have h100 : ((511 * (31 ^ 5 * 400) + 2 ^ 60 : Nat) : Rat) ≤ ((2 ^ 100 : Nat) : Rat) := Rat.natCast_le_natCast.mpr (by decide)
    exact sz_DD ((a2.dvd LL6_DD).sub hq.1) (by grind) (by grind)
/-- the fold is what the chooser keeps and what the foe shows -/
theorem pour_low (d : Dt w r c) : lowF w r c ((lvF (w, r, c)).map pour) = foldOf (w, r, c) := by
  have h1 := keeps d.ldr
  have h2 := dual d.ldr.w0 d.pour.sg d.even.cho.sg (Nat.le_refl _) (Nat.le_refl _) (stopF (w, r, c)) fun j hj => low_at (w := w) (r := r) (c := c) (shs := (lvF (w, r, c)).map pour) hj
  rw [shows d.ldr] at h2
  grind
theorem low_fold {cs : List (List Rat)} (d : Dt w r c) (hc : Cho w (off w r) cs) : lowF w r c cs ≤ foldOf (w, r, c) := by
  have h2 := dual d.ldr.w0 hc.sg d.even.cho.sg (Nat.le_refl _) (Nat.le_refl _) (stopF (w, r, c)) fun j hj => low_at (w := w) (r := r) (c := c) (shs := cs) hj
  rwa [shows d.ldr] at h2
theorem fold_worth {fs : List (List Rat)} (d : Dt w r c) (hf : ShsL w (off w r) fs) (ss : List Str) : foldOf (w, r, c) ≤ worthF w r c fs ss := by
  have h2 := dual d.ldr.w0 d.pour.sg hf.cho.sg (Nat.le_refl _) (Nat.le_refl _) ss fun j hj => low_at (w := w) (r := r) (c := c) (shs := (lvF (w, r, c)).map pour) hj
  have := pour_low d
  unfold lowF at this
  rw [this] at h2
  exact h2
theorem fold_big (d : Dt w r c) : Fr DM (foldOf (w, r, c)) ∧ Ab 410 (foldOf (w, r, c)) := d.foldJ (off_pos w r)
end
end Nb
end -- M11
section -- L9
set_option maxHeartbeats 1000000
namespace Nb
open PySem PySem.Spec PyProof.Rows L2
section
variable {X : Cx} {C : HC} {G : Env} {a b : Expr} {pos p : Pos} {k : Nat} {Cl : Addr}
theorem pxt_eqPlan (T : Txt X.K X.mg) (B : PlanT X.K X.mg Cl) {w' r : Nat} {shs : List (List Rat)} (hr : Room k X.A) (hk : 1 ≤ k) (ha : PX X C G a (tPlan X.K Cl w' r shs)) (hb : PX X C G b (tPlan X.K Cl w' r shs)) : PXt X C G (.Compare a [.Eq] [b] pos) true :=
  pxt_cmpR (op_eqG (plan_eq T B) (hr.mono hk)) (T := tPlan X.K Cl w' r shs) (U := tPlan X.K Cl w' r shs) (fun H x y Q bs h1 h2 q => by
    obtain ⟨o, dx, vs, rfl, h3, h4⟩ := h1
    obtain ⟨o', dx', vs', rfl, h5, h6⟩ := h2
    exact ⟨⟨o, o', dx, dx', _, _, rfl, rfl, hid_le _ _ h3, hid_le _ _ h5, w', r, shs, ⟨o, dx, vs, rfl, hid_le _ _ h3, h4.mono hid_le⟩, ⟨o', dx', vs', rfl, hid_le _ _ h5, h6.mono hid_le⟩⟩, fun H' e => q _ H' e rfl⟩) ha hb (nomark _)
theorem PX.shqT {shs : List (List Rat)} (h : PX X C G a (tLst (shs.map (tSh X.K)))) : PX X C G a (tShq X.K shs) := h.sub fun H v ⟨o, xs, e, h2, h3⟩ => ⟨o, xs, e, h2, TyAll.mapImp (f := tSh X.K) (g := fun l => tSeq X.K (List.map (tQ X.K) l)) (fun _ _ _ h => Or.inr h) h3⟩
theorem belowT (T : Txt X.K X.mg) {p' q : Rat} (hr : Room k X.A) (hk : 1 ≤ k) (ha : PX X C G a (tQ X.K p')) (hb : PX X C G b (tQ X.K q)) (s1 : Sz p') (s2 : Sz q) (hg : Gl X "_law_below" := by rfl) (he : starEach [a, b] X.env = (false, eval a X.env) :: starEach [b] X.env := by rfl) (he2 : starEach [b] X.env = (false, eval b X.env) :: starEach [] X.env := by rfl) (hpl : (backTo pos (starEach [b] X.env)).any (·.1) = false := by rfl) :
    PX X C G (.Call (.Name "_law_below" p) [a, b] [] pos) (tB (decide (p' < q))) := px_call (ok_below T) (p', q) rfl hr (pxs_cons ha (pxs_cons hb pxs_nil he2) he) ⟨s1, s2⟩ hk hg rfl he hpl
end
section
variable {K : PySem.W.Frag} {mg : Str → Option Value} {base : Heap} {P : Program} {w : World} {Ct Cp : Addr}
abbrev pouF (z : LD) : List (List Rat) := (lvF z).map pour
abbrev eveF (z : LD) : List (List Rat) := (lvF z).map even
abbrev tPaper (K : PySem.W.Frag) (Cp : Addr) (z : LD) : Ty := tPap K Cp (foldOf z) z.1 z.2.1 (pouF z) (eveF z) (stopF z)
theorem stop_few {w r : Nat} {c : Nat → List Rat} (hw : Hasw w r) : (stopF (w, r, c)).length ≤ 511 := by
  show (List.map _ _).length ≤ _
  rw [List.length_map]
  refine Nat.le_trans (List.length_filter_le _ _) ?_
  rw [List.length_range]
  exact Nat.le_trans (off_le (Nat.le_succ r)) (hasw_off hw)
theorem sc143 : FnScope ["_law_width", "_law_bounds_here", "_law_ladder", "_law_paper", "_law_pair", "_law_plan"] ["_law_width", "_law_bounds_here", "_law_ladder", "_law_paper"] (defScope (top 143)) := ⟨rfl, rfl, rfl, by decide +kernel, rfl, by decide +kernel, by decide +kernel⟩
theorem ok_holds (T : Txt K mg) (BT : TabT K mg Ct) (BP : PlanT K mg Cp) : Ok P w K mg base 10 "_law_holds" ["_law_width", "_law_bounds_here", "_law_ladder", "_law_paper"]
    (Pur (fun z : LD => [tI (z.1 : Nat), tBnd K z.2.1 z.2.2, tLad K Ct z.1 z.2.1 z.2.2, tPaper K Cp z]) (fun z => Dt z.1 z.2.1 z.2.2) (fun _ => tB true)) := by
  refine T.d__law_holds.ok sc143 (fun _ => rfl) (fun _ _ _ _ _ _ us hl => match us, hl with | [_, _, _, _], _ => rfl) fun f cdv A outer s H E C0 C z hr x d => ?_
  obtain ⟨w', r, c⟩ := z
  replace d : Dt w' r c := d
  have hsf : (stopF (w', r, c)).length ≤ 1000 := Nat.le_trans (stop_few d.hw) (by decide)
  obtain ⟨f1, f2⟩ := fold_big d
  have szF : Sz (foldOf (w', r, c)) := (f2.big (f1.dvd DM_DD) (by decide)).sz
  show PB _ C [some (tI (w' : Nat)), some (tBnd K r c), some (tLad K Ct w' r c), some (tPaper K Cp (w', r, c)), none, none] _ _ _
  refine pb_guard (x := false) ((pxt_w (pxw_or (x := false) (pxt_not (x := true) (pxt_val (px_isi (n := "tuple") (m := "tuple") (hasT (Ts := [tQ K (foldOf (w', r, c)), tPlan K Cp w' r (pouF (w', r, c)), tPlan K Cp w' r (eveF (w', r, c)), tLst ((stopF (w', r, c)).map tS)])) rfl T.f_isinstance T.f_tuple boot_tuple (va 3 rfl)))) fun _ => pxw_or (pxt_ne (px_lenT (Ts := [tQ K (foldOf (w', r, c)), tPlan K Cp w' r (pouF (w', r, c)), tPlan K Cp w' r (eveF (w', r, c)), tLst ((stopF (w', r, c)).map tS)]) T.f_len (va 3 rfl)) (px_int (i := 4))) fun _ => pxw_or1 (pxt_not (x := true) (sameQ T hr (by decide) (px_ixT (T := tQ K (foldOf (w', r, c))) (va 3 rfl) px_int rfl) (px_call (ok_fold T BT) (w', r, c) rfl hr (pxs_cons (va 2 rfl) pxs_nil) d.foldOk))))).cast (by rfl)) (fun h => nomatch h) fun _ => ?_
  refine plet sc143.nd 4 (px_call (ok_foe T BT BP) (w', r, c) rfl hr (pxs_cons (va 2 rfl) pxs_nil) ⟨d.papOk.foe.fo, d.papOk.foe.rc, d.papOk.foe.sz, d.papOk.foe.sh⟩) ?_
  refine pb_guard (x := false) (pxt_w (pxw_or (x := false) (pxt_not (x := true) (pxt_eqPlan T BP (w' := w') (r := r) (shs := pouF (w', r, c)) hr (by decide) (px_ixT (va (T := tPaper K Cp (w', r, c)) 3 rfl) px_int rfl) (px_call (ok_chooser T BT BP) (w', r, c) rfl hr (pxs_cons (va 2 rfl) pxs_nil) ⟨d.foldOk2, d.papOk.cho⟩))) fun _ => pxw_or (x := false) (pxt_not (x := true) (pxt_val (sameS T (ss := stopF (w', r, c)) hr (by decide) hsf (px_ixT (va (T := tPaper K Cp (w', r, c)) 3 rfl) px_int rfl) (px_ixT (va (T := tTup K [tPlan K Cp w' r (eveF (w', r, c)), tLst ((stopF (w', r, c)).map tS)]) 4 rfl) px_int rfl))))
     fun _ => pxw_or1 (pxt_not (x := true) (pxt_eqPlan T BP (w' := w') (r := r) (shs := eveF (w', r, c)) hr (by decide) (px_ixT (va (T := tPaper K Cp (w', r, c)) 3 rfl) px_int rfl) (px_ixT (va (T := tTup K [tPlan K Cp w' r (eveF (w', r, c)), tLst ((stopF (w', r, c)).map tS)]) 4 rfl) px_int rfl))))) (fun h => nomatch h) fun _ => ?_
  refine pb_forN (j := 5) (l := [pouF (w', r, c), eveF (w', r, c)]) (tA := fun s => tPlan K Cp w' r s) PassesOwn.never rfl (pix_list (px_lst (Ts := [tPlan K Cp w' r (pouF (w', r, c)), tPlan K Cp w' r (eveF (w', r, c))]) (pxs_cons (px_ixT (va (T := tPaper K Cp (w', r, c)) 3 rfl) px_int rfl) (pxs_cons (px_ixT (va (T := tPaper K Cp (w', r, c)) 3 rfl) px_int rfl) pxs_nil)))) (fun _ => C) (fun _ => [some (tI (w' : Nat)), some (tBnd K r c), some (tLad K Ct w' r c), some (tPaper K Cp (w', r, c)), none, none]) sc143.nd rfl (.inl rfl) (fun _ => rfl) (fun σ H h => h.weak (gle_keep (gle_keep (gle_keep (gle_keep (gle_drop (gle_keep gle_nil))))))) (fun i shs ha => ?_) ?_
  · have hpl : PlanOk w' r shs := by
      have hm := List.mem_of_getElem? ha
      simp only [List.mem_cons, List.not_mem_nil, or_false] at hm
      rcases hm with rfl | rfl
      · exact d.pour.plan d.hw rfl
      · exact d.even.cho.plan d.hw rfl
    refine pb_guard (x := false) (pxt_not (x := true) (pxt_val (px_call (ok_lsharings T) (w', r, shs) rfl hr (pxs_cons (va 0 rfl) (pxs_cons ((px_sub (px_lenL T.f_len (va 1 rfl)) px_int).cast (congrArg tI (bnd_len' K r c))) (pxs_cons (px_prop (plan_shares T BP) (w', r, shs) rfl hr (va 5 rfl) rfl trivial) pxs_nil))) hpl))) (fun h => nomatch h) fun _ => pb_endI (gi_keep (gi_keep (gi_keep (gi_keep (gi_keep (gi_drop gi_nil))))))
  · have hlo := pour_low d
    have hsl := slack_eq (shs := pouF (w', r, c)) d.ldr.w0 d.ldr.len
    unfold lowF at hlo
    rw [hlo] at hsl
    refine pb_guard (x := false) ((pxt_val (belowT T hr (by decide) ((px_call (ok_lslack T) ((w', r, c), pouF (w', r, c)) rfl hr (pxs_cons (va 0 rfl) (pxs_cons (va 1 rfl) (pxs_cons (px_prop (plan_shares T BP) (w', r, pouF (w', r, c)) rfl hr (px_ixT (va (T := tPaper K Cp (w', r, c)) 3 rfl) px_int rfl) rfl trivial).shqT pxs_nil))) (d.pour.ls d rfl)).cast (congrArg (tQ K) hsl.symm)) (px_ixT (T := tQ K (foldOf (w', r, c))) (va 3 rfl) px_int rfl) szF szF)).cast (decide_eq_false Rat.lt_irrefl)) (fun h => nomatch h) fun _ => ?_
    exact pb_retP x ((px_not (belowT T hr (by decide) (px_ixT (T := tQ K (foldOf (w', r, c))) (va 3 rfl) px_int rfl) ((px_call (ok_lworth T) ((w', r, c), eveF (w', r, c), stopF (w', r, c)) rfl hr (pxs_cons (va 0 rfl) (pxs_cons (va 1 rfl) (pxs_cons (px_prop (plan_shares T BP) (w', r, eveF (w', r, c)) rfl hr (px_ixT (va (T := tPaper K Cp (w', r, c)) 3 rfl) px_int rfl) rfl trivial).shqT (pxs_cons (px_ixT (T := tLst ((stopF (w', r, c)).map tS)) (va 3 rfl) px_int rfl).seqL pxs_nil)))) (d.even.worthOk d rfl _)).cast (congrArg (tQ K) (shows d.ldr))) szF szF)).cast (congrArg tB (by rw [decide_eq_false Rat.lt_irrefl]; rfl)))
end
end Nb
end -- L9
section -- L10
set_option maxHeartbeats 1000000
namespace Nb
open PySem PySem.Spec PyProof.Rows L2
def EE : Rat := Rat.divInt 1 (10 ^ 25)
theorem EE_num : EE.num = 1 := by decide +kernel
theorem EE_den : EE.den = 10 ^ 25 := by decide +kernel
theorem EE_fr : Fr (10 ^ 25) EE := by have := Fr.den EE; rwa [EE_den] at this
theorem EE_ab : Ab 1 EE := ⟨by decide +kernel, by decide +kernel⟩
theorem DMe : DM * 10 ^ 25 ∣ DD := by decide +kernel
section
variable {X : Cx} {C : HC} {G : Env} {a b e : Expr} {pos p : Pos} {k : Nat}
theorem px_eqQ (hr : Room k X.A) {p' q : Rat} (ha : PX X C G a (tQ X.K p')) (hb : PX X C G b (tQ X.K q)) : PX X C G (.Compare a [.Eq] [b] pos) (tB (decide (p' = q))) :=
  (px_eqD hr datQ datQ rfl rfl ha hb).cast (by
    rw [eqv_pair]
    congr 1
    by_cases h : p' = q
    · subst h; simp
    · rw [decide_eq_false h, decide_eq_false]
      rintro ⟨h1, h2⟩
      exact h (Rat.ext h1 (by omega)))
end
section
variable {K : PySem.W.Frag} {mg : Str → Option Value} {base : Heap} {P : Program} {w : World} {Ct Cp : Addr}
theorem sc144 : FnScope ["_law_store_here", "_law_width", "_law_bounds_here", "_law_ladder", "_law_paper", "_law_things", "_law_worth", "_law_slack", "_law_fold", "_law_number", "_law_form_here", "_law_kept", "_law_shown", "_law_due"] ["_law_store_here", "_law_width", "_law_bounds_here", "_law_ladder", "_law_paper", "_law_things"] (defScope (top 144)) := ⟨rfl, rfl, rfl, by decide +kernel, rfl, by decide +kernel, by decide +kernel⟩
theorem stRev {w r : Nat} {ss : List Str} (h : StOk w r ss) : StOk w r ss.reverse := ⟨h.hw, by rw [List.length_reverse]; exact h.few, fun t ht => h.inn t (List.mem_reverse.mp ht)⟩
theorem stTwice {w r : Nat} {ss : List Str} (h : StOk w r ss) (hn : ss.length ≤ 1000) : StOk w r (ss ++ ss) := ⟨h.hw, by rw [List.length_append]; omega, fun t ht => h.inn t ((List.mem_append.mp ht).elim id id)⟩
theorem ok_judged (T : Txt K mg) (BT : TabT K mg Ct) (BP : PlanT K mg Cp) : Ok P w K mg base 10 "_law_judged" ["_law_store_here", "_law_width", "_law_bounds_here", "_law_ladder", "_law_paper", "_law_things"]
    (DrwSp (fun d : Drw => [tI (d.w : Nat), tBnd K d.r d.c, tLad K Ct d.w d.r d.c, tPaper K Cp (d.w, d.r, d.c), tThings K Cp d]) (fun d => DrwOk d ∧ d.ss.length ≤ 2000) (fun _ => tB true)) := by
  refine T.d__law_judged.okS sc144 (fun _ => rfl) (fun _ _ _ _ _ _ us hl => match us, hl with | [_, _, _, _, _, _], _ => rfl) fun f cdv A outer s H E M p hp D hr hD => ?_
  obtain ⟨w', r, c, s0, s1, ss⟩ := D
  obtain ⟨⟨d, h0, h1, st⟩, hn⟩ := hD
  replace d : Dt w' r c := d
  replace h0 : ShsL w' (off w' r) s0 := h0
  replace h1 : ShsL w' (off w' r) s1 := h1
  replace st : StOk w' r ss := st
  have hsf := stop_few (c := c) d.hw
  have stF := stopF_ok (c := c) d.hw
  obtain ⟨f1, f2⟩ := fold_big d
  obtain ⟨l1, l2⟩ := h0.cho.low d rfl
  obtain ⟨w1, w2⟩ := h1.worth d rfl ss
  have eqL := slack_eq (shs := s0) d.ldr.w0 d.ldr.len
  generalize hF : foldOf (w', r, c) = F at f1 f2
  generalize hL : far (-1) (spare w' r c s0) = S at l1 l2 eqL
  generalize hW : worthF w' r c s1 ss = W at w1 w2
  have bF : Big F := f2.big (f1.dvd DM_DD) (by decide)
  have bS : Big S := l2.big (l1.dvd DM_DD) (by decide)
  have bW : Big W := w2.big (w1.dvd LL6_DD) (by decide)
  have eDM : Fr DD F ∧ Fr DD EE := ⟨f1.dvd DM_DD, EE_fr.dvd (Nat.dvd_trans (Nat.dvd_mul_left _ DM) DMe)⟩
  have bE : Big EE := EE_ab.big eDM.2 (by decide)
  have b4 : Big (F + EE) := (f2.add EE_ab).big (eDM.1.add eDM.2) (by decide)
  have b5 : Big (F - EE) := (f2.sub EE_ab).big (eDM.1.sub eDM.2) (by decide)
  have i1 : S ≤ F := by have := low_fold d h0.cho; unfold lowF at this; rwa [hL, hF] at this
  have i2 : F ≤ W := by have := fold_worth d h1 ss; rwa [hW, hF] at this
  have hall : ∀ q ∈ [F, S, W, F + EE, F - EE], Big q := fun q hq => by
    simp only [List.mem_cons, List.not_mem_nil, or_false] at hq
    rcases hq with rfl | rfl | rfl | rfl | rfl <;> assumption
  have hpap : tPaper K Cp (w', r, c) = tPap K Cp F w' r (pouF (w', r, c)) (eveF (w', r, c)) (stopF (w', r, c)) := by rw [← hF]
  show PB _ _ [some (tR p), some (tI (w' : Nat)), some (tBnd K r c), some (tLad K Ct w' r c), some (tPaper K Cp (w', r, c)), some (tThings K Cp ⟨w', r, c, s0, s1, ss⟩), none, none, none, none, none, none, none, none] _ _ _
  rw [hpap]
  refine plet sc144.nd 6 ((px_call (ok_lworth T) ((w', r, c), s1, ss) rfl hr (pxs_cons (va 1 rfl) (pxs_cons (va 2 rfl) (pxs_cons (px_ixL (T := tShl K s1) (va 5 rfl) px_int rfl).shq (pxs_cons (px_ixL (T := tLst (ss.map tS)) (va 5 rfl) px_int rfl).seqL pxs_nil)))) (h1.worthOk d rfl ss)).cast (congrArg (tQ K) hW)) ?_
  refine plet sc144.nd 7 ((px_call (ok_lslack T) ((w', r, c), s0) rfl hr (pxs_cons (va 1 rfl) (pxs_cons (va 2 rfl) (pxs_cons (px_ixL (T := tShl K s0) (va 5 rfl) px_int rfl).shq pxs_nil))) (h0.cho.ls d rfl)).cast (congrArg (tQ K) eqL.symm)) ?_
  refine plet sc144.nd 8 (px_ixT (T := tQ K F) (va 4 rfl) px_int rfl) ?_
  refine pb_guard (x := false) ((pxt_w (pxw_or (pxt_val (belowT T hr (by decide) (va 8 rfl) (va 7 rfl) bF.sz bS.sz)) fun _ => pxw_or1 (pxt_val (belowT T hr (by decide) (va 6 rfl) (va 8 rfl) bW.sz bF.sz)))).cast (by rw [decide_eq_false (Rat.not_lt.mpr i1), decide_eq_false (Rat.not_lt.mpr i2)]; rfl)) (fun h => nomatch h) fun _ => ?_
  refine pb_forN (j := 9) (l := [F, S, W, F + EE, F - EE]) (tA := tQ K) PassesOwn.never rfl (pix_list (px_lst (Ts := [tQ K F, tQ K S, tQ K W, tQ K (F + EE), tQ K (F - EE)]) (pxs_cons (va 8 rfl) (pxs_cons (va 7 rfl) (pxs_cons (va 6 rfl) (pxs_cons (px_call (ok_plus T) (F, EE) rfl hr (pxs_cons (va 8 rfl) (pxs_cons ((px_tup (pxs_cons (px_int (i := 1)) (pxs_cons (px_pow (px_int (i := 10)) (px_int (i := 25)) ⟨by decide, by decide, by decide⟩) pxs_nil))).cast (by show tTup K _ = tTup K [tI EE.num, tI (EE.den : Int)]; rw [EE_num, EE_den]; rfl)) pxs_nil)) ⟨bF.sz, bE.sz⟩) (pxs_cons (px_call (ok_minus T) (F, EE) rfl hr (pxs_cons (va 8 rfl) (pxs_cons ((px_tup (pxs_cons (px_int (i := 1)) (pxs_cons (px_pow (px_int (i := 10)) (px_int (i := 25)) ⟨by decide, by decide, by decide⟩) pxs_nil))).cast (by show tTup K _ = tTup K [tI EE.num, tI (EE.den : Int)]; rw [EE_num, EE_den]; rfl)) pxs_nil)) ⟨bF.sz, bE.sz⟩) pxs_nil))))))) (fun _ => HC.st H M p hp) (fun _ => [some (tR p), some (tI (w' : Nat)), some (tBnd K r c), some (tLad K Ct w' r c), some (tPap K Cp F w' r (pouF (w', r, c)) (eveF (w', r, c)) (stopF (w', r, c))), some (tThings K Cp ⟨w', r, c, s0, s1, ss⟩), some (tQ K W), some (tQ K S), some (tQ K F), none, none, none, none, none]) sc144.nd rfl (.inl rfl) (fun _ => rfl) (fun _ _ h => h) (fun i q hq => ?_) (pb_retS ext_st px_bl)
  have bq := hall q (List.mem_of_getElem? hq)
  refine plet sc144.nd 10 (px_draw (ok_form T) st_C q rfl hr (pxs_cons (va 0 rfl) (pxs_cons (va 9 rfl) pxs_nil)) (form_ok bq)) ?_
  refine plet sc144.nd 11 (px_not (belowT T hr (by decide) (va 7 rfl) (va 9 rfl) bS.sz bq.sz)) ?_
  refine plet sc144.nd 12 (px_not (belowT T hr (by decide) (va 9 rfl) (va 6 rfl) bq.sz bW.sz)) ?_
  have jd : ∀ {cs fs : List (List Rat)} {ts : List Str}, Cho w' (off w' r) cs → ShsL w' (off w' r) fs → StOk w' r ts → JudgeOk w' r c ⟨q, w', r, cs, w', r, fs, ts⟩ := fun h1 h2 h3 => judgeOk d bq h1 h2 h3
  have pl := pour_low d
  have sh := shows d.ldr
  rw [hF] at pl sh
  have wr : worthF w' r c (eveF (w', r, c)) (stopF (w', r, c)).reverse = F := by rw [← sh]; exact worth_mem fun t => List.mem_reverse
  have wt : worthF w' r c (eveF (w', r, c)) (stopF (w', r, c) ++ stopF (w', r, c)) = F := by rw [← sh]; exact worth_mem fun t => by rw [List.mem_append, or_self]
  have j1 : judge w' r c ⟨q, w', r, pouF (w', r, c), w', r, eveF (w', r, c), (stopF (w', r, c)).reverse⟩ = decide (q = F) := by
    rw [judge_eq d d.even (stRev stF), wr, pl]
    by_cases h : q = F
    · subst h; rw [decide_eq_false Rat.lt_irrefl, decide_eq_true rfl]; rfl
    · rw [decide_eq_false h]
      by_cases h2 : F < q
      · rw [decide_eq_true h2]; rfl
      · rw [decide_eq_false h2, decide_eq_true (p := q < F) (by grind)]; rfl
  have j2 : judge w' r c ⟨q, w', r, s0, w', r, eveF (w', r, c), stopF (w', r, c) ++ stopF (w', r, c)⟩ = ((!decide (S < q)) && !decide (q < F)) := by
    rw [judge_eq d d.even (stTwice stF (by omega)), wt]
    unfold lowF
    rw [hL]
  have j3 : judge w' r c ⟨q, w', r, pouF (w', r, c), w', r, s1, ss⟩ = ((!decide (q < W)) && !decide (F < q)) := by
    rw [judge_eq d h1 st, pl, hW, Bool.and_comm]
  have j4 : judge w' r c ⟨q, w', r, s0, w', r, s1, ss⟩ = ((!decide (S < q)) && !decide (q < W)) := by
    rw [judge_eq d h1 st, hW]
    unfold lowF
    rw [hL]
  have fewS : (stopF (w', r, c)).length ≤ 511 := hsf
  refine pb_guard (x := false) (pxt_not (x := true) (sameB' T (x := decide (q = F)) hr (by decide) ((px_call (ok_is_paper T BT BP) ((w', r, c), ⟨q, w', r, pouF (w', r, c), w', r, eveF (w', r, c), (stopF (w', r, c)).reverse⟩) rfl hr (pxs_cons (va 3 rfl) (pxs_cons (px_tup (pxs_cons (va 10 rfl) (pxs_cons (px_ixT (T := tPlan K Cp w' r (pouF (w', r, c))) (va 4 rfl) px_int rfl) (pxs_cons (px_ixT (T := tPlan K Cp w' r (eveF (w', r, c))) (va 4 rfl) px_int rfl) (pxs_cons ((px_tupleOf T.f_tuple boot_tuple (px_revL (px_ixT (T := tLst ((stopF (w', r, c)).map tS)) (va 4 rfl) px_int rfl)).seqL).seqT.cast (by rw [List.map_reverse])) pxs_nil))))) pxs_nil)) (jd d.pour d.even (stRev stF))).cast (congrArg tB j1)) (px_eqQ hr (va 9 rfl) (va 8 rfl)))) (fun h => nomatch h) fun _ => ?_
  refine plet sc144.nd 13 (px_and (va 11 rfl) fun _ => px_one (px_not (belowT T hr (by decide) (va 9 rfl) (va 8 rfl) bq.sz bF.sz))) ?_
  refine pb_guard (x := false) (pxt_not (x := true) (sameB' T hr (by decide) ((px_call (ok_is_paper T BT BP) ((w', r, c), ⟨q, w', r, s0, w', r, eveF (w', r, c), stopF (w', r, c) ++ stopF (w', r, c)⟩) rfl hr (pxs_cons (va 3 rfl) (pxs_cons (px_tup (pxs_cons (va 10 rfl) (pxs_cons (px_ixL (T := tPlan K Cp w' r s0) (va 5 rfl) px_int rfl) (pxs_cons (px_ixT (T := tPlan K Cp w' r (eveF (w', r, c))) (va 4 rfl) px_int rfl) (pxs_cons ((px_cat (px_ixT (T := tLst ((stopF (w', r, c)).map tS)) (va 4 rfl) px_int rfl) (px_ixT (T := tLst ((stopF (w', r, c)).map tS)) (va 4 rfl) px_int rfl) (by rw [List.length_map]; omega)).seqL.cast (by rw [List.map_append])) pxs_nil))))) pxs_nil)) (jd h0.cho d.even (stTwice stF (by omega)))).cast (congrArg tB j2)) (va 13 rfl))) (fun h => nomatch h) fun _ => ?_
  refine plet sc144.nd 13 (px_and (va 12 rfl) fun _ => px_one (px_not (belowT T hr (by decide) (va 8 rfl) (va 9 rfl) bF.sz bq.sz))) ?_
  refine pb_guard (x := false) (pxt_not (x := true) (sameB' T hr (by decide) ((px_call (ok_is_paper T BT BP) ((w', r, c), ⟨q, w', r, pouF (w', r, c), w', r, s1, ss⟩) rfl hr (pxs_cons (va 3 rfl) (pxs_cons (px_tup (pxs_cons (va 10 rfl) (pxs_cons (px_ixT (T := tPlan K Cp w' r (pouF (w', r, c))) (va 4 rfl) px_int rfl) (pxs_cons (px_ixL (T := tPlan K Cp w' r s1) (va 5 rfl) px_int rfl) (pxs_cons (px_ixL (T := tLst (ss.map tS)) (va 5 rfl) px_int rfl).seqL pxs_nil))))) pxs_nil)) (jd d.pour h1 st)).cast (congrArg tB j3)) (va 13 rfl))) (fun h => nomatch h) fun _ => ?_
  refine pb_guard (x := false) (pxt_not (x := true) (sameB' T hr (by decide) ((px_call (ok_is_paper T BT BP) ((w', r, c), ⟨q, w', r, s0, w', r, s1, ss⟩) rfl hr (pxs_cons (va 3 rfl) (pxs_cons (px_tup (pxs_cons (va 10 rfl) (pxs_cons (px_ixL (T := tPlan K Cp w' r s0) (va 5 rfl) px_int rfl) (pxs_cons (px_ixL (T := tPlan K Cp w' r s1) (va 5 rfl) px_int rfl) (pxs_cons (px_ixL (T := tLst (ss.map tS)) (va 5 rfl) px_int rfl).seqL pxs_nil))))) pxs_nil)) (jd h0.cho h1 st)).cast (congrArg tB j4)) (px_and (va 11 rfl) fun _ => px_one (va 12 rfl)))) (fun h => nomatch h) fun _ => ?_
  exact pb_endI (gi_keep (gi_keep (gi_keep (gi_keep (gi_keep (gi_keep (gi_keep (gi_keep (gi_keep (gi_drop (gi_drop (gi_drop (gi_drop (gi_drop gi_nil))))))))))))))
end
end Nb
end -- L10
section -- NbV
set_option maxHeartbeats 1000000
namespace Nb
open PySem PySem.Spec PyProof.Rows L2
/-- what an exception bears -/
def XFl (fl : Option (List (Str × V))) (d : Option Addr) (H : Hp) : Prop := match fl with
  | none => d = none
  | some fs => ∃ dd, d = some dd ∧ H dd = some (.xd fs)
/-- a def that raises cls -/
def RaiSp {α : Type} (cls : Addr) (fl : α → Option (List (Str × V))) (args : α → List Ty) (pre : α → Prop) : Sp := fun vs H _ E => ∃ (M : Addr → Bool) (z : α), (∀ a, M a = true → ∃ o, H a = some o) ∧ TyAll (hid M H) vs (args z) ∧ pre z ∧ ∀ d H', Ex H H' → XFl (fl z) d H' → E (.ref cls) d H'
structure OkR (P : Program) (w : World) (K : PySem.W.Frag) (mg : Str → Option Value) (base : Heap) (k : Nat) (x : Str) (ps : List Str) (sp : Sp) : Prop where
  ex : ∃ f fd, mg x = some (.ref f) ∧ PySem.W.keepIn K (.ref f) = true ∧ Binds K fd ps [] ∧ FnOk P w K mg base (L2N.CX P w) k f fd ps sp
def tNo : Ty := ⟨fun _ _ => False, fun _ h => h⟩
abbrev NoX : NX := fun _ _ => False
abbrev NoR : RT := fun _ _ => False
section
variable {X : Cx} {C : HC} {G : Env} {e : Expr} {es : List Expr} {T : Ty} {pos p : Pos} {Nx : NX} {Rt : RT} {E : XK} {cls : Addr} {fl : Option (List (Str × V))} {ss : List Stmt}
theorem px_callZ {α : Type} {args : α → List Ty} {pre : α → Prop} {f1 : α → Option (List (Str × V))} {x : Str} {j k : Nat} {ps : List Str} (F : OkR X.prog X.w X.K X.mg X.base j x ps (RaiSp cls f1 args pre)) (z : α) (hfl : f1 z = fl) (hx : Passes (L2N.CX X.prog X.w) X E) (hE : ∀ d H2, Ex C.H0 H2 → XFl fl d H2 → E (.ref cls) d H2) (hS : C.S = fun _ => false)
    (hr : Room k X.A) (ha : PXs X C G (e :: es) (args z)) (hp : pre z)
    (hj : j ≤ k := by decide) (hg : Gl X x := by rfl) (hdb : (x == ("__debug__" : Str)) = false := by decide) (he : starEach (e :: es) X.env = (false, eval e X.env) :: starEach es X.env := by rfl) (hpl : (backTo pos (starEach es X.env)).any (·.1) = false := by rfl) :
    PX X C G (.Call (.Name x p) (e :: es) [] pos) T := by
  obtain ⟨f, fd, hm, hk, hb, hF⟩ := F.ex
  subst hfl
  refine PE.imp (pe_call (dvs := []) hF (hr.mono hj) hg hm hk hb .nil hx ha hdb he hpl) fun σ H Q ⟨x, q⟩ => ⟨x, fun vs H1 x1 e1 p1 => ?_⟩
  show RaiSp cls f1 args pre (vs ++ []) H1 Q E
  rw [List.append_nil]
  exact ⟨C.M, z, x1.base.hidd, p1, hp, fun d H' e2 h => hE d H' (fun a o q => e2 a o (x1.base.old a o (by rw [hS]) q)) h⟩
theorem pb_no {i : Nat} (h : G[i]? = some (some tNo)) : PB X C G ss Nx Rt :=
  PSs.imp (PB_when (P := False) (t := tSS C G Nx Rt) fun z => z.elim) fun D σ H ⟨ok, _, _⟩ => by
    obtain ⟨v, _, p⟩ := ok.var h
    exact (show False from p).elim
/-- raise X('..') -/
theorem pb_raise0 {st : Stmt} {t : St → Hp → XK → Prop} (hm : L2N.PMk X e t) (hc : X.calm = true) (tk : L2N.Takes X fun c d _ H => E c d H) (hq : ∀ σ H, EnvOk C G σ H → t σ H fun c d H' => E c d H') (hs : st = .Raise (some e) none pos) : PB X C G [st] Nx Rt := by
  subst hs
  exact PSs.imp (pss_one (L2N.ps_raise hc tk hm)) fun D σ H ⟨ok, _, _⟩ => hq σ H ok
end
section
variable {K : PySem.W.Frag} {mg : Str → Option Value} {base : Heap} {P : Program} {w : World}
theorem rai_ok {α : Type} {cls : Addr} {fl : α → Option (List (Str × V))} {args : α → List Ty} {pre : α → Prop} {x qual : Str} {params : Arguments} {body : List Stmt} {scope : Scope} {dvs : List V} {kws : List (Str × V)} {f : Addr} {fd : FuncData} {N ps : List Str} {k : Nat}
    (F : FunD K x qual params body scope dvs kws f fd) (S : FnScope N ps scope) (hl : ∀ z, (args z).length = ps.length)
    (hb : ∀ (cdv : Value) (A : Around) (outer : List PySem.Env) (s : Shared) (H : Hp) (E : XK) (C : HC) (z : α), Room k (A.deeper (envOfC qual scope s.heap.objs.size f cdv)) → C.S = (fun _ => false) → (∀ d H2, Ex C.H0 H2 → XFl (fl z) d H2 → E (.ref cls) d H2) → pre z →
      PB (cxOf (L2N.CX P w) P w K mg base N qual scope f cdv A outer s H E) C (startG N.length (args z)) body NoX NoR) :
    FnOk P w K mg base (L2N.CX P w) (k + 1) f fd ps (RaiSp cls fl args pre) := by
  refine FunD.ok F S (fun vs H Q E ⟨M, z, _, h, _⟩ => by rw [h.length, hl]) (fun cdv A outer s H vs Q E hr ⟨M, z, tr, h, hp, q⟩ => ?_)
  exact ⟨_, hb cdv A outer s H E (HC.at_ H M) z hr rfl q hp, ⟨⟨fun a o _ e => e, tr, trivial⟩, start_env h⟩, fun σ' H' n _ => n.elim, fun v H' n => n.elim⟩
theorem Def.okR {α : Type} {cls : Addr} {fl : α → Option (List (Str × V))} {args : α → List Ty} {pre : α → Prop} {x : Str} {st : Stmt} {N ps : List Str} {k : Nat} (D : Def K mg x st) (S : FnScope N ps (defScope st)) (hl : ∀ z, (args z).length = ps.length)
    (hbind : ∀ (kV doc pm : Value) (an : Option Addr) (cdv ct : Value) (us : List Value), us.length = ps.length → bindArgs (PySem.W.fnOf x x (defArgs st) (defBody st) (defScope st) .none kV doc pm an cdv ct) ⟨us, []⟩ = pure (ps.zip us))
    (hb : ∀ (f : Addr) (cdv : Value) (A : Around) (outer : List PySem.Env) (s : Shared) (H : Hp) (E : XK) (C : HC) (z : α), Room k (A.deeper (envOfC x (defScope st) s.heap.objs.size f cdv)) → C.S = (fun _ => false) → (∀ d H2, Ex C.H0 H2 → XFl (fl z) d H2 → E (.ref cls) d H2) → pre z →
      PB (cxOf (L2N.CX P w) P w K mg base N x (defScope st) f cdv A outer s H E) C (startG N.length (args z)) (defBody st) NoX NoR) :
    OkR P w K mg base (k + 1) x ps (RaiSp cls fl args pre) := by
  obtain ⟨f, fd, hm, F⟩ := D
  exact ⟨f, fd, hm, F.kp, F.bindsN hbind, rai_ok F S hl fun cdv A outer s H E C z hr hs hE hz => hb f cdv A outer s H E C z hr hs hE hz⟩
theorem tkX {N : List Str} {qual : Str} {scope : Scope} {f : Addr} {cdv : Value} {A : Around} {outer : List PySem.Env} {s : Shared} {H : Hp} {E : XK} : L2N.Takes (cxOf (L2N.CX P w) P w K mg base N qual scope f cdv A outer s H E) fun c d _ H => E c d H := L2N.takes_of rfl rfl rfl rfl
theorem psX {N : List Str} {qual : Str} {scope : Scope} {f : Addr} {cdv : Value} {A : Around} {outer : List PySem.Env} {s : Shared} {H : Hp} {E : XK} : Passes (L2N.CX P w) (cxOf (L2N.CX P w) P w K mg base N qual scope f cdv A outer s H E) E := L2N.passes_call tkX fun _ _ _ _ h => h
end
end Nb
end -- NbV
section -- X1
set_option maxHeartbeats 1000000
namespace Nb
open PySem PySem.Spec PyProof.Rows L2
abbrev vTail : List Value := [.type "ValueError", .type "Exception", .type "BaseException", .type "object"]
/-- an own exception class without an __init__ of its own -/
structure ExcN (K : PySem.W.Frag) (mg : Str → Option Value) (x : Str) (C : Addr) : Prop where
  glo : mg x = some (.ref C)
  kp : PySem.W.keepIn K (.ref C) = true
  inn : PySem.W.excIn K C vTail "ValueError.__new__" = true
  isb : PySem.W.subIn K (.ref C) (.type "BaseException") = some true
  ist : PySem.W.typeIn K (.ref C) = some (.type "type")
section
variable {X : Cx} {C : HC} {G : Env} {pos p p2 : Pos} {Nx : NX} {Rt : RT} {E : XK} {cls : Addr} {j : Nat} {x m : Str}
/-- raise X('m') -/
theorem pb_raiseN (T : ExcN X.K X.mg x cls) (hc : X.calm = true) (tk : L2N.Takes X fun c d _ H => E c d H) (hE : ∀ d H2, Ex C.H0 H2 → XFl none d H2 → E (.ref cls) d H2) (hS : C.S = fun _ => false) (hg : Gl X x := by rfl) (hdb : (x == ("__debug__" : Str)) = false := by decide) :
    PB X C G [.Raise (some (.Call (.Name x p) [.Constant (.str m) j p2] [] pos)) none pos2] Nx Rt :=
  pb_raise0 (L2N.pmk_own F.excBase_ValueError T.inn T.glo T.kp (raises_own T.isb T.ist) hg hdb) hc tk (fun σ H ok => hE none H (fun a o q => ok.base.old a o (by rw [hS]) q) rfl) rfl
end
/-- no number -/
inductive NoNum where
  | non
  | bl (b : Bool)
  | str (s : Str)
  | pr (n d : Int)
def NoNum.ty (K : PySem.W.Frag) : NoNum → Ty
  | .non => tN
  | .bl b => tB b
  | .str s => tS s
  | .pr n d => tTup K [tI n, tI d]
def NoNum.ok : NoNum → Prop
  | .pr _ d => d < 1
  | _ => True
section
variable {K : PySem.W.Frag} {mg : Str → Option Value} {base : Heap} {P : Program} {w : World} {Cn : Addr}
theorem ok_partsR (T : Txt K mg) (TN : ExcN K mg "BadNumber" Cn) : OkR P w K mg base 2 "parts_of" ["value"] (RaiSp Cn (fun _ : NoNum => none) (fun z => [z.ty K]) NoNum.ok) := by
  refine T.d_parts_of.okR sc23 (fun _ => rfl) (fun _ _ _ _ _ _ us hl => match us, hl with | [_], _ => rfl) fun f cdv A outer s H E C z hr hS hE hp => ?_
  show PB _ C [some (z.ty K), none, none] _ _ _
  have one : ∀ {U : Ty} {n : String} (kd : Kd), kd.ty K = U → kd.isInt = false → HasTy K U n → kitB n "tuple" = some false → PB (cxOf (L2N.CX P w) P w K mg base ["value", "top", "bottom"] "parts_of" (defScope (top 23)) f cdv A outer s H E) C [some U, none, none] (defBody (top 23)) NoX NoR := fun kd hU hi h1 h2 => by
    subst hU
    refine pb_guard (x := false) (pxt_val ((px_call (ok_isint T) kd rfl hr (pxs_cons (va 0 rfl) pxs_nil) trivial).cast (congrArg tB hi))) (fun h => nomatch h) fun _ => ?_
    exact pb_guard (x := true) (pxt_w (pxw_or (x := true) (y := true) (pxt_not (x := false) (pxt_val (px_isi h1 h2 T.f_isinstance T.f_tuple boot_tuple (va 0 rfl)))) fun h => nomatch h)) (fun _ => pb_raiseN TN rfl tkX hE hS) (fun h => nomatch h)
  cases z with
  | non => exact one .non rfl rfl hasN (by decide +kernel)
  | bl b => exact one (.bl b) rfl rfl hasB (by decide +kernel)
  | str t => exact one (.str t) rfl rfl hasS (by decide +kernel)
  | pr n d =>
    have hd : d < 1 := hp
    refine pb_guard (x := false) (pxt_val (px_call (ok_isint T) (.tup [tI n, tI d]) rfl hr (pxs_cons (va 0 rfl) pxs_nil) trivial)) (fun h => nomatch h) fun _ => ?_
    refine pb_guard (pxt_w (pxw_or (pxt_not (pxt_val (px_isi (T := tTup K [tI n, tI d]) hasT kit_tuple_tuple T.f_isinstance T.f_tuple boot_tuple (va 0 rfl)))) (fun _ => pxw_or1 (pxt_ne (px_lenT T.f_len (va 0 rfl)) px_int)))) (fun h => nomatch h) fun _ => ?_
    refine pb_asg (va 0 rfl) (pgx_tup rfl (pgxs_cons (nm sc23.nd 1) (pgxs_cons (nm sc23.nd 2) pgxs_nil))) ?_
    refine pb_guard (x := true) ((pxt_w (pxw_or (x := false) (pxt_not (x := true) (pxt_val (px_call (ok_isint T) (.int n) rfl hr (pxs_cons (va 1 rfl) pxs_nil) trivial))) fun _ => pxw_or (x := false) (pxt_not (x := true) (pxt_val (px_call (ok_isint T) (.int d) rfl hr (pxs_cons (va 2 rfl) pxs_nil) trivial))) fun _ => pxw_or1 (pxt_lt (va 2 rfl) px_int))).cast (by rw [decide_eq_true hd]; rfl)) (fun _ => pb_raiseN TN rfl tkX hE hS) (fun h => nomatch h)
theorem ok_fracR (T : Txt K mg) (TN : ExcN K mg "BadNumber" Cn) : OkR P w K mg base 3 "fraction" ["value"] (RaiSp Cn (fun _ : NoNum => none) (fun z => [z.ty K]) NoNum.ok) := by
  refine T.d_fraction.okR sc25 (fun _ => rfl) (fun _ _ _ _ _ _ us hl => match us, hl with | [_], _ => rfl) fun f cdv A outer s H E C z hr hS hE hp => ?_
  show PB _ C [some (z.ty K), none, none, none] _ _ _
  refine pb_asg (px_callZ (T := tTup K [tNo, tNo]) (ok_partsR T TN) z rfl psX hE hS hr (pxs_cons (va 0 rfl) pxs_nil) hp) (pgx_tup rfl (pgxs_cons (nm sc25.nd 1) (pgxs_cons (nm sc25.nd 2) pgxs_nil))) ?_
  exact pb_no (i := 1) rfl
end
end Nb
end -- X1
section -- NbW
set_option maxHeartbeats 1000000
namespace Nb
open PySem PySem.Spec PyProof.Rows L2
section
variable {X : Cx} {e : Expr} {es : List Expr} {ta : TA} {p pos : Pos} {CX : CXT} {x : Str} {Cl fI : Addr} {k : Nat}
variable {fd : FuncData} {ps : List Str} {sp : Sp}
theorem pmk_init (T : OexC X.K Cl) (iC : PySem.W.findIn X.K (.ref Cl) "__init__" = some (some (.ref fI)))
    (ty : PySem.W.typeIn X.K (.ref fI) = some (.type "function")) (F1 : FnOk X.prog X.w X.K X.mg X.base CX k fI fd ps sp)
    (hr : Room (k + 1) X.A) (hb : Binds X.K fd ps []) (hx : Passes CX X (fun _ _ _ => False)) (hg : Gl X x)
    (hm : X.mg x = some (.ref Cl)) (ha : PA X (e :: es) ta) (hdb : (x == ("__debug__" : Str)) = false := by decide)
    (he : starEach (e :: es) X.env = (false, eval e X.env) :: starEach es X.env := by rfl)
    (hpl : (backTo pos (starEach es X.env)).any (·.1) = false := by rfl) :
    L2N.PMk X (.Call (.Name x p) (e :: es) [] pos) (tMkO Cl sp [] ta) := by
  intro pins s σ H Q I h
  obtain ⟨nam, q, N, bs, bse, sn, sub, ab, col, dd, k0, k1, k2, k3, k5, hC, hbse⟩ := T.cls
  refine wpAny_Call_Name_kw (ld_glob I hg hm (PySem.W.callWith_K (h₀ := X.base) I.ok.mod.kin T.kC ?_ he hpl) hdb)
  refine thn (ha.run pos pins s σ H _ I h) fun us s1 hs1 => ?_
  obtain ⟨vs, H1, I1, r1, hz, q1⟩ := hs1
  refine ⟨I1.kIn, ?_⟩
  show wpAny _ _ (call (.ref Cl) us) _ _ _
  obtain ⟨h9, g, dr, tk, os⟩ := s1
  obtain ⟨a, ea⟩ : ∃ a, a = h9.objs.size + 1 := ⟨_, rfl⟩
  have hsz : h9.objs.size ≤ a := by rw [ea]; exact Nat.le_succ _
  have hq := q1 a (I1.hok.fresh hsz)
  rw [List.append_nil] at hq
  obtain ⟨h8, e8⟩ : ∃ h8, h8 = (h9.push (PySem.W.kdv_tup us)).push (PySem.HandSPX.excO Cl h9.objs.size) := ⟨_, rfl⟩
  have kk : ∀ b o, h9.get? b = some o → h8.get? b = some o := fun b o z => by
    rw [e8]
    exact Heap.get?_push_of_some _ (Heap.get?_push_of_some _ z)
  have hget : h8.get? a = some (PySem.HandSPX.excO Cl h9.objs.size) := by
    rw [e8, ea]
    heap_get
  have I2 : Inv X pins σ (upd H1 a (exo a Cl none)) ⟨h8, g, dr, tk, os⟩ := I1.laid (t' := tk) (a := a) (h' := h8) kk hsz (exo_ok hget)
  have r2 : Vals (V.ref a :: vs) (Value.ref a :: us) := .cons rfl r1
  have hl : (Value.ref a :: us).length = ps.length := by
    rw [← F1.len _ _ _ _ hq]
    exact r2.length.symm
  have hus : us.length ≤ sizeLine := by
    rw [← Paired.length r1, sizeLine_eq]
    omega
  have b2 := hb _ (Value.ref a :: us) I2.kIn (by rw [List.append_nil]; exact hl)
  rw [List.append_nil] at b2
  have go := F1.run _ X.stack _ _ ⟨Value.ref a :: us, []⟩ (Value.ref a :: us) _ _ (fun _ _ _ => False) (hr.make Cl us []) (I2.env0.make Cl us []) b2 r2 hq
  subst ea
  subst e8
  refine wpAny_call (PySem.HandSPX.call_own F.excBase_ValueError (fun Y => PySem.HandSPX.refsVE_contains Y bse hbse) (I1.kIn _ _ hC)
    (PySem.W.looks_findIn I1.kIn iC) (fun self => PySem.W.bind_fn I1.kIn self ty) hus (codeAny_mono go fun r s' hq' => ?_))
  cases r with
  | error ex0 => exact hx pins σ _ _ ex0 s' I2 hq'
  | ok fl =>
    cases fl with
    | ret u =>
      obtain ⟨v, H2, os2, ba2, u2, ho2, rv, ev, d, fs, ea, ed, hd1, q2⟩ := hq'
      subst ev
      obtain ⟨h2, g2, d2, t2, os'⟩ := s'
      obtain ⟨tz, G, J, kG, ge, hoe, na⟩ := mk_end0 (d2 := d2) (t2 := t2) I1 hsz kk u2 ho2 os2 ba2 ea ed hd1
      refine ⟨rv, _, _, _, ⟨G, g2, d2, t2, os'⟩, _, .ref Cl, some d, rfl, J, kG, ge, hoe, ⟨rfl, rfl, fun vs hv => ?_⟩, rfl, rfl, na, rfl, ba2, ?_, q2⟩
      · cases hv
        rfl
      · exact raises_own T.exC T.tyC
    | next => exact False.elim hq'
    | brk => exact False.elim hq'
    | cont => exact False.elim hq'
end
end Nb
end -- NbW
section -- X2
set_option maxHeartbeats 1000000
namespace Nb
open PySem PySem.Spec PyProof.Rows L2
/-- __init__ of an exception's class: it keeps fs -/
def XinSp (Cl : Addr) (n : Nat) (fs : List V → List (Str × V)) : Sp := fun vs H Q _ => ∃ a ws, vs = .ref a :: ws ∧ ws.length = n ∧ H a = some (exo a Cl none) ∧
  ∀ d H', H d = none → (∀ b o, b ≠ a → H b = some o → H' b = some o) → H' a = some (exo a Cl (some d)) → H' d = some (exd d (fs ws)) → Q .non H'
/-- an own exception class with an __init__ of its own -/
structure ExcI (K : PySem.W.Frag) (mg : Str → Option Value) (x : Str) (C : Addr) (q : Str) (st : Stmt) : Prop where
  glo : mg x = some (.ref C)
  ox : OexC K C
  ini : ∃ f fd, PySem.W.findIn K (.ref C) "__init__" = some (some (.ref f)) ∧ PySem.W.typeIn K (.ref f) = some (.type "function") ∧ FunD K "__init__" q (defArgs st) (defBody st) (defScope st) [] [] f fd
section
variable {K : PySem.W.Frag} {mg : Str → Option Value} {base : Heap} {P : Program} {w : World} {Cc Cr : Addr}
theorem sc4_0 : FnScope ["self", "found", "low", "high"] ["self", "found", "low", "high"] (defScope (mem 4 0)) := ⟨rfl, rfl, rfl, by decide +kernel, rfl, by decide +kernel, by decide +kernel⟩
theorem sc8_0 : FnScope ["self", "found"] ["self", "found"] (defScope (mem 8 0)) := ⟨rfl, rfl, rfl, by decide +kernel, rfl, by decide +kernel, by decide +kernel⟩
theorem in_row (T : OexC K Cr) (nf : PySem.W.findIn K (.ref Cr) "found" = some none) {f : Addr} {fd : FuncData} (F : FunD K "__init__" "BadRow.__init__" (defArgs (mem 8 0)) (defBody (mem 8 0)) (defScope (mem 8 0)) [] [] f fd) :
    FnOk P w K mg base CX0 1 f fd ["self", "found"] (XinSp Cr 1 fun ws => [("found", ws.getD 0 .non)]) := by
  refine FunD.ok F sc8_0 (fun vs H Q E ⟨a, ws, e, hl, _⟩ => by rw [e, List.length_cons, hl]; rfl) (fun cdv A outer s H vs Q E hr ⟨a, ws, e, hl, ha, q⟩ => ?_)
  subst e
  match ws, hl with
  | [v], _ =>
    refine ⟨_, PSs.nox (pss_one (ps_ost (pe_var (i := 0) rfl (.inl rfl)) (pe_var (i := 1) rfl (.inl rfl)))), ?_⟩
    refine ⟨v, rfl, .ref a, rfl, a, Cr, rfl, T, nf, .inl ⟨ha, fun dx hd hne => ?_⟩⟩
    refine q dx _ hd (fun b o hb ho => ?_) upd_same ?_
    · rw [upd_ne hb, upd_ne (ne_of_none ho hd)]; exact ho
    · rw [upd_ne hne, upd_same]
      rfl
theorem in_count (T : OexC K Cc) (n1 : PySem.W.findIn K (.ref Cc) "found" = some none) (n2 : PySem.W.findIn K (.ref Cc) "low" = some none) (n3 : PySem.W.findIn K (.ref Cc) "high" = some none) {f : Addr} {fd : FuncData} (F : FunD K "__init__" "BadCount.__init__" (defArgs (mem 4 0)) (defBody (mem 4 0)) (defScope (mem 4 0)) [] [] f fd) :
    FnOk P w K mg base CX0 1 f fd ["self", "found", "low", "high"] (XinSp Cc 3 fun ws => [("high", ws.getD 2 .non), ("low", ws.getD 1 .non), ("found", ws.getD 0 .non)]) := by
  refine FunD.ok F sc4_0 (fun vs H Q E ⟨a, ws, e, hl, _⟩ => by rw [e, List.length_cons, hl]; rfl) (fun cdv A outer s H vs Q E hr ⟨a, ws, e, hl, ha, q⟩ => ?_)
  subst e
  match ws, hl with
  | [v1, v2, v3], _ =>
    refine ⟨_, PSs.nox (pss_cons (ps_ost (pe_var (i := 0) rfl (.inl rfl)) (pe_var (i := 1) rfl (.inl rfl))) (pss_cons (ps_ost (pe_var (i := 0) rfl (.inl rfl)) (pe_var (i := 2) rfl (.inl rfl))) (pss_one (ps_ost (pe_var (i := 0) rfl (.inl rfl)) (pe_var (i := 3) rfl (.inl rfl)))))), ?_⟩
    refine ⟨v1, rfl, .ref a, rfl, a, Cc, rfl, T, n1, .inl ⟨ha, fun dx hd hne => ?_⟩⟩
    refine ⟨v2, rfl, .ref a, rfl, a, Cc, rfl, T, n2, .inr ⟨dx, _, upd_same, by rw [upd_ne hne, upd_same], (by show 1 ≤ 900; decide), ?_⟩⟩
    refine ⟨v3, rfl, .ref a, rfl, a, Cc, rfl, T, n3, .inr ⟨dx, _, by rw [upd_ne (Ne.symm hne), upd_same], upd_same, (by show 2 ≤ 900; decide), ?_⟩⟩
    refine q dx _ hd (fun b o hb ho => ?_) (by rw [upd_ne (Ne.symm hne), upd_ne (Ne.symm hne), upd_same]) upd_same
    have hbd := ne_of_none ho hd
    rw [upd_ne hbd, upd_ne hbd, upd_ne hb, upd_ne hbd]
    exact ho
end
end Nb
end -- X2
section -- NbY
set_option maxHeartbeats 1000000
namespace Nb
open PySem PySem.Spec PyProof.Rows L2
section
variable {X : Cx} {C : HC} {G : Env} {e : Expr} {es : List Expr} {pos p pos2 : Pos} {Nx : NX} {Rt : RT} {E : XK} {Cl fI : Addr} {x : Str} {k n : Nat} {fd : FuncData} {ps : List Str} {fs : List V → List (Str × V)} {us : List V}
theorem exd_ne {a d : Addr} {Cl : Addr} {o : HO} {H : Hp} (ha : H a = none) (h : H d = some o) : d ≠ a := fun z => by rw [z, ha] at h; cases h
theorem pb_raiseI (T : OexC X.K Cl) (iC : PySem.W.findIn X.K (.ref Cl) "__init__" = some (some (.ref fI))) (ty : PySem.W.typeIn X.K (.ref fI) = some (.type "function")) (F1 : FnOk X.prog X.w X.K X.mg X.base CX0 k fI fd ps (XinSp Cl n fs)) (hr : Room (k + 1) X.A) (hb : Binds X.K fd ps []) (hm : X.mg x = some (.ref Cl))
    (hc : X.calm = true) (tk : L2N.Takes X fun c d _ H => E c d H) (hE : ∀ d H2, Ex C.H0 H2 → XFl (some (fs us)) d H2 → E (.ref Cl) d H2) (hS : C.S = fun _ => false) (ha : PXs X C G (e :: es) (us.map tC)) (hn : us.length = n) (hn2 : us.length ≤ 1000)
    (hg : Gl X x := by rfl) (hdb : (x == ("__debug__" : Str)) = false := by decide) (he : starEach (e :: es) X.env = (false, eval e X.env) :: starEach es X.env := by rfl) (hpl : (backTo pos (starEach es X.env)).any (·.1) = false := by rfl) :
    PB X C G [.Raise (some (.Call (.Name x p) (e :: es) [] pos)) none pos2] Nx Rt :=
  pb_raise0 (pmk_init T iC ty F1 hr hb (fun _ _ _ _ _ _ _ h => h.elim) hg hm ha hdb he hpl) hc tk (fun σ H ok => ⟨ok, fun vs H1 x1 e1 p1 => by
    have ev : vs = us := tyAll_vals p1
    subst ev
    refine ⟨hn2, fun a ha => ⟨a, vs, by rw [List.append_nil], hn, upd_same, fun d H' hd hk h1 h2 => ?_⟩⟩
    have hda : d ≠ a := fun z => by rw [z, upd_same] at hd; cases hd
    have hd1 : H1 d = none := by rw [upd_ne hda] at hd; exact hd
    refine ⟨rfl, d, fs vs, h1, h2, hd1, hE (some d) _ (fun b o q => ?_) ⟨d, rfl, upd_same⟩⟩
    have q1 := x1.base.old b o (by rw [hS]) q
    have hba : b ≠ a := ne_of_none q1 ha
    have hbd : b ≠ d := ne_of_none q1 hd1
    rw [upd_ne hbd, del_ne hba]
    exact hk b o hba (by rw [upd_ne hba]; exact q1)⟩) rfl
end
end Nb
end -- NbY
section -- X3
set_option maxHeartbeats 1000000
namespace Nb
open PySem PySem.Spec PyProof.Rows L2
/-- the facts of BadCount -/
structure CntT (K : PySem.W.Frag) (mg : Str → Option Value) (C : Addr) : Prop extends ExcI K mg "BadCount" C "BadCount.__init__" (mem 4 0) where
  n1 : PySem.W.findIn K (.ref C) "found" = some none
  n2 : PySem.W.findIn K (.ref C) "low" = some none
  n3 : PySem.W.findIn K (.ref C) "high" = some none
/-- out of the bounds, or no number at all -/
inductive BadC (lo hi : Int) : V → Prop where
  | bl (b : Bool) : BadC lo hi (.bl b)
  | lo (i : Int) (h : i < lo) : BadC lo hi (.int i)
  | hi (i : Int) (h : hi < i) : BadC lo hi (.int i)
abbrev CD := V × Int × Int
abbrev cFl (z : CD) : Option (List (Str × V)) := some [("high", .int z.2.2), ("low", .int z.2.1), ("found", z.1)]
section
variable {X : Cx} {C : HC} {G : Env} {k : Nat} {pos p p2 : Pos} {Nx : NX} {Rt : RT} {E : XK} {Cl : Addr} {a b c : Expr}
theorem pb_raiseCnt (T : CntT X.K X.mg Cl) {v : V} {lo hi : Int} (hr : Room k X.A) (hk : 2 ≤ k) (hc : X.calm = true) (tk : L2N.Takes X fun c d _ H => E c d H) (hE : ∀ d H2, Ex C.H0 H2 → XFl (cFl (v, lo, hi)) d H2 → E (.ref Cl) d H2) (hS : C.S = fun _ => false) (ha : PXs X C G [a, b, c] [tC v, tI lo, tI hi])
    (hg : Gl X "BadCount" := by rfl) (he : starEach [a, b, c] X.env = (false, eval a X.env) :: starEach [b, c] X.env := by rfl) (hpl : (backTo pos (starEach [b, c] X.env)).any (·.1) = false := by rfl) :
    PB X C G [.Raise (some (.Call (.Name "BadCount" p) [a, b, c] [] pos)) none p2] Nx Rt := by
  obtain ⟨f, fd, h1, h2, F⟩ := T.ini
  have hb : Binds X.K fd ["self", "found", "low", "high"] [] := F.bindsN (fun _ _ _ _ _ _ us hl => match us, hl with | [_, _, _, _], _ => rfl)
  exact pb_raiseI (us := [v, .int lo, .int hi]) T.ox h1 h2 (in_count (P := X.prog) (w := X.w) (mg := X.mg) (base := X.base) T.ox T.n1 T.n2 T.n3 F) (hr.mono hk) hb T.glo hc tk hE hS ha rfl (by show 3 ≤ 1000; decide) hg rfl he hpl
end
section
variable {K : PySem.W.Frag} {mg : Str → Option Value} {base : Heap} {P : Program} {w : World} {Cc : Addr}
theorem DefA.okR {α : Type} {cls : Addr} {fl : α → Option (List (Str × V))} {args : α → List Ty} {pre : α → Prop} {g x : Str} {st : Stmt} {N ps : List Str} {k : Nat} (D : DefA K mg g x st []) (S : FnScope N ps (defScope st)) (hl : ∀ z, (args z).length = ps.length)
    (hbind : ∀ (kV doc pm : Value) (an : Option Addr) (cdv ct : Value) (us : List Value), us.length = ps.length → bindArgs (PySem.W.fnOf x x (defArgs st) (defBody st) (defScope st) .none kV doc pm an cdv ct) ⟨us, []⟩ = pure (ps.zip us))
    (hb : ∀ (f : Addr) (cdv : Value) (A : Around) (outer : List PySem.Env) (s : Shared) (H : Hp) (E : XK) (C : HC) (z : α), Room k (A.deeper (envOfC x (defScope st) s.heap.objs.size f cdv)) → C.S = (fun _ => false) → (∀ d H2, Ex C.H0 H2 → XFl (fl z) d H2 → E (.ref cls) d H2) → pre z →
      PB (cxOf (L2N.CX P w) P w K mg base N x (defScope st) f cdv A outer s H E) C (startG N.length (args z)) (defBody st) NoX NoR) :
    OkR P w K mg base (k + 1) g ps (RaiSp cls fl args pre) := by
  obtain ⟨f, fd, hm, F⟩ := D
  exact ⟨f, fd, hm, F.kp, F.bindsN hbind, rai_ok F S hl fun cdv A outer s H E C z hr hs hE hz => hb f cdv A outer s H E C z hr hs hE hz⟩
theorem ok_cntRR (T : Txt K mg) (TC : CntT K mg Cc) : OkR P w K mg base 3 "check_count_rows" ["found", "low", "high"] (RaiSp Cc cFl (fun z : CD => [tC z.1, tI z.2.1, tI z.2.2]) (fun z => BadC z.2.1 z.2.2 z.1)) := by
  refine T.d_check_count_rows.okR sc44 (fun _ => rfl) (fun _ _ _ _ _ _ us hl => match us, hl with | [_, _, _], _ => rfl) fun f cdv A outer s H E C z hr hS hE hp => ?_
  obtain ⟨v, l, h⟩ := z
  replace hp : BadC l h v := hp
  show PB _ C [some (tC v), some (tI l), some (tI h)] _ _ _
  cases hp with
  | bl b => exact pb_guard (x := true) (pxt_w (pxw_or (x := true) (y := true) (pxt_val (px_isi (n := "bool") (m := "bool") hasB rfl T.f_isinstance T.f_bool boot_bool (va 0 rfl))) fun h => nomatch h)) (fun _ => pb_raiseCnt TC hr (by decide) rfl tkX hE hS (pxs_cons (va 0 rfl) (pxs_cons (va 1 rfl) (pxs_cons (va 2 rfl) pxs_nil)))) (fun h => nomatch h)
  | lo i hi => exact pb_guard (x := true) ((pxt_w (pxw_or (x := false) (pxt_val (px_isi hasI kit_int_bool T.f_isinstance T.f_bool boot_bool (va 0 rfl))) fun _ => pxw_or (pxt_lt (va 0 rfl) (va 1 rfl)) fun _ => pxw_or1 (pxt_gt (va 0 rfl) (va 2 rfl)))).cast (by rw [decide_eq_true hi]; rfl)) (fun _ => pb_raiseCnt TC hr (by decide) rfl tkX hE hS (pxs_cons (va 0 rfl) (pxs_cons (va 1 rfl) (pxs_cons (va 2 rfl) pxs_nil)))) (fun h => nomatch h)
  | hi i hi => exact pb_guard (x := true) ((pxt_w (pxw_or (x := false) (pxt_val (px_isi hasI kit_int_bool T.f_isinstance T.f_bool boot_bool (va 0 rfl))) fun _ => pxw_or (pxt_lt (va 0 rfl) (va 1 rfl)) fun _ => pxw_or1 (pxt_gt (va 0 rfl) (va 2 rfl)))).cast (by rw [decide_eq_true hi, Bool.or_true]; rfl)) (fun _ => pb_raiseCnt TC hr (by decide) rfl tkX hE hS (pxs_cons (va 0 rfl) (pxs_cons (va 1 rfl) (pxs_cons (va 2 rfl) pxs_nil)))) (fun h => nomatch h)
theorem ok_cntHR (T : Txt K mg) (TC : CntT K mg Cc) : OkR P w K mg base 3 "check_count_horizons" ["value", "low", "high"] (RaiSp Cc cFl (fun z : CD => [tC z.1, tI z.2.1, tI z.2.2]) (fun z => BadC z.2.1 z.2.2 z.1)) := by
  refine T.d_check_count_horizons.okR sc79 (fun _ => rfl) (fun _ _ _ _ _ _ us hl => match us, hl with | [_, _, _], _ => rfl) fun f cdv A outer s H E C z hr hS hE hp => ?_
  obtain ⟨v, l, h⟩ := z
  replace hp : BadC l h v := hp
  show PB _ C [some (tC v), some (tI l), some (tI h)] _ _ _
  cases hp with
  | bl b => exact pb_guard (x := true) (pxt_w (pxw_or (x := true) (y := true) (pxt_val (px_isi (n := "bool") (m := "bool") hasB rfl T.f_isinstance T.f_bool boot_bool (va 0 rfl))) fun h => nomatch h)) (fun _ => pb_raiseCnt TC hr (by decide) rfl tkX hE hS (pxs_cons (va 0 rfl) (pxs_cons (va 1 rfl) (pxs_cons (va 2 rfl) pxs_nil)))) (fun h => nomatch h)
  | lo i hi => exact pb_guard (x := true) ((pxt_w (pxw_or (x := false) (pxt_val (px_isi hasI kit_int_bool T.f_isinstance T.f_bool boot_bool (va 0 rfl))) fun _ => pxw_or (pxt_lt (va 0 rfl) (va 1 rfl)) fun _ => pxw_or1 (pxt_gt (va 0 rfl) (va 2 rfl)))).cast (by rw [decide_eq_true hi]; rfl)) (fun _ => pb_raiseCnt TC hr (by decide) rfl tkX hE hS (pxs_cons (va 0 rfl) (pxs_cons (va 1 rfl) (pxs_cons (va 2 rfl) pxs_nil)))) (fun h => nomatch h)
  | hi i hi => exact pb_guard (x := true) ((pxt_w (pxw_or (x := false) (pxt_val (px_isi hasI kit_int_bool T.f_isinstance T.f_bool boot_bool (va 0 rfl))) fun _ => pxw_or (pxt_lt (va 0 rfl) (va 1 rfl)) fun _ => pxw_or1 (pxt_gt (va 0 rfl) (va 2 rfl)))).cast (by rw [decide_eq_true hi, Bool.or_true]; rfl)) (fun _ => pb_raiseCnt TC hr (by decide) rfl tkX hE hS (pxs_cons (va 0 rfl) (pxs_cons (va 1 rfl) (pxs_cons (va 2 rfl) pxs_nil)))) (fun h => nomatch h)
end
end Nb
end -- X3
section -- X4
set_option maxHeartbeats 1000000
namespace Nb
open PySem PySem.Spec PyProof.Rows L2
section
variable {X : Cx} {C : HC} {G : Env} {e : Expr} {pos : Pos} {rest : List Stmt} {Nx : NX} {Rt : RT}
theorem pb_exZ (he : PX X C G e tNo) (hs : swapsWith e none pos.line X.env = pure false := by rfl) : PB X C G (.Expr e pos :: rest) Nx Rt :=
  PSs.imp (pss_cons (ps_expr he hs) (PB_when (P := False) (t := tSS C G Nx Rt) fun z => z.elim)) fun D σ H ⟨ok, _, _⟩ => ⟨ok, fun v H1 x1 e1 p => (show False from p).elim⟩
theorem pb_retZ (he : PX X C G e tNo) : PB X C G [.Return (some e) pos] Nx Rt := pb_ret he fun v H b h => (show False from h).elim
end
section
variable {K : PySem.W.Frag} {mg : Str → Option Value} {base : Heap} {P : Program} {w : World} {Cc : Addr}
theorem ok_mostRR (T : Txt K mg) (TC : CntT K mg Cc) : OkR P w K mg base 4 "most_rounds" ["width"] (RaiSp Cc (fun v : V => cFl (v, 1, 5)) (fun v => [tC v]) (BadC 1 5)) := by
  refine T.d_most_rounds.okR sc53 (fun _ => rfl) (fun _ _ _ _ _ _ us hl => match us, hl with | [_], _ => rfl) fun f cdv A outer s H E C v hr hS hE hp => ?_
  show PB _ C [some (tC v)] _ _ _
  exact pb_exZ (px_callZ (ok_cntRR T TC) (v, 1, 5) rfl psX hE hS hr (pxs_cons (va 0 rfl) (pxs_cons px_int (pxs_cons (px_const T.c_WIDEST) pxs_nil))) hp)
/-- a wrong width -/
theorem ok_rndW (T : Txt K mg) (TC : CntT K mg Cc) : OkR P w K mg base 5 "check_rounds" ["rounds", "width"] (RaiSp Cc (fun z : V × V => cFl (z.2, 1, 5)) (fun z => [tC z.1, tC z.2]) (fun z => BadC 1 5 z.2)) := by
  refine T.d_check_rounds.okR sc81 (fun _ => rfl) (fun _ _ _ _ _ _ us hl => match us, hl with | [_, _], _ => rfl) fun f cdv A outer s H E C z hr hS hE hp => ?_
  show PB _ C [some (tC z.1), some (tC z.2), none] _ _ _
  exact plet sc81.nd 2 (px_callZ (T := tNo) (ok_mostRR T TC) z.2 rfl psX hE hS hr (pxs_cons (va 1 rfl) pxs_nil) hp) (pb_no (i := 2) rfl)
/-- wrong rounds -/
theorem ok_rndR (T : Txt K mg) (TC : CntT K mg Cc) : OkR P w K mg base 5 "check_rounds" ["rounds", "width"] (RaiSp Cc (fun z : V × Nat => cFl (z.1, 0, (mostR z.2 : Nat))) (fun z => [tC z.1, tI (z.2 : Nat)]) (fun z => W15 z.2 ∧ BadC 0 (mostR z.2 : Nat) z.1)) := by
  refine T.d_check_rounds.okR sc81 (fun _ => rfl) (fun _ _ _ _ _ _ us hl => match us, hl with | [_, _], _ => rfl) fun f cdv A outer s H E C z hr hS hE hp => ?_
  show PB _ C [some (tC z.1), some (tI (z.2 : Nat)), none] _ _ _
  refine plet sc81.nd 2 (px_call (ok_mostR T) z.2 rfl hr (pxs_cons (va 1 rfl) pxs_nil) hp.1) ?_
  exact pb_retZ (px_callZ (ok_cntHR T TC) (z.1, 0, (mostR z.2 : Nat)) rfl psX hE hS hr (pxs_cons (va 0 rfl) (pxs_cons px_int (pxs_cons (va 2 rfl) pxs_nil))) hp.2)
end
end Nb
end -- X4
section -- X5
set_option maxHeartbeats 1000000
namespace Nb
open PySem PySem.Spec PyProof.Rows L2
/-- the facts of BadRow -/
structure RowT (K : PySem.W.Frag) (mg : Str → Option Value) (C : Addr) : Prop extends ExcI K mg "BadRow" C "BadRow.__init__" (mem 8 0) where
  n1 : PySem.W.findIn K (.ref C) "found" = some none
section
variable {X : Cx} {C : HC} {G : Env} {k : Nat} {pos p p2 : Pos} {Nx : NX} {Rt : RT} {E : XK} {Cl : Addr} {a : Expr}
theorem pb_raiseRow (T : RowT X.K X.mg Cl) {v : V} (hr : Room k X.A) (hk : 2 ≤ k) (hc : X.calm = true) (tk : L2N.Takes X fun c d _ H => E c d H) (hE : ∀ d H2, Ex C.H0 H2 → XFl (some [("found", v)]) d H2 → E (.ref Cl) d H2) (hS : C.S = fun _ => false) (ha : PXs X C G [a] [tC v])
    (hg : Gl X "BadRow" := by rfl) (he : starEach [a] X.env = (false, eval a X.env) :: starEach [] X.env := by rfl) (hpl : (backTo pos (starEach [] X.env)).any (·.1) = false := by rfl) :
    PB X C G [.Raise (some (.Call (.Name "BadRow" p) [a] [] pos)) none p2] Nx Rt := by
  obtain ⟨f, fd, h1, h2, F⟩ := T.ini
  have hb : Binds X.K fd ["self", "found"] [] := F.bindsN (fun _ _ _ _ _ _ us hl => match us, hl with | [_, _], _ => rfl)
  exact pb_raiseI (us := [v]) T.ox h1 h2 (in_row (P := X.prog) (w := X.w) (mg := X.mg) (base := X.base) T.ox T.n1 F) (hr.mono hk) hb T.glo hc tk hE hS ha rfl (by show 1 ≤ 1000; decide) hg rfl he hpl
end
/-- texts of which one is no inner text, t the first of those -/
structure BadSt (w r : Nat) (ss : List Str) (t : Str) : Prop where
  hw : Hasw w r
  ex : ∃ n0 : Nat, ss[n0]? = some t ∧ ∀ (i : Nat) (s : Str), i < n0 → ss[i]? = some s → innB w r s = true
  bad : innB w r t = false
  len : ∀ s ∈ ss, s.length ≤ 1000000
abbrev BD := List Str × Nat × Nat × Str
section
variable {K : PySem.W.Frag} {mg : Str → Option Value} {base : Heap} {P : Program} {w : World} {Cr : Addr}
theorem ok_stopsR (T : Txt K mg) (TR : RowT K mg Cr) : OkR P w K mg base 6 "check_stops" ["stops", "rounds", "width"] (RaiSp Cr (fun z : BD => some [("found", .str z.2.2.2)]) (fun z => [tSeq K (z.1.map tS), tI (z.2.1 : Nat), tI (z.2.2.1 : Nat)]) (fun z => BadSt z.2.2.1 z.2.1 z.1 z.2.2.2)) := by
  refine T.d_check_stops.okR sc100 (fun _ => rfl) (fun _ _ _ _ _ _ us hl => match us, hl with | [_, _, _], _ => rfl) fun f cdv A outer s H E C z hr hS hE hp => ?_
  obtain ⟨ss, r, w', t⟩ := z
  obtain ⟨hw, ⟨n0, e0, hin⟩, hbad, hlen⟩ := hp
  replace hbad : innB w' r t = false := hbad
  replace e0 : ss[n0]? = some t := e0
  have hn0 : n0 < ss.length := (List.getElem?_eq_some_iff.mp e0).1
  show PB _ C [some (tSeq K (ss.map tS)), some (tI (r : Nat)), some (tI (w' : Nat)), none] _ _ _
  refine pb_forN (j := 3) (l := ss) (tA := tS) PassesOwn.leaving rfl (psq 0 rfl) (fun _ => C) (fun i => [some (tSeq K (ss.map tS)), some (tI (r : Nat)), some (if i ≤ n0 then tI (w' : Nat) else tNo), none]) sc100.nd rfl (.inl rfl) (fun _ => rfl) (fun _ _ h => h) (fun i a ha => ?_) ?_
  · by_cases hi : i ≤ n0
    · rw [if_pos hi]
      have hla := hlen a (List.mem_of_getElem? ha)
      by_cases he : i = n0
      · subst he
        have eat : a = t := by rw [e0] at ha; exact (Option.some.inj ha).symm
        subst eat
        refine pb_guard (x := true) (pxt_not (x := false) (pxt_val ((px_call (ok_is_inner T) (a, r, w') rfl hr (pxs_cons (va 3 rfl) (pxs_cons (va 1 rfl) (pxs_cons (va 2 rfl) pxs_nil))) ⟨hw, hla⟩).cast (congrArg tB hbad)))) (fun _ => pb_raiseRow (v := .str a) TR hr (by decide) rfl tkX hE hS (pxs_cons (va 3 rfl) pxs_nil)) (fun h => nomatch h)
      · have hgood : innB w' r a = true := hin i a (by omega) ha
        rw [if_pos (show i + 1 ≤ n0 by omega)]
        exact pb_guard (x := false) (pxt_not (x := true) (pxt_val ((px_call (ok_is_inner T) (a, r, w') rfl hr (pxs_cons (va 3 rfl) (pxs_cons (va 1 rfl) (pxs_cons (va 2 rfl) pxs_nil))) ⟨hw, hla⟩).cast (congrArg tB hgood)))) (fun h => nomatch h) fun _ => pb_endI (gi_keep (gi_keep (gi_keep (gi_drop gi_nil))))
    · rw [if_neg hi]
      exact pb_no (i := 2) rfl
  · rw [if_neg (show ¬ ss.length ≤ n0 by omega)]
    exact pb_no (i := 2) rfl
end
end Nb
end -- X5
section -- X6
set_option maxHeartbeats 1000000
namespace Nb
open PySem PySem.Spec PyProof.Rows L2
structure OkRN (P : Program) (w : World) (K : PySem.W.Frag) (mg : Str → Option Value) (base : Heap) (k : Nat) (x : Str) (ps : List Str) (n : Nat) (ks : List Str) (sp : Sp) : Prop where
  ex : ∃ f fd, mg x = some (.ref f) ∧ PySem.W.keepIn K (.ref f) = true ∧ KBn K fd ps n ks (fun us ws => us ++ ws) (fun vs zs => vs ++ zs) ∧ FnOk P w K mg base (L2N.CX P w) k f fd ps sp
section
variable {X : Cx} {C : HC} {G : Env} {e : Expr} {es : List Expr} {T : Ty} {Ts Us : List Ty} {pos p : Pos} {E : XK} {cls : Addr} {fl : Option (List (Str × V))}
theorem px_callNZ {α : Type} {args : α → List Ty} {pre : α → Prop} {f1 : α → Option (List (Str × V))} {x : Str} {j k n : Nat} {ps ks : List Str} {kws : List Keyword} (F : OkRN X.prog X.w X.K X.mg X.base j x ps n ks (RaiSp cls f1 args pre)) (z : α) (hfl : f1 z = fl) (hx : Passes (L2N.CX X.prog X.w) X E) (hE : ∀ d H2, Ex C.H0 H2 → XFl fl d H2 → E (.ref cls) d H2) (hS : C.S = fun _ => false)
    (hr : Room k X.A) (ha : PXs X C G (e :: es) Ts) (hkw : PXk X C G kws Us) (hTU : Ts ++ Us = args z) (hp : pre z) (hn : Ts.length = n := by rfl) (hn2 : Us.length = ks.length := by rfl)
    (hall : (backToKw pos (keywordEach kws X.env)).all (·.1.isSome) = true := by rfl) (hks : (backToKw pos (keywordEach kws X.env)).filterMap (·.1) = ks := by rfl)
    (hj : j ≤ k := by decide) (hg : Gl X x := by rfl) (hdb : (x == ("__debug__" : Str)) = false := by decide) (he : starEach (e :: es) X.env = (false, eval e X.env) :: starEach es X.env := by rfl) (hpl : ((backTo pos (starEach (e :: es) X.env)).any (·.1) || (backToKw pos (keywordEach kws X.env)).any (·.1.isNone)) = false := by rfl) :
    PX X C G (.Call (.Name x p) (e :: es) kws pos) T := by
  obtain ⟨f, fd, hm, hk, hb, hF⟩ := F.ex
  subst hfl
  refine PE.imp (pe_callN hF (hr.mono hj) hg hm hk hb hx ha hkw hall hks hdb he hpl) fun σ H Q ⟨x, q⟩ => ⟨x, fun vs H1 x1 e1 p1 => ⟨x1, fun zs H2 x2 e2 p2 => ⟨by rw [p1.length]; exact hn, by rw [p2.length]; exact hn2, ?_⟩⟩⟩
  refine ⟨C.M, z, x2.base.hidd, ?_, hp, fun d H' e3 h => hE d H' (fun a o q => e3 a o (x2.base.old a o (by rw [hS]) q)) h⟩
  rw [← hTU]
  exact (TyAll.mono e2 p1).append p2
end
section
variable {K : PySem.W.Frag} {mg : Str → Option Value} {base : Heap} {P : Program} {w : World} {Ct Cp Cn Cm Cc Cr : Addr}
/-- another shape -/
abbrev MD := PD × LD
abbrev Unl (z : MD) : Prop := Lad z.2.1 z.2.2.1 z.2.2.2 ∧ ¬ (z.1.1 = z.2.1 ∧ z.1.2.1 = z.2.2.1)
theorem unl_no {a b c d : Nat} (h : ¬ (a = b ∧ c = d)) : (!(decide (a = b) && decide (c = d))) = true := by
  by_cases h1 : a = b
  · have h2 : ¬ c = d := fun z => h ⟨h1, z⟩
    rw [decide_eq_false h2, Bool.and_false]; rfl
  · rw [decide_eq_false h1]; rfl
theorem ok_slackR (T : Txt K mg) (BT : TabT K mg Ct) (BP : PlanT K mg Cp) (TM : ExcN K mg "Mismatch" Cm) : OkR P w K mg base 6 "anytime_slack" ["chooser", "ladder"] (RaiSp Cm (fun _ : MD => none) (fun z => [tPlan K Cp z.1.1 z.1.2.1 z.1.2.2, tLad K Ct z.2.1 z.2.2.1 z.2.2.2]) Unl) := by
  refine T.d_anytime_slack.okR sc98 (fun _ => rfl) (fun _ _ _ _ _ _ us hl => match us, hl with | [_, _], _ => rfl) fun f cdv A outer s H E C z hr hS hE hp => ?_
  obtain ⟨⟨cw, cr, cs⟩, w', r, c⟩ := z
  obtain ⟨hL, hno⟩ := hp
  replace hL : Lad w' r c := hL
  show PB _ C [some (tPlan K Cp cw cr cs), some (tLad K Ct w' r c), none, none] _ _ _
  refine pb_expr (px_call (ok_check_ladder T BT) (w', r, c) rfl hr (pxs_cons (va 1 rfl) pxs_nil) hL) ?_
  exact pb_guard (x := true) ((pxt_not (pxt_val (px_call (ok_same_shape T BT BP) ((cw, cr, cs), (w', r, c r)) rfl hr (pxs_cons (va 0 rfl) (pxs_cons (px_last (va 1 rfl)) pxs_nil)) trivial))).cast (unl_no hno)) (fun _ => pb_raiseN TM rfl tkX hE hS) (fun h => nomatch h)
theorem ok_smissR (T : Txt K mg) (BP : PlanT K mg Cp) (TR : RowT K mg Cr) : OkR P w K mg base 7 "stopped_misses" ["foe", "stops"] (RaiSp Cr (fun z : PD × List Str × Str => some [("found", .str z.2.2)]) (fun z => [tPlan K Cp z.1.1 z.1.2.1 z.1.2.2, tSeq K (z.2.1.map tS)]) (fun z => BadSt z.1.1 z.1.2.1 z.2.1 z.2.2)) := by
  refine T.d_stopped_misses.okR sc103 (fun _ => rfl) (fun _ _ _ _ _ _ us hl => match us, hl with | [_, _], _ => rfl) fun f cdv A outer s H E C z hr hS hE hp => ?_
  obtain ⟨⟨w', r, shs⟩, ss, t⟩ := z
  show PB _ C [some (tPlan K Cp w' r shs), some (tSeq K (ss.map tS)), none, none, none, none, none] _ _ _
  exact pb_exZ (px_callZ (ok_stopsR T TR) (ss, r, w', t) rfl psX hE hS hr (pxs_cons (va 1 rfl) (pxs_cons (px_prop (plan_rounds T BP) (w', r, shs) rfl hr (va 0 rfl) rfl trivial) (pxs_cons (px_prop (plan_width T BP) (w', r, shs) rfl hr (va 0 rfl) rfl trivial) pxs_nil))) hp)
theorem ok_smeanR (T : Txt K mg) (BP : PlanT K mg Cp) (TR : RowT K mg Cr) : OkR P w K mg base 7 "stopped_mean" ["foe", "stops", "ladder"] (RaiSp Cr (fun z : PD × List Str × Str => some [("found", .str z.2.2)]) (fun z => [tPlan K Cp z.1.1 z.1.2.1 z.1.2.2, tSeq K (z.2.1.map tS), tAny]) (fun z => BadSt z.1.1 z.1.2.1 z.2.1 z.2.2)) := by
  refine T.d_stopped_mean.okR sc104 (fun _ => rfl) (fun _ _ _ _ _ _ us hl => match us, hl with | [_, _, _], _ => rfl) fun f cdv A outer s H E C z hr hS hE hp => ?_
  obtain ⟨⟨w', r, shs⟩, ss, t⟩ := z
  show PB _ C [some (tPlan K Cp w' r shs), some (tSeq K (ss.map tS)), some tAny, none, none, none, none, none] _ _ _
  exact pb_exZ (px_callZ (ok_stopsR T TR) (ss, r, w', t) rfl psX hE hS hr (pxs_cons (va 1 rfl) (pxs_cons (px_prop (plan_rounds T BP) (w', r, shs) rfl hr (va 0 rfl) rfl trivial) (pxs_cons (px_prop (plan_width T BP) (w', r, shs) rfl hr (va 0 rfl) rfl trivial) pxs_nil))) hp)
theorem ok_smeanM (T : Txt K mg) (BT : TabT K mg Ct) (BP : PlanT K mg Cp) (TM : ExcN K mg "Mismatch" Cm) : OkR P w K mg base 7 "stopped_mean" ["foe", "stops", "ladder"] (RaiSp Cm (fun _ : MD => none) (fun z => [tPlan K Cp z.1.1 z.1.2.1 z.1.2.2, tSeq K (([] : List Str).map tS), tLad K Ct z.2.1 z.2.2.1 z.2.2.2]) (fun z => Unl z ∧ Hasw z.1.1 z.1.2.1)) := by
  refine T.d_stopped_mean.okR sc104 (fun _ => rfl) (fun _ _ _ _ _ _ us hl => match us, hl with | [_, _, _], _ => rfl) fun f cdv A outer s H E C z hr hS hE hp => ?_
  obtain ⟨⟨cw, cr, cs⟩, w', r, c⟩ := z
  obtain ⟨⟨hL, hno⟩, hw⟩ := hp
  replace hL : Lad w' r c := hL
  replace hw : Hasw cw cr := hw
  show PB _ C [some (tPlan K Cp cw cr cs), some (tSeq K (([] : List Str).map tS)), some (tLad K Ct w' r c), none, none, none, none, none] _ _ _
  refine pb_expr (px_call (ok_check_stops T) (([] : List Str), cr, cw) rfl hr (pxs_cons (va 1 rfl) (pxs_cons (px_prop (plan_rounds T BP) (cw, cr, cs) rfl hr (va 0 rfl) rfl trivial) (pxs_cons (px_prop (plan_width T BP) (cw, cr, cs) rfl hr (va 0 rfl) rfl trivial) pxs_nil))) ⟨hw, Nat.zero_le _, fun _ h => (List.not_mem_nil h).elim⟩) ?_
  refine pb_expr (px_call (ok_check_ladder T BT) (w', r, c) rfl hr (pxs_cons (va 2 rfl) pxs_nil) hL) ?_
  exact pb_guard (x := true) ((pxt_not (pxt_val (px_call (ok_same_shape T BT BP) ((cw, cr, cs), (w', r, c r)) rfl hr (pxs_cons (va 0 rfl) (pxs_cons (px_last (va 2 rfl)) pxs_nil)) trivial))).cast (unl_no hno)) (fun _ => pb_raiseN TM rfl tkX hE hS) (fun h => nomatch h)
theorem ok_paperR (T : Txt K mg) (BT : TabT K mg Ct) (TN : ExcN K mg "BadNumber" Cn) : OkR P w K mg base 8 "is_anytime_paper" ["ladder", "paper"] (RaiSp Cn (fun _ : LD × NoNum => none) (fun z => [tLad K Ct z.1.1 z.1.2.1 z.1.2.2, tTup K [z.2.ty K, tAny, tAny, tAny]]) (fun z => Lad z.1.1 z.1.2.1 z.1.2.2 ∧ z.2.ok)) := by
  refine T.d_is_anytime_paper.okR sc106 (fun _ => rfl) (fun _ _ _ _ _ _ us hl => match us, hl with | [_, _], _ => rfl) fun f cdv A outer s H E C z hr hS hE hp => ?_
  obtain ⟨⟨w', r, c⟩, q⟩ := z
  obtain ⟨hL, hq⟩ := hp
  replace hL : Lad w' r c := hL
  show PB _ C [some (tLad K Ct w' r c), some (tTup K [q.ty K, tAny, tAny, tAny]), none, none, none, none, none, none, none] _ _ _
  refine pb_expr (px_call (ok_check_ladder T BT) (w', r, c) rfl hr (pxs_cons (va 0 rfl) pxs_nil) hL) ?_
  refine pb_asg (va 1 rfl) (pgx_tup rfl (pgxs_cons (nm sc106.nd 2) (pgxs_cons (nm sc106.nd 3) (pgxs_cons (nm sc106.nd 4) (pgxs_cons (nm sc106.nd 5) pgxs_nil))))) ?_
  exact plet sc106.nd 6 (px_callZ (T := tNo) (ok_fracR T TN) q rfl psX hE hS hr (pxs_cons (va 2 rfl) pxs_nil) hq) (pb_no (i := 6) rfl)
end
end Nb
end -- X6
section -- X7
set_option maxHeartbeats 1000000
namespace Nb
open PySem PySem.Spec PyProof.Rows L2
section
variable {K : PySem.W.Frag} {mg : Str → Option Value} {base : Heap} {P : Program} {w : World} {Cc Cr : Addr}
theorem DefA.okNR {α : Type} {cls : Addr} {fl : α → Option (List (Str × V))} {args : α → List Ty} {pre : α → Prop} {g x : Str} {st : Stmt} {kws : List (Str × V)} {N ps : List Str} {k : Nat} (D : DefA K mg g x st kws) (S : FnScope N ps (defScope st)) (n : Nat) (ks : List Str) (hk : kws ≠ []) (hl : ∀ z, (args z).length = ps.length)
    (hbind : ∀ (Dk : Addr) (doc pm : Value) (an : Option Addr) (cdv ct : Value) (us ws : List Value), us.length = n → ws.length = ks.length → bindArgs (PySem.W.fnOf x x (defArgs st) (defBody st) (defScope st) .none (.ref Dk) doc pm an cdv ct) ⟨us, ks.zip ws⟩ = pure (ps.zip (us ++ ws)))
    (hb : ∀ (f : Addr) (cdv : Value) (A : Around) (outer : List PySem.Env) (s : Shared) (H : Hp) (E : XK) (C : HC) (z : α), Room k (A.deeper (envOfC x (defScope st) s.heap.objs.size f cdv)) → C.S = (fun _ => false) → (∀ d H2, Ex C.H0 H2 → XFl (fl z) d H2 → E (.ref cls) d H2) → pre z →
      PB (cxOf (L2N.CX P w) P w K mg base N x (defScope st) f cdv A outer s H E) C (startG N.length (args z)) (defBody st) NoX NoR) :
    OkRN P w K mg base (k + 1) g ps n ks (RaiSp cls fl args pre) := by
  obtain ⟨f, fd, hm, F⟩ := D
  have hK0 : KBn K fd ps n ks (fun us ws => us ++ ws) (fun vs zs => vs ++ zs) := by
    refine ⟨fun s us ws X l1 l2 => ?_, fun r1 r2 => r1.append r2⟩
    obtain ⟨co, dd, dV, kV, doc, pm, an, cdv, ct, sl, rfl, lk, hcd, hD, hK⟩ := F.ex
    rcases hD with ⟨_, rfl⟩ | ⟨e, _⟩
    · rcases hK with e | ⟨D, rfl, hq⟩
      · exact absurd e hk
      · exact .of_eq (hbind D doc pm an cdv ct us ws l1 l2)
    · exact absurd rfl e
  exact ⟨f, fd, hm, F.kp, hK0, rai_ok F S hl fun cdv A outer s H E C z hr hs hE hz => hb f cdv A outer s H E C z hr hs hE hz⟩
/-- wrong rounds -/
theorem ok_endR (T : Txt K mg) (TC : CntT K mg Cc) : OkRN P w K mg base 7 "endings" ["stops", "rounds", "width"] 2 ["width"] (RaiSp Cc (fun z : V × Nat => cFl (z.1, 0, (mostR z.2 : Nat))) (fun z => [tAny, tC z.1, tI (z.2 : Nat)]) (fun z => W15 z.2 ∧ BadC 0 (mostR z.2 : Nat) z.1)) :=
  T.d_endings.okNR sc102 2 ["width"] (List.cons_ne_nil _ _) (fun _ => rfl) (fun _ _ _ _ _ _ us ws h1 h2 => match us, ws, h1, h2 with | [_, _], [_], _, _ => rfl) fun f cdv A outer s H E C z hr hS hE hp => by
    show PB _ C [some tAny, some (tC z.1), some (tI (z.2 : Nat)), none, none, none] _ _ _
    exact pb_exZ (px_callZ (ok_rndR T TC) z rfl psX hE hS hr (pxs_cons (va 1 rfl) (pxs_cons (va 2 rfl) pxs_nil)) hp)
/-- a wrong width -/
theorem ok_endW (T : Txt K mg) (TC : CntT K mg Cc) : OkRN P w K mg base 7 "endings" ["stops", "rounds", "width"] 2 ["width"] (RaiSp Cc (fun z : V × V => cFl (z.2, 1, 5)) (fun z => [tAny, tC z.1, tC z.2]) (fun z => BadC 1 5 z.2)) :=
  T.d_endings.okNR sc102 2 ["width"] (List.cons_ne_nil _ _) (fun _ => rfl) (fun _ _ _ _ _ _ us ws h1 h2 => match us, ws, h1, h2 with | [_, _], [_], _, _ => rfl) fun f cdv A outer s H E C z hr hS hE hp => by
    show PB _ C [some tAny, some (tC z.1), some (tC z.2), none, none, none] _ _ _
    exact pb_exZ (px_callZ (ok_rndW T TC) z rfl psX hE hS hr (pxs_cons (va 1 rfl) (pxs_cons (va 2 rfl) pxs_nil)) hp)
/-- a wrong stop -/
theorem ok_endS (T : Txt K mg) (TR : RowT K mg Cr) : OkRN P w K mg base 7 "endings" ["stops", "rounds", "width"] 2 ["width"] (RaiSp Cr (fun z : BD => some [("found", .str z.2.2.2)]) (fun z => [tSeq K (z.1.map tS), tI (z.2.1 : Nat), tI (z.2.2.1 : Nat)]) (fun z => BadSt z.2.2.1 z.2.1 z.1 z.2.2.2)) :=
  T.d_endings.okNR sc102 2 ["width"] (List.cons_ne_nil _ _) (fun _ => rfl) (fun _ _ _ _ _ _ us ws h1 h2 => match us, ws, h1, h2 with | [_, _], [_], _, _ => rfl) fun f cdv A outer s H E C z hr hS hE hp => by
    show PB _ C [some (tSeq K (z.1.map tS)), some (tI (z.2.1 : Nat)), some (tI (z.2.2.1 : Nat)), none, none, none] _ _ _
    refine pb_expr (px_call (ok_check_rounds T) (z.2.1, z.2.2.1) rfl hr (pxs_cons (va 1 rfl) (pxs_cons (va 2 rfl) pxs_nil)) hp.hw) ?_
    exact pb_exZ (px_callZ (ok_stopsR T TR) z rfl psX hE hS hr (pxs_cons (va 0 rfl) (pxs_cons (va 1 rfl) (pxs_cons (va 2 rfl) pxs_nil))) hp)
end
end Nb
end -- X7
section -- H1
set_option maxHeartbeats 1000000
namespace Nb
open PySem PySem.Spec PyProof.Rows L2
abbrev PO := Addr × Obj
/-- a def called where the exception p is handled; its promise may speak of p -/
structure FnP (P : Program) (w : World) (K : PySem.W.Frag) (mg : Str → Option Value) (base : Heap) (k : Nat) (f : Addr) (fd : FuncData) (ps : List Str) (sp : PO → Sp) : Prop where
  len : ∀ p vs H Q E, sp p vs H Q E → vs.length = ps.length
  run : ∀ (A : Around) (outer : List PySem.Env) (s : Shared) (H : Hp) (args : Args) (us : List Value) (vs : List V) (Q : VK) (E : XK) (p : PO), L2H.RoomH k A → L2H.Hot1 A p → L2H.PinOk outer H s p → Env0 P w K mg base A outer s H →
    BindsTo s fd args (ps.zip us) → Vals vs us → sp p vs H Q E → codeAny (model P w) A (.call (.ref f) args) (CR CX0 outer P w H s Q E) s
abbrev hx (P : Program) (w : World) (K : PySem.W.Frag) (mg : Str → Option Value) (base : Heap) (N : List Str) (q : Str) (sc : Scope) (f : Addr) (cd : Value) (A : Around) (outer : List PySem.Env) (s : Shared) (H : Hp) (E : XK) (p : PO) : Cx := L2H.cxH CX0 P w K mg base N q sc f cd A outer s H E p
section
variable {K : PySem.W.Frag} {mg : Str → Option Value} {base : Heap} {P : Program} {w : World}
theorem fnP_of {x qual : Str} {params : Arguments} {body : List Stmt} {scope : Scope} {f : Addr} {fd : FuncData} {N ps : List Str} {k : Nat} {sp : PO → Sp} (F : FunD K x qual params body scope [] [] f fd) (S : FnScope N ps scope) (len : ∀ p vs H Q E, sp p vs H Q E → vs.length = ps.length)
    (hbody : ∀ (cdv : Value) (A : Around) (outer : List PySem.Env) (s : Shared) (H : Hp) (vs : List V) (Q : VK) (E : XK) (p : PO), L2H.Hot1 A p → L2H.RoomH k (A.deeper (envOfC qual scope s.heap.objs.size f cdv)) → sp p vs H Q E →
      ∃ t, PSs (hx P w K mg base N qual scope f cdv A outer s H E p) body t ∧ t { nx := fun _ H' => Q .non H', rt := Q } (L2.start N vs) H) : FnP P w K mg base (k + 1) f fd ps sp := by
  obtain ⟨co, dd, dV, kV, doc, pm, an, cdv, ct, sl, rfl, lk, hcd, _, _⟩ := F.ex
  refine ⟨len, fun A outer s H args us vs Q E p room hot hpin e0 hb r hsp => ?_⟩
  have up : ∀ b o, base.get? b = some o → s.heap.get? b = some o := fun b o e => (e0.bs b o e).1
  have KX : K.In s.heap := e0.mod.kin.keeps up
  refine codeAny_call_function room.depth (KX _ _ lk) rfl S.co S.gen rfl (PySem.W.codeRec_of KX hcd) (hb _ _ _ _ (wpAny_newFunctionEnv_cells S.kind (fun y hy => ?_) fun env he s1 x => ?_))
  · rcases S.par y.1 (List.of_mem_zip hy).1 with q | q
    · exact .inl q
    · exact Or.inr ⟨q, PySem.W.cellsFrom_some _ _ _ (.inl q)⟩
  subst he
  refine ⟨(e0.mod.nolimit.keeps up).keeps x.toInCall.keep, codeAny_func ?_⟩
  obtain ⟨t, ht, hq⟩ := hbody cdv A outer s H vs Q E p hot (room.deeper _) hsp
  have I : Inv (hx P w K mg base N qual scope f cdv A outer s H E p) [] (L2.start N vs) H s1 := L2H.inv_startH S hpin e0 (len _ _ _ _ _ hsp) r x
  refine wpAny_mono (ht.run [] s1 _ H _ I hq) (fun fl s' hs => ?_) fun _ _ h => h
  cases fl with
  | next => let ⟨σ', H', J, q⟩ := hs; exact ⟨.non, H', J.os, J.bare, J.base, J.hok, rfl, q⟩
  | ret u => let ⟨v, σ', H', J, rv, q⟩ := hs; exact ⟨v, H', J.os, J.bare, J.base, J.hok, rv, q⟩
  | brk => exact hs.elim fun _ h => h.elim fun _ h => h.2.elim
  | cont => exact hs.elim fun _ h => h.elim fun _ h => h.2.elim
end
section
variable {X : Cx} {C : HC} {G : Env} {e a b : Expr} {es : List Expr} {T : Ty} {Us : List Ty} {pos q : Pos} {k : Nat} {f : Addr} {fd : FuncData} {ps : List Str} {sp : PO → Sp} {x : Str} {p : PO}
/-- what holds where p is handled -/
structure HotP (X : Cx) (p : PO) : Prop where
  hot : L2H.Hot1 X.A p
  pn : p ∈ X.pn
theorem HotP.c (h : HotP X p) : L2H.HotC X := ⟨p, h.hot, h.pn⟩
theorem pe_callP {t : TA} (F : FnP X.prog X.w X.K X.mg X.base k f fd ps sp) (h : HotP X p) (hr : L2H.RoomH k X.A) (hg : Gl X x) (hm : X.mg x = some (.ref f)) (hk : PySem.W.keepIn X.K (.ref f) = true) (hb : Binds X.K fd ps [])
    (hdb : (x == ("__debug__" : Str)) = false := by decide) (ha : PA X (e :: es) t) (he : starEach (e :: es) X.env = (false, eval e X.env) :: starEach es X.env := by rfl) (hpl : (backTo pos (starEach es X.env)).any (·.1) = false := by rfl) :
    PE X (.Call (.Name x q) (e :: es) [] pos) (fun σ H Q => t σ H fun vs H2 => sp p vs H2 Q E0) := by
  refine ⟨fun pins s σ H Q I w => wpAny_Call_Name_kw (ld_glob I hg hm ?_ hdb)⟩
  refine PySem.W.callWith_K (h₀ := X.base) I.ok.mod.kin hk (thn (ha.run pos pins s σ H _ I w) fun us s1 ⟨vs, H1, I1, r, hsp⟩ => ⟨I1.kIn, ?_⟩) he hpl
  have hl : us.length = ps.length := r.length.symm.trans (F.len _ _ _ _ _ hsp)
  have bd := hb s1 us I1.kIn (by rw [List.append_nil]; exact hl)
  rw [List.append_nil] at bd
  obtain ⟨p1, p2, p3, p4, p5⟩ := I1.pin p (List.mem_append_left _ h.pn)
  have hpin : L2H.PinOk X.stack H1 s1 p := ⟨p1, p2, fun hm => (List.mem_cons.mp (I1.stkSub p.1 hm)).elim p3 p4, p5⟩
  refine wpAny_call (codeAny_mono (F.run X.A X.stack s1 H1 ⟨us, []⟩ us vs Q E0 p hr h.hot hpin I1.env0 bd r hsp) fun rr s' hq => ?_)
  cases rr with
  | error u => exact (show False from hq).elim
  | ok fl => cases fl with
    | ret u => exact I1.after hq
    | next => exact (show False from hq).elim
    | brk => exact (show False from hq).elim
    | cont => exact (show False from hq).elim
structure OkP (P : Program) (w : World) (K : PySem.W.Frag) (mg : Str → Option Value) (base : Heap) (k : Nat) (x : Str) (ps : List Str) (sp : PO → Sp) : Prop where
  ex : ∃ f fd, mg x = some (.ref f) ∧ PySem.W.keepIn K (.ref f) = true ∧ Binds K fd ps [] ∧ FnP P w K mg base k f fd ps sp
theorem px_callP {j : Nat} (F : OkP X.prog X.w X.K X.mg X.base j x ps sp) (h : HotP X p) (hr : L2H.RoomH k X.A) (ha : PXs X C G (e :: es) Us) (hs : ∀ (vs : List V) (H : Hp) (Q : VK), (∀ a, C.M a = true → ∃ o, H a = some o) → TyAll (hid C.M H) vs Us → (∀ v H', Ex H H' → T.P (hid C.M H') v → Q v H') → sp p vs H Q E0)
    (hj : j ≤ k := by decide) (hg : Gl X x := by rfl) (hdb : (x == ("__debug__" : Str)) = false := by decide) (he : starEach (e :: es) X.env = (false, eval e X.env) :: starEach es X.env := by rfl) (hpl : (backTo pos (starEach es X.env)).any (·.1) = false := by rfl) :
    PX X C G (.Call (.Name x q) (e :: es) [] pos) T := by
  obtain ⟨f, fd, hm, hk, hb, hF⟩ := F.ex
  exact PE.imp (pe_callP hF h (hr.mono hj) hg hm hk hb (hdb := hdb) (ha := ha) (he := he) (hpl := hpl)) fun σ H Q ⟨ok, q⟩ => ⟨ok, fun vs H1 x1 e1 p1 => hs vs H1 Q x1.base.hidd p1 fun v H2 e2 p2 => q v H2 (x1.ex e2) (e1.trans (hid_mono e2)) p2⟩
/-- .. a def that leaves the heap as it stands -/
theorem px_callH {α : Type} {args : α → List Ty} {pre : α → Prop} {res : α → Ty} {j : Nat} (F : OkP X.prog X.w X.K X.mg X.base j x ps (fun _ => Pur args pre res)) (h : HotP X p) (z : α) (hT : res z = T) (hr : L2H.RoomH k X.A) (ha : PXs X C G (e :: es) (args z)) (hp : pre z)
    (hj : j ≤ k := by decide) (hg : Gl X x := by rfl) (hdb : (x == ("__debug__" : Str)) = false := by decide) (he : starEach (e :: es) X.env = (false, eval e X.env) :: starEach es X.env := by rfl) (hpl : (backTo pos (starEach es X.env)).any (·.1) = false := by rfl) :
    PX X C G (.Call (.Name x q) (e :: es) [] pos) T :=
  px_callP F h hr ha (fun vs H Q tr hv k => ⟨C.M, z, tr, hv, hp, fun v H' e hr => k v H' e (hT ▸ hr)⟩) hj hg hdb he hpl
end
section
variable {K : PySem.W.Frag} {mg : Str → Option Value} {base : Heap} {P : Program} {w : World}
theorem hotP_of {N : List Str} {q : Str} {sc : Scope} {f : Addr} {cd : Value} {A : Around} {outer : List PySem.Env} {s : Shared} {H : Hp} {E : XK} {p : PO} (h : L2H.Hot1 A p) : HotP (hx P w K mg base N q sc f cd A outer s H E p) p := ⟨h, List.mem_singleton.mpr rfl⟩
theorem Def.okH {α : Type} {args : α → List Ty} {pre : α → Prop} {res : α → Ty} {x : Str} {st : Stmt} {N ps : List Str} {k : Nat} (D : Def K mg x st) (S : FnScope N ps (defScope st)) (hl : ∀ z, (args z).length = ps.length)
    (hbind : ∀ (kV doc pm : Value) (an : Option Addr) (cdv ct : Value) (us : List Value), us.length = ps.length → bindArgs (PySem.W.fnOf x x (defArgs st) (defBody st) (defScope st) .none kV doc pm an cdv ct) ⟨us, []⟩ = pure (ps.zip us))
    (hb : ∀ (f : Addr) (cdv : Value) (A : Around) (outer : List PySem.Env) (s : Shared) (H : Hp) (E : XK) (p : PO) (C0 C : HC) (z : α), L2H.RoomH k (A.deeper (envOfC x (defScope st) s.heap.objs.size f cdv)) → HotP (hx P w K mg base N x (defScope st) f cdv A outer s H E p) p → Ext0 C0 C → pre z →
      PB (hx P w K mg base N x (defScope st) f cdv A outer s H E p) C (startG N.length (args z)) (defBody st) (fun _ H' => RtOf C0 (res z) .non H') (RtOf C0 (res z))) :
    OkP P w K mg base (k + 1) x ps (fun _ => Pur args pre res) := by
  obtain ⟨f, fd, hm, F⟩ := D
  refine ⟨f, fd, hm, F.kp, F.bindsN hbind, fnP_of F S (fun p vs H Q E ⟨M, z, _, h, _⟩ => by rw [h.length, hl]) fun cdv A outer s H vs Q E p hot hr ⟨M, z, tr, h, hp, q⟩ => ?_⟩
  exact ⟨_, hb f cdv A outer s H E p (HC.at_ H M) (HC.at_ H M) z hr (hotP_of hot) ⟨fun _ h => h, rfl, rfl⟩ hp, ⟨⟨fun a o _ e => e, tr, trivial⟩, start_env h⟩, fun σ' H' ⟨n1, n2⟩ _ => q _ H' n1 n2, fun v H' ⟨n1, n2⟩ => q v H' n1 n2⟩
end
section
variable {X : Cx} {C : HC} {G : Env} {a : Expr} {pos p1 p2 p3 : Pos} {p : PO}
theorem PIH.imp {tg e : Expr} {t t' : TI} (h : L2H.PIH X tg e t) (f : ∀ σ H Q, t' σ H Q → t σ H Q) : L2H.PIH X tg e t' := ⟨fun pins s σ H R I q => h.run pins s σ H R I (f σ H R q)⟩
theorem pixH_range {tg : Expr} {n : Nat} (hm : X.mg "range" = none) (ha : PX X C G a (tI (n : Nat))) (hn : n ≤ 1000000) (hg : Gl X "range" := by rfl) (hs : starEach [a] X.env = [(false, eval a X.env)] := by rfl) (hs2 : starEach [a] X.env = (false, eval a X.env) :: starEach [] X.env := by rfl) :
    L2H.PIH X tg (.Call (.Name "range" p1) [a] [] pos) (tIX C G ((List.range n).map fun i => tI ((i : Nat) : Int))) :=
  PIH.imp (L2H.pi_range1H hg hm (pxs_cons ha pxs_nil hs2) hs) fun σ H R ⟨ok, q⟩ => ⟨ok, fun vs H1 x1 e1 p1 => by
    cases p1 with
    | cons p1 t =>
      cases t
      obtain rfl := (show _ = V.int (n : Int) from p1)
      refine ⟨(n : Int), rfl, by omega, by omega, q _ H1 x1 e1 fun M H' e _ i => ⟨fun T hT => ?_, fun hl => ?_⟩⟩
      · obtain ⟨h1, rfl⟩ := getElem?_range hT
        exact ⟨show i < (n : Int).toNat by omega, fun x H'' ⟨z1, z2⟩ => by subst z1 z2; exact ⟨Ex.refl _, congrArg V.int (Int.zero_add _)⟩⟩
      · have z : n = i := by simpa using hl
        exact show (n : Int).toNat ≤ i by omega⟩
/-- the turns of such a loop leave the context and the slots but the target as they stand -/
theorem pb_forH {n : Nat} {body : List Stmt} {j : Nat} {y : Str} {iter : Expr} (h : HotP X p) (hp : PassesOwn (model X.prog X.w) X.A X.env X.xe) (hi : L2H.PIH X (.Name y p2) iter (tIX C G ((List.range n).map fun i => tI ((i : Nat) : Int)))) (hN : X.N.Nodup) (hj : X.N[j]? = some y) (hx : Loc X.env.scope y)
    {Nx : NX} {Rt : RT} {rest : List Stmt} (hb : ∀ i : Nat, i < n → PB X C (G.set j (some (tI (i : Nat)))) body (EnvOk C G) Rt) (hr : PB X C G rest Nx Rt)
    (hf : X.fn y = true ∨ X.env.scope.names.lookup y = some .local := by first | exact .inl rfl | exact .inr rfl | assumption) (hs : ∀ x, foldedSetIterable iter X.env x = pure x := by intro _; rfl) : PB X C G (.For (.Name y p2) iter body [] pos :: rest) Nx Rt := by
  have hg : ∀ i : Nat, PGX X C G (.Name y p2) (tI (i : Nat)) (G.set j (some (tI (i : Nat)))) [j] := fun i => pgx_name hN hj hx hf
  refine PSs.imp (pss_cons (L2H.ps_forH (tb := fun D σ H => ∃ i : Nat, i < n ∧ tSS C (G.set j (some (tI (i : Nat)))) (EnvOk C G) Rt D σ H) hp h.c hi (PG_ex fun i : Nat => hg i) (PB_ex fun i => PB_when (hb i)) hs) hr) fun D σ H ⟨ok, q1, q2⟩ => ⟨ok, fun J H1 x1 e1 y1 => ?_⟩
  refine ⟨fun i m σ' H' => m + i = n ∧ EnvOk C G σ' H' ∧ Ex (hid C.M H1) (hid C.M H'), ⟨n, rfl, x1, Ex.refl _⟩, ?_⟩
  rintro i m σ' H' ⟨hm, x2, e2⟩
  obtain ⟨y2, y3⟩ := y1 C.M H' e2 x2.base.hidd i
  rcases Nat.lt_or_ge i n with hi | hi
  · obtain ⟨go, yl⟩ := y2 (tI (i : Nat)) (by rw [List.getElem?_map, List.getElem?_range hi]; rfl)
    refine .inr ⟨go, fun σ2 H2 => EnvOk C G σ2 H2 ∧ Ex (hid C.M H1) (hid C.M H2), fun σ2 H2 ⟨x3, e3⟩ => ⟨m - 1, by omega, by omega, x3, e3⟩, fun v H2 hy => ?_⟩
    obtain ⟨e3, p3⟩ := yl v H2 hy
    exact ⟨i, x2.ex e3, p3, fun σ3 x3 _ => ⟨i, hi, x3, fun σ4 H4 x4 e4 => ⟨x4, (e2.trans (hid_mono e3)).trans e4⟩, q2⟩⟩
  · have hl : i = n := by omega
    exact .inl ⟨y3 (by rw [List.length_map, List.length_range]; exact hl.symm), x2, fun σ4 H4 nx e4 => q1 σ4 H4 nx ((e1.trans e2).trans e4), q2⟩
end
/-- the exception at a, its fields fl in the dict d -/
def tExc (a : Addr) (fl : Option (List (Str × V))) (d : Option Addr) : Ty := ⟨fun H v => v = .ref a ∧ XFl fl d H, fun e h => ⟨h.1, by
  cases fl with
  | none => exact h.2
  | some fs => let ⟨dd, h1, h2⟩ := h.2; exact ⟨dd, h1, e _ _ h2⟩⟩⟩
/-- p is an exception of the class Cl with the dict d -/
structure IsX (p : PO) (Cl : Addr) (d : Option Addr) : Prop where
  z : L2N.Zn (.ref Cl) d p.2
  f : ∃ us, p.2.data = .fields us
/-- an exception's class, as isinstance asks it -/
structure ExcQ (K : PySem.W.Frag) (Cl : Addr) : Prop where
  cl : (PySem.W.clsIn K Cl).isSome = true
  ga : PySem.W.findIn K (.ref Cl) "__getattribute__" = some (some (.builtin "BaseException.__getattribute__"))
  gt : PySem.W.findIn K (.ref Cl) "__getattr__" = some none
  sb : PySem.W.subIn K (.ref Cl) (.type "BaseException") = some true
  cc : PySem.W.findIn K (.ref Cl) "__class__" = some (some (.builtin "object.__class__"))
  sp : PySem.W.specialIn K (.builtin "object.__class__") "__get__" = some (some (.builtin "getset_descriptor.__get__"))
  tk : PySem.W.takesIn K (.builtin "object.__class__") = some true
  mr : PySem.W.mroIn K Cl (.type "object") = some true
def rIsP (K : PySem.W.Frag) (a Cl : Addr) (fl : Option (List (Str × V))) (d : Option Addr) : List V → Hp → VK → Prop := fun xs H Q => ∃ (c : V) (cv : Value) (b : Bool), xs = [.ref a, c] ∧ (∀ u, RelV c u → u = cv) ∧ PySem.W.kitOne K (.ref Cl) cv = some b ∧ XFl fl d H ∧ Q (.bl b) H
section
variable {X : Cx} {C : HC} {G : Env} {e : Expr} {p : PO} {Cl : Addr} {d : Option Addr} {fl : Option (List (Str × V))} {pos p1 p2 : Pos}
theorem inst_of {prog : Program} {w : World} {H : Hp} {h : Heap} (i : IsX p Cl d) (hg : h.get? p.1 = some p.2) (hk : HOk prog w H h) (hx : XFl fl d H) : ∃ od, PySem.W.InstAt h p.1 p.2 Cl od := by
  obtain ⟨us, hu⟩ := i.f
  have no : PySem.W.notCls p.2 = true := by unfold PySem.W.notCls; rw [hu]
  cases fl with
  | none => exact ⟨none, hg, i.z.1, no, by rw [i.z.2.1, show d = none from hx]; trivial⟩
  | some fs =>
    obtain ⟨dd, hd, hH⟩ := hx
    obtain ⟨mA, hns, _⟩ : ObjOk prog w H h dd (.xd fs) := hk dd _ hH
    obtain ⟨od, ho, _⟩ := lookIn_ns hns
    exact ⟨some od, hg, i.z.1, no, by rw [i.z.2.1, hd]; exact ho⟩
theorem call_isP (q : ExcQ X.K Cl) (hp : p ∈ X.pn) (i : IsX p Cl d) : CallR X (.builtin "isinstance") (rIsP X.K p.1 Cl fl d) := by
  intro pins s σ H xs us Q I r h
  obtain ⟨c, cv, b, rfl, hcv, hb, hx, hq⟩ := h
  match us, r with
  | [_, u], .cons rx (.cons rt .nil) =>
    cases rx
    obtain rfl := hcv _ rt
    obtain ⟨od, J⟩ := inst_of i (I.pin p (List.mem_append_left _ hp)).1 I.hok hx
    exact PySem.W.kia_one (PySem.W.kitx_exc q.cl q.ga q.gt q.sb q.cc q.sp q.tk q.mr) I.kIn J hb (fun z => nomatch z) fun tk => ⟨.bl b, H, I.kept (t' := tk) fun _ _ z => z, rfl, hq⟩
theorem isP_ok {c : V} {cv : Value} {b : Bool} (hcv : ∀ u, RelV c u → u = cv) (hk : PySem.W.kitOne X.K (.ref Cl) cv = some b) : RCOk C (rIsP X.K p.1 Cl fl d) [tExc p.1 fl d, tC c] (tB b) := fun H vs Q bs h q => by
  match vs, h with
  | [_, _], .cons ⟨h1, h2⟩ (.cons h3 .nil) =>
    subst h1
    obtain rfl := (show _ = c from h3)
    exact ⟨_, cv, b, rfl, hcv, hk, ((tExc p.1 fl d).mono hid_le ⟨rfl, h2⟩).2, q _ H (Ex.refl H) rfl⟩
/-- isinstance(e, Cq), Cq a class of the program -/
theorem px_isE {x : Str} {Cq : Addr} {b : Bool} (q : ExcQ X.K Cl) (hp : p ∈ X.pn) (i : IsX p Cl d) (hk : PySem.W.kitOne X.K (.ref Cl) (.ref Cq) = some b) (hm : X.mg "isinstance" = none) (hm2 : X.mg x = some (.ref Cq)) (he : PX X C G e (tExc p.1 fl d)) (hg : Gl X "isinstance" := by rfl) (hg2 : Gl X x := by rfl) (hdb : (x == ("__debug__" : Str)) = false := by decide)
    (h1 : starEach [e, .Name x p2] X.env = (false, eval e X.env) :: starEach [.Name x p2] X.env := by rfl) (h2 : starEach [.Name x p2] X.env = (false, eval (.Name x p2) X.env) :: starEach [] X.env := by rfl) (hpl : (backTo pos (starEach [.Name x p2] X.env)).any (·.1) = false := by rfl) :
    PX X C G (.Call (.Name "isinstance" p1) [e, .Name x p2] [] pos) (tB b) :=
  px_callB (call_isP q hp i) (isP_ok (c := .ref Cq) (fun u h => h) hk) hm boot_isinstance (pxs_cons he (pxs_cons (px_glob hm2 rfl hg2 hdb) pxs_nil h2) h1) hg (he := h1) (hpl := hpl)
/-- .. a built-in class -/
theorem px_isEB {x : Str} {n : String} {b : Bool} (q : ExcQ X.K Cl) (hp : p ∈ X.pn) (i : IsX p Cl d) (hk : PySem.W.kitOne X.K (.ref Cl) (.type n) = some b) (hm : X.mg "isinstance" = none) (hm2 : X.mg x = none) (hb : bootBuiltins x = some (.type n)) (he : PX X C G e (tExc p.1 fl d)) (hg : Gl X "isinstance" := by rfl) (hg2 : Gl X x := by rfl) (hn : x ≠ "__name__" := by decide) (hdb : (x == ("__debug__" : Str)) = false := by decide)
    (h1 : starEach [e, .Name x p2] X.env = (false, eval e X.env) :: starEach [.Name x p2] X.env := by rfl) (h2 : starEach [.Name x p2] X.env = (false, eval (.Name x p2) X.env) :: starEach [] X.env := by rfl) (hpl : (backTo pos (starEach [.Name x p2] X.env)).any (·.1) = false := by rfl) :
    PX X C G (.Call (.Name "isinstance" p1) [e, .Name x p2] [] pos) (tB b) :=
  px_callB (call_isP q hp i) (isP_ok (c := .ty n) (fun u h => h) hk) hm boot_isinstance (pxs_cons he (pxs_cons (PE.imp (pe_bltn (v := .ty n) hg2 hm2 hb rfl hn hdb) fun _ H _ ⟨x, q⟩ => q _ H x (Ex.refl _) rfl) pxs_nil h2) h1) hg (he := h1) (hpl := hpl)
end
def rCntV (K : PySem.W.Frag) : V → List V → Hp → VK → Prop := fun x xs H Q => ∃ (p : Addr) (ys : List V) (y : V), x = .ref p ∧ xs = [y] ∧ SqL K H p ys ∧ flatV y = true ∧ ys.all flatV = true ∧ Q (.int ((ys.countP fun z => eqV z y : Nat))) H
theorem count_eqU {x : V} {xs : List V} {us : List Value} (h : Vals xs us) (f : xs.all flatV = true) : us.countP (eqU x) = xs.countP fun y => eqV y x := by
  induction h with
  | nil => rfl
  | cons r t ih =>
    rw [List.all_cons, Bool.and_eq_true] at f
    rw [List.countP_cons, List.countP_cons, ih f.2, eqU_of r f.1]
section
variable {X : Cx} {C : HC} {G : Env} {a b : Expr} {pos p1 : Pos} {bs : List Bool}
theorem mt_cntV : MtR X "list.count" (rCntV X.K) := by
  intro pins s σ H x xs v us Q I rx rxs ⟨p, ys, y, h1, h2, hs, fy, fs, q⟩
  subst h1 h2
  cases rx
  obtain ⟨u, rfl, ru⟩ := rxs.one
  obtain ⟨its, rv, ⟨⟨cls, dd, data, sl⟩, n, ho, hc, _, hd⟩, _⟩ := I.list hs
  obtain rfl : cls = _ := hc
  obtain rfl : data = _ := hd
  refine call_meets PySem.F.slot_list_count ⟨_, ho, rfl⟩ PySem.F.entry_list_count (PySem.F.args_list_count_2 _ _) (SeqAt.list_countAt p its.toArray n dd sl u (eqU y)) ⟨ho, fun z hz => mem_eqAt ru fy rv fs z (by simpa using hz), ?_⟩
  refine ⟨.int (ys.countP fun z => eqV z y : Nat), H, I.tok _, ⟨s.toks, ?_⟩, q⟩
  exact congrArg (fun m : Nat => Value.int (m : Int) s.toks) (count_eqU (us := its) rv fs)
theorem countB (bs : List Bool) : ((bs.map V.bl).countP fun z => eqV z (.bl true)) = bs.count true := by
  induction bs with
  | nil => rfl
  | cons b bs ih => rw [List.map_cons, List.countP_cons, List.count_cons, ih]; cases b <;> rfl
theorem px_count (i : Nat) {y : Str} (hl : G[i]? = some (some (tLst (bs.map tB)))) (hN : X.N[i]? = some y := by rfl) (hv : Vis X.env.scope y := by first | exact .inl rfl | exact .inr (.inl rfl) | exact .inr (.inr rfl)) (hd : (y == ("__debug__" : Str)) = false := by decide) (hcd : (y == ("__classdict__" : Str)) = false := by decide) {apos p2 : Pos} {j : Nat}
    (hbase : attributeBase (.Name y p1) "count" X.env (eval (.Name y p1) X.env) = eval (.Name y p1) X.env := by rfl)
    (hfew : ((backTo pos (starEach [.Constant (.bool true) j p2] X.env)).all (fun x => !x.1) && (backToKw pos (keywordEach [] X.env)).all (fun x => x.1.isSome)
      && decide (([.Constant (.bool true) j p2] : List Expr).length + ([] : List Keyword).length + (if ([] : List Keyword).isEmpty then 0 else 1) < 30)) = true := by rfl)
    (hline : (apos.endLine == pos.line) = true := by rfl) (hs : starEach [.Constant (.bool true) j p2] X.env = (false, eval (.Constant (.bool true) j p2) X.env) :: starEach [] X.env := by rfl) (hpl : (backTo pos (starEach [] X.env)).any (·.1) = false := by rfl) :
    PX X C G (.Call (.Attribute (.Name y p1) "count" apos) [.Constant (.bool true) j p2] [] pos) (tI (bs.count true : Nat)) :=
  PE.imp (pe_bm PySem.F.plainAttrs_list PySem.F.slot_list_count PySem.F.type_list_count mt_cntV (pe_var hN hv hd hcd) (pxs_cons (px_bl (C := C) (G := G)) pxs_nil hs) hbase hfew hline hs hpl) fun σ H Q ⟨ok, q⟩ => by
    obtain ⟨v, e, a, xs, rfl, h2, h3⟩ := ok.var hl
    obtain rfl : xs = bs.map V.bl := tyAll_vals (ys := bs.map V.bl) (by rw [List.map_map]; exact h3)
    refine ⟨_, e, .inl ⟨rfl, _, sqL_of_hid h2⟩, ok, fun vs H1 x1 e1 p1 => ?_⟩
    match vs, p1 with
    | [_], .cons p1 .nil =>
      obtain rfl := (show _ = V.bl true from p1)
      refine ⟨a, bs.map V.bl, .bl true, rfl, rfl, sqL_of_hid (e1 _ _ h2), rfl, by simp [flatV], ?_⟩
      rw [countB]
      exact q _ H1 x1 e1 rfl
end
end Nb
end -- H1
section -- H2
set_option maxHeartbeats 1000000
namespace Nb
open PySem PySem.Spec PyProof.Rows L2
/-- Cl is the class x0 among them -/
def Kin (K : PySem.W.Frag) (mg : Str → Option Value) (x0 : Str) (Cl : Addr) : Prop := ∀ x ∈ kinNames, ∃ Cq, mg x = some (.ref Cq) ∧ PySem.W.kitOne K (.ref Cl) (.ref Cq) = some (decide (x = x0))
section
variable {K : PySem.W.Frag} {mg : Str → Option Value} {base : Heap} {P : Program} {w : World}
theorem okH_same0 (T : Txt K mg) : OkP P w K mg base 1 "_law_same" ["_law_actual", "_law_due"] (fun _ => Pur (fun v : V => [tC v, tC v]) Scl (fun _ => tB true)) := by
  refine T.d__law_same.okH sc121 (fun _ => rfl) (fun _ _ _ _ _ _ us hl => match us, hl with | [_, _], _ => rfl) fun f cdv A outer s H E p C0 C v hr hh x hv => ?_
  show PB _ C [some (tC v), some (tC v), none] _ _ _
  cases hv with
  | int i =>
    refine pb_guard (x := false) (pxt_val (px_isi (n := "int") (m := "bool") hasI rfl T.f_isinstance (by exact T.f_bool) boot_bool (va 1 rfl))) (fun h => nomatch h) fun _ => ?_
    refine pb_guard (x := true) (pxt_val (px_isi (n := "int") (m := "int") hasI rfl T.f_isinstance T.f_int boot_int (va 1 rfl))) (fun _ => ?_) (fun h => nomatch h)
    refine pb_retP x ((px_and (x := true) (px_isi (n := "int") (m := "int") hasI rfl T.f_isinstance T.f_int boot_int (va 0 rfl)) fun _ => px_and (x := true) (px_not (x := false) (px_isi (n := "int") (m := "bool") hasI rfl T.f_isinstance T.f_bool boot_bool (va 0 rfl))) fun _ => px_one (px_eq (va 0 rfl) (va 1 rfl))).cast (by simp))
  | bl b =>
    refine pb_guard (x := true) (pxt_val (px_isi (n := "bool") (m := "bool") hasB rfl T.f_isinstance T.f_bool boot_bool (va 1 rfl))) (fun _ => ?_) (fun h => nomatch h)
    refine pb_retP x ((px_and (x := true) (px_isi (n := "bool") (m := "bool") hasB rfl T.f_isinstance T.f_bool boot_bool (va 0 rfl)) fun _ => px_one (px_cmp op_eq (r2_eq (x := .bl b) (y := .bl b) rfl) (va 0 rfl) (va 1 rfl) (nomark _))).cast (by simp))
  | str t =>
    refine pb_guard (x := false) (pxt_val (px_isi (n := "str") (m := "bool") hasS rfl T.f_isinstance T.f_bool boot_bool (va 1 rfl))) (fun h => nomatch h) fun _ => ?_
    refine pb_guard (x := false) (pxt_val (px_isi (n := "str") (m := "int") hasS rfl T.f_isinstance T.f_int boot_int (va 1 rfl))) (fun h => nomatch h) fun _ => ?_
    refine pb_guard (x := true) (pxt_val (px_isi (n := "str") (m := "str") hasS rfl T.f_isinstance T.f_str boot_str (va 1 rfl))) (fun _ => ?_) (fun h => nomatch h)
    refine pb_retP x ((px_and (x := true) (px_isi (n := "str") (m := "str") hasS rfl T.f_isinstance T.f_str boot_str (va 0 rfl)) fun _ => px_one (px_eqS (va 0 rfl) (va 1 rfl))).cast (by simp))
theorem okH_same1 (T : Txt K mg) : OkP P w K mg base 2 "_law_same" ["_law_actual", "_law_due"] (fun _ => Pur (fun vs : List V => [tFlat K true vs, tFlat K true vs]) (fun vs => (∀ v ∈ vs, Scl v) ∧ vs.length ≤ 1000) (fun _ => tB true)) := by
  refine T.d__law_same.okH sc121 (fun _ => rfl) (fun _ _ _ _ _ _ us hl => match us, hl with | [_, _], _ => rfl) fun f cdv A outer s H E p C0 C vs hr hh x hz => ?_
  obtain ⟨hv, hn⟩ := hz
  have hit : ∀ {j : Nat} {v : V}, vs[j]? = some v → atI (vs.map tC) (j : Int) = some (tC v) := fun {j v} h => atI_nat (by rw [List.getElem?_map, h]; rfl)
  have hat : ∀ {j : Nat}, j < vs.length → vs[j]? = some (vs.getD j .non) := fun {j} h => by rw [List.getD_eq_getElem?_getD, List.getElem?_eq_getElem h]; rfl
  show PB _ C [some (tTup K (vs.map tC)), some (tTup K (vs.map tC)), none] _ _ _
  refine pb_guard (x := false) (pxt_val (px_isi (n := "tuple") (m := "bool") hasT rfl T.f_isinstance T.f_bool boot_bool (va 1 rfl))) (fun h => nomatch h) fun _ => ?_
  refine pb_guard (x := false) (pxt_val (px_isi (n := "tuple") (m := "int") hasT rfl T.f_isinstance T.f_int boot_int (va 1 rfl))) (fun h => nomatch h) fun _ => ?_
  refine pb_guard (x := false) (pxt_val (px_isi (n := "tuple") (m := "str") hasT rfl T.f_isinstance T.f_str boot_str (va 1 rfl))) (fun h => nomatch h) fun _ => ?_
  refine pb_if (x := true) (C' := C) (G' := [some (tTup K (vs.map tC)), some (tTup K (vs.map tC)), none]) (pxt_val (px_isi (n := "tuple") (m := "tuple") hasT rfl T.f_isinstance T.f_tuple boot_tuple (va 1 rfl))) (fun _ => ?_) (fun h => nomatch h) ?_
  · exact pb_guard (x := false) (pxt_not (x := true) (pxt_val (px_isi (n := "tuple") (m := "tuple") hasT rfl T.f_isinstance T.f_tuple boot_tuple (va 0 rfl)))) (fun h => nomatch h) fun _ => pb_end
  refine pb_guard (x := false) ((pxt_ne (px_lenT T.f_len (va 0 rfl)) (px_lenT T.f_len (va 1 rfl))).cast (by simp)) (fun h => nomatch h) fun _ => ?_
  refine pb_forH (j := 2) (n := vs.length) hh PassesOwn.leaving (pixH_range T.f_range ((px_lenT T.f_len (va 1 rfl)).cast (by rw [List.length_map])) (by omega)) sc121.nd rfl (.inl rfl) (fun i hi => ?_) (pb_retP x px_bl)
  exact pb_guard (x := false) (pxt_not (x := true) (pxt_val (px_callH (okH_same0 T) hh (vs.getD i .non) rfl hr (pxs_cons (px_ixT (va 0 rfl) (va 2 rfl) (hit (hat hi))) (pxs_cons (px_ixT (va 1 rfl) (va 2 rfl) (hit (hat hi))) pxs_nil)) (hv _ (List.mem_of_getElem? (hat hi)))))) (fun h => nomatch h) fun _ => pb_endI (gi_keep (gi_keep (gi_drop gi_nil)))
/-- how many of the classes it is of -/
def ClsSp (K : PySem.W.Frag) (mg : Str → Option Value) : PO → Sp := fun p vs H Q _ => ∃ (M : Addr → Bool) (Cl : Addr) (d : Option Addr) (fl : Option (List (Str × V))) (x0 : Str), (∀ a, M a = true → ∃ o, H a = some o) ∧ IsX p Cl d ∧ ExcQ K Cl ∧ Kin K mg x0 Cl ∧ (kinNames.map fun x => decide (x = x0)).count true = 1 ∧
  TyAll (hid M H) vs [tExc p.1 fl d] ∧ ∀ v H', Ex H H' → (tI 1).P (hid M H') v → Q v H'
theorem sc128 : FnScope ["_law_e", "_law_kin"] ["_law_e"] (defScope (top 128)) := ⟨rfl, rfl, rfl, by decide +kernel, rfl, by decide +kernel, by decide +kernel⟩
theorem okH_classes (T : Txt K mg) : OkP P w K mg base 1 "_law_classes" ["_law_e"] (ClsSp K mg) := by
  obtain ⟨f, fd, hm, F⟩ := T.d__law_classes
  refine ⟨f, fd, hm, F.kp, F.bindsN (fun _ _ _ _ _ _ us hl => match us, hl with | [_], _ => rfl), fnP_of F sc128 (fun p vs H Q E ⟨_, _, _, _, _, _, _, _, _, _, h, _⟩ => h.length) fun cdv A outer s H vs Q E p hot hr ⟨M, Cl, d, fl, x0, tr, ix, qx, kn, ct, h, q⟩ => ?_⟩
  have hh : HotP (hx P w K mg base ["_law_e", "_law_kin"] "_law_classes" (defScope (top 128)) f cdv A outer s H E p) p := hotP_of hot
  suffices hb : PB (hx P w K mg base ["_law_e", "_law_kin"] "_law_classes" (defScope (top 128)) f cdv A outer s H E p) (HC.at_ H M) [some (tExc p.1 fl d), none] (defBody (top 128)) NoX (RtOf (HC.at_ H M) (tI 1)) from
    ⟨_, hb, ⟨⟨fun a o _ e => e, tr, trivial⟩, start_env (N := ["_law_e", "_law_kin"]) h⟩, fun σ' H' n _ => n.elim, fun v H' ⟨n1, n2⟩ => q v H' n1 n2⟩
  have ex0 : Ext0 (HC.at_ H M) (HC.at_ H M) := ⟨fun _ h => h, rfl, rfl⟩
  have is1 : ∀ {G : Env} {x : Str} {pos p1 p2 p3 : Pos} (hq : x ∈ kinNames) (hG : G[0]? = some (some (tExc p.1 fl d))) (hg2 : Gl (hx P w K mg base ["_law_e", "_law_kin"] "_law_classes" (defScope (top 128)) f cdv A outer s H E p) x) (hdb : (x == ("__debug__" : Str)) = false)
      (h1 : starEach [.Name "_law_e" p3, .Name x p2] (envOfC "_law_classes" (defScope (top 128)) s.heap.objs.size f cdv) = (false, eval (.Name "_law_e" p3) (envOfC "_law_classes" (defScope (top 128)) s.heap.objs.size f cdv)) :: starEach [.Name x p2] (envOfC "_law_classes" (defScope (top 128)) s.heap.objs.size f cdv))
      (h2 : starEach [.Name x p2] (envOfC "_law_classes" (defScope (top 128)) s.heap.objs.size f cdv) = (false, eval (.Name x p2) (envOfC "_law_classes" (defScope (top 128)) s.heap.objs.size f cdv)) :: starEach [] (envOfC "_law_classes" (defScope (top 128)) s.heap.objs.size f cdv)) (hpl : (backTo pos (starEach [.Name x p2] (envOfC "_law_classes" (defScope (top 128)) s.heap.objs.size f cdv))).any (·.1) = false),
      PX (hx P w K mg base ["_law_e", "_law_kin"] "_law_classes" (defScope (top 128)) f cdv A outer s H E p) (HC.at_ H M) G (.Call (.Name "isinstance" p1) [.Name "_law_e" p3, .Name x p2] [] pos) (tB (decide (x = x0))) := fun {G x pos p1 p2 p3} hq hG hg2 hdb h1 h2 hpl => by
    obtain ⟨Cq, m1, m2⟩ := kn x hq
    exact px_isE qx hh.pn ix m2 T.f_isinstance m1 (va 0 hG) rfl hg2 hdb h1 h2 hpl
  refine plet sc128.nd 1 (px_lst (pxs_cons (is1 (by decide) rfl rfl rfl rfl rfl rfl) (pxs_cons (is1 (by decide) rfl rfl rfl rfl rfl rfl) (pxs_cons (is1 (by decide) rfl rfl rfl rfl rfl rfl) (pxs_cons (is1 (by decide) rfl rfl rfl rfl rfl rfl) pxs_nil))))) ?_
  refine plet sc128.nd 1 (px_cat (va 1 rfl) (px_lst (pxs_cons (is1 (by decide) rfl rfl rfl rfl rfl rfl) (pxs_cons (is1 (by decide) rfl rfl rfl rfl rfl rfl) (pxs_cons (is1 (by decide) rfl rfl rfl rfl rfl rfl) (pxs_cons (is1 (by decide) rfl rfl rfl rfl rfl rfl) pxs_nil))))) (Nat.le_of_ble_eq_true rfl)) ?_
  refine plet sc128.nd 1 (px_cat (va 1 rfl) (px_lst (pxs_cons (is1 (by decide) rfl rfl rfl rfl rfl rfl) (pxs_cons (is1 (by decide) rfl rfl rfl rfl rfl rfl) (pxs_cons (is1 (by decide) rfl rfl rfl rfl rfl rfl) (pxs_cons (is1 (by decide) rfl rfl rfl rfl rfl rfl) pxs_nil))))) (Nat.le_of_ble_eq_true rfl)) ?_
  refine plet sc128.nd 1 (px_cat (va 1 rfl) (px_lst (pxs_cons (is1 (by decide) rfl rfl rfl rfl rfl rfl) (pxs_cons (is1 (by decide) rfl rfl rfl rfl rfl rfl) (pxs_cons (is1 (by decide) rfl rfl rfl rfl rfl rfl) pxs_nil)))) (Nat.le_of_ble_eq_true rfl)) ?_
  refine plet sc128.nd 1 (px_cat (va 1 rfl) (px_lst (pxs_cons (is1 (by decide) rfl rfl rfl rfl rfl rfl) (pxs_cons (is1 (by decide) rfl rfl rfl rfl rfl rfl) (pxs_cons (is1 (by decide) rfl rfl rfl rfl rfl rfl) (pxs_cons (is1 (by decide) rfl rfl rfl rfl rfl rfl) pxs_nil))))) (Nat.le_of_ble_eq_true rfl)) ?_
  exact pb_retP ex0 ((px_count (bs := kinNames.map fun x => decide (x = x0)) 1 rfl).cast (by rw [ct]; rfl))
end
end Nb
end -- H2
section -- H3
set_option maxHeartbeats 1000000
namespace Nb
open PySem PySem.Spec PyProof.Rows L2
abbrev Nd : List Str := ["_law_deed", "_law_due", "_law_e"]
theorem sc129 : FnScope Nd ["_law_deed", "_law_due"] (defScope (top 129)) := ⟨rfl, rfl, rfl, by decide +kernel, rfl, by decide +kernel, by decide +kernel⟩
def dSuite : List Stmt := match defBody (top 129) with
  | .Try _ (.ExceptHandler _ _ b _ :: _) _ _ _ :: _ => b
  | _ => []
/-- _law_denied's own context, its suite's -/
abbrev dx (P : Program) (w : World) (K : PySem.W.Frag) (mg : Str → Option Value) (base : Heap) (f : Addr) (cd : Value) (A : Around) (outer : List PySem.Env) (s : Shared) (H : Hp) : Cx := (cxOf CX0 P w K mg base Nd "_law_denied" (defScope (top 129)) f cd A outer s H E0).nox
abbrev sx (P : Program) (w : World) (K : PySem.W.Frag) (mg : Str → Option Value) (base : Heap) (f : Addr) (cd : Value) (A : Around) (outer : List PySem.Env) (s : Shared) (H : Hp) (p : PO) (pn : List PO) : Cx := L2.Cx.suite (dx P w K mg base f cd A outer s H) p.1 ((p.1, p.2) :: pn)
/-- a class of exceptions that _law_denied knows -/
structure XcT (K : PySem.W.Frag) (mg : Str → Option Value) (x0 : Str) (Cl : Addr) : Prop where
  q : ExcQ K Cl
  kin : Kin K mg x0 Cl
  ve : PySem.W.kitOne K (.ref Cl) (.type "ValueError") = some true
  nb : ∃ Cb, mg "NotBehindError" = some (.ref Cb) ∧ PySem.W.exmOne K (.ref Cl) (.ref Cb) = some true
section
variable {K : PySem.W.Frag} {mg : Str → Option Value} {base : Heap} {P : Program} {w : World} {f : Addr} {cd : Value} {A : Around} {outer : List PySem.Env} {s : Shared} {H : Hp} {p : PO} {pn : List PO} {C : HC} {G : Env} {Cl : Addr} {d : Option Addr} {fl : Option (List (Str × V))} {x0 : Str} {k : Nat}
theorem hot_sx (i : IsX p Cl d) : HotP (sx P w K mg base f cd A outer s H p pn) p := ⟨⟨rfl, let ⟨us, h⟩ := i.f; ⟨us, h, i.z.2.2 us h⟩⟩, List.mem_cons_self⟩
theorem room_sx (hr : Room k (A.deeper (envOfC "_law_denied" (defScope (top 129)) s.heap.objs.size f cd))) : L2H.RoomH k (sx P w K mg base f cd A outer s H p pn).A := ⟨hr.dp, hr.un⟩
/-- a field of it -/
theorem px_xfl {v : V} {fs : List (Str × V)} {e : Expr} {n : Str} {pos : Pos} (q : ExcQ K Cl) (hd : PySem.W.hasDictIn K Cl = true) (nn : PySem.W.findIn K (.ref Cl) n = some none) (i : IsX p Cl d) (he : PX (sx P w K mg base f cd A outer s H p pn) C G e (tExc p.1 (some fs) d)) (hv : fs.lookup n = some v)
    (hb : attributeBase e n (sx P w K mg base f cd A outer s H p pn).env (eval e (sx P w K mg base f cd A outer s H p pn).env) = eval e (sx P w K mg base f cd A outer s H p pn).env := by rfl) : PX (sx P w K mg base f cd A outer s H p pn) C G (.Attribute e n pos) (tC v) :=
  PE.imp (pe_xf (X := dx P w K mg base f cd A outer s H) (oe := p.2) (pn := pn) ⟨q.ga, q.gt, q.sb, hd⟩ nn i.z.zc i.f he hb) fun σ H Q ⟨ok, k⟩ => ⟨ok, fun v' H1 x1 e1 ⟨h1, dd, h2, h3⟩ => ⟨h1, rfl, dd, fs, v, h2, hid_le _ _ h3, hv, k v H1 x1 e1 rfl⟩⟩
/-- isinstance of it, one of the classes -/
theorem px_isK {x : Str} {e : Expr} {pos p1 p2 : Pos} (T : Txt K mg) (X : XcT K mg x0 Cl) (i : IsX p Cl d) (hx : x ∈ kinNames) (he : PX (sx P w K mg base f cd A outer s H p pn) C G e (tExc p.1 fl d)) (hg2 : Gl (sx P w K mg base f cd A outer s H p pn) x := by rfl) (hdb : (x == ("__debug__" : Str)) = false := by decide)
    (h1 : starEach [e, .Name x p2] (sx P w K mg base f cd A outer s H p pn).env = (false, eval e (sx P w K mg base f cd A outer s H p pn).env) :: starEach [.Name x p2] (sx P w K mg base f cd A outer s H p pn).env := by rfl) (h2 : starEach [.Name x p2] (sx P w K mg base f cd A outer s H p pn).env = (false, eval (.Name x p2) (sx P w K mg base f cd A outer s H p pn).env) :: starEach [] (sx P w K mg base f cd A outer s H p pn).env := by rfl)
    (hpl : (backTo pos (starEach [.Name x p2] (sx P w K mg base f cd A outer s H p pn).env)).any (·.1) = false := by rfl) : PX (sx P w K mg base f cd A outer s H p pn) C G (.Call (.Name "isinstance" p1) [e, .Name x p2] [] pos) (tB (decide (x = x0))) := by
  obtain ⟨Cq, m1, m2⟩ := X.kin x hx
  exact px_isE X.q (hot_sx i).pn i m2 T.f_isinstance m1 he rfl hg2 hdb h1 h2 hpl
/-- the suite, its last lines left -/
theorem px_classes {e : Expr} {pos p1 : Pos} (T : Txt K mg) (X : XcT K mg x0 Cl) (ct : (kinNames.map fun x => decide (x = x0)).count true = 1) (i : IsX p Cl d) (hr : L2H.RoomH k (sx P w K mg base f cd A outer s H p pn).A) (hk : 1 ≤ k) (he : PX (sx P w K mg base f cd A outer s H p pn) C G e (tExc p.1 fl d))
    (h1 : starEach [e] (sx P w K mg base f cd A outer s H p pn).env = (false, eval e (sx P w K mg base f cd A outer s H p pn).env) :: starEach [] (sx P w K mg base f cd A outer s H p pn).env := by rfl) (hpl : (backTo pos (starEach [] (sx P w K mg base f cd A outer s H p pn).env)).any (·.1) = false := by rfl) :
    PX (sx P w K mg base f cd A outer s H p pn) C G (.Call (.Name "_law_classes" p1) [e] [] pos) (tI 1) :=
  px_callP (okH_classes (P := P) (w := w) (base := base) T) (hot_sx i) hr (pxs_cons he pxs_nil h1) (fun vs H Q tr hv q => ⟨C.M, Cl, d, fl, x0, tr, i, X.q, X.kin, ct, hv, q⟩) hk rfl rfl h1 hpl
end
section
variable {K : PySem.W.Frag} {mg : Str → Option Value} {base : Heap} {P : Program} {w : World} {f : Addr} {cd : Value} {A : Around} {outer : List PySem.Env} {s : Shared} {H : Hp} {p : PO} {pn : List PO} {C0 C : HC} {Cl : Addr} {d : Option Addr} {k : Nat}
/-- what the suite comes to: due is the caught one's telling -/
def SuiteOk (P : Program) (w : World) (K : PySem.W.Frag) (mg : Str → Option Value) (base : Heap) (Cl : Addr) (fl : Option (List (Str × V))) (Td : Ty) : Prop := ∀ (f : Addr) (cd : Value) (A : Around) (outer : List PySem.Env) (s : Shared) (H : Hp) (p : PO) (pn : List PO) (C0 C : HC) (d : Option Addr), IsX p Cl d → Ext0 C0 C → Room 2 (A.deeper (envOfC "_law_denied" (defScope (top 129)) s.heap.objs.size f cd)) →
  PB (sx P w K mg base f cd A outer s H p pn) C [none, some Td, some (tExc p.1 fl d)] dSuite NoX (RtOf C0 (tB true))
theorem datS1 {t : Str} : Dat K (tTup K [tS t]) (.tuple [.str t]) := datT (.cons datS .nil)
theorem shS1 {t : Str} (h : PyData.strOk t = true) : SeqAt.shaped (.tuple [.str t]) = true := by simp [h, SeqAt.shaped, PyData.canLay0, PyData.canLayAll0, PyData.depth, PyData.depthAll]
theorem eqS1 {t : Str} : PyData.eqv (.tuple [.str t]) (.tuple [.str t]) = true := by
  show ((t == t) && true) = true
  rw [beq_self_eq_true]; rfl
theorem suite_mis (T : Txt K mg) (X : XcT K mg "Mismatch" Cl) : SuiteOk P w K mg base Cl none (tTup K [tS "Mismatch"]) := fun f cd A outer s H p pn C0 C d i x hr => by
  have hrh := room_sx (P := P) (w := w) (K := K) (mg := mg) (base := base) (outer := outer) (H := H) (p := p) (pn := pn) hr
  refine pb_guard (x := false) ((pxt_w (pxw_or (pxt_ne (px_classes T X (by decide +kernel) i hrh (by decide) (va 2 rfl)) px_int) fun _ => pxw_or1 (pxt_not (x := true) (pxt_val (px_isEB X.q (hot_sx i).pn i X.ve T.f_isinstance T.f_ValueError rfl (va 2 rfl)))))).cast rfl) (fun h => nomatch h) fun _ => ?_
  refine pb_guard (x := false) (pxt_val ((px_isK T X i (by decide +kernel) (va 2 rfl)).cast (congrArg tB (by decide +kernel)))) (fun h => nomatch h) fun _ => ?_
  refine pb_guard (x := false) (pxt_val ((px_isK T X i (by decide +kernel) (va 2 rfl)).cast (congrArg tB (by decide +kernel)))) (fun h => nomatch h) fun _ => ?_
  refine pb_guard (x := false) (pxt_val ((px_isK T X i (by decide +kernel) (va 2 rfl)).cast (congrArg tB (by decide +kernel)))) (fun h => nomatch h) fun _ => ?_
  exact pb_retP x ((px_and (x := true) ((px_isK T X i (by decide +kernel) (va 2 rfl)).cast (congrArg tB (by decide +kernel))) fun _ => px_one (px_cmp (op_eqD (Nat.lt_of_le_of_lt (by omega) hrh.un)) (r2_eqD datS1 datS1 (shS1 (by decide +kernel)) (shS1 (by decide +kernel))) (va 1 rfl) (px_tup (pxs_cons px_str pxs_nil)) (nomark _))).cast (congrArg tB eqS1))
theorem suite_num (T : Txt K mg) (X : XcT K mg "BadNumber" Cl) : SuiteOk P w K mg base Cl none (tTup K [tS "BadNumber"]) := fun f cd A outer s H p pn C0 C d i x hr => by
  have hrh := room_sx (P := P) (w := w) (K := K) (mg := mg) (base := base) (outer := outer) (H := H) (p := p) (pn := pn) hr
  refine pb_guard (x := false) ((pxt_w (pxw_or (pxt_ne (px_classes T X (by decide +kernel) i hrh (by decide) (va 2 rfl)) px_int) fun _ => pxw_or1 (pxt_not (x := true) (pxt_val (px_isEB X.q (hot_sx i).pn i X.ve T.f_isinstance T.f_ValueError rfl (va 2 rfl)))))).cast rfl) (fun h => nomatch h) fun _ => ?_
  refine pb_guard (x := false) (pxt_val ((px_isK T X i (by decide +kernel) (va 2 rfl)).cast (congrArg tB (by decide +kernel)))) (fun h => nomatch h) fun _ => ?_
  refine pb_guard (x := false) (pxt_val ((px_isK T X i (by decide +kernel) (va 2 rfl)).cast (congrArg tB (by decide +kernel)))) (fun h => nomatch h) fun _ => ?_
  refine pb_guard (x := true) (pxt_val ((px_isK T X i (by decide +kernel) (va 2 rfl)).cast (congrArg tB (by decide +kernel)))) (fun _ => ?_) (fun h => nomatch h)
  exact pb_retP x ((px_cmp (op_eqD (Nat.lt_of_le_of_lt (by omega) hrh.un)) (r2_eqD datS1 datS1 (shS1 (by decide +kernel)) (shS1 (by decide +kernel))) (va 1 rfl) (px_tup (pxs_cons px_str pxs_nil)) (nomark _)).cast (congrArg tB eqS1))
theorem suite_row (T : Txt K mg) (X : XcT K mg "BadRow" Cl) (R : RowT K mg Cl) (hd : PySem.W.hasDictIn K Cl = true) {t : Str} : SuiteOk P w K mg base Cl (some [("found", .str t)]) (tTup K [tS "BadRow", tS t]) := fun f cd A outer s H p pn C0 C d i x hr => by
  have hrh := room_sx (P := P) (w := w) (K := K) (mg := mg) (base := base) (outer := outer) (H := H) (p := p) (pn := pn) hr
  refine pb_guard (x := false) ((pxt_w (pxw_or (pxt_ne (px_classes T X (by decide +kernel) i hrh (by decide) (va 2 rfl)) px_int) fun _ => pxw_or1 (pxt_not (x := true) (pxt_val (px_isEB X.q (hot_sx i).pn i X.ve T.f_isinstance T.f_ValueError rfl (va 2 rfl)))))).cast rfl) (fun h => nomatch h) fun _ => ?_
  refine pb_guard (x := false) (pxt_val ((px_isK T X i (by decide +kernel) (va 2 rfl)).cast (congrArg tB (by decide +kernel)))) (fun h => nomatch h) fun _ => ?_
  refine pb_guard (x := true) (pxt_val ((px_isK T X i (by decide +kernel) (va 2 rfl)).cast (congrArg tB (by decide +kernel)))) (fun _ => ?_) (fun h => nomatch h)
  exact pb_retP x (px_callH (okH_same1 (P := P) (w := w) (base := base) T) (hot_sx i) [.str "BadRow", .str t] rfl hrh (pxs_cons (px_tup (pxs_cons px_str (pxs_cons (px_xfl (v := .str t) X.q hd R.n1 i (va 2 rfl) rfl) pxs_nil))) (pxs_cons (va 1 rfl) pxs_nil)) ⟨fun v hv => by
    simp only [List.mem_cons, List.not_mem_nil, or_false] at hv
    rcases hv with rfl | rfl <;> exact .str _, by show 2 ≤ 1000; decide⟩)
theorem suite_cnt (T : Txt K mg) (X : XcT K mg "BadCount" Cl) (R : CntT K mg Cl) (hd : PySem.W.hasDictIn K Cl = true) {v : V} {lo hi : Int} (hv : Scl v) : SuiteOk P w K mg base Cl (cFl (v, lo, hi)) (tTup K [tS "BadCount", tC v, tI lo, tI hi]) := fun f cd A outer s H p pn C0 C d i x hr => by
  have hrh := room_sx (P := P) (w := w) (K := K) (mg := mg) (base := base) (outer := outer) (H := H) (p := p) (pn := pn) hr
  refine pb_guard (x := false) ((pxt_w (pxw_or (pxt_ne (px_classes T X (by decide +kernel) i hrh (by decide) (va 2 rfl)) px_int) fun _ => pxw_or1 (pxt_not (x := true) (pxt_val (px_isEB X.q (hot_sx i).pn i X.ve T.f_isinstance T.f_ValueError rfl (va 2 rfl)))))).cast rfl) (fun h => nomatch h) fun _ => ?_
  refine pb_guard (x := true) (pxt_val ((px_isK T X i (by decide +kernel) (va 2 rfl)).cast (congrArg tB (by decide +kernel)))) (fun _ => ?_) (fun h => nomatch h)
  exact pb_retP x (px_callH (okH_same1 (P := P) (w := w) (base := base) T) (hot_sx i) [.str "BadCount", v, .int lo, .int hi] rfl hrh (pxs_cons (px_tup (pxs_cons px_str (pxs_cons (px_xfl (v := v) X.q hd R.n1 i (va 2 rfl) rfl) (pxs_cons (px_xfl (v := .int lo) X.q hd R.n2 i (va 2 rfl) rfl) (pxs_cons (px_xfl (v := .int hi) X.q hd R.n3 i (va 2 rfl) rfl) pxs_nil))))) (pxs_cons (va 1 rfl) pxs_nil)) ⟨fun u hu => by
    simp only [List.mem_cons, List.not_mem_nil, or_false] at hu
    rcases hu with rfl | rfl | rfl | rfl
    · exact .str _
    · exact hv
    · exact .int _
    · exact .int _, by show 4 ≤ 1000; decide⟩)
end
end Nb
end -- H3
section -- H4
set_option maxHeartbeats 1000000
namespace Nb
open PySem PySem.Spec PyProof.Rows L2
abbrev lamE (X : Cx) (scope : Scope) (L f c' : Addr) : PySem.Env := LamX.lamEnv X scope L f c'
/-- the context of the lambda's body -/
def lamN (X : Cx) (A : Around) (outer : List PySem.Env) (s : Shared) (H : Hp) (E : XK) (scope : Scope) (f c' : Addr) : Cx :=
  { LamX.lamCx X A outer s H E scope f c' with xe := fun e s' => wpAny (model X.prog X.w) (A.deeper (lamE X scope s.heap.objs.size f c')) (leaving (lamE X scope s.heap.objs.size f c') e) (fun _ s2 => L2N.CX X.prog X.w outer H s E e s2) (fun e' s2 => L2N.CX X.prog X.w outer H s E e' s2) s' }
section
variable {X : Cx} {pins : List PO} {σ : L2.St} {H HZ : Hp} {s s1 : Shared}
theorem psL {A : Around} {outer : List PySem.Env} {E : XK} {scope : Scope} {f c' : Addr} : Passes (L2N.CX X.prog X.w) (lamN X A outer s H E scope f c') E := L2N.passes_call (L2N.takes_of rfl rfl rfl rfl) fun _ _ _ _ h => h
theorem Inv.lamN {A : Around} {outer : List PySem.Env} {E : XK} {scope : Scope} {f c' : Addr} (I : Inv (LamX.lamCx X A outer s1 HZ E scope f c') pins σ H s) : Inv (Nb.lamN X A outer s1 HZ E scope f c') pins σ H s := I.wish _
abbrev lamO (X : Cx) (params : Arguments) (body : Expr) (scope : Scope) (pm : Value) (c' : Addr) (ctv : Value) : Obj := PySem.W.kla_obj "<lambda>" (X.env.qual ++ "<lambda>") params body scope (cloFrom X.env.cells scope.names []) pm c' ctv
/-- x(), x the def's own name of the lambda -/
theorem pe_actN {g f c' : Addr} {cdg pm ctv : Value} {params : Arguments} {body : Expr} {scope : Scope} {k i : Nat} {a : Str} {pn : List PO} {xe : Value → Shared → Prop} {W : WX} {tb : XK → TE} {p1 p2 : Pos} {Ng : List Str} {qg : Str} {sg : Scope}
    (I : Inv X pins σ H s) (L : LamX.LamS X.env.scope scope) (hf : s.heap.get? f = some (lamO X params body scope pm c' ctv)) (hfn : H f = none) (hfr : f ∉ frs X.stack) (hbind : ∀ (q : Str) (cl : List (Str × Addr)) (pm cv ctv : Value), bindArgs (PySem.W.kla_fn "<lambda>" q params body scope cl pm cv ctv) ⟨[], []⟩ = pure [])
    (tk : L2N.Takes ((cxOf CX0 X.prog X.w X.K X.mg X.base Ng qg sg g cdg X.A X.stack s H E0).tr pn xe) W) (hr : Room (k + 1) (X.A.deeper (envOfC qg sg s.heap.objs.size g cdg)))
    (hbody : ∀ (A : Around) (outer : List PySem.Env) (s : Shared) (H : Hp) (E : XK), Room k (A.deeper (lamE X scope s.heap.objs.size f c')) → PE (lamN X A outer s H E scope f c') body (tb E))
    (hN : Ng[i]? = some a) (hv : Vis sg a) (h1 : (a == ("__debug__" : Str)) = false := by decide) (h2 : (a == ("__classdict__" : Str)) = false := by decide) :
    PE ((cxOf CX0 X.prog X.w X.K X.mg X.base Ng qg sg g cdg X.A X.stack s H E0).tr pn xe) (.Call (.Name a p1) [] [] p2) (fun σZ HZ Q => σZ[i]? = some (some (.ref f)) ∧ HZ c' = some (LamX.CodeO c' (X.env.qual ++ "<lambda>")) ∧ tb (L2.WE W σZ) σ HZ Q) := by
  refine ⟨fun pz sz σZ HZ Q IZ ⟨hs, hc, ht⟩ => wpAny_Call_Name_kw (thn ((pe_var (pos := p1) (i := i) hN hv h1 h2).run pz sz σZ HZ (fun v H1 => v = .ref f ∧ H1 = HZ) IZ ⟨_, hs, rfl, rfl⟩) fun u s1 ⟨v, H1, I1, r1, ev, eH⟩ => ?_)⟩
  subst ev
  subst eH
  obtain rfl := (show u = Value.ref f from r1)
  have un : Un (frs X.stack) [] H H1 s.heap s1.heap := I1.base
  have of1 := un.keep f _ hf hfn hfr (fun z => nomatch (show f ∈ ([] : List Addr) from z))
  obtain ⟨⟨co, us, t, hoc, hdc, hvc⟩, _, _⟩ := I1.hok c' _ hc
  refine PySem.W.callWith_F0 ⟨_, _, _, _, of1⟩ (wpAny_call (codeAny_mono (R := CR (L2N.CX X.prog X.w) (envOfC qg sg s.heap.objs.size g cdg :: X.stack) X.prog X.w H1 s1 Q (L2.WE W σZ)) ?_ fun r s' hq => ?_))
  · refine PySem.W.kla_callFunE hr.depth of1 rfl L.co L.gen rfl ⟨c', co, us, t, rfl, hoc, hdc, hvc⟩ ?_
    refine wpAny_of_eq (hbind _ _ _ _ _) (wpAny_newFunctionEnv (fun y hy => (L.own y hy).2) (fun y hy => absurd hy (by simp)) (fun h1 hns hsb => ⟨I1.nolimit.fresh _ hsb, ?_⟩) L.kind)
    have kp : ∀ b o, s1.heap.get? b = some o → h1.get? b = some o := fun b o e => hsb.extBut b o (Nat.ne_of_lt (Heap.lt_size e)) (Heap.get?_push_of_some _ e)
    have J := (LamX.lam_start2 (A := X.A.deeper (envOfC qg sg s.heap.objs.size g cdg)) (outer := envOfC qg sg s.heap.objs.size g cdg :: X.stack) (E := L2.WE W σZ) (f := f) (c' := c') (tk := s1.toks + ([] : List (Str × Value)).length) I L I1.env0 hr.hd un hns kp)
    show codeAny _ _ (.expr body (lamE X scope s1.heap.objs.size f c')) _ _
    exact PySem.W.kla_codeExpr (wpAny_mono ((hbody _ _ s1 H1 (L2.WE W σZ) (hr.deeper _)).run [] _ _ H1 Q (Inv.lamN J) ht) (fun v s' ⟨w', H', J', rv, q⟩ => ⟨w', H', J'.os, J'.bare, J'.base, J'.hok, rv, q⟩) fun _ _ h => h)
  · cases r with
    | error e => exact L2N.passAt tk σZ pz H1 s1 e s' I1 hq
    | ok fl => cases fl with
      | ret u => exact I1.after hq
      | next => exact (show False from hq).elim
      | brk => exact (show False from hq).elim
      | cont => exact (show False from hq).elim
end
end Nb
end -- H4
section -- H5
set_option maxHeartbeats 1000000
namespace Nb
open PySem PySem.Spec PyProof.Rows L2
abbrev TT := List (Addr × Str)
def TabD (D : Hp) (q : Str) (H : Hp) (P : Addr) : Prop := ∃ ps : Array Value, H P = some (.tbl ps) ∧ TriplesOk ps.toList ∧ ∀ (pos : Pos) (cv : Value), codeAmong pos ps.toList = some cv → ∃ c, cv = .ref c ∧ D c = some (LamX.CodeO c q)
def TabsD (T : TT) (H D : Hp) : Prop := ∀ t ∈ T, TabD D t.2 H t.1
/-- what is hidden is a list or a table -/
def HidOk (M : Addr → Bool) (H : Hp) : Prop := ∀ a, M a = true → (∃ xs, H a = some (.lst xs)) ∨ ∃ ps, H a = some (.tbl ps)
/-- all but these tables stands -/
def ExT (T : TT) (H H' : Hp) : Prop := ∀ a o, (∀ t ∈ T, t.1 ≠ a) → H a = some o → H' a = some o
theorem ExT.refl {T : TT} {H : Hp} : ExT T H H := fun _ _ _ h => h
theorem ExT.trans {T : TT} {H H1 H2 : Hp} (a : ExT T H H1) (b : ExT T H1 H2) : ExT T H H2 := fun x o n h => b x o n (a x o n h)
theorem Ex.exT {T : TT} {H H' : Hp} (e : Ex H H') : ExT T H H' := fun a o _ h => e a o h
theorem TabD.ex {D D' H H' : Hp} {q : Str} {P : Addr} (t : TabD D q H P) (e : H' P = H P) (d : Ex D D') : TabD D' q H' P := by
  obtain ⟨ps, h1, h2, h3⟩ := t
  exact ⟨ps, e.trans h1, h2, fun pos cv hc => let ⟨c, e1, e2⟩ := h3 pos cv hc; ⟨c, e1, d _ _ e2⟩⟩
structure TbC (C : HC) (T : TT) : Prop where
  m : ∀ t ∈ T, C.M t.1 = true
  get : ∀ {H D : Hp}, C.Om H D → TabsD T H D ∧ HidOk C.M H
  put : ∀ {H H' D D' : Hp}, C.Om H D → ExT T H H' → Ex D D' → TabsD T H' D' → C.Om H' D'
  old : ∀ t ∈ T, C.S t.1 = true ∨ C.H0 t.1 = none
theorem TbC.own {C : HC} {T : TT} {o : Addr} {Ts : List Ty} (s : TbC C T) : TbC (C.own o Ts) T where
  m t h := own_M (s.m t h)
  get h := ⟨(s.get h.1).1, fun a m => by
    by_cases z : a = o
    · obtain ⟨_, _, _, xs, h4, _⟩ := h
      exact .inl ⟨xs, z ▸ h4⟩
    · have m' : (a == o || C.M a) = true := m
      rw [beq_eq_false_iff_ne.mpr z, Bool.false_or] at m'
      exact (s.get h.1).2 a m'⟩
  put := fun ⟨h1, h2, h3, xs, h4, h5⟩ k e d => ⟨s.put h1 k e d, h2, h3, xs, k o _ (fun t ht z => by rw [← z, s.m t ht] at h2; cases h2) h4, h5.mono e⟩
  old := s.old
theorem hidT_ex {C : HC} {T : TT} {H H' : Hp} (m : ∀ t ∈ T, C.M t.1 = true) (k : ExT T H H') : Ex (hid C.M H) (hid C.M H') := hid_ex fun a o h q => k a o (fun t ht z => by rw [← z, m t ht] at h; cases h) q
theorem EnvOk.putT {C : HC} {T : TT} {G : Env} {σ : St} {H H' : Hp} (s : TbC C T) (x : EnvOk C G σ H) (k : ExT T H H') (d : TabsD T H' (hid C.M H')) : EnvOk C G σ H' := by
  have le := hidT_ex s.m k
  refine ⟨⟨fun a o z q => k a o (fun t ht e => ?_) (x.base.old a o z q), fun a m => ?_, s.put x.base.om k le d⟩, x.env.imp fun _ _ h => h.mono le⟩
  · rcases s.old t ht with h | h
    · rw [← e, h] at z; cases z
    · rw [← e, h] at q; cases q
  · by_cases h : ∃ t ∈ T, t.1 = a
    · obtain ⟨t, ht, rfl⟩ := h
      obtain ⟨ps, h, _⟩ := d t ht
      exact ⟨_, h⟩
    · obtain ⟨o, ho⟩ := x.base.hidd a m
      exact ⟨o, k a o (fun t ht e => h ⟨t, ht, e⟩) ho⟩
section
variable {X : Cx} {pins : List PO} {σ : L2.St} {H : Hp} {s : Shared}
theorem lam_makeB0 {c P : Addr} {params : Arguments} {body : Expr} {scope : Scope} {pos : Pos} {E Q : Value → Shared → Prop} (I : Inv X pins σ H s) (TB : LamX.TabB X.base X.mg c P) (hcode : X.env.code = .ref c) (hT : LamX.TabS H P (X.env.qual ++ "<lambda>"))
    (hdef : defaultsOf params X.env = ([], [])) (hfree : ∀ y ∈ scope.names, y.2 = .free → ∃ c, X.env.cells.lookup y.1 = some c)
    (h : ∀ (f c' : Addr) (pm ctv : Value) (H1 : Hp) (s' : Shared), Inv X pins σ H1 s' → ExB P H H1 → LamX.TabS H1 P (X.env.qual ++ "<lambda>") → s'.heap.get? f = some (lamO X params body scope pm c' ctv) → H1 f = none → s.heap.objs.size ≤ f → H1 c' = some (LamX.CodeO c' (X.env.qual ++ "<lambda>")) → Q (.ref f) s') :
    wpAny (model X.prog X.w) X.A (eval (.Lambda params body scope pos) X.env) Q E s := by
  obtain ⟨ps, hP, ht, ha⟩ := id hT
  have hP1 : s.heap.get? P = some { cls := .none, data := .fields ps } := I.hok P _ hP
  refine PySem.W.kla_eval hdef ?_
  rcases hc : codeAmong pos ps.toList with _ | cv
  · refine PySem.W.kla_makeFunction (mg := X.mg) (c := c) (P := P) (ps := ps) (closure_ok hfree) I.ok.glob (I.mod.glob.keeps I.bk) hcode (TB.code.keeps I.bk) hP1 ht hc TB.gP (TB.bm.keeps I.bk) fun c' ctv h' tk hx hge hlt ⟨c2, oc, vs, t, e2, hoc, hd, hv⟩ htb => ?_
    cases e2
    have nC : H c' = none := I.hok.fresh hge
    have sz : s.heap.objs.size ≤ h'.objs.size := Nat.le_trans hge (Nat.le_of_lt hlt)
    have I1 := LamX.inv_table (t' := tk) (more := #[rawInt pos.line, rawInt pos.col, .ref c']) (h' := h'.push (lamO X params body scope ((X.mg "__name__").getD .none) c' ctv)) (q := X.env.qual ++ "<lambda>") I hP (fun b o hb e => Heap.get?_push_of_some _ (hx b o hb e)) (Heap.get?_push_of_some _ htb) hge ⟨oc, vs, t, Heap.get?_push_of_some _ hoc, hd, hv⟩
    have nP : P ≠ c' := ne_of_none hP nC
    have hE : ∀ b o, b ≠ P → H b = some o → upd (upd H P (.tbl (ps ++ #[rawInt pos.line, rawInt pos.col, .ref c']))) c' (LamX.CodeO c' (X.env.qual ++ "<lambda>")) b = some o := fun b o n e => by rw [upd_ne (ne_of_none e nC), upd_ne n]; exact e
    have eL : (ps ++ #[rawInt pos.line, rawInt pos.col, .ref c']).toList = ps.toList ++ [rawInt pos.line, rawInt pos.col, Value.ref c'] := by simp
    refine h h'.objs.size c' _ ctv _ _ I1 hE ⟨_, by rw [upd_ne nP, upd_same], by rw [eL]; exact PySem.TriplesOk_snoc _ _ _ _ ht, fun p1 cv hcv => ?_⟩ (Heap.get?_push_size _ rfl) ?_ sz upd_same
    · rw [eL] at hcv
      rcases LamX.among_app _ ht hcv with z | z
      · obtain ⟨c0, e1, e2⟩ := ha p1 cv z
        exact ⟨c0, e1, hE _ _ (fun y => LamX.codeO_ne ps (Option.some.inj (e2.symm.trans (y ▸ hP)))) e2⟩
      · exact ⟨c', z, upd_same⟩
    · rw [upd_ne (Nat.ne_of_gt hlt), upd_ne (Nat.ne_of_gt (Nat.lt_of_lt_of_le (Heap.lt_size hP1) sz))]
      exact I.hok.fresh sz
  · obtain ⟨c', rfl, hco⟩ := ha pos cv hc
    refine PySem.W.kla_makeFunctionHit (mg := X.mg) (c := c) (P := P) (ps := ps) (closure_ok hfree) I.ok.glob (I.mod.glob.keeps I.bk) hcode (TB.code.keeps I.bk) hP1 ht hc (TB.bm.keeps I.bk) fun ctv h' tk hx sz => ?_
    exact h h'.objs.size c' ((X.mg "__name__").getD .none) ctv H _ (I.kept (t' := tk) (h' := h'.push (lamO X params body scope ((X.mg "__name__").getD .none) c' ctv)) fun b o e => Heap.get?_push_of_some _ (hx b o e)) .refl hT (Heap.get?_push_size _ rfl) (I.hok.fresh sz) sz hco
/-- the lambda is made: but for its maker's table all stands -/
theorem lam_makeB {c P : Addr} {params : Arguments} {body : Expr} {scope : Scope} {pos : Pos} {q : Str} {E Q : Value → Shared → Prop} (I : Inv X pins σ H s) (TB : LamX.TabB X.base X.mg c P) (hcode : X.env.code = .ref c) (hq : X.env.qual ++ "<lambda>" = q) (hT : LamX.TabS H P q)
    (hdef : defaultsOf params X.env = ([], [])) (hfree : ∀ y ∈ scope.names, y.2 = .free → ∃ c, X.env.cells.lookup y.1 = some c)
    (h : ∀ (f c' : Addr) (pm ctv : Value) (H1 : Hp) (s' : Shared), Inv X pins σ H1 s' → ExB P H H1 → LamX.TabS H1 P q → s'.heap.get? f = some (lamO X params body scope pm c' ctv) → H1 f = none → s.heap.objs.size ≤ f → H1 c' = some (LamX.CodeO c' q) → Q (.ref f) s') :
    wpAny (model X.prog X.w) X.A (eval (.Lambda params body scope pos) X.env) Q E s := by subst hq; exact lam_makeB0 I TB hcode hT hdef hfree h
/-- one more pinned object -/
theorem Inv.pin1 {f : Addr} {o : Obj} (I : Inv X pins σ H s) (hf : s.heap.get? f = some o) (hn : H f = none) (hl : f ≠ X.env.locals) (hs : f ∉ X.fs) (hc : ∀ v, o.data ≠ .cell v) : Inv X ((f, o) :: pins) σ H s :=
  ⟨I.ok, I.os, I.bare, I.base, I.loc, I.cell, I.free, I.freeC, fun p hp => by
    rcases List.mem_append.mp hp with h | h
    · exact I.pin p (List.mem_append_left _ h)
    · rcases List.mem_cons.mp h with rfl | h
      · exact ⟨hf, hn, hl, hs, hc⟩
      · exact I.pin p (List.mem_append_right _ h), I.hok, I.len⟩
theorem Inv.unpin {p : PO} (I : Inv X (p :: pins) σ H s) : Inv X pins σ H s :=
  ⟨I.ok, I.os, I.bare, I.base, I.loc, I.cell, I.free, I.freeC, fun q hq => I.pin q ((List.mem_append.mp hq).elim (List.mem_append_left _) fun h => List.mem_append_right _ (List.mem_cons_of_mem _ h)), I.hok, I.len⟩
end
end Nb
end -- H5
section -- H6
set_option maxHeartbeats 1000000
namespace Nb
open PySem PySem.Spec PyProof.Rows L2
/-- what the lambda's body must do: it raises cls with fl -/
abbrev LamRai (X : Cx) (G : Env) (scope : Scope) (body : Expr) (k : Nat) (cls : Addr) (fl : Option (List (Str × V))) : Prop := ∀ (A : Around) (outer : List PySem.Env) (s : Shared) (H : Hp) (E : XK) (f c' : Addr) (H0 : Hp) (M : Addr → Bool), Room k (A.deeper (lamE X scope s.heap.objs.size f c')) →
  (∀ d H2, Ex H0 H2 → XFl fl d H2 → E (.ref cls) d H2) → PX (lamN X A outer s H E scope f c') (HC.at_ H0 M) G body tNo
theorem takesN0 {X : Cx} : L2N.Takes X (fun _ _ _ _ => False) := fun _ _ ⟨_, _, _, _, _, _, _, _, _, _, _, _, _, _, _, _, z⟩ => z.elim
theorem xfl_vis {M : Addr → Bool} {H H3 : Hp} {fl : Option (List (Str × V))} {d : Option Addr} (ho : HidOk M H) (e : Ex H H3) (h : XFl fl d H3) : XFl fl d (hid M H3) := by
  cases fl with
  | none => exact h
  | some fs =>
    obtain ⟨dd, h1, h2⟩ := h
    refine ⟨dd, h1, hid_of ?_ h2⟩
    cases z : M dd with
    | false => rfl
    | true =>
      rcases ho dd z with ⟨xs, q⟩ | ⟨ps, q⟩ <;>
      · have := (e _ _ q).symm.trans h2
        cases this
theorem code_vis {M : Addr → Bool} {H : Hp} {c' : Addr} {q : Str} (ho : ∀ a, M a = true → ∃ o, H a = some o ∧ ∀ c q, o ≠ LamX.CodeO c q) (h : H c' = some (LamX.CodeO c' q)) : hid M H c' = some (LamX.CodeO c' q) := by
  refine hid_of ?_ h
  cases z : M c' with
  | false => rfl
  | true =>
    obtain ⟨o, h1, h2⟩ := ho c' z
    exact absurd (Option.some.inj (h1.symm.trans h)) (h2 _ _)
theorem code_nolst {xs : List V} {c : Addr} {q : Str} : HO.lst xs ≠ LamX.CodeO c q := fun z => by
  unfold LamX.CodeO at z
  cases z
theorem HidOk.noC {M : Addr → Bool} {H : Hp} (h : HidOk M H) : ∀ a, M a = true → ∃ o, H a = some o ∧ ∀ c q, o ≠ LamX.CodeO c q := fun a m => by
  rcases h a m with ⟨xs, q⟩ | ⟨ps, q⟩
  · exact ⟨_, q, fun c q => code_nolst⟩
  · exact ⟨_, q, fun c q z => LamX.codeO_ne ps z.symm⟩
section
variable {X : Cx} {C : HC} {G : Env} {T : TT} {P c cls : Addr} {q x0 : Str} {fl : Option (List (Str × V))} {Td : Ty} {params : Arguments} {body due : Expr} {scope : Scope} {lpos p pos : Pos} {k : Nat}
/-- the tables behind the making -/
theorem tabs_made {H H1 : Hp} (tc : TbC C T) (om : C.Om H (hid C.M H)) (hPT : (P, q) ∈ T) (hu : ∀ t ∈ T, t.1 = P → t.2 = q) (e : ExB P H H1) (t1 : LamX.TabS H1 P q) : ExT T H H1 ∧ TabsD T H1 (hid C.M H1) := by
  have eT : ExT T H H1 := fun a o n h => e a o (fun z => n _ hPT z.symm) h
  have hE := hidT_ex tc.m eT
  obtain ⟨td, ho⟩ := tc.get om
  have hoC : ∀ a, C.M a = true → ∃ o, H1 a = some o ∧ ∀ c q, o ≠ LamX.CodeO c q := fun a m => by
    by_cases z : a = P
    · obtain ⟨ps, h1, _⟩ := t1
      exact ⟨_, z ▸ h1, fun c q y => LamX.codeO_ne ps y.symm⟩
    · obtain ⟨o, h1, h2⟩ := ho.noC a m
      exact ⟨o, e a o z h1, h2⟩
  refine ⟨eT, fun t ht => ?_⟩
  by_cases z : t.1 = P
  · rw [z, hu t ht z]
    obtain ⟨ps, h1, h2, h3⟩ := t1
    exact ⟨ps, h1, h2, fun pos cv hc => let ⟨c, e1, e2⟩ := h3 pos cv hc; ⟨c, e1, code_vis hoC e2⟩⟩
  · have t2 := td t ht
    obtain ⟨ps, h1, _⟩ := id t2
    exact t2.ex ((e _ _ z h1).trans h1.symm) hE
theorem px_denied (Tx : Txt X.K X.mg) (XT : XcT X.K X.mg x0 cls) (su : SuiteOk X.prog X.w X.K X.mg X.base cls fl Td) (tc : TbC C T) (hPT : (P, q) ∈ T) (hu : ∀ t ∈ T, t.1 = P → t.2 = q) (TB : LamX.TabB X.base X.mg c P) (hcode : X.env.code = .ref c) (hq : X.env.qual ++ "<lambda>" = q)
    (L : LamX.LamS X.env.scope scope) (hr : Room k X.A) (hk : 10 ≤ k) (hbody : LamRai X G scope body 8 cls fl) (hdue : PX X C G due Td) (hdef : defaultsOf params X.env = ([], []) := by rfl)
    (hbind : ∀ (q : Str) (cl : List (Str × Addr)) (pm cv ctv : Value), bindArgs (PySem.W.kla_fn "<lambda>" q params body scope cl pm cv ctv) ⟨[], []⟩ = pure [] := by intro _ _ _ _ _; rfl)
    (hg : Gl X "_law_denied" := by rfl) (he : starEach [.Lambda params body scope lpos, due] X.env = (false, eval (.Lambda params body scope lpos) X.env) :: starEach [due] X.env := by rfl) (he2 : starEach [due] X.env = (false, eval due X.env) :: starEach [] X.env := by rfl) (hpl : (backTo pos (starEach [due] X.env)).any (·.1) = false := by rfl) :
    PX X C G (.Call (.Name "_law_denied" p) [.Lambda params body scope lpos, due] [] pos) (tB true) := by
  refine ⟨fun pins s σ H Q I ⟨ok, qq⟩ => ?_⟩
  obtain ⟨g, fd, hm, F⟩ := Tx.d__law_denied
  have bnd : Binds X.K fd ["_law_deed", "_law_due"] [] := F.bindsN (fun _ _ _ _ _ _ us hl => match us, hl with | [_, _], _ => rfl)
  obtain ⟨co, dd, dV, kV, doc, pm, an, cdv, ct, sl, rfl, lk, hcd, _, _⟩ := F.ex
  have hok := (tc.get ok.base.om).2
  have tS : LamX.TabS H P q := by
    obtain ⟨ps, h1, h2, h3⟩ := (tc.get ok.base.om).1 _ hPT
    exact ⟨ps, h1, h2, fun pos cv hc => let ⟨c, e1, e2⟩ := h3 pos cv hc; ⟨c, e1, hid_le _ _ e2⟩⟩
  refine wpAny_Call_Name_kw (ld_glob I hg hm (PySem.W.callWith_K (h₀ := X.base) I.ok.mod.kin F.kp ?_ he hpl) (by decide))
  show wpAny _ _ (spliced ((false, eval (.Lambda params body scope lpos) X.env) :: backTo pos (starEach [due] X.env))) _ _ s
  refine Calls.spliced_cons (lam_makeB I TB hcode hq tS hdef (L.has I.ok) fun f c' pm' ctv H1 s' I1 eB t1 hf hfn hsz hco => ?_)
  obtain ⟨eT, tD1⟩ := tabs_made tc ok.base.om hPT hu eB t1
  have ok1 : EnvOk C G σ H1 := ok.putT tc eT tD1
  have hnfs : f ∉ frs X.stack := fun z => (List.mem_cons.mp (I.stkSub _ z)).elim (fun e => absurd I.lt (by rw [← e]; exact Nat.not_lt.mpr hsz)) fun h => I.nofs hsz h
  have hnl : f ≠ X.env.locals := fun e => absurd I.lt (by rw [← e]; exact Nat.not_lt.mpr hsz)
  have I1p := Inv.pin1 I1 hf hfn hnl (I.nofs hsz) (fun v z => by cases z)
  have hco1 : hid C.M H1 c' = some (LamX.CodeO c' q) := code_vis (HidOk.noC (tc.get ok1.base.om).2) hco
  refine thn ((pxs_cons hdue pxs_nil he2).run pos _ s' σ H1 (fun vs H2 => EnvOk C G σ H2 ∧ Ex (hid C.M H1) (hid C.M H2) ∧ TyAll (hid C.M H2) vs [Td]) I1p ⟨ok1, fun vs H2 x2 e2 p2 => ⟨x2, e2, p2⟩⟩) fun us s2 ⟨vs, H2, I2, rv, ok2, e2, p2⟩ => ⟨I2.kIn, ?_⟩
  obtain ⟨v, rfl⟩ : ∃ v, vs = [v] := by
    match vs, p2 with
    | [v], _ => exact ⟨v, rfl⟩
  have pv : Td.P (hid C.M H2) v := by cases p2 with | cons h _ => exact h
  have hf2 := (I2.pin _ (List.mem_append_right _ List.mem_cons_self)).1
  have hfn2 := (I2.pin _ (List.mem_append_right _ List.mem_cons_self)).2.1
  have I3 : Inv X pins σ H2 s2 := Inv.unpin I2
  have hco2 : H2 c' = some (LamX.CodeO c' q) := hid_le _ _ (e2 _ _ hco1)
  have hok2 := (tc.get ok2.base.om).2
  have hX : ∀ v' H', (∀ a o, H2 a = some o → H' a = some o) → v' = .bl true → Q v' H' := fun v' H' e h => qq v' H' (ok2.ex e) (((hidT_ex tc.m eT).trans e2).trans (hid_mono e)) h
  have hr10 : Room (9 + 1) X.A := hr.mono hk
  have lu : us.length = 1 := rv.length.symm
  have hbs := bnd s2 (.ref f :: us) I2.kIn (by rw [List.append_nil, List.length_cons, lu]; rfl)
  rw [List.append_nil] at hbs
  have rc : codeAny (model X.prog X.w) X.A (.call (.ref g) ⟨.ref f :: us, []⟩) (CR CX0 X.stack X.prog X.w H2 s2 Q E0) s2 := by
    refine LamX.run_ofS (N := Nd) (vs := [.ref f, v]) lk hcd sc129 hr10 I3.env0 hbs (.cons rfl rv) rfl fun hr9 => ?_
    obtain ⟨Cb, mb, xb⟩ := XT.nb
    have hh : L2.Names (dx X.prog X.w X.K X.mg X.base g cdv X.A X.stack s2 H2) "NotBehindError" (.ref Cb) := ⟨rfl, rfl, .inl mb⟩
    let tl : XK → TE := fun E σ' H' Q' => ∃ z : Hp × (Addr → Bool), (∀ d H2, Ex z.1 H2 → XFl fl d H2 → E (.ref cls) d H2) ∧ tX (HC.at_ z.1 z.2) G tNo σ' H' Q'
    let tb : WX → TS := fun W D σZ HZ => σZ[0]? = some (some (.ref f)) ∧ HZ c' = some (LamX.CodeO c' (X.env.qual ++ "<lambda>")) ∧ tl (L2.WE W σZ) σ HZ fun _ H' => D.nx σZ H'
    let ts : Addr → Value → Option Addr → TS := fun a c1 d D σ' H' => c1 = .ref cls ∧ ∃ z : Hp × (Addr → Bool), tSS (HC.at_ z.1 z.2) [none, some Td, some (tExc a fl d)] NoX (RtOf (HC.at_ z.1 z.2) (tB true)) D σ' H'
    refine ⟨_, PSs.nox (pss_cons (L2N.ps_try_as (X := dx X.prog X.w X.K X.mg X.base g cdv X.A X.stack s2 H2) (i := 2) (c := .ref Cb) (Wout := fun _ _ _ _ => False) (tb := tb) (ts := ts) rfl rfl sc129.nd rfl rfl hh takesN0 (fun W pn xe tk _ => ?_) (fun a oe c1 d pn hz hf => ?_)) (pss_one (ps_ret pe_bl))), ?_⟩
    · refine pss_one (ps_expr (pe_actN (i := 0) I3 L hf2 hfn2 hnfs hbind tk hr9 (fun A outer s H E hr8 => ?_) rfl (.inl rfl)))
      exact PE_ex fun z : Hp × (Addr → Bool) => pe_when fun h => hbody A outer s H E f c' z.1 z.2 hr8 h
    · exact PB_when fun e : c1 = .ref cls => PB_ex fun z : Hp × (Addr → Bool) => by
        subst e
        exact su g cdv X.A X.stack s2 H2 (a, oe) pn (HC.at_ z.1 z.2) (HC.at_ z.1 z.2) d ⟨hz, hf⟩ ⟨fun _ h => h, rfl, rfl⟩ (hr9.mono (by decide))
    · refine ⟨rfl, by rw [hq]; exact hco2, (H2, C.M), fun d H3 e3 hx => ⟨true, xb, fun _ a na => ⟨rfl, (H3, C.M), ⟨⟨fun a o _ e => e, fun a m => ?_, trivial⟩, ?_⟩, fun σ' H' n _ => n.elim, fun v' H' ⟨n1, n2⟩ => hX v' H' (fun a o e => n1 a o (e3 a o e)) n2⟩, fun h => nomatch h⟩, ⟨⟨fun a o _ e => e, ok2.base.hidd, trivial⟩, ok2.env⟩, fun v' H' _ _ z => (show False from z).elim⟩
      · obtain ⟨o, ho⟩ := ok2.base.hidd a m
        exact ⟨o, e3 _ _ ho⟩
      · exact .cons trivial (.cons (Ty.mono Td (hid_mono e3) pv) (.cons ⟨rfl, xfl_vis hok2 e3 hx⟩ .nil))
  refine wpAny_call (codeAny_mono rc fun r s3 hq' => ?_)
  cases r with
  | error e => exact (show False from hq').elim
  | ok fl => cases fl with
    | ret u => exact I3.after hq'
    | next => exact (show False from hq').elim
    | brk => exact (show False from hq').elim
    | cont => exact (show False from hq').elim
end
end Nb
end -- H6
section -- H7
set_option maxHeartbeats 1000000
namespace Nb
open PySem PySem.Spec PyProof.Rows L2
theorem TabD.mono {D D' H H' : Hp} {q : Str} {P : Addr} (t : TabD D q H P) (e : Ex H H') (d : Ex D D') : TabD D' q H' P := by
  obtain ⟨ps, h1, _⟩ := id t
  exact t.ex ((e _ _ h1).trans h1.symm) d
theorem HidOk.mono {M : Addr → Bool} {H H' : Hp} (h : HidOk M H) (e : Ex H H') : HidOk M H' := fun a m => (h a m).imp (fun ⟨xs, q⟩ => ⟨xs, e _ _ q⟩) fun ⟨ps, q⟩ => ⟨ps, e _ _ q⟩
def inT (T : TT) (a : Addr) : Bool := T.any fun t => t.1 == a
theorem inT_of {T : TT} {a : Addr} (h : inT T a = false) : ∀ t ∈ T, t.1 ≠ a := fun t ht e => by
  have : inT T a = true := List.any_eq_true.mpr ⟨t, ht, beq_iff_eq.mpr e⟩
  rw [this] at h; cases h
theorem inT_get {T : TT} {a : Addr} (h : inT T a = true) : ∃ t ∈ T, t.1 = a := by
  obtain ⟨t, ht, e⟩ := List.any_eq_true.mp h
  exact ⟨t, ht, beq_iff_eq.mp e⟩
/-- inside a def that makes lambdas -/
def HC.tb (H : Hp) (M : Addr → Bool) (T : TT) (hm : ∀ t ∈ T, M t.1 = true) : HC where
  H0 := H
  M := M
  S := inT T
  Om := fun H D => TabsD T H D ∧ HidOk M H
  om := fun e d ⟨h1, h2⟩ => ⟨fun t ht => (h1 t ht).mono e d, h2.mono e⟩
  loc := fun {p H H' D} m k ⟨h1, h2⟩ => by
    have ne : ∀ a, M a = true → a ≠ p := fun a z e => by rw [e, m] at z; cases z
    exact ⟨fun t ht => (h1 t ht).ex (k _ (ne _ (hm t ht))) (Ex.refl D), fun a z => by rw [k a (ne a z)]; exact h2 a z⟩
  sm := fun a s => by
    obtain ⟨t, ht, rfl⟩ := inT_get s
    exact hm t ht
theorem hidOk_T {M : Addr → Bool} {T : TT} {H H' D : Hp} (h : HidOk M H) (k : ExT T H H') (t : TabsD T H' D) : HidOk M H' := fun a m => by
  cases z : inT T a with
  | true =>
    obtain ⟨q, hq, rfl⟩ := inT_get z
    obtain ⟨ps, h1, _⟩ := t q hq
    exact .inr ⟨ps, h1⟩
  | false => exact (h a m).imp (fun ⟨xs, q⟩ => ⟨xs, k _ _ (inT_of z) q⟩) fun ⟨ps, q⟩ => ⟨ps, k _ _ (inT_of z) q⟩
theorem tb_C {H : Hp} {M : Addr → Bool} {T : TT} {hm : ∀ t ∈ T, M t.1 = true} : TbC (HC.tb H M T hm) T where
  m := hm
  get h := h
  put := fun ⟨h1, h2⟩ k d t => ⟨t, hidOk_T h2 k t⟩
  old := fun t ht => .inl (List.any_eq_true.mpr ⟨t, ht, beq_iff_eq.mpr rfl⟩)
def TbSp {α : Type} (T : TT) (args : α → List Ty) (pre : α → Prop) (res : α → Ty) : Sp := fun vs H Q _ => ∃ (M : Addr → Bool) (z : α), (∀ t ∈ T, M t.1 = true) ∧ TabsD T H (hid M H) ∧ HidOk M H ∧ TyAll (hid M H) vs (args z) ∧ pre z ∧ ∀ v H', ExT T H H' → TabsD T H' (hid M H') → (res z).P (hid M H') v → Q v H'
def RtT (T : TT) (C : HC) (W : Ty) : RT := fun v H => ExT T C.H0 H ∧ TabsD T H (hid C.M H) ∧ W.P (hid C.M H) v
/-- a def whose code object is at c -/
def DefC (K : PySem.W.Frag) (mg : Str → Option Value) (x : Str) (st : Stmt) (c : Addr) : Prop := ∃ f fd, mg x = some (.ref f) ∧ FunD K x x (defArgs st) (defBody st) (defScope st) [] [] f fd ∧ fd.code = .ref c
section
variable {X : Cx} {C : HC} {G : Env} {e : Expr} {es : List Expr} {W : Ty} {T : TT} {pos p2 : Pos} {Nx : NX} {H0 : Hp} {M : Addr → Bool} {hm : ∀ t ∈ T, M t.1 = true}
theorem pb_retT (he : PX X (HC.tb H0 M T hm) G e W) : PB X (HC.tb H0 M T hm) G [.Return (some e) pos] Nx (RtT T (HC.tb H0 M T hm) W) := pb_ret he fun v H b h => ⟨fun a o n q => b.old a o (by
  cases z : inT T a with
  | false => exact z
  | true => obtain ⟨t, ht, e⟩ := inT_get z; exact absurd e (n t ht)) q, b.om.1, h⟩
theorem px_callT {α : Type} {args : α → List Ty} {pre : α → Prop} {res : α → Ty} {x : Str} {j k : Nat} {ps : List Str} (F : Ok X.prog X.w X.K X.mg X.base j x ps (TbSp T args pre res)) (s : TbC C T) (z : α) (hT : res z = W) (hr : Room k X.A) (ha : PXs X C G (e :: es) (args z)) (hp : pre z)
    (hj : j ≤ k := by decide) (hg : Gl X x := by rfl) (hdb : (x == ("__debug__" : Str)) = false := by decide) (he : starEach (e :: es) X.env = (false, eval e X.env) :: starEach es X.env := by rfl) (hpl : (backTo pos (starEach es X.env)).any (·.1) = false := by rfl) :
    PX X C G (.Call (.Name x p2) (e :: es) [] pos) W := by
  obtain ⟨f, fd, hm, hk, hb, hF⟩ := F.ex
  subst hT
  refine PE.imp (pe_call (dvs := []) (E := E0) hF (hr.mono hj) hg hm hk hb .nil pass0 ha hdb he hpl) fun σ H Q ⟨x, q⟩ => ⟨x, fun vs H1 x1 e1 p1 => ?_⟩
  show TbSp T args pre res (vs ++ []) H1 Q E0
  rw [List.append_nil]
  obtain ⟨g1, g2⟩ := s.get x1.base.om
  exact ⟨C.M, z, s.m, g1, g2, p1, hp, fun v H' e2 t r => q v H' (x1.putT s e2 t) (e1.trans (hidT_ex s.m e2)) r⟩
end
section
variable {K : PySem.W.Frag} {mg : Str → Option Value} {base : Heap} {P : Program} {w : World}
theorem DefC.okT {α : Type} {args : α → List Ty} {pre : α → Prop} {res : α → Ty} {x : Str} {st : Stmt} {N ps : List Str} {k : Nat} {c : Addr} (T : TT) (D : DefC K mg x st c) (S : FnScope N ps (defScope st)) (hl : ∀ z, (args z).length = ps.length)
    (hbind : ∀ (kV doc pm : Value) (an : Option Addr) (cdv ct : Value) (us : List Value), us.length = ps.length → bindArgs (PySem.W.fnOf x x (defArgs st) (defBody st) (defScope st) .none kV doc pm an cdv ct) ⟨us, []⟩ = pure (ps.zip us))
    (hb : ∀ (f : Addr) (A : Around) (outer : List PySem.Env) (s : Shared) (H : Hp) (E : XK) (M : Addr → Bool) (hm : ∀ t ∈ T, M t.1 = true) (z : α), Room k (A.deeper (envOfC x (defScope st) s.heap.objs.size f (.ref c))) → pre z →
      PB (cxOf CX0 P w K mg base N x (defScope st) f (.ref c) A outer s H E).nox (HC.tb H M T hm) (startG N.length (args z)) (defBody st) (fun _ _ => False) (RtT T (HC.tb H M T hm) (res z))) :
    Ok P w K mg base (k + 1) x ps (TbSp T args pre res) := by
  obtain ⟨f, fd, hm, F, hc⟩ := D
  have kp := F.kp
  have bnd := F.bindsN hbind
  obtain ⟨co, dd, dV, kV, doc, pm, an, cdv, ct, sl, rfl, lk, hcd, _, _⟩ := F.ex
  obtain rfl : cdv = .ref c := hc
  refine ⟨f, _, hm, kp, bnd, fn_of lk hcd S (fun vs H Q E ⟨M, z, _, _, _, h, _⟩ => by rw [h.length, hl]) fun A outer s H vs Q E hr ⟨M, z, m, t, ho, h, hp, q⟩ => ?_⟩
  refine ⟨_, PSs.nox (hb f A outer s H E M m z hr hp), ⟨⟨fun a o _ e => e, fun a z => ?_, t, ho⟩, start_env h⟩, fun σ' H' n _ => n.elim, fun v H' ⟨n1, n2, n3⟩ => q v H' n1 n2 n3⟩
  rcases ho a z with ⟨xs, q⟩ | ⟨ps, q⟩
  · exact ⟨_, q⟩
  · exact ⟨_, q⟩
end
section
variable {X : Cx} {G : Env} {e : Expr} {es : List Expr} {pos p : Pos} {A : Around} {outer : List PySem.Env} {s : Shared} {H H0 : Hp} {E : XK} {scope : Scope} {f c' cls : Addr} {M : Addr → Bool} {fl : Option (List (Str × V))} {k : Nat}
theorem px_callL {α : Type} {args : α → List Ty} {pre : α → Prop} {f1 : α → Option (List (Str × V))} {x : Str} {j : Nat} {ps : List Str} (F : OkR X.prog X.w X.K X.mg X.base j x ps (RaiSp cls f1 args pre)) (z : α) (hfl : f1 z = fl) (hE : ∀ d H2, Ex H0 H2 → XFl fl d H2 → E (.ref cls) d H2)
    (hr : Room k (A.deeper (lamE X scope s.heap.objs.size f c'))) (ha : PXs (lamN X A outer s H E scope f c') (HC.at_ H0 M) G (e :: es) (args z)) (hp : pre z)
    (hj : j ≤ k := by decide) (hg : Gl (lamN X A outer s H E scope f c') x := by rfl) (hdb : (x == ("__debug__" : Str)) = false := by decide) (he : starEach (e :: es) (lamE X scope s.heap.objs.size f c') = (false, eval e (lamE X scope s.heap.objs.size f c')) :: starEach es (lamE X scope s.heap.objs.size f c') := by rfl) (hpl : (backTo pos (starEach es (lamE X scope s.heap.objs.size f c'))).any (·.1) = false := by rfl) :
    PX (lamN X A outer s H E scope f c') (HC.at_ H0 M) G (.Call (.Name x p) (e :: es) [] pos) tNo :=
  px_callZ (X := lamN X A outer s H E scope f c') F z hfl (psL (X := X)) hE rfl hr ha hp hj hg hdb he hpl
theorem px_callNL {α : Type} {args : α → List Ty} {pre : α → Prop} {f1 : α → Option (List (Str × V))} {x : Str} {j n : Nat} {ps ks : List Str} {kws : List Keyword} {Ts Us : List Ty} (F : OkRN X.prog X.w X.K X.mg X.base j x ps n ks (RaiSp cls f1 args pre)) (z : α) (hfl : f1 z = fl) (hE : ∀ d H2, Ex H0 H2 → XFl fl d H2 → E (.ref cls) d H2)
    (hr : Room k (A.deeper (lamE X scope s.heap.objs.size f c'))) (ha : PXs (lamN X A outer s H E scope f c') (HC.at_ H0 M) G (e :: es) Ts) (hkw : PXk (lamN X A outer s H E scope f c') (HC.at_ H0 M) G kws Us) (hTU : Ts ++ Us = args z) (hp : pre z) (hn : Ts.length = n := by rfl) (hn2 : Us.length = ks.length := by rfl)
    (hall : (backToKw pos (keywordEach kws (lamE X scope s.heap.objs.size f c'))).all (·.1.isSome) = true := by rfl) (hks : (backToKw pos (keywordEach kws (lamE X scope s.heap.objs.size f c'))).filterMap (·.1) = ks := by rfl)
    (hj : j ≤ k := by decide) (hg : Gl (lamN X A outer s H E scope f c') x := by rfl) (hdb : (x == ("__debug__" : Str)) = false := by decide) (he : starEach (e :: es) (lamE X scope s.heap.objs.size f c') = (false, eval e (lamE X scope s.heap.objs.size f c')) :: starEach es (lamE X scope s.heap.objs.size f c') := by rfl)
    (hpl : ((backTo pos (starEach (e :: es) (lamE X scope s.heap.objs.size f c'))).any (·.1) || (backToKw pos (keywordEach kws (lamE X scope s.heap.objs.size f c'))).any (·.1.isNone)) = false := by rfl) :
    PX (lamN X A outer s H E scope f c') (HC.at_ H0 M) G (.Call (.Name x p) (e :: es) kws pos) tNo :=
  px_callNZ (X := lamN X A outer s H E scope f c') F z hfl (psL (X := X)) hE rfl hr ha hkw hTU hp hn hn2 hall hks hj hg hdb he hpl
end
section
variable {K : PySem.W.Frag} {mg : Str → Option Value} {base : Heap} {P : Program} {w : World}
variable {Ct Cp Cm : Addr}
abbrev UD := LD × PD
/-- the facts of the exceptions' classes and the lambdas' makers -/
structure UnlOk (z : UD) : Prop where
  d : Dt z.1.1 z.1.2.1 z.1.2.2
  no : ¬ (z.2.1 = z.1.1 ∧ z.2.2.1 = z.1.2.1)
  hw : Hasw z.2.1 z.2.2.1
theorem sc145 : FnScope ["_law_ladder", "_law_paper", "_law_unlike_here", "_law_parts"] ["_law_ladder", "_law_paper", "_law_unlike_here"] (defScope (top 145)) := ⟨rfl, rfl, rfl, by decide +kernel, rfl, by decide +kernel, by decide +kernel⟩
theorem unl_judge {w r : Nat} {c : Nat → List Rat} {p : Pap} (h : sameB w r p = false) : judge w r c p = false := by
  unfold judge
  rw [h]; rfl
theorem unl_ok {w r : Nat} {c : Nat → List Rat} {p : Pap} (L : Lad w r c) (h : sameB w r p = false) (hq : Sz p.q) (few : p.ss.length ≤ 10000) (len : ∀ t ∈ p.ss, t.length ≤ 1000000) : JudgeOk w r c p := ⟨L, hq, few, len, fun e => by rw [h] at e; cases e⟩
theorem stLen {w r : Nat} {ss : List Str} (h : StOk w r ss) : ∀ t ∈ ss, t.length ≤ 1000000 := fun t ht => by
  have h1 := h.inn t ht
  unfold innB at h1
  rw [Bool.and_eq_true] at h1
  have h2 : t.length < r := of_decide_eq_true h1.1
  have h3 := h.hw.r8
  omega
end
end Nb
end -- H7
section -- H8
set_option maxHeartbeats 1000000
namespace Nb
open PySem PySem.Spec PyProof.Rows L2
section
variable {K : PySem.W.Frag} {mg : Str → Option Value} {base : Heap} {P : Program} {w : World} {Ct Cp Cm c Pt : Addr} {T : TT}
def qU : Str := "_law_unlike.<locals>.<lambda>"
theorem sameB_cho {w r : Nat} {q : Rat} {cw cr fw fr : Nat} {cs fs : List (List Rat)} {ss : List Str} (h : ¬ (cw = w ∧ cr = r)) : sameB w r ⟨q, cw, cr, cs, fw, fr, fs, ss⟩ = false := by
  unfold sameB
  by_cases h1 : cw = w
  · have h2 : ¬ cr = r := fun z => h ⟨h1, z⟩
    simp [h2]
  · simp [h1]
theorem sameB_foe {w r : Nat} {q : Rat} {cw cr fw fr : Nat} {cs fs : List (List Rat)} {ss : List Str} (h : ¬ (fw = w ∧ fr = r)) : sameB w r ⟨q, cw, cr, cs, fw, fr, fs, ss⟩ = false := by
  unfold sameB
  by_cases h1 : fw = w
  · have h2 : ¬ fr = r := fun z => h ⟨h1, z⟩
    simp [h2]
  · simp [h1]
theorem ok_unlike (Tx : Txt K mg) (BT : TabT K mg Ct) (BP : PlanT K mg Cp) (XM : XcT K mg "Mismatch" Cm) (TM : ExcN K mg "Mismatch" Cm) (D : DefC K mg "_law_unlike" (top 145) c) (TB : LamX.TabB base mg c Pt) (hPT : (Pt, qU) ∈ T) (hu : ∀ t ∈ T, t.1 = Pt → t.2 = qU) :
    Ok P w K mg base 11 "_law_unlike" ["_law_ladder", "_law_paper", "_law_unlike_here"] (TbSp T (fun z : UD => [tLad K Ct z.1.1 z.1.2.1 z.1.2.2, tPaper K Cp z.1, tPlan K Cp z.2.1 z.2.2.1 z.2.2.2]) UnlOk (fun _ => tB true)) := by
  refine D.okT T sc145 (fun _ => rfl) (fun _ _ _ _ _ _ us hl => match us, hl with | [_, _, _], _ => rfl) fun f A outer s H E M hm z hr hz => ?_
  obtain ⟨⟨w', r, cc⟩, cw, cr, cs⟩ := z
  obtain ⟨d, hno, hw⟩ := hz
  replace d : Dt w' r cc := d
  replace hno : ¬ (cw = w' ∧ cr = r) := hno
  replace hw : Hasw cw cr := hw
  have hsf := stop_few (c := cc) d.hw
  have stF := stopF_ok (c := cc) d.hw
  obtain ⟨f1, f2⟩ := fold_big d
  have hpap : tPaper K Cp (w', r, cc) = tPap K Cp (foldOf (w', r, cc)) w' r (pouF (w', r, cc)) (eveF (w', r, cc)) (stopF (w', r, cc)) := rfl
  generalize hF : foldOf (w', r, cc) = F at f1 f2 hpap
  have bF : Big F := f2.big (f1.dvd DM_DD) (by decide)
  show PB _ _ [some (tLad K Ct w' r cc), some (tPaper K Cp (w', r, cc)), some (tPlan K Cp cw cr cs), none] _ _ _
  rw [hpap]
  refine pb_forN (j := 3) (l := [(⟨F, cw, cr, cs, w', r, eveF (w', r, cc), stopF (w', r, cc)⟩ : Pap), ⟨F, w', r, pouF (w', r, cc), cw, cr, cs, stopF (w', r, cc)⟩, ⟨0, cw, cr, cs, cw, cr, cs, []⟩]) (tA := tPapH K Cp) PassesOwn.never rfl
    (pix_list (px_lst (Ts := [tPapH K Cp ⟨F, cw, cr, cs, w', r, eveF (w', r, cc), stopF (w', r, cc)⟩, tPapH K Cp ⟨F, w', r, pouF (w', r, cc), cw, cr, cs, stopF (w', r, cc)⟩, tPapH K Cp ⟨0, cw, cr, cs, cw, cr, cs, []⟩])
      (pxs_cons (px_tup (pxs_cons ((px_ixT (T := tQ K F) (va 1 rfl) px_int rfl).num bF.sz) (pxs_cons (va 2 rfl) (pxs_cons (px_ixT (T := tPlan K Cp w' r (eveF (w', r, cc))) (va 1 rfl) px_int rfl) (pxs_cons (px_ixT (T := tLst ((stopF (w', r, cc)).map tS)) (va 1 rfl) px_int rfl).seqL pxs_nil)))))
      (pxs_cons (px_tup (pxs_cons ((px_ixT (T := tQ K F) (va 1 rfl) px_int rfl).num bF.sz) (pxs_cons (px_ixT (T := tPlan K Cp w' r (pouF (w', r, cc))) (va 1 rfl) px_int rfl) (pxs_cons (va 2 rfl) (pxs_cons (px_ixT (T := tLst ((stopF (w', r, cc)).map tS)) (va 1 rfl) px_int rfl).seqL pxs_nil)))))
      (pxs_cons (px_tup (pxs_cons ((px_int (i := 0)).numI (by decide +kernel)) (pxs_cons (va 2 rfl) (pxs_cons (va 2 rfl) (pxs_cons (px_lst (Ts := ([] : List Str).map tS) pxs_nil).seqL pxs_nil))))) pxs_nil)))))
    (fun _ => HC.tb H M T hm) (fun _ => [some (tLad K Ct w' r cc), some (tPap K Cp F w' r (pouF (w', r, cc)) (eveF (w', r, cc)) (stopF (w', r, cc))), some (tPlan K Cp cw cr cs), none]) sc145.nd rfl (.inl rfl) (fun _ => rfl) (fun _ _ h => h) (fun i q hq => ?_) ?_
  · have hqs : sameB w' r q = false ∧ Sz q.q ∧ q.ss.length ≤ 10000 ∧ ∀ t ∈ q.ss, t.length ≤ 1000000 := by
      have hm := List.mem_of_getElem? hq
      simp only [List.mem_cons, List.not_mem_nil, or_false] at hm
      rcases hm with rfl | rfl | rfl
      · exact ⟨sameB_cho hno, bF.sz, Nat.le_trans hsf (by decide), stLen stF⟩
      · exact ⟨sameB_foe hno, bF.sz, Nat.le_trans hsf (by decide), stLen stF⟩
      · exact ⟨sameB_cho hno, (⟨by decide +kernel, by decide +kernel⟩ : Sz 0), Nat.zero_le _, fun _ h => (List.not_mem_nil h).elim⟩
    obtain ⟨h1, h2, h3, h4⟩ := hqs
    refine pb_guard (x := false) (pxt_not (x := true) (sameB' Tx (x := false) hr (by decide) ((px_call (ok_is_paper Tx BT BP) ((w', r, cc), q) rfl hr (pxs_cons (va 0 rfl) (pxs_cons (va 3 rfl) pxs_nil)) (unl_ok d.lad h1 h2 h3 h4)).cast (congrArg tB (unl_judge h1))) px_bl)) (fun h => nomatch h) fun _ => pb_endI (gi_keep (gi_keep (gi_keep (gi_drop gi_nil))))
  have un : Unl ((cw, cr, cs), (w', r, cc)) := ⟨d.lad, hno⟩
  refine pb_guard (x := false) (pxt_not (x := true) (pxt_val ?_)) (fun h => nomatch h) fun _ => pb_retT ?_
  · refine px_denied Tx XM (suite_mis Tx XM) tb_C hPT hu TB rfl rfl (LamX.lamS_by (sc := defScope (top 145)) (by decide +kernel)) hr (by decide) ?_ (px_tup (pxs_cons px_str pxs_nil))
    intro A outer s H E f c' H0 M hr8 hE
    exact px_callL (ok_slackR Tx BT BP TM) ((cw, cr, cs), (w', r, cc)) rfl hE hr8 (pxs_cons (va 2 rfl) (pxs_cons (va 0 rfl) pxs_nil)) un
  · refine px_denied Tx XM (suite_mis Tx XM) tb_C hPT hu TB rfl rfl (LamX.lamS_by (sc := defScope (top 145)) (by decide +kernel)) hr (by decide) ?_ (px_tup (pxs_cons px_str pxs_nil))
    intro A outer s H E f c' H0 M hr8 hE
    exact px_callL (ok_smeanM Tx BT BP TM) ((cw, cr, cs), (w', r, cc)) rfl hE hr8 (pxs_cons (va 2 rfl) (pxs_cons (px_lst (Ts := ([] : List Str).map tS) pxs_nil).seqL (pxs_cons (va 0 rfl) pxs_nil))) ⟨un, hw⟩
end
end Nb
end -- H8
section -- H9
set_option maxHeartbeats 1000000
namespace Nb
open PySem PySem.Spec PyProof.Rows L2
/-- inside a def that draws and makes lambdas -/
def HC.wt (H : Hp) (M : Addr → Bool) (p : Addr) (T : TT) (hp : M p = true) (hm : ∀ t ∈ T, M t.1 = true) : HC where
  H0 := H
  M := M
  S := fun a => a == p || inT T a
  Om := fun H D => Stor p H ∧ TabsD T H D ∧ HidOk M H
  om := fun e d ⟨⟨ns, h, k⟩, h1, h2⟩ => ⟨⟨ns, e _ _ h, k⟩, fun t ht => (h1 t ht).mono e d, h2.mono e⟩
  loc := fun {q H H' D} m k ⟨⟨ns, h, r⟩, h1, h2⟩ => by
    have ne : ∀ a, M a = true → a ≠ q := fun a z e => by rw [e, m] at z; cases z
    exact ⟨⟨ns, by rw [k p (ne p hp)]; exact h, r⟩, fun t ht => (h1 t ht).ex (k _ (ne _ (hm t ht))) (Ex.refl D), fun a z => by rw [k a (ne a z)]; exact h2 a z⟩
  sm := fun a s => by
    rcases (Bool.or_eq_true_iff.mp s) with h | h
    · rw [beq_iff_eq.mp h]; exact hp
    · obtain ⟨t, ht, rfl⟩ := inT_get h
      exact hm t ht
section
variable {H : Hp} {M : Addr → Bool} {p : Addr} {T : TT} {hp : M p = true} {hm : ∀ t ∈ T, M t.1 = true}
theorem wt_S (hn : ∀ t ∈ T, t.1 ≠ p) : StC (HC.wt H M p T hp hm) p where
  m := hp
  get h := h.1
  put := fun {H H' D D'} ⟨_, h1, h2⟩ k e d => ⟨d, fun t ht => by
    obtain ⟨ps, q, _⟩ := id (h1 t ht)
    exact (h1 t ht).ex ((k _ _ (hn t ht) q).trans q.symm) e, fun a m => by
    by_cases z : a = p
    · obtain ⟨ns, q, _⟩ := d
      exact .inl ⟨_, z ▸ q⟩
    · exact (h2 a m).imp (fun ⟨xs, q⟩ => ⟨xs, k _ _ z q⟩) fun ⟨ps, q⟩ => ⟨ps, k _ _ z q⟩⟩
  old := .inl (by show (p == p || inT T p) = true; rw [beq_self_eq_true]; rfl)
theorem wt_T (hn : ∀ t ∈ T, t.1 ≠ p) : TbC (HC.wt H M p T hp hm) T where
  m := hm
  get h := h.2
  put := fun ⟨⟨ns, h, r⟩, h1, h2⟩ k d t => ⟨⟨ns, k _ _ hn h, r⟩, t, hidOk_T h2 k t⟩
  old := fun t ht => .inl (by
    show (t.1 == p || inT T t.1) = true
    rw [show inT T t.1 = true from List.any_eq_true.mpr ⟨t, ht, beq_iff_eq.mpr rfl⟩, Bool.or_true])
end
def WrSp {α : Type} (T : TT) (args : α → List Ty) (pre : α → Prop) : Sp := fun vs H Q _ => ∃ (M : Addr → Bool) (z : α) (p : Addr) (rest : List V), vs = .ref p :: rest ∧ M p = true ∧ (∀ t ∈ T, M t.1 = true) ∧ (∀ t ∈ T, t.1 ≠ p) ∧ Stor p H ∧ TabsD T H (hid M H) ∧ HidOk M H ∧ TyAll (hid M H) rest (args z) ∧ pre z ∧ ∀ v H', v = .bl true → Q v H'
abbrev RtB : RT := fun v _ => v = .bl true
section
variable {K : PySem.W.Frag} {mg : Str → Option Value} {base : Heap} {P : Program} {w : World}
theorem DefC.okW {α : Type} {args : α → List Ty} {pre : α → Prop} {x : Str} {st : Stmt} {N ps : List Str} {q0 : Str} {k : Nat} {c : Addr} (T : TT) (D : DefC K mg x st c) (S : FnScope N (q0 :: ps) (defScope st)) (hl : ∀ z, (args z).length = ps.length)
    (hbind : ∀ (kV doc pm : Value) (an : Option Addr) (cdv ct : Value) (us : List Value), us.length = (q0 :: ps).length → bindArgs (PySem.W.fnOf x x (defArgs st) (defBody st) (defScope st) .none kV doc pm an cdv ct) ⟨us, []⟩ = pure ((q0 :: ps).zip us))
    (hb : ∀ (f : Addr) (A : Around) (outer : List PySem.Env) (s : Shared) (H : Hp) (E : XK) (M : Addr → Bool) (p : Addr) (hp : M p = true) (hm : ∀ t ∈ T, M t.1 = true) (z : α), (∀ t ∈ T, t.1 ≠ p) → Room k (A.deeper (envOfC x (defScope st) s.heap.objs.size f (.ref c))) → pre z →
      PB (cxOf CX0 P w K mg base N x (defScope st) f (.ref c) A outer s H E).nox (HC.wt H M p T hp hm) (startG N.length (tR p :: args z)) (defBody st) (fun _ _ => False) RtB) :
    Ok P w K mg base (k + 1) x (q0 :: ps) (WrSp T args pre) := by
  obtain ⟨f, fd, hm, F, hc⟩ := D
  have kp := F.kp
  have bnd := F.bindsN hbind
  obtain ⟨co, dd, dV, kV, doc, pm, an, cdv, ct, sl, rfl, lk, hcd, _, _⟩ := F.ex
  obtain rfl : cdv = .ref c := hc
  refine ⟨f, _, hm, kp, bnd, fn_of lk hcd S (fun vs H Q E ⟨M, z, p, rest, e, _, _, _, _, _, _, h, _⟩ => by rw [e, List.length_cons, h.length, hl, List.length_cons]) fun A outer s H vs Q E hr ⟨M, z, p, rest, e, m, mt, hn, hs, t, ho, h, hp, q⟩ => ?_⟩
  subst e
  refine ⟨_, PSs.nox (hb f A outer s H E M p m mt z hn hr hp), ⟨⟨fun a o _ e => e, fun a z => ?_, hs, t, ho⟩, start_env (.cons rfl h)⟩, fun σ' H' n _ => n.elim, fun v H' n => q v H' n⟩
  rcases ho a z with ⟨xs, q⟩ | ⟨ps, q⟩
  · exact ⟨_, q⟩
  · exact ⟨_, q⟩
end
theorem onlyS_app (w : Nat) (a b : Str) : onlyS w (a ++ b) = (onlyS w a && onlyS w b) := by
  unfold onlyS
  rw [show (a ++ b).cps.toList = a.cps.toList ++ b.cps.toList from by show (a.cps ++ b.cps).toList = _; simp, List.all_append]
theorem len_app (a b : Str) : (a ++ b).length = a.length + b.length := by show (a.cps ++ b.cps).size = _; simp; rfl
abbrev Wrg (w r : Nat) (t : Str) : Prop := innB w r t = false ∧ t.length ≤ 1000
theorem str_w {w : Nat} (h : W15 w) : onlyS w (toString ((w : Nat) : Int)) = false ∧ (toString ((w : Nat) : Int) : Str).length = 1 := by
  have : w = 1 ∨ w = 2 ∨ w = 3 ∨ w = 4 ∨ w = 5 := by have := h.1; have := h.2; omega
  rcases this with rfl | rfl | rfl | rfl | rfl <;> decide +kernel
theorem dash_w {w : Nat} (h : W15 w) : onlyS w "-" = false := by
  have : w = 1 ∨ w = 2 ∨ w = 3 ∨ w = 4 ∨ w = 5 := by have := h.1; have := h.2; omega
  rcases this with rfl | rfl | rfl | rfl | rfl <;> decide +kernel
theorem wrg_only {w r : Nat} {t : Str} (h : onlyS w t = false) (hl : t.length ≤ 1000) : Wrg w r t := ⟨by unfold innB; rw [h, Bool.and_false], hl⟩
theorem wrg_long {w r : Nat} {t : Str} (h : r ≤ t.length) (hl : t.length ≤ 1000) : Wrg w r t := ⟨by unfold innB; rw [decide_eq_false (by omega)]; rfl, hl⟩
theorem wrg_mid {w r : Nat} (h : W15 w) {a b : Str} (ha : a.length ≤ 100) (hb : b.length ≤ 100) : Wrg w r (a ++ toString ((w : Nat) : Int) ++ b) := by
  obtain ⟨h1, h2⟩ := str_w h
  refine wrg_only (by rw [onlyS_app, onlyS_app, h1, Bool.and_false, Bool.false_and]) ?_
  rw [len_app, len_app, h2]
  omega
section
variable {X : Cx} {C : HC} {G : Env} {a b e : Expr} {pos : Pos} {Ts Us : List Ty} {W : Ty}
/-- an item by a draw -/
theorem px_ixW {n : Int} (hl : n = (Ts.length : Nat)) (ha : PX X C G a (tLst Ts)) (hb : PX X C G b (tBelow n)) (hW : ∀ T ∈ Ts, ∀ H v, T.P H v → W.P H v) (hs : PlainIx b := by intro _ _; rfl) : PX X C G (.Subscript a b pos) W :=
  px_ixR ix_list (U := tBelow n) (r2_exR fun i hi => by
    obtain ⟨j, rfl⟩ : ∃ j : Nat, i = (j : Int) := ⟨i.toNat, by omega⟩
    have hj : j < Ts.length := by omega
    exact (ixL_ok (T := Ts[j]) (atI_nat (List.getElem?_eq_getElem hj))).post fun H v h => hW _ (List.getElem_mem hj) H v h) ha hb hs
theorem cat_ok (hz : Ts.length + Us.length ≤ 1000000) : R2Ok C rCat (tLst Ts) (tLst Us) (tLst (Ts ++ Us)) := fun H x y Q bs hx hy q => by
  obtain ⟨a, xs, rfl, h2, h3⟩ := hx
  obtain ⟨b, ys, rfl, h4, h5⟩ := hy
  refine ⟨a, b, xs, ys, rfl, rfl, hid_le _ _ h2, hid_le _ _ h4, by rw [h3.length, h5.length]; exact Nat.le_trans hz (by decide), fun l hl => ?_⟩
  have e2 : Ex H (upd H l (.lst (xs ++ ys))) := Ex.new hl
  exact q _ _ e2 ⟨l, _, rfl, hid_of (bs.fresh hl) upd_same, TyAll.mono (hid_mono e2) (h3.append h5)⟩
theorem PX.any (h : PX X C G e W) : PX X C G e tAny := h.sub fun _ _ _ => trivial
end
theorem cut_take {α : Type} {l : List α} {n : Nat} (h : n ≤ l.length) : cutT l none (some (n : Int)) = l.take n := by
  unfold cutT
  have e : HT.sIx l.length l.length (some ((n : Nat) : Int)) = n := by unfold HT.sIx; simp; rw [if_neg (by omega)]; omega
  rw [e]
  simp [HT.sIx]
theorem cut_drop {α : Type} {l : List α} {n : Nat} (h : n ≤ l.length) : cutT l (some (n : Int)) none = l.drop n := by
  unfold cutT
  have e : HT.sIx l.length 0 (some ((n : Nat) : Int)) = n := by unfold HT.sIx; simp; rw [if_neg (by omega)]; omega
  rw [e]
  show List.take (l.length - n) (l.drop n) = l.drop n
  exact List.take_of_length_le (by rw [List.length_drop]; exact Nat.le_refl _)
/-- the wrong texts: the right ones, one that is none, right ones, what else -/
theorem bad_of {w r : Nat} {ss tail : List Str} {t : Str} {n : Nat} (h : StOk w r ss) (hn : n ≤ ss.length) (ht : Wrg w r t) (hl : ∀ s ∈ tail, s.length ≤ 1000000) : BadSt w r (ss.take n ++ [t] ++ ss.drop n ++ tail) t := by
  refine ⟨h.hw, ⟨n, ?_, fun i s hi e => ?_⟩, ht.1, fun s hs => ?_⟩
  · rw [List.append_assoc, List.append_assoc, List.getElem?_append_right (by simp; omega), List.length_take, Nat.min_eq_left hn, Nat.sub_self]
    rfl
  · rw [List.append_assoc, List.append_assoc, List.getElem?_append_left (by simp; omega)] at e
    exact h.inn s (List.mem_of_mem_take (List.mem_of_getElem? e))
  · rcases List.mem_append.mp hs with hs | hs
    · rcases List.mem_append.mp hs with hs | hs
      · rcases List.mem_append.mp hs with hs | hs
        · exact stLen h s (List.mem_of_mem_take hs)
        · rw [List.mem_singleton.mp hs]
          exact Nat.le_trans ht.2 (by decide)
      · exact stLen h s (List.mem_of_mem_drop hs)
    · exact hl s hs
theorem BadSt.all {w r : Nat} {bs : List Str} {t : Str} (h : BadSt w r bs t) : bs.all (innB w r) = false := by
  obtain ⟨n, e, _⟩ := h.ex
  exact List.all_eq_false.mpr ⟨t, List.mem_of_getElem? e, by rw [h.bad]; decide⟩
theorem judge_bad {w r : Nat} {c : Nat → List Rat} {p : Pap} (h : p.ss.all (innB w r) = false) : judge w r c p = false := by
  unfold judge
  rw [h, Bool.false_and, Bool.and_false]
theorem judgeOk_bad {w r : Nat} {c : Nat → List Rat} {p : Pap} (L : Lad w r c) (h : p.ss.all (innB w r) = false) (hq : Sz p.q) (few : p.ss.length ≤ 10000) (len : ∀ t ∈ p.ss, t.length ≤ 1000000) : JudgeOk w r c p := ⟨L, hq, few, len, fun _ e => by rw [h] at e; cases e⟩
end Nb
end -- H9
section -- H10
set_option maxHeartbeats 1000000
namespace Nb
open PySem PySem.Spec PyProof.Rows L2
def qW : Str := "_law_wrong.<locals>.<lambda>"
theorem sc146 : FnScope ["_law_store_here", "_law_width", "_law_rounds", "_law_ladder", "_law_paper", "_law_stops", "_law_row", "_law_cut", "_law_text", "_law_at", "_law_bad", "_law_unlike_here", "_law_plan", "_law_texts", "_law_none", "_law_most", "_law_far", "_law_wide"]
    ["_law_store_here", "_law_width", "_law_rounds", "_law_ladder", "_law_paper", "_law_stops"] (defScope (top 146)) := ⟨rfl, rfl, rfl, by decide +kernel, rfl, by decide +kernel, by decide +kernel⟩
/-- all that the exceptions' part leans on -/
structure ExcAll (K : PySem.W.Frag) (mg : Str → Option Value) (Cn Cm Cc Cr : Addr) : Prop where
  tn : ExcN K mg "BadNumber" Cn
  tm : ExcN K mg "Mismatch" Cm
  tc : CntT K mg Cc
  tr : RowT K mg Cr
  xn : XcT K mg "BadNumber" Cn
  xm : XcT K mg "Mismatch" Cm
  xc : XcT K mg "BadCount" Cc
  xr : XcT K mg "BadRow" Cr
  hc : PySem.W.hasDictIn K Cc = true
  hr : PySem.W.hasDictIn K Cr = true
theorem BadC.scl {lo hi : Int} {v : V} (h : BadC lo hi v) : Scl v := by cases h <;> constructor
theorem log_w {w : Nat} (h : W15 w) : (((w : Nat) : Int).natAbs).log2 < 1920 := by
  have : w = 1 ∨ w = 2 ∨ w = 3 ∨ w = 4 ∨ w = 5 := by have := h.1; have := h.2; omega
  rcases this with rfl | rfl | rfl | rfl | rfl <;> decide
def r1F (r : Nat) : Nat := if 0 < r then r - 1 else 1
theorem r1_eq (r : Nat) : ((r : Int) + 1 - 2 * (if decide ((0 : Int) < (r : Int)) then 1 else 0)) = ((r1F r : Nat) : Int) := by
  unfold r1F
  by_cases h : 0 < r
  · rw [if_pos h, if_pos (decide_eq_true (by omega))]; omega
  · rw [if_neg h, if_neg (by rw [decide_eq_false (by omega)]; decide)]; omega
theorem hasw_r1 {w r : Nat} (h : Hasw w r) : Hasw w (r1F r) := by
  refine ⟨h.1, ?_⟩
  have h2 := h.2
  have h3 : 3 ≤ mostR w := by
    have : w = 1 ∨ w = 2 ∨ w = 3 ∨ w = 4 ∨ w = 5 := by have := h.1.1; have := h.1.2; omega
    rcases this with rfl | rfl | rfl | rfl | rfl <;> decide
  unfold r1F
  split <;> omega
def w2F (w : Nat) : Nat := 1 + w % 5
theorem w2_ne {w : Nat} (h : W15 w) : w2F w ≠ w := by
  have : w = 1 ∨ w = 2 ∨ w = 3 ∨ w = 4 ∨ w = 5 := by have := h.1; have := h.2; omega
  rcases this with rfl | rfl | rfl | rfl | rfl <;> decide
def r2F (r : Nat) : Nat := if 3 < r then 3 else r
theorem hasw_w2 {w r : Nat} (h : W15 w) : Hasw (w2F w) (r2F r) := by
  have h1 : W15 (w2F w) := by unfold w2F; exact ⟨by omega, by omega⟩
  refine ⟨h1, ?_⟩
  have h3 : 3 ≤ mostR (w2F w) := by
    have : w2F w = 1 ∨ w2F w = 2 ∨ w2F w = 3 ∨ w2F w = 4 ∨ w2F w = 5 := by have := h1.1; have := h1.2; omega
    rcases this with h | h | h | h | h <;> rw [h] <;> decide
  unfold r2F
  split <;> omega
theorem most_at {w : Nat} (h : W15 w) : atI (α := Ty) [tI 8, tI 8, tI 5, tI 4, tI 3] ((w : Int) - 1) = some (tI ((mostR w : Nat) : Int)) := by
  have : w = 1 ∨ w = 2 ∨ w = 3 ∨ w = 4 ∨ w = 5 := by have := h.1; have := h.2; omega
  rcases this with rfl | rfl | rfl | rfl | rfl <;> rfl
theorem mostR_le8 {w : Nat} (h : W15 w) : mostR w ≤ 8 := mostR_le
section
variable {K : PySem.W.Frag} {mg : Str → Option Value} {base : Heap} {P : Program} {w : World} {Ct Cp Cn Cm Cc Cr cu Pu cw Pw : Addr} {T : TT}
theorem ok_wrong (Tx : Txt K mg) (BT : TabT K mg Ct) (BP : PlanT K mg Cp) (X : ExcAll K mg Cn Cm Cc Cr) (DU : DefC K mg "_law_unlike" (top 145) cu) (TBU : LamX.TabB base mg cu Pu) (hPU : (Pu, qU) ∈ T) (huU : ∀ t ∈ T, t.1 = Pu → t.2 = qU)
    (DW : DefC K mg "_law_wrong" (top 146) cw) (TBW : LamX.TabB base mg cw Pw) (hPW : (Pw, qW) ∈ T) (huW : ∀ t ∈ T, t.1 = Pw → t.2 = qW) :
    Ok P w K mg base 12 "_law_wrong" ["_law_store_here", "_law_width", "_law_rounds", "_law_ladder", "_law_paper", "_law_stops"] (WrSp T (fun d : Drw => [tI (d.w : Nat), tI (d.r : Nat), tLad K Ct d.w d.r d.c, tPaper K Cp (d.w, d.r, d.c), tLst (d.ss.map tS)]) (fun d => Dt d.w d.r d.c ∧ StOk d.w d.r d.ss ∧ d.ss.length ≤ 2000)) := by
  refine DW.okW T sc146 (fun _ => rfl) (fun _ _ _ _ _ _ us hl => match us, hl with | [_, _, _, _, _, _], _ => rfl) fun f A outer s H E M p hp hm z hne hr hz => ?_
  obtain ⟨w', r, cc, s0, s1, ss⟩ := z
  obtain ⟨d, st, hss⟩ := hz
  replace d : Dt w' r cc := d
  replace st : StOk w' r ss := st
  replace hss : ss.length ≤ 2000 := hss
  have hw := d.hw
  have w5 := hw.1
  have r8 := hw.r8
  have hsf := stop_few (c := cc) hw
  have stF := stopF_ok (c := cc) hw
  obtain ⟨f1, f2⟩ := fold_big d
  have hpap : tPaper K Cp (w', r, cc) = tPap K Cp (foldOf (w', r, cc)) w' r (pouF (w', r, cc)) (eveF (w', r, cc)) (stopF (w', r, cc)) := rfl
  generalize hF : foldOf (w', r, cc) = F at f1 f2 hpap
  have bF : Big F := f2.big (f1.dvd DM_DD) (by decide)
  have tk : ∀ n : Nat, 1 ≤ n → tBelow (if n < 2 then (1 : Int) else (n : Int)) = tBelow (n : Int) := fun n h => congrArg tBelow (by split <;> omega)
  have SC := wt_S (H := H) (M := M) (p := p) (T := T) (hp := hp) (hm := hm) hne
  have TC := wt_T (H := H) (M := M) (p := p) (T := T) (hp := hp) (hm := hm) hne
  show PB _ _ [some (tR p), some (tI (w' : Nat)), some (tI (r : Nat)), some (tLad K Ct w' r cc), some (tPaper K Cp (w', r, cc)), some (tLst (ss.map tS)), none, none, none, none, none, none, none, none, none, none, none, none] _ _ _
  rw [hpap]
  -- the row, the cut
  refine pletEx sc146.nd 6 (px_draw (ok_free Tx) SC (w', r) rfl hr (pxs_cons (va 0 rfl) (pxs_cons ((px_slS px_str pox_none (pox_some (va 1 rfl)) (few rfl)).cast (congrArg tS (lets_cut w5.1 w5.2))) (pxs_cons (va 2 rfl) pxs_nil))) ⟨w5, by show r ≤ 100; omega⟩) fun ds hds => ?_
  have hdl : (tx ds).length = r := by rw [tx_len]; exact hds.1
  refine pletEx sc146.nd 7 (px_draw (ok_take Tx) SC (r + 1) (tk (r + 1) (Nat.le_add_left 1 r)) hr (pxs_cons (va 0 rfl) (pxs_cons ((px_add (va 2 rfl) px_int).cast (congrArg tI (by omega : ((r : Nat) : Int) + 1 = ((r + 1 : Nat) : Int)))) pxs_nil)) (show r + 1 < 1000000 by omega)) fun cut hcut => ?_
  have l1 := cutS_length (tx ds) none (some cut)
  have l2 := cutS_length (tx ds) (some (cut + 1)) none
  rw [hdl] at l1 l2
  obtain ⟨sw1, sw2⟩ := str_w w5
  refine pletEx (P := Wrg w' r) (T := tS) sc146.nd 8 (px_ixW (Ts := [tS (tx ds), tS (toString ((w' : Nat) : Int)), tS "-", tS (tx ds ++ "0"), tS (cutS (tx ds) none (some cut) ++ toString ((w' : Nat) : Int) ++ cutS (tx ds) (some (cut + 1)) none)]) (n := (5 : Nat)) rfl
    (px_lst (pxs_cons (va 6 rfl) (pxs_cons (px_strI Tx.f_str (va 1 rfl) (log_w w5)) (pxs_cons px_str (pxs_cons (px_addS (va 6 rfl) px_str (few (by rw [hdl]; exact Nat.ble_eq_true_of_le (by show r + 1 ≤ 100000; omega))))
      (pxs_cons (px_addS (px_addS (px_slS (va 6 rfl) pox_none (pox_some (va 7 rfl)) (few (by rw [hdl]; exact Nat.ble_eq_true_of_le (by omega)))) (px_strI Tx.f_str (va 1 rfl) (log_w w5)) (few (Nat.ble_eq_true_of_le (by omega)))) (px_slS (va 6 rfl) (pox_some (px_add (va 7 rfl) px_int)) pox_none (few (by rw [hdl]; exact Nat.ble_eq_true_of_le (by omega)))) (few (Nat.ble_eq_true_of_le (by rw [len_app]; omega)))) pxs_nil))))))
    (px_take (ok_take Tx) SC 5 (by decide) (by decide) hr (va 0 rfl) px_int) (fun U hU H v hv => ?_)) fun t ht => ?_
  · simp only [List.mem_cons, List.not_mem_nil, or_false] at hU
    rcases hU with rfl | rfl | rfl | rfl | rfl
    · exact ⟨_, wrg_long (by omega) (by omega), hv⟩
    · exact ⟨_, wrg_only sw1 (by omega), hv⟩
    · exact ⟨_, wrg_only (dash_w w5) (by decide), hv⟩
    · exact ⟨_, wrg_long (by rw [len_app]; omega) (by rw [len_app, hdl]; show r + 1 ≤ 1000; omega), hv⟩
    · exact ⟨_, wrg_mid w5 (by omega) (by omega), hv⟩
  -- the wrong texts
  refine pletEx sc146.nd 9 (px_draw (ok_take Tx) SC (ss.length + 1) (tk (ss.length + 1) (Nat.le_add_left 1 _)) hr (pxs_cons (va 0 rfl) (pxs_cons ((px_add (px_lenL Tx.f_len (va 5 rfl)) px_int).cast (congrArg tI (by rw [List.length_map]; omega : (((ss.map tS).length : Nat) : Int) + 1 = ((ss.length + 1 : Nat) : Int)))) pxs_nil)) (show ss.length + 1 < 1000000 by omega)) fun at_ hat => ?_
  obtain ⟨n, rfl⟩ : ∃ n : Nat, at_ = (n : Int) := ⟨at_.toNat, by omega⟩
  have hn : n ≤ ss.length := by omega
  have hnm : n ≤ (ss.map tS).length := by rw [List.length_map]; exact hn
  refine pletEx (P := fun bs : List Str => BadSt w' r bs t ∧ bs.length ≤ 10000) (T := fun bs => tLst (bs.map tS)) sc146.nd 10 (px_op op_cat (T := tLst ((ss.take n ++ [t] ++ ss.drop n).map tS)) (U := tEx (fun ys : List Str => ys.length ≤ 1 ∧ ∀ s ∈ ys, s.length ≤ 1000000) fun ys => tLst (ys.map tS))
    (r2_exR fun ys hys => (cat_ok (by simp only [List.length_map, List.length_append, List.length_take, List.length_drop, List.length_cons, List.length_nil]; omega)).post fun H v h => ⟨ss.take n ++ [t] ++ ss.drop n ++ ys, ⟨bad_of st hn ht hys.2, by simp only [List.length_append, List.length_take, List.length_drop, List.length_cons, List.length_nil]; omega⟩, by
      show (tLst (List.map tS (ss.take n ++ [t] ++ ss.drop n ++ ys))).P H v
      rw [List.map_append]; exact h⟩)
    ((px_cat (px_cat ((px_slL (va 5 rfl) pox_none (pox_some (va 9 rfl))).cast (by rw [cut_take hnm, ← List.map_take])) (px_lst (Ts := [t].map tS) (pxs_cons (va 8 rfl) pxs_nil)) (by simp only [List.length_map, List.length_take, List.length_cons, List.length_nil]; omega)) ((px_slL (va 5 rfl) (pox_some (va 9 rfl)) pox_none).cast (by rw [cut_drop hnm, ← List.map_drop])) (by simp only [List.length_append, List.length_map, List.length_take, List.length_drop, List.length_cons, List.length_nil]; omega)).cast (by rw [List.map_append, List.map_append]))
    (px_ixW (Ts := [tLst (([] : List Str).map tS), tLst ((["y"] : List Str).map tS)]) (n := (2 : Nat)) rfl (px_lst (pxs_cons (px_lst pxs_nil) (pxs_cons (px_lst (pxs_cons px_str pxs_nil)) pxs_nil))) (px_take (ok_take Tx) SC 2 (by decide) (by decide) hr (va 0 rfl) px_int) (fun U hU H v hv => ?_))) fun bs hbs => ?_
  · simp only [List.mem_cons, List.not_mem_nil, or_false] at hU
    rcases hU with rfl | rfl
    · exact ⟨[], ⟨by decide, fun s h => (List.not_mem_nil h).elim⟩, hv⟩
    · exact ⟨["y"], ⟨by decide, fun s h => by rw [List.mem_singleton.mp h]; decide⟩, hv⟩
  obtain ⟨hbs, hbl⟩ := hbs
  have hba := hbs.all
  -- Plans of another shape
  refine plet sc146.nd 11 (px_call (ok_even_plan Tx BP) (w', r1F r) rfl hr (pxs_cons (va 1 rfl) (pxs_cons ((px_sub (px_add (va 2 rfl) px_int) (px_mul px_int (px_toIntB Tx.f_int boot_int (px_gt (va 2 rfl) px_int)) (.inl (by decide)))).cast (congrArg tI (r1_eq r))) pxs_nil)) (hasw_r1 hw)) ?_
  have hr1 : r1F r ≠ r := by unfold r1F; split <;> omega
  refine pb_forN (j := 12) (l := [((w', r1F r, evS w' (off w' (r1F r))) : PD), (w2F w', r2F r, evS (w2F w') (off (w2F w') (r2F r)))]) (tA := fun z : PD => tPlan K Cp z.1 z.2.1 z.2.2) PassesOwn.never rfl
    (pix_list (px_lst (Ts := [tPlan K Cp w' (r1F r) (evS w' (off w' (r1F r))), tPlan K Cp (w2F w') (r2F r) (evS (w2F w') (off (w2F w') (r2F r)))]) (pxs_cons (va 11 rfl) (pxs_cons (px_call (ok_even_plan Tx BP) (w2F w', r2F r) rfl hr (pxs_cons ((px_add px_int (px_mod (px_toInt Tx.f_int boot_int (va 1 rfl)) px_int (by decide))).cast (congrArg tI (by unfold w2F; omega : (1 : Int) + ((w' : Nat) : Int) % 5 = ((w2F w' : Nat) : Int))))
      (pxs_cons ((px_min rfl Tx.f_min boot_min (va 2 rfl) px_int).cast (congrArg tI (by unfold r2F; by_cases h : 3 < r <;> simp [h] <;> omega : (if (3 : Int) < ((r : Nat) : Int) then (3 : Int) else ((r : Nat) : Int)) = ((r2F r : Nat) : Int)))) pxs_nil)) (hasw_w2 w5)) pxs_nil))))
    (fun _ => HC.wt H M p T hp hm) (fun _ => [some (tR p), some (tI (w' : Nat)), some (tI (r : Nat)), some (tLad K Ct w' r cc), some (tPap K Cp F w' r (pouF (w', r, cc)) (eveF (w', r, cc)) (stopF (w', r, cc))), some (tLst (ss.map tS)), none, none, some (tS t), none, some (tLst (bs.map tS)), some (tPlan K Cp w' (r1F r) (evS w' (off w' (r1F r)))), none, none, none, none, none, none]) sc146.nd rfl (.inl rfl) (fun _ => rfl)
    (fun _ _ h => h.imp (gi_keep (gi_keep (gi_keep (gi_keep (gi_keep (gi_keep (gi_drop (gi_drop (gi_keep (gi_drop (gi_keep (gi_keep (gi_keep (gi_keep (gi_keep (gi_keep (gi_keep (gi_keep gi_nil))))))))))))))))))) (fun i z hz => ?_) ?_
  · have hzz : ¬ (z.1 = w' ∧ z.2.1 = r) ∧ Hasw z.1 z.2.1 := by
      have hm := List.mem_of_getElem? hz
      simp only [List.mem_cons, List.not_mem_nil, or_false] at hm
      rcases hm with rfl | rfl
      · exact ⟨fun h => hr1 h.2, hasw_r1 hw⟩
      · exact ⟨fun h => w2_ne w5 h.1, hasw_w2 w5⟩
    exact pb_guard (x := false) (pxt_not (x := true) (pxt_val (px_callT (ok_unlike Tx BT BP X.xm X.tm DU TBU hPU huU) TC ((w', r, cc), z) rfl hr (pxs_cons (va 3 rfl) (pxs_cons ((va (T := tPap K Cp F w' r (pouF (w', r, cc)) (eveF (w', r, cc)) (stopF (w', r, cc))) 4 rfl).cast hpap.symm) (pxs_cons (va 12 rfl) pxs_nil))) ⟨d, hzz.1, hzz.2⟩))) (fun h => nomatch h) fun _ =>
      pb_endI (gi_keep (gi_keep (gi_keep (gi_keep (gi_keep (gi_keep (gi_keep (gi_keep (gi_keep (gi_keep (gi_keep (gi_keep (gi_drop (gi_keep (gi_keep (gi_keep (gi_keep (gi_keep gi_nil))))))))))))))))))
  -- papers with wrong texts
  have hsl : (stopF (w', r, cc)).length ≤ 511 := hsf
  have ht1 : innB w' r t = false := ht.1
  refine pb_forN (j := 13) (l := [stopF (w', r, cc) ++ [t], [t] ++ stopF (w', r, cc), bs]) (tA := fun l : List Str => tLst (l.map tS)) PassesOwn.never rfl
    (pix_list (px_lst (Ts := [tLst ((stopF (w', r, cc) ++ [t]).map tS), tLst (([t] ++ stopF (w', r, cc)).map tS), tLst (bs.map tS)]) (pxs_cons ((px_cat (px_ixT (T := tLst ((stopF (w', r, cc)).map tS)) (va 4 rfl) px_int rfl) (px_lst (Ts := [t].map tS) (pxs_cons (va 8 rfl) pxs_nil)) (by simp only [List.length_map, List.length_cons, List.length_nil]; omega)).cast (by rw [List.map_append]))
      (pxs_cons ((px_cat (px_lst (Ts := [t].map tS) (pxs_cons (va 8 rfl) pxs_nil)) (px_ixT (T := tLst ((stopF (w', r, cc)).map tS)) (va 4 rfl) px_int rfl) (by simp only [List.length_map, List.length_cons, List.length_nil]; omega)).cast (by rw [List.map_append])) (pxs_cons (va 10 rfl) pxs_nil)))))
    (fun _ => HC.wt H M p T hp hm) (fun _ => [some (tR p), some (tI (w' : Nat)), some (tI (r : Nat)), some (tLad K Ct w' r cc), some (tPap K Cp F w' r (pouF (w', r, cc)) (eveF (w', r, cc)) (stopF (w', r, cc))), some (tLst (ss.map tS)), none, none, some (tS t), none, some (tLst (bs.map tS)), some (tPlan K Cp w' (r1F r) (evS w' (off w' (r1F r)))), none, none, none, none, none, none]) sc146.nd rfl (.inl rfl) (fun _ => rfl) (fun _ _ h => h) (fun i l hl => ?_) ?_
  · have hll : l.all (innB w' r) = false ∧ l.length ≤ 10000 ∧ ∀ s ∈ l, s.length ≤ 1000000 := by
      have hm := List.mem_of_getElem? hl
      have h1 : ∀ s ∈ [t], s.length ≤ 1000000 := fun s h => by rw [List.mem_singleton.mp h]; exact Nat.le_trans ht.2 (by decide)
      simp only [List.mem_cons, List.not_mem_nil, or_false] at hm
      rcases hm with rfl | rfl | rfl
      · exact ⟨List.all_eq_false.mpr ⟨t, by simp, by rw [ht1]; decide⟩, by simp only [List.length_append, List.length_cons, List.length_nil]; omega, fun s h => (List.mem_append.mp h).elim (stLen stF s) (h1 s)⟩
      · exact ⟨List.all_eq_false.mpr ⟨t, by simp, by rw [ht1]; decide⟩, by simp only [List.length_append, List.length_cons, List.length_nil]; omega, fun s h => (List.mem_append.mp h).elim (h1 s) (stLen stF s)⟩
      · exact ⟨hba, hbl, hbs.len⟩
    exact pb_guard (x := false) (pxt_not (x := true) (sameB' Tx (x := false) hr (by decide) ((px_call (ok_is_paper Tx BT BP) ((w', r, cc), ⟨F, w', r, pouF (w', r, cc), w', r, eveF (w', r, cc), l⟩) rfl hr (pxs_cons (va 3 rfl) (pxs_cons (px_tup (pxs_cons ((px_ixT (T := tQ K F) (va 4 rfl) px_int rfl).num bF.sz) (pxs_cons (px_ixT (T := tPlan K Cp w' r (pouF (w', r, cc))) (va 4 rfl) px_int rfl) (pxs_cons (px_ixT (T := tPlan K Cp w' r (eveF (w', r, cc))) (va 4 rfl) px_int rfl) (pxs_cons (va (T := tLst (l.map tS)) 13 rfl).seqL pxs_nil))))) pxs_nil)) (judgeOk_bad d.lad hll.1 bF.sz hll.2.1 hll.2.2)).cast (congrArg tB (judge_bad hll.1))) px_bl)) (fun h => nomatch h) fun _ =>
      pb_endI (gi_keep (gi_keep (gi_keep (gi_keep (gi_keep (gi_keep (gi_keep (gi_keep (gi_keep (gi_keep (gi_keep (gi_keep (gi_keep (gi_drop (gi_keep (gi_keep (gi_keep (gi_keep gi_nil))))))))))))))))))
  -- no number
  refine pletEx (P := NoNum.ok) (T := fun q => q.ty K) sc146.nd 14 (px_ixW (Ts := [tN, tB true, tS "1", tTup K [tI 1, tI 0]]) (n := (4 : Nat)) rfl (px_lst (pxs_cons px_non (pxs_cons px_bl (pxs_cons px_str (pxs_cons (px_tup (pxs_cons px_int (pxs_cons px_int pxs_nil))) pxs_nil))))) (px_take (ok_take Tx) SC 4 (by decide) (by decide) hr (va 0 rfl) px_int) (fun U hU H v hv => ?_)) fun q hq => ?_
  · simp only [List.mem_cons, List.not_mem_nil, or_false] at hU
    rcases hU with rfl | rfl | rfl | rfl
    · exact ⟨.non, trivial, hv⟩
    · exact ⟨.bl true, trivial, hv⟩
    · exact ⟨.str "1", trivial, hv⟩
    · exact ⟨.pr 1 0, (by decide : (0 : Int) < 1), hv⟩
  refine pb_guard (x := false) (pxt_not (x := true) (pxt_val ?_)) (fun h => nomatch h) fun _ => ?_
  · refine px_denied Tx X.xn (suite_num Tx X.xn) TC hPW huW TBW rfl rfl (LamX.lamS_by (sc := defScope (top 146)) (by decide +kernel)) hr (by decide) ?_ (px_tup (pxs_cons px_str pxs_nil))
    intro A outer s H E f c' H0 M hr8 hE
    exact px_callL (ok_paperR Tx BT X.tn) ((w', r, cc), q) rfl hE hr8 (pxs_cons (va 3 rfl) (pxs_cons (px_tup (Ts := [q.ty K, tAny, tAny, tAny]) (pxs_cons (va 14 rfl) (pxs_cons (va (T := tPlan K Cp w' (r1F r) (evS w' (off w' (r1F r)))) 11 rfl).any (pxs_cons (px_ixT (T := tPlan K Cp w' r (eveF (w', r, cc))) (va 4 rfl) px_int rfl).any (pxs_cons (va (T := tLst (bs.map tS)) 10 rfl).any pxs_nil))))) pxs_nil)) ⟨d.lad, hq⟩
  -- wrong counts
  refine plet sc146.nd 15 (px_ixL (px_lst (pxs_cons px_int (pxs_cons px_int (pxs_cons px_int (pxs_cons px_int (pxs_cons px_int pxs_nil)))))) (px_sub (va 1 rfl) px_int) (most_at w5)) ?_
  have m8 := mostR_le8 w5
  refine pletEx (P := BadC 0 ((mostR w' : Nat) : Int)) (T := tC) sc146.nd 16 (px_ixW (Ts := [tI (0 - 1), tI (((mostR w' : Nat) : Int) + 1), tB true, tI (10 ^ (40 : Int).toNat - 1)]) (n := (4 : Nat)) rfl (px_lst (pxs_cons (px_sub px_int px_int) (pxs_cons (px_add (va 15 rfl) px_int) (pxs_cons px_bl (pxs_cons (px_sub (px_pow (px_int (i := 10)) (px_int (i := 40)) ⟨by decide, by decide, by decide⟩) px_int) pxs_nil))))) (px_take (ok_take Tx) SC 4 (by decide) (by decide) hr (va 0 rfl) px_int) (fun U hU H v hv => ?_)) fun far hfar => ?_
  · simp only [List.mem_cons, List.not_mem_nil, or_false] at hU
    rcases hU with rfl | rfl | rfl | rfl
    · exact ⟨_, .lo _ (by decide), hv⟩
    · exact ⟨_, .hi _ (by omega), hv⟩
    · exact ⟨_, .bl true, hv⟩
    · exact ⟨_, .hi _ (Int.lt_of_le_of_lt (Int.ofNat_le.mpr m8) (by decide +kernel)), hv⟩
  refine pletEx (P := BadC 1 5) (T := tC) sc146.nd 17 (px_ixW (Ts := [tI 0, tI 6, tB false, tI (0 - 7)]) (n := (4 : Nat)) rfl (px_lst (pxs_cons px_int (pxs_cons px_int (pxs_cons px_bl (pxs_cons (px_sub px_int px_int) pxs_nil))))) (px_take (ok_take Tx) SC 4 (by decide) (by decide) hr (va 0 rfl) px_int) (fun U hU H v hv => ?_)) fun wide hwide => ?_
  · simp only [List.mem_cons, List.not_mem_nil, or_false] at hU
    rcases hU with rfl | rfl | rfl | rfl
    · exact ⟨_, .lo _ (by decide), hv⟩
    · exact ⟨_, .hi _ (by decide), hv⟩
    · exact ⟨_, .bl false, hv⟩
    · exact ⟨_, .lo _ (by decide), hv⟩
  refine pb_guard (x := false) (pxt_not (x := true) (pxt_val ?_)) (fun h => nomatch h) fun _ => ?_
  · refine px_denied Tx X.xc (suite_cnt (v := far) (lo := 0) (hi := ((mostR w' : Nat) : Int)) Tx X.xc X.tc X.hc hfar.scl) TC hPW huW TBW rfl rfl (LamX.lamS_by (sc := defScope (top 146)) (by decide +kernel)) hr (by decide) ?_ (px_tup (pxs_cons px_str (pxs_cons (va 16 rfl) (pxs_cons px_int (pxs_cons (va 15 rfl) pxs_nil)))))
    intro A outer s H E f c' H0 M hr8 hE
    exact px_callNL (ok_endR Tx X.tc) (far, w') rfl hE hr8 (pxs_cons (va (T := tLst (bs.map tS)) 10 rfl).any (pxs_cons (va 16 rfl) pxs_nil)) (px_kw1 (va 1 rfl)) rfl ⟨w5, hfar⟩
  refine pb_guard (x := false) (pxt_not (x := true) (pxt_val ?_)) (fun h => nomatch h) fun _ => ?_
  · refine px_denied Tx X.xc (suite_cnt (v := wide) (lo := 1) (hi := 5) Tx X.xc X.tc X.hc hwide.scl) TC hPW huW TBW rfl rfl (LamX.lamS_by (sc := defScope (top 146)) (by decide +kernel)) hr (by decide) ?_ (px_tup (pxs_cons px_str (pxs_cons (va 17 rfl) (pxs_cons px_int (pxs_cons px_int pxs_nil)))))
    intro A outer s H E f c' H0 M hr8 hE
    exact px_callNL (ok_endW Tx X.tc) (far, wide) rfl hE hr8 (pxs_cons (va (T := tLst (bs.map tS)) 10 rfl).any (pxs_cons (va 16 rfl) pxs_nil)) (px_kw1 (va 17 rfl)) rfl hwide
  refine pb_guard (x := false) (pxt_not (x := true) (pxt_val ?_)) (fun h => nomatch h) fun _ => ?_
  · refine px_denied Tx X.xr (suite_row (t := t) Tx X.xr X.tr X.hr) TC hPW huW TBW rfl rfl (LamX.lamS_by (sc := defScope (top 146)) (by decide +kernel)) hr (by decide) ?_ (px_tup (pxs_cons px_str (pxs_cons (va 8 rfl) pxs_nil)))
    intro A outer s H E f c' H0 M hr8 hE
    exact px_callNL (ok_endS Tx X.tr) (bs, r, w', t) rfl hE hr8 (pxs_cons (va (T := tLst (bs.map tS)) 10 rfl).seqL (pxs_cons (va 2 rfl) pxs_nil)) (px_kw1 (va 1 rfl)) rfl hbs
  refine pb_guard (x := false) (pxt_not (x := true) (pxt_val ?_)) (fun h => nomatch h) fun _ => pb_ret (T := tB true) ?_ fun v H b h => h
  · refine px_denied Tx X.xr (suite_row (t := t) Tx X.xr X.tr X.hr) TC hPW huW TBW rfl rfl (LamX.lamS_by (sc := defScope (top 146)) (by decide +kernel)) hr (by decide) ?_ (px_tup (pxs_cons px_str (pxs_cons (va 8 rfl) pxs_nil)))
    intro A outer s H E f c' H0 M hr8 hE
    exact px_callL (ok_smissR Tx BP X.tr) ((w', r, eveF (w', r, cc)), bs, t) rfl hE hr8 (pxs_cons (px_ixT (T := tPlan K Cp w' r (eveF (w', r, cc))) (va 4 rfl) px_int rfl) (pxs_cons (va (T := tLst (bs.map tS)) 10 rfl).seqL pxs_nil)) hbs
  · refine px_denied Tx X.xr (suite_row (t := t) Tx X.xr X.tr X.hr) TC hPW huW TBW rfl rfl (LamX.lamS_by (sc := defScope (top 146)) (by decide +kernel)) hr (by decide) ?_ (px_tup (pxs_cons px_str (pxs_cons (va 8 rfl) pxs_nil)))
    intro A outer s H E f c' H0 M hr8 hE
    exact px_callL (ok_smeanR Tx BP X.tr) ((w', r, eveF (w', r, cc)), bs, t) rfl hE hr8 (pxs_cons (px_ixT (T := tPlan K Cp w' r (eveF (w', r, cc))) (va 4 rfl) px_int rfl) (pxs_cons (va (T := tLst (bs.map tS)) 10 rfl).seqL (pxs_cons (px_lst (Ts := []) pxs_nil).any pxs_nil))) hbs
end
end Nb
end -- H10
section -- H11
set_option maxHeartbeats 1000000
namespace Nb
open PySem PySem.Spec PyProof.Rows L2
/-- the script -/
def tScr (K : PySem.W.Frag) (ns : List Int) : Ty := ⟨fun H v => ∃ a, v = .ref a ∧ SqL K H a (ns.map V.int), fun e ⟨a, h1, h2⟩ => ⟨a, h1, sqL_ex e h2⟩⟩
section
variable {X : Cx} {C : HC} {G : Env} {e tg : Expr} {pos p : Pos} {ns : List Int}
theorem px_lenScr (hm : X.mg "len" = none) (ha : PX X C G e (tScr X.K ns)) (hg : Gl X "len" := by rfl) (he : starEach [e] X.env = (false, eval e X.env) :: starEach [] X.env := by rfl) : PX X C G (.Call (.Name "len" p) [e] [] pos) (tI (ns.length : Nat)) :=
  px_callB (Ts := [tScr X.K ns]) call_len_seq (fun H vs Q bs h q => by
    match vs, h with
    | [_], .cons ⟨a, e1, h2⟩ .nil =>
      subst e1
      exact ⟨a, ns.map V.int, rfl, .inl (sqL_ex hid_le h2), q _ H (Ex.refl H) (by rw [List.length_map]; rfl)⟩) hm PySem.boot_len (pxs_cons ha pxs_nil he) hg (he := he)
theorem pix_scr (h : PX X C G e (tScr X.K ns)) : PIX X C G tg e (ns.map tI) := PI.imp (pi_list h) fun σ H R ⟨ok, q⟩ => ⟨ok, fun v H1 x1 e1 ⟨a, h1, h2⟩ => ⟨a, h1, ⟨_, sqL_ex hid_le h2⟩, q _ H1 x1 e1 fun M H' e _ i => by
  have sq : SqL X.K H' a (ns.map V.int) := sqL_ex hid_le (sqL_ex e h2)
  refine ⟨fun U hU => ?_, fun hl => ⟨_, sq, by rw [List.length_map] at hl ⊢; omega⟩⟩
  rw [List.getElem?_map] at hU
  cases z : ns[i]? with
  | none => rw [z] at hU; cases hU
  | some k =>
    rw [z] at hU
    obtain rfl : tI k = U := Option.some.inj hU
    have at_ : (ns.map V.int)[i]? = some (V.int k) := by rw [List.getElem?_map, z]; rfl
    refine ⟨⟨_, _, sq, at_⟩, fun y H'' ⟨hy, f⟩ => ?_⟩
    subst hy
    have g := f _ sq
    rw [at_] at g
    exact ⟨Ex.refl _, (Option.some.inj g).symm⟩⟩⟩
theorem TyAll.mapImpM {D : Hp} {α : Type} {f g : α → Ty} : ∀ {l : List α} {xs : List V}, (∀ a ∈ l, ∀ H v, (f a).P H v → (g a).P H v) → TyAll D xs (l.map f) → TyAll D xs (l.map g)
  | [], _, _, .nil => .nil
  | b :: l, _, h, .cons a t => .cons (h b List.mem_cons_self _ _ a) (TyAll.mapImpM (fun a ha => h a (List.mem_cons_of_mem _ ha)) t)
theorem PX.shs {shs : List (List Rat)} (h : PX X C G e (tShl X.K shs)) (hs : ∀ l ∈ shs, ∀ q ∈ l, Sz q) : PX X C G e (tShs X.K shs) := h.sub fun H v ⟨o, xs, e, h2, h3⟩ => ⟨o, xs, e, h2, TyAll.mapImpM (f := fun l => tLst (List.map (tQ X.K) l)) (g := fun l => tSeq X.K (List.map (tNum X.K) l)) (fun l hl _ _ ⟨a, ys, e1, e2, e3⟩ => .inl ⟨a, ys, e1, e2, TyAll.mapImpM (f := tQ X.K) (g := tNum X.K) (fun q hq _ _ h => .inr ⟨q.num, q.den, h, by have := q.den_pos; omega, (hs l hl q hq).1, by simpa using (hs l hl q hq).2, (Rat.num_divInt_den q).symm⟩) e3⟩) h3⟩
theorem PX.pair {α β : Type} {P : α → Prop} {Q : β → Prop} {T : α → Ty} {U : β → Ty} (h : PX X C G e (tLst [tEx P T, tEx Q U])) : PX X C G e (tEx (fun z : α × β => P z.1 ∧ Q z.2) fun z => tLst [T z.1, U z.2]) := h.sub fun H v ⟨o, xs, e, h2, h3⟩ => by
  match xs, h3 with
  | [_, _], .cons ⟨a, ha, ta⟩ (.cons ⟨b, hb, tb⟩ .nil) => exact ⟨(a, b), ⟨ha, hb⟩, o, _, e, h2, .cons ta (.cons tb .nil)⟩
end
/-- the tables beside a store of one's own -/
theorem TbC.str {C : HC} {T : TT} {o : Addr} (s : TbC C T) : TbC (C.str o) T where
  m t h := by
    show (t.1 == o || C.M t.1) = true
    rw [s.m t h, Bool.or_true]
  get h := ⟨(s.get h.1).1, fun a m => by
    by_cases z : a = o
    · obtain ⟨_, _, _, ns, h4, _⟩ := h
      exact .inl ⟨_, z ▸ h4⟩
    · have m' : (a == o || C.M a) = true := m
      rw [beq_eq_false_iff_ne.mpr z, Bool.false_or] at m'
      exact (s.get h.1).2 a m'⟩
  put := fun ⟨h1, h2, h3, ns, h4, h5⟩ k e d => ⟨s.put h1 k e d, h2, h3, ns, k o _ (fun t ht z => by rw [← z, s.m t ht] at h2; cases h2) h4, h5⟩
  old := s.old
section
variable {X : Cx} {C : HC} {G : Env} {e : Expr} {es : List Expr} {pos p2 p3 : Pos} {p : Addr} {T : TT} {Nx : NX} {Rt : RT}
theorem pb_retW {α : Type} {args : α → List Ty} {pre : α → Prop} {x : Str} {j k : Nat} {ps : List Str} (F : Ok X.prog X.w X.K X.mg X.base j x ps (WrSp T args pre)) (s : StC C p) (tc : TbC C T) (hne : ∀ t ∈ T, t.1 ≠ p) (z : α) (hr : Room k X.A) (ha : PXs X C G (e :: es) (tR p :: args z)) (hp : pre z) (hR : ∀ H, Rt (.bl true) H)
    (hj : j ≤ k := by decide) (hg : Gl X x := by rfl) (hdb : (x == ("__debug__" : Str)) = false := by decide) (he : starEach (e :: es) X.env = (false, eval e X.env) :: starEach es X.env := by rfl) (hpl : (backTo pos (starEach es X.env)).any (·.1) = false := by rfl) :
    PB X C G [.Return (some (.Call (.Name x p2) (e :: es) [] pos)) p3] Nx Rt := by
  obtain ⟨f, fd, hm, hk, hb, hF⟩ := F.ex
  refine PSs.imp (pss_one (ps_ret (pe_call (dvs := []) (E := E0) hF (hr.mono hj) hg hm hk hb .nil pass0 ha hdb he hpl))) fun D σ H ⟨ok, _, q2⟩ => ⟨ok, fun vs H1 x1 e1 p1 => ?_⟩
  show WrSp T args pre (vs ++ []) H1 _ E0
  rw [List.append_nil]
  obtain ⟨g1, g2⟩ := tc.get x1.base.om
  cases p1 with
  | cons p1 t => exact ⟨C.M, z, p, _, by rw [show _ = V.ref p from p1], s.m, tc.m, hne, s.get x1.base.om, g1, g2, t, hp, fun v H' e => by subst e; exact q2 _ H' (hR H')⟩
end
section
variable {K : PySem.W.Frag} {mg : Str → Option Value} {base : Heap} {P : Program} {w : World} {Ct Cp Cn Cm Cc Cr cu Pu cw Pw : Addr} {T : TT}
theorem ok_storeQ (Tx : Txt K mg) : Ok P w K mg base 1 "_law_store" ["_law_script"] (PurO (fun ns : List Int => [tScr K ns]) (fun ns => ns.length ≤ 1000) stL) := by
  refine Tx.d__law_store.okO sc108 (fun _ => rfl) (fun _ _ _ _ _ _ us hl => match us, hl with | [_], _ => rfl) fun f cdv A outer s H E C0 C ns hr x hn => ?_
  replace hn : ns.length ≤ 1000 := hn
  show PB _ C [some (tScr K ns), none] _ _ _
  refine pb_retO x ((pxo_cat (Us := ns.map tI) (px_lst (pxs_cons px_int (pxs_cons px_int (pxs_cons (px_add px_int (px_lenScr Tx.f_len (va 0 rfl))) (pxs_cons px_int (pxs_cons px_int pxs_nil)))))) (px_lcN (j := 1) (own := [("_law_cell", 1)]) (l := ns) (tA := tI) (E := tI) rfl sc108.nd (pix_scr (va 0 rfl)) (blkOk_by (by kernel_rfl)) (by decide) (by omega) (fun s H D cl fp d Vs a => nm sc108.nd 1)
    (fun s H D cl fp d Vs a _ _ => px_toInt Tx.f_int boot_int (va 1 rfl))) (by simp; omega)).cast ?_)
  show [tI 5, tI 0, tI (1 + ((ns.length : Nat) : Int)), tI 0, tI 0] ++ ns.map tI = _
  rfl
theorem sc147 : FnScope ["_law_script", "_law_store_here", "_law_shape", "_law_width", "_law_rounds", "_law_bounds_here", "_law_ladder", "_law_shares", "_law_stops", "_law_things", "_law_paper", "_law_size"] ["_law_script"] (defScope (top 147)) := ⟨rfl, rfl, rfl, by decide +kernel, rfl, by decide +kernel, by decide +kernel⟩
def spLaw (K : PySem.W.Frag) (T : TT) : Sp := fun vs H Q _ => ∃ (a : Addr) (ns : List Int), vs = [.ref a] ∧ SqL K H a (ns.map V.int) ∧ ns.length ≤ 63 ∧ (∀ t ∈ T, H t.1 = some (.tbl #[])) ∧ ∀ H', Q (.bl true) H'
theorem sqL_vis {M : Addr → Bool} {H : Hp} {a : Addr} {xs : List V} (hM : ∀ b, M b = true → ∃ ps, H b = some (.tbl ps)) (h : SqL K H a xs) : SqL K (hid M H) a xs := by
  have vis : ∀ {o : HO}, H a = some o → (∀ ps, o ≠ .tbl ps) → hid M H a = some o := fun {o} h1 h2 => hid_of (by
    cases z : M a with
    | false => rfl
    | true =>
      obtain ⟨ps, q⟩ := hM a z
      exact absurd (Option.some.inj (h1.symm.trans q)) (h2 ps)) h1
  rcases h with (h | ⟨o, h⟩) | h
  · exact .inl (.inl (vis h fun ps z => by cases z))
  · exact .inl (.inr ⟨o, vis h fun ps z => by cases z⟩)
  · exact .inr h
def r5F (r : Nat) : Nat := if 5 < r then 5 else r
theorem hasw_cap {w r : Nat} (h : (1 ≤ w ∧ w ≤ 5) ∧ r < capR w) : Hasw w (r5F r) ∧ r5F r ≤ 5 := by
  obtain ⟨⟨h1, h5⟩, h⟩ := h
  refine ⟨⟨⟨h1, h5⟩, ?_⟩, by unfold r5F; split <;> omega⟩
  have : w = 1 ∨ w = 2 ∨ w = 3 ∨ w = 4 ∨ w = 5 := by omega
  unfold r5F
  rcases this with rfl | rfl | rfl | rfl | rfl <;>
  · simp only [capR, mostR, List.getD_cons_succ, List.getD_cons_zero] at h ⊢
    split <;> simp_all <;> omega
end
end Nb
end -- H11
section -- H12
set_option maxHeartbeats 1000000
namespace Nb
open PySem PySem.Spec PyProof.Rows L2
section
variable {K : PySem.W.Frag} {mg : Str → Option Value} {base : Heap} {P : Program} {w : World} {Ct Cp Cn Cm Cc Cr cu Pu cw Pw : Addr} {T : TT}
theorem Big.szl {shs : List (List Rat)} {w n : Nat} (h : ShsL w n shs) : ∀ l ∈ shs, ∀ q ∈ l, Sz q := fun l hl q hq => (h.cho.big hl q hq).sz
theorem ok_law (Tx : Txt K mg) (BT : TabT K mg Ct) (BP : PlanT K mg Cp) (X : ExcAll K mg Cn Cm Cc Cr) (DU : DefC K mg "_law_unlike" (top 145) cu) (TBU : LamX.TabB base mg cu Pu) (hPU : (Pu, qU) ∈ T) (huU : ∀ t ∈ T, t.1 = Pu → t.2 = qU)
    (DW : DefC K mg "_law_wrong" (top 146) cw) (TBW : LamX.TabB base mg cw Pw) (hPW : (Pw, qW) ∈ T) (huW : ∀ t ∈ T, t.1 = Pw → t.2 = qW) {f : Addr} {fd : FuncData} (F : FunD K "law" "law" (defArgs (top 147)) (defBody (top 147)) (defScope (top 147)) [] [] f fd) :
    FnOk P w K mg base CX0 13 f fd ["_law_script"] (spLaw K T) := by
  refine FunD.ok F sc147 (fun vs H Q E ⟨a, ns, e, _⟩ => by rw [e]; rfl) (fun cdv A outer s H vs Q E hr ⟨a, ns, e, hsq, hn, hT, hQ⟩ => ?_)
  subst e
  have hm : ∀ t ∈ T, inT T t.1 = true := fun t ht => List.any_eq_true.mpr ⟨t, ht, beq_iff_eq.mpr rfl⟩
  have hM : ∀ b, inT T b = true → ∃ ps, H b = some (.tbl ps) := fun b hb => by
    obtain ⟨t, ht, rfl⟩ := inT_get hb
    exact ⟨_, hT t ht⟩
  have ok0 : EnvOk (HC.tb H (inT T) T hm) (startG 12 [tScr K ns]) (L2.start ["_law_script", "_law_store_here", "_law_shape", "_law_width", "_law_rounds", "_law_bounds_here", "_law_ladder", "_law_shares", "_law_stops", "_law_things", "_law_paper", "_law_size"] [.ref a]) H :=
    ⟨⟨fun a o _ e => e, fun b hb => let ⟨ps, h⟩ := hM b hb; ⟨_, h⟩, fun t ht => ⟨#[], hT t ht, trivial, fun pos cv h => by cases h⟩, fun b hb => .inr (hM b hb)⟩, start_env (.cons ⟨a, rfl, sqL_vis hM hsq⟩ .nil)⟩
  suffices hb : PB (cxOf CX0 P w K mg base ["_law_script", "_law_store_here", "_law_shape", "_law_width", "_law_rounds", "_law_bounds_here", "_law_ladder", "_law_shares", "_law_stops", "_law_things", "_law_paper", "_law_size"] "law" (defScope (top 147)) f cdv A outer s H E).nox (HC.tb H (inT T) T hm) (startG 12 [tScr K ns]) (defBody (top 147)) (fun _ _ => False) RtB from
    ⟨_, PSs.nox hb, ok0, fun σ' H' n _ => n.elim, fun v H' n => by subst n; exact hQ H'⟩
  show PB _ _ [some (tScr K ns), none, none, none, none, none, none, none, none, none, none, none] _ _ _
  refine pletO sc147.nd 1 (pxo_call (ok_storeQ Tx) ns rfl hr (pxs_cons (va 0 rfl) pxs_nil) (show ns.length ≤ 1000 by omega)) fun p => pb_tostr fun h0 => ?_
  have h0' : H p = none := h0
  have SC := str_C (C := HC.tb H (inT T) T hm) h0
  have TC := TbC.str (o := p) (tb_C (H := H) (M := inT T) (T := T) (hm := hm))
  have hne : ∀ t ∈ T, t.1 ≠ p := fun t ht z => by rw [← z, hT t ht] at h0'; cases h0'
  refine pletEx sc147.nd 2 (px_draw (ok_frame Tx) SC () rfl hr (pxs_cons (va 1 rfl) pxs_nil) trivial) fun z hz => ?_
  obtain ⟨w', r0⟩ := z
  replace hz : (1 ≤ w' ∧ w' ≤ 5) ∧ r0 < capR w' := hz
  obtain ⟨hw, h5⟩ := hasw_cap hz
  refine plet sc147.nd 3 (px_ixT (T := tI (w' : Nat)) (va (T := tTup K [tI (w' : Nat), tI (r0 : Nat)]) 2 rfl) px_int rfl) ?_
  refine plet sc147.nd 4 ((px_min rfl Tx.f_min boot_min (px_ixT (T := tI (r0 : Nat)) (va (T := tTup K [tI (w' : Nat), tI (r0 : Nat)]) 2 rfl) px_int rfl) px_int).cast (congrArg tI (by unfold r5F; by_cases h : 5 < r0 <;> simp [h] <;> omega : (if (5 : Int) < ((r0 : Nat) : Int) then (5 : Int) else ((r0 : Nat) : Int)) = ((r5F r0 : Nat) : Int)))) ?_
  generalize r5F r0 = r at hw h5
  have r8 := hw.r8
  refine pletEx sc147.nd 5 (px_draw (ok_bounds_l Tx) SC (w', r) rfl hr (pxs_cons (va 1 rfl) (pxs_cons (va 3 rfl) (pxs_cons (va 4 rfl) pxs_nil))) hw) fun cc hcc => ?_
  replace hcc : BndOk w' r cc := hcc
  have d : Dt w' r cc := ⟨hw, h5, hcc⟩
  have hbk : ∀ {k : Nat}, k < r + 1 → atI ((List.range (r + 1)).map fun k => tLst ((cc k).map (tQ K))) (k : Int) = some (tLst ((cc k).map (tQ K))) := fun {k} hk => atI_nat (by rw [List.getElem?_map, List.getElem?_range hk]; rfl)
  refine pb_let (i := 6) (set_lcN (j := 11) (own := [("_law_size", 11)]) (l := List.range (r + 1)) (tA := fun i => tI ((i : Nat) : Int)) (E := fun k => tTab K Ct w' k (cc k)) rfl sc147.nd rfl rfl (sw_true rfl rfl rfl (by decide +kernel)) (pix_range1 Tx.f_range ((px_add (va 4 rfl) px_int).cast (congrArg tI (by omega : ((r : Nat) : Int) + 1 = ((r + 1 : Nat) : Int)))) (by omega)) (blkOk_by (by kernel_rfl)) (by decide) (by rw [List.length_range]; omega) (fun s H D cl fp d Vs a => nm sc147.nd 11)
    (fun s H D cl fp dd Vs k hk _ => px_make (mk_tab Tx BT) (w', k, cc k) rfl hr (pxs_cons (va 3 rfl) (pxs_cons (va 11 rfl) (pxs_cons (px_ixL (va 5 rfl) (va 11 rfl) (hbk (List.mem_range.mp hk))) pxs_nil))) ⟨hw.le (Nat.le_of_lt_succ (List.mem_range.mp hk)), (hcc k (by have := List.mem_range.mp hk; omega)).len, fun q hq => ((hcc k (by have := List.mem_range.mp hk; omega)).big q hq).sz⟩)) ?_
  refine pletEx sc147.nd 7 (PX.pair (px_lst (Ts := [tEx (ShsL w' (off w' r)) (tShl K), tEx (ShsL w' (off w' r)) (tShl K)]) (pxs_cons (px_draw (ok_dealt_all Tx) SC (w', r) rfl hr (pxs_cons (va 1 rfl) (pxs_cons (va 3 rfl) (pxs_cons (va 4 rfl) pxs_nil))) hw) (pxs_cons (px_draw (ok_dealt_all Tx) SC (w', r) rfl hr (pxs_cons (va 1 rfl) (pxs_cons (va 3 rfl) (pxs_cons (va 4 rfl) pxs_nil))) hw) pxs_nil)))) fun ss2 hs2 => ?_
  obtain ⟨s0, s1⟩ := ss2
  obtain ⟨hs0, hs1⟩ := hs2
  replace hs0 : ShsL w' (off w' r) s0 := hs0
  replace hs1 : ShsL w' (off w' r) s1 := hs1
  refine pletEx sc147.nd 8 (px_draw (ok_some Tx) SC (w', r) rfl hr (pxs_cons (va 1 rfl) (pxs_cons (va 3 rfl) (pxs_cons (va 4 rfl) pxs_nil))) hw) fun ss hss => ?_
  replace hss : StopsOk w' r ss := hss
  have st := hss.st hw
  have hsl : ss.length ≤ 1000 := hss.2
  refine plet (T := tThings K Cp ⟨w', r, cc, s0, s1, ss⟩) sc147.nd 9 (px_lst (pxs_cons (px_make (mk_plan Tx BP) (w', r, s0) rfl hr (pxs_cons (va 3 rfl) (pxs_cons (va 4 rfl) (pxs_cons ((px_ixL (T := tShl K s0) (va (T := tLst [tShl K s0, tShl K s1]) 7 rfl) px_int rfl).shs (Big.szl hs0)) pxs_nil))) ⟨hw, hs0.cho.shrs hw.1.2⟩)
    (pxs_cons (px_make (mk_plan Tx BP) (w', r, s1) rfl hr (pxs_cons (va 3 rfl) (pxs_cons (va 4 rfl) (pxs_cons ((px_ixL (T := tShl K s1) (va (T := tLst [tShl K s0, tShl K s1]) 7 rfl) px_int rfl).shs (Big.szl hs1)) pxs_nil))) ⟨hw, hs1.cho.shrs hw.1.2⟩)
    (pxs_cons (va 8 rfl) (pxs_cons (px_ixL (T := tShl K s0) (va (T := tLst [tShl K s0, tShl K s1]) 7 rfl) px_int rfl) (pxs_cons (px_ixL (T := tShl K s1) (va (T := tLst [tShl K s0, tShl K s1]) 7 rfl) px_int rfl) pxs_nil)))))) ?_
  have dok : DrwOk ⟨w', r, cc, s0, s1, ss⟩ := ⟨d, hs0, hs1, st⟩
  refine pb_guard (x := false) (pxt_not (x := true) (pxt_val (px_call (ok_drawn Tx BT BP) ⟨w', r, cc, s0, s1, ss⟩ rfl hr (pxs_cons (va 3 rfl) (pxs_cons (va 5 rfl) (pxs_cons (va (T := tLst (tTabs K Ct w' r cc)) 6 rfl).seqL (pxs_cons (va 9 rfl) (pxs_cons (px_listOf Tx.f_list boot_list (va (T := tLst (ss.map tS)) 8 rfl).seqL).seqL pxs_nil))))) ⟨dok, hsl⟩))) (fun h => nomatch h) fun _ => ?_
  refine pb_guard (x := false) (pxt_not (x := true) (pxt_val (px_call (ok_drawn Tx BT BP) ⟨w', r, cc, s0, s1, ss⟩ rfl hr (pxs_cons (va 3 rfl) (pxs_cons (va 5 rfl) (pxs_cons (px_tupleOf Tx.f_tuple boot_tuple (va (T := tLst (tTabs K Ct w' r cc)) 6 rfl).seqL).seqT (pxs_cons (va 9 rfl) (pxs_cons (px_tupleOf Tx.f_tuple boot_tuple (va (T := tLst (ss.map tS)) 8 rfl).seqL).seqT pxs_nil))))) ⟨dok, hsl⟩))) (fun h => nomatch h) fun _ => ?_
  refine plet (T := tPaper K Cp (w', r, cc)) sc147.nd 10 (px_call (ok_paper Tx BT BP) (w', r, cc) rfl hr (pxs_cons (va (T := tLst (tTabs K Ct w' r cc)) 6 rfl).seqL pxs_nil) d.papOk) ?_
  refine pb_guard (x := false) (pxt_not (x := true) (pxt_val (px_call (ok_holds Tx BT BP) (w', r, cc) rfl hr (pxs_cons (va 3 rfl) (pxs_cons (va 5 rfl) (pxs_cons (va (T := tLst (tTabs K Ct w' r cc)) 6 rfl).seqL (pxs_cons (va 10 rfl) pxs_nil)))) d))) (fun h => nomatch h) fun _ => ?_
  refine pb_guard (x := false) (pxt_not (x := true) (pxt_val (px_draw (ok_judged Tx BT BP) SC ⟨w', r, cc, s0, s1, ss⟩ rfl hr (pxs_cons (va 1 rfl) (pxs_cons (va 3 rfl) (pxs_cons (va 5 rfl) (pxs_cons (va (T := tLst (tTabs K Ct w' r cc)) 6 rfl).seqL (pxs_cons (va 10 rfl) (pxs_cons (va 9 rfl) pxs_nil)))))) ⟨dok, by show ss.length ≤ 2000; omega⟩))) (fun h => nomatch h) fun _ => ?_
  exact pb_retW (ok_wrong Tx BT BP X DU TBU hPU huU DW TBW hPW huW) SC TC hne ⟨w', r, cc, s0, s1, ss⟩ hr (pxs_cons (va 1 rfl) (pxs_cons (va 3 rfl) (pxs_cons (va 4 rfl) (pxs_cons (va (T := tLst (tTabs K Ct w' r cc)) 6 rfl).seqL (pxs_cons (va 10 rfl) (pxs_cons (va 8 rfl) pxs_nil)))))) ⟨d, st, by show ss.length ≤ 2000; omega⟩ fun _ => rfl
end
end Nb
end -- H12
section -- K4
set_option maxHeartbeats 1000000
namespace Nb
open PySem PySem.Spec PyProof.Rows L2
theorem txt_of {K : PySem.W.Frag} {mg : Str → Option Value} (D : ∀ (i : Nat) (d : DefN), fnl[i]? = some d → ∃ fd, FunD K d.name d.qual (defArgs d.st) (defBody d.st) (defScope d.st) [] (d.kws K) (d.at_ K) fd)
    (gl : ∀ (i : Nat) (x : Str), kyl[i]? = some (x, .ref) → mg x = some (.ref (pI i K))) (fr : ∀ x : Str, x ∉ kyl.map (·.1) → mg x = none) (it : ∀ (j : Nat) (x : Str) (i : Int), kyl[j]? = some (x, .int i) → ∃ t, mg x = some (.int i t)) (st : ∀ (j : Nat) (x z : Str), kyl[j]? = some (x, .str z) → ∃ t, mg x = some (.str z t))
    (hm : ∃ a, mg "MOST_ROUNDS" = some (.ref a) ∧ ∀ H, SqT K H a [.int 8, .int 8, .int 5, .int 4, .int 3]) (hw : ∃ a, mg "WHOLE_SHARE" = some (.ref a) ∧ ∀ H, SqT K H a [.int 1, .int 1]) : Txt K mg where
  d_is_integer_value := let ⟨fd, F⟩ := D 0 _ rfl; ⟨_, fd, gl 29 "is_integer_value" rfl, F⟩
  d_parts_of := let ⟨fd, F⟩ := D 1 _ rfl; ⟨_, fd, gl 30 "parts_of" rfl, F⟩
  d_common_divisor := let ⟨fd, F⟩ := D 2 _ rfl; ⟨_, fd, gl 31 "common_divisor" rfl, F⟩
  d_fraction := let ⟨fd, F⟩ := D 3 _ rfl; ⟨_, fd, gl 32 "fraction" rfl, F⟩
  d_sum_of_two := let ⟨fd, F⟩ := D 4 _ rfl; ⟨_, fd, gl 33 "sum_of_two" rfl, F⟩
  d_product_of_two := let ⟨fd, F⟩ := D 5 _ rfl; ⟨_, fd, gl 34 "product_of_two" rfl, F⟩
  d_opposite := let ⟨fd, F⟩ := D 6 _ rfl; ⟨_, fd, gl 35 "opposite" rfl, F⟩
  d_order_of := let ⟨fd, F⟩ := D 7 _ rfl; ⟨_, fd, gl 36 "order_of" rfl, F⟩
  d_add := let ⟨fd, F⟩ := D 8 _ rfl; ⟨_, fd, gl 37 "add" rfl, F⟩
  d_sub := let ⟨fd, F⟩ := D 9 _ rfl; ⟨_, fd, gl 38 "sub" rfl, F⟩
  d_mul := let ⟨fd, F⟩ := D 10 _ rfl; ⟨_, fd, gl 39 "mul" rfl, F⟩
  d_div := let ⟨fd, F⟩ := D 11 _ rfl; ⟨_, fd, gl 40 "div" rfl, F⟩
  d_compare := let ⟨fd, F⟩ := D 12 _ rfl; ⟨_, fd, gl 41 "compare" rfl, F⟩
  d_total := let ⟨fd, F⟩ := D 13 _ rfl; ⟨_, fd, gl 42 "total" rfl, F⟩
  d_check_some := let ⟨fd, F⟩ := D 14 _ rfl; ⟨_, fd, gl 43 "check_some" rfl, F⟩
  d_farthest_value := let ⟨fd, F⟩ := D 15 _ rfl; ⟨_, fd, gl 44 "farthest_value" rfl, F⟩
  d_least := let ⟨fd, F⟩ := D 16 _ rfl; ⟨_, fd, gl 45 "least" rfl, F⟩
  d_greatest := let ⟨fd, F⟩ := D 17 _ rfl; ⟨_, fd, gl 46 "greatest" rfl, F⟩
  d_check_shape := let ⟨fd, F⟩ := D 18 _ rfl; ⟨_, fd, gl 52 "check_shape" rfl, F⟩
  d_has_only := let ⟨fd, F⟩ := D 19 _ rfl; ⟨_, fd, gl 53 "has_only" rfl, F⟩
  d_check_text := let ⟨fd, F⟩ := D 20 _ rfl; ⟨_, fd, gl 54 "check_text" rfl, F⟩
  d_check_row := let ⟨fd, F⟩ := D 21 _ rfl; ⟨_, fd, gl 55 "check_row" rfl, F⟩
  d_count_texts := let ⟨fd, F⟩ := D 22 _ rfl; ⟨_, fd, gl 56 "count_texts" rfl, F⟩
  d_next_texts := let ⟨fd, F⟩ := D 23 _ rfl; ⟨_, fd, gl 57 "next_texts" rfl, F⟩
  d_index_of := let ⟨fd, F⟩ := D 24 _ rfl; ⟨_, fd, gl 58 "index_of" rfl, F⟩
  d_most_rounds := let ⟨fd, F⟩ := D 25 _ rfl; ⟨_, fd, gl 59 "most_rounds" rfl, F⟩
  d_letters := let ⟨fd, F⟩ := D 26 _ rfl; ⟨_, fd, gl 60 "letters" rfl, F⟩
  d_check_same_shape := let ⟨fd, F⟩ := D 27 _ rfl; ⟨_, fd, gl 64 "check_same_shape" rfl, F⟩
  d_check_size := let ⟨fd, F⟩ := D 28 _ rfl; ⟨_, fd, gl 67 "check_size" rfl, F⟩
  d_share_parts := let ⟨fd, F⟩ := D 29 _ rfl; ⟨_, fd, gl 68 "share_parts" rfl, F⟩
  d_is_sharing := let ⟨fd, F⟩ := D 30 _ rfl; ⟨_, fd, gl 69 "is_sharing" rfl, F⟩
  d_sharing_at := let ⟨fd, F⟩ := D 31 _ rfl; ⟨_, fd, gl 70 "sharing_at" rfl, F⟩
  d_checked_levels := let ⟨fd, F⟩ := D 32 _ rfl; ⟨_, fd, gl 73 "checked_levels" rfl, F⟩
  d_height := let ⟨fd, F⟩ := D 33 _ rfl; ⟨_, fd, gl 74 "height" rfl, F⟩
  d_poured := let ⟨fd, F⟩ := D 34 _ rfl; ⟨_, fd, gl 75 "poured" rfl, F⟩
  d_reached_places := let ⟨fd, F⟩ := D 35 _ rfl; ⟨_, fd, gl 76 "reached_places" rfl, F⟩
  d_even_chances := let ⟨fd, F⟩ := D 36 _ rfl; ⟨_, fd, gl 77 "even_chances" rfl, F⟩
  d_fill := let ⟨fd, F⟩ := D 37 _ rfl; ⟨_, fd, gl 78 "fill" rfl, F⟩
  d_fill_shares := let ⟨fd, F⟩ := D 38 _ rfl; ⟨_, fd, gl 79 "fill_shares" rfl, F⟩
  d_fill_chances := let ⟨fd, F⟩ := D 39 _ rfl; ⟨_, fd, gl 80 "fill_chances" rfl, F⟩
  d_check_rounds := let ⟨fd, F⟩ := D 40 _ rfl; ⟨_, fd, gl 82 "check_rounds" rfl, F⟩
  d_same_shape := let ⟨fd, F⟩ := D 41 _ rfl; ⟨_, fd, gl 83 "same_shape" rfl, F⟩
  d_check_ladder := let ⟨fd, F⟩ := D 42 _ rfl; ⟨_, fd, gl 87 "check_ladder" rfl, F⟩
  d_ladder_bounds := let ⟨fd, F⟩ := D 43 _ rfl; ⟨_, fd, gl 88 "ladder_bounds" rfl, F⟩
  d_misses_behind := let ⟨fd, F⟩ := D 44 _ rfl; ⟨_, fd, gl 89 "misses_behind" rfl, F⟩
  d_chances_behind := let ⟨fd, F⟩ := D 45 _ rfl; ⟨_, fd, gl 90 "chances_behind" rfl, F⟩
  d_next_values := let ⟨fd, F⟩ := D 46 _ rfl; ⟨_, fd, gl 91 "next_values" rfl, F⟩
  d_inner_many := let ⟨fd, F⟩ := D 47 _ rfl; ⟨_, fd, gl 92 "inner_many" rfl, F⟩
  d_anytime_folds := let ⟨fd, F⟩ := D 48 _ rfl; ⟨_, fd, gl 93 "anytime_folds" rfl, F⟩
  d_anytime_fold := let ⟨fd, F⟩ := D 49 _ rfl; ⟨_, fd, gl 94 "anytime_fold" rfl, F⟩
  d_fold_levels := let ⟨fd, F⟩ := D 50 _ rfl; ⟨_, fd, gl 95 "fold_levels" rfl, F⟩
  d_anytime_chooser := let ⟨fd, F⟩ := D 51 _ rfl; ⟨_, fd, gl 96 "anytime_chooser" rfl, F⟩
  d_anytime_foe := let ⟨fd, F⟩ := D 52 _ rfl; ⟨_, fd, gl 97 "anytime_foe" rfl, F⟩
  d_anytime_slack := let ⟨fd, F⟩ := D 53 _ rfl; ⟨_, fd, gl 98 "anytime_slack" rfl, F⟩
  d_is_inner := let ⟨fd, F⟩ := D 54 _ rfl; ⟨_, fd, gl 99 "is_inner" rfl, F⟩
  d_check_stops := let ⟨fd, F⟩ := D 55 _ rfl; ⟨_, fd, gl 100 "check_stops" rfl, F⟩
  d_stop_marks := let ⟨fd, F⟩ := D 56 _ rfl; ⟨_, fd, gl 101 "stop_marks" rfl, F⟩
  d_stopped_misses := let ⟨fd, F⟩ := D 57 _ rfl; ⟨_, fd, gl 103 "stopped_misses" rfl, F⟩
  d_stopped_mean := let ⟨fd, F⟩ := D 58 _ rfl; ⟨_, fd, gl 104 "stopped_mean" rfl, F⟩
  d_anytime_paper := let ⟨fd, F⟩ := D 59 _ rfl; ⟨_, fd, gl 105 "anytime_paper" rfl, F⟩
  d_is_anytime_paper := let ⟨fd, F⟩ := D 60 _ rfl; ⟨_, fd, gl 106 "is_anytime_paper" rfl, F⟩
  d__law_store := let ⟨fd, F⟩ := D 61 _ rfl; ⟨_, fd, gl 107 "_law_store" rfl, F⟩
  d__law_mixed := let ⟨fd, F⟩ := D 62 _ rfl; ⟨_, fd, gl 108 "_law_mixed" rfl, F⟩
  d__law_take := let ⟨fd, F⟩ := D 63 _ rfl; ⟨_, fd, gl 109 "_law_take" rfl, F⟩
  d__law_edge := let ⟨fd, F⟩ := D 64 _ rfl; ⟨_, fd, gl 110 "_law_edge" rfl, F⟩
  d__law_gcd := let ⟨fd, F⟩ := D 65 _ rfl; ⟨_, fd, gl 111 "_law_gcd" rfl, F⟩
  d__law_low := let ⟨fd, F⟩ := D 66 _ rfl; ⟨_, fd, gl 112 "_law_low" rfl, F⟩
  d__law_plus := let ⟨fd, F⟩ := D 67 _ rfl; ⟨_, fd, gl 113 "_law_plus" rfl, F⟩
  d__law_minus := let ⟨fd, F⟩ := D 68 _ rfl; ⟨_, fd, gl 114 "_law_minus" rfl, F⟩
  d__law_times := let ⟨fd, F⟩ := D 69 _ rfl; ⟨_, fd, gl 115 "_law_times" rfl, F⟩
  d__law_below := let ⟨fd, F⟩ := D 70 _ rfl; ⟨_, fd, gl 116 "_law_below" rfl, F⟩
  d__law_sum := let ⟨fd, F⟩ := D 71 _ rfl; ⟨_, fd, gl 117 "_law_sum" rfl, F⟩
  d__law_lowest := let ⟨fd, F⟩ := D 72 _ rfl; ⟨_, fd, gl 118 "_law_lowest" rfl, F⟩
  d__law_small := let ⟨fd, F⟩ := D 73 _ rfl; ⟨_, fd, gl 119 "_law_small" rfl, F⟩
  d__law_same := let ⟨fd, F⟩ := D 74 _ rfl; ⟨_, fd, gl 120 "_law_same" rfl, F⟩
  d__law_texts_b := let ⟨fd, F⟩ := D 75 _ rfl; ⟨_, fd, gl 121 "_law_texts_b" rfl, F⟩
  d__law_inner := let ⟨fd, F⟩ := D 76 _ rfl; ⟨_, fd, gl 122 "_law_inner" rfl, F⟩
  d__law_place := let ⟨fd, F⟩ := D 77 _ rfl; ⟨_, fd, gl 123 "_law_place" rfl, F⟩
  d__law_index := let ⟨fd, F⟩ := D 78 _ rfl; ⟨_, fd, gl 124 "_law_index" rfl, F⟩
  d__law_free := let ⟨fd, F⟩ := D 79 _ rfl; ⟨_, fd, gl 125 "_law_free" rfl, F⟩
  d__law_miss_cells_b := let ⟨fd, F⟩ := D 80 _ rfl; ⟨_, fd, gl 126 "_law_miss_cells_b" rfl, F⟩
  d__law_classes := let ⟨fd, F⟩ := D 81 _ rfl; ⟨_, fd, gl 127 "_law_classes" rfl, F⟩
  d__law_denied := let ⟨fd, F⟩ := D 82 _ rfl; ⟨_, fd, gl 128 "_law_denied" rfl, F⟩
  d__law_dealt := let ⟨fd, F⟩ := D 83 _ rfl; ⟨_, fd, gl 129 "_law_dealt" rfl, F⟩
  d__law_dealt_all := let ⟨fd, F⟩ := D 84 _ rfl; ⟨_, fd, gl 130 "_law_dealt_all" rfl, F⟩
  d__law_even := let ⟨fd, F⟩ := D 85 _ rfl; ⟨_, fd, gl 131 "_law_even" rfl, F⟩
  d__law_frame := let ⟨fd, F⟩ := D 86 _ rfl; ⟨_, fd, gl 132 "_law_frame" rfl, F⟩
  d__law_bounds := let ⟨fd, F⟩ := D 87 _ rfl; ⟨_, fd, gl 133 "_law_bounds" rfl, F⟩
  d__law_slack_of := let ⟨fd, F⟩ := D 88 _ rfl; ⟨_, fd, gl 134 "_law_slack_of" rfl, F⟩
  d__law_some := let ⟨fd, F⟩ := D 89 _ rfl; ⟨_, fd, gl 135 "_law_some" rfl, F⟩
  d__law_are_sharings := let ⟨fd, F⟩ := D 90 _ rfl; ⟨_, fd, gl 136 "_law_are_sharings" rfl, F⟩
  d__law_stopped_walk := let ⟨fd, F⟩ := D 91 _ rfl; ⟨_, fd, gl 137 "_law_stopped_walk" rfl, F⟩
  d__law_mean_of := let ⟨fd, F⟩ := D 92 _ rfl; ⟨_, fd, gl 138 "_law_mean_of" rfl, F⟩
  d__law_worth_of := let ⟨fd, F⟩ := D 93 _ rfl; ⟨_, fd, gl 139 "_law_worth_of" rfl, F⟩
  d__law_form := let ⟨fd, F⟩ := D 94 _ rfl; ⟨_, fd, gl 140 "_law_form" rfl, F⟩
  d__law_drawn := let ⟨fd, F⟩ := D 95 _ rfl; ⟨_, fd, gl 141 "_law_drawn" rfl, F⟩
  d__law_holds := let ⟨fd, F⟩ := D 96 _ rfl; ⟨_, fd, gl 142 "_law_holds" rfl, F⟩
  d__law_judged := let ⟨fd, F⟩ := D 97 _ rfl; ⟨_, fd, gl 143 "_law_judged" rfl, F⟩
  d__law_unlike := let ⟨fd, F⟩ := D 98 _ rfl; ⟨_, fd, gl 144 "_law_unlike" rfl, F⟩
  d__law_wrong := let ⟨fd, F⟩ := D 99 _ rfl; ⟨_, fd, gl 145 "_law_wrong" rfl, F⟩
  d_law := let ⟨fd, F⟩ := D 100 _ rfl; ⟨_, fd, gl 146 "law" rfl, F⟩
  d_check_count_rows := let ⟨fd, F⟩ := D 101 _ rfl; ⟨_, fd, gl 51 "check_count_rows" rfl, F⟩
  d_check_count_horizons := let ⟨fd, F⟩ := D 102 _ rfl; ⟨_, fd, gl 81 "check_count_horizons" rfl, F⟩
  d_is_row := let ⟨fd, F⟩ := D 103 _ rfl; ⟨_, fd, gl 61 "is_row" rfl, F⟩
  d_beginnings_of := let ⟨fd, F⟩ := D 104 _ rfl; ⟨_, fd, gl 62 "beginnings_of" rfl, F⟩
  d_all_beginnings := let ⟨fd, F⟩ := D 105 _ rfl; ⟨_, fd, gl 63 "all_beginnings" rfl, F⟩
  d_endings := let ⟨fd, F⟩ := D 106 _ rfl; ⟨_, fd, gl 102 "endings" rfl, F⟩
  f_abs := fr "abs" (by decide +kernel)
  f_int := fr "int" (by decide +kernel)
  f_len := fr "len" (by decide +kernel)
  f_isinstance := fr "isinstance" (by decide +kernel)
  f_range := fr "range" (by decide +kernel)
  f_list := fr "list" (by decide +kernel)
  f_tuple := fr "tuple" (by decide +kernel)
  f_str := fr "str" (by decide +kernel)
  f_sum := fr "sum" (by decide +kernel)
  f_enumerate := fr "enumerate" (by decide +kernel)
  f_zip := fr "zip" (by decide +kernel)
  f_reversed := fr "reversed" (by decide +kernel)
  f_all := fr "all" (by decide +kernel)
  f_min := fr "min" (by decide +kernel)
  f_bool := fr "bool" (by decide +kernel)
  f_ValueError := fr "ValueError" (by decide +kernel)
  c_OUTCOMES := st 47 _ _ rfl
  c_WIDEST := it 48 _ _ rfl
  c_MOST_LEVELS := it 72 _ _ rfl
  c_GOES_ON := it 84 _ _ rfl
  c_ENDS := it 85 _ _ rfl
  c_IS_OVER := it 86 _ _ rfl
  c_MOST_ROUNDS := hm
  c_WHOLE_SHARE := hw
-- 107 defs; from there: Table.__init__ 107, Table.__len__ 108, Plan.__init__ 109, Plan.__eq__ 110, BadCount.__init__ 111, BadRow.__init__ 112, Table.width 113, Table.rounds 114, Table.cells 115, Plan.width 116, Plan.rounds 117, Plan.shares 118
end Nb
end -- K4
section -- K5
set_option maxHeartbeats 1000000
namespace Nb
open PySem PySem.Spec PyProof.Rows L2
theorem nsIn_no2 {K : PySem.W.Frag} {ks : List (Str × GK)} {k : Str × GK} {x : Str} (hb : keysB (gEs K) ks = true) (h0 : ks[0]? = some k) (h : x ∉ ks.map (·.1)) : PySem.W.nsIn K mainGlobals x = some none := by
  cases ks with
  | nil => simp at h0
  | cons q ks => exact nsIn_no hb h
theorem kinl_at : ∀ p ∈ kinl, kyl[p.2]? = some (p.1, .ref) := by
  intro p hp
  simp only [kinl, List.mem_cons, List.not_mem_nil, or_false] at hp
  rcases hp with rfl | rfl | rfl | rfl | rfl | rfl | rfl | rfl | rfl | rfl | rfl | rfl | rfl | rfl | rfl | rfl | rfl | rfl | rfl <;> rfl
theorem excqB_ok {K : PySem.W.Frag} {C : Addr} (h : excqB K C = true) : ExcQ K C := by
  obtain ⟨h1, h⟩ := He.ba h
  obtain ⟨h2, h⟩ := He.ba h
  obtain ⟨h3, h⟩ := He.ba h
  obtain ⟨h4, h⟩ := He.ba h
  obtain ⟨h5, h⟩ := He.ba h
  obtain ⟨h6, h⟩ := He.ba h
  obtain ⟨h7, h8⟩ := He.ba h
  exact ⟨h1, He.eqO_ok h2, He.eqO_ok h3, of_decide_eq_true h4, He.eqO_ok h5, He.eqO_ok h6, of_decide_eq_true h7, of_decide_eq_true h8⟩
theorem clB_ok {K : PySem.W.Frag} {C : Addr} (h : clB K C = true) : Cls K C := by
  obtain ⟨h1, h⟩ := He.ba h
  obtain ⟨h2, h⟩ := He.ba h
  obtain ⟨h3, h4⟩ := He.ba h
  exact ⟨h1, h2, h3, He.eqO_ok h4⟩
theorem mkB_ok {K : PySem.W.Frag} {C : Addr} (h : mkB K C = true) : Mk K C (He.ma K C "__init__") := by
  obtain ⟨h1, h⟩ := He.ba h
  obtain ⟨h2, h⟩ := He.ba h
  obtain ⟨h3, h4⟩ := He.ba h
  exact ⟨h1, He.eqO_ok h2, h3, h4⟩
theorem meB_ok {K : PySem.W.Frag} {C : Addr} {m : Str} (h : meB K C m = true) : Meth K C m (He.ma K C m) := by
  obtain ⟨h1, h⟩ := He.ba h
  obtain ⟨h2, h3⟩ := He.ba h
  exact ⟨He.eqO_ok h1, h2, h3⟩
theorem noB_ok {K : PySem.W.Frag} {C : Addr} {fs : List Str} (h : noB K C fs = true) {f : Str} (hf : f ∈ fs) : PySem.W.findIn K (.ref C) f = some none := He.eqO_ok (List.all_eq_true.mp h f hf)
section
variable {h : Heap} {mg : Str → Option Value} {K : PySem.W.Frag}
theorem SaysN.keys (c : SaysN fnl chkN tfl h K) : keysB (gEs K) kyl = true := (He.ba c.chk).1
theorem SaysN.ex (c : SaysN fnl chkN tfl h K) (i : Nat) {b : Bool} (hb : (exl K)[i]? = some b) : b = true := List.all_eq_true.mp (He.ba c.chk).2 b (List.mem_of_getElem? hb)
theorem SaysN.gl (c : SaysN fnl chkN tfl h K) (KX : K.In h) (G : h.Ns mainGlobals mg) (i : Nat) (x : Str) (hk : kyl[i]? = some (x, .ref)) : mg x = some (.ref (pI i K)) := by
  obtain ⟨e, h1, h2, h3⟩ := nsIn_at c.keys kyl_nodup hk
  have m := PySem.W.mg_of KX G h2
  have e1 : pI i K = (match e.val with
    | .ref a => a
    | _ => 0) := by unfold pI; rw [h1] <;> rfl
  rw [e1]
  generalize e.val = v at m h3
  cases v with
  | ref a => exact m
  | _ => cases h3
theorem SaysN.fr (c : SaysN fnl chkN tfl h K) (KX : K.In h) (G : h.Ns mainGlobals mg) (x : Str) (hx : x ∉ kyl.map (·.1)) : mg x = none := PySem.W.mg_none_of KX G (nsIn_no2 c.keys (k := ("__name__", .any)) rfl hx)
theorem SaysN.it (c : SaysN fnl chkN tfl h K) (KX : K.In h) (G : h.Ns mainGlobals mg) (j : Nat) (x : Str) (i : Int) (hk : kyl[j]? = some (x, .int i)) : ∃ t, mg x = some (.int i t) := by
  obtain ⟨e, h1, h2, h3⟩ := nsIn_at c.keys kyl_nodup hk
  have m := PySem.W.mg_of KX G h2
  cases q : e.val with
  | int a t =>
    rw [q] at m h3
    have e1 : i = a := of_decide_eq_true h3
    exact ⟨t, by rw [e1]; exact m⟩
  | _ => rw [q] at h3; cases h3
theorem SaysN.st (c : SaysN fnl chkN tfl h K) (KX : K.In h) (G : h.Ns mainGlobals mg) (j : Nat) (x z : Str) (hk : kyl[j]? = some (x, .str z)) : ∃ t, mg x = some (.str z t) := by
  obtain ⟨e, h1, h2, h3⟩ := nsIn_at c.keys kyl_nodup hk
  have m := PySem.W.mg_of KX G h2
  cases q : e.val with
  | str a t =>
    rw [q] at m h3
    have e1 : z = a := of_decide_eq_true h3
    exact ⟨t, by rw [e1]; exact m⟩
  | _ => rw [q] at h3; cases h3
theorem SaysN.txt (c : SaysN fnl chkN tfl h K) (KX : K.In h) (G : h.Ns mainGlobals mg) : Txt K mg :=
  txt_of (fun i d hd => c.def_ i hd) (c.gl KX G) (c.fr KX G) (c.it KX G) (c.st KX G) ⟨_, c.gl KX G iMOSTROUNDS "MOST_ROUNDS" rfl, tuB_ok (c.ex 25 rfl)⟩ ⟨_, c.gl KX G iWHOLESHARE "WHOLE_SHARE" rfl, tuB_ok (c.ex 26 rfl)⟩
theorem SaysN.tab (c : SaysN fnl chkN tfl h K) (KX : K.In h) (G : h.Ns mainGlobals mg) : TabT K mg (pI iTable K) where
  glo := c.gl KX G iTable "Table" rfl
  cls := clB_ok (c.ex 28 rfl)
  mki := ⟨_, mkB_ok (c.ex 30 rfl), c.def_ 107 rfl⟩
  n1 := noB_ok (c.ex 33 rfl) (by decide +kernel)
  n2 := noB_ok (c.ex 33 rfl) (by decide +kernel)
  n3 := noB_ok (c.ex 33 rfl) (by decide +kernel)
  p1 := ⟨_, _, propB_ok (c.ex 0 rfl), c.def_ 113 rfl⟩
  p2 := ⟨_, _, propB_ok (c.ex 1 rfl), c.def_ 114 rfl⟩
  p3 := ⟨_, _, propB_ok (c.ex 2 rfl), c.def_ 115 rfl⟩
  ln := ⟨_, meB_ok (c.ex 32 rfl), c.def_ 108 rfl⟩
theorem SaysN.plan (c : SaysN fnl chkN tfl h K) (KX : K.In h) (G : h.Ns mainGlobals mg) : PlanT K mg (pI iPlan K) := by
  obtain ⟨h1, z⟩ := He.ba (c.ex 6 rfl)
  obtain ⟨h2, z⟩ := He.ba z
  obtain ⟨h3, z⟩ := He.ba z
  obtain ⟨h4, z⟩ := He.ba z
  obtain ⟨h5, z⟩ := He.ba z
  obtain ⟨h6, h7⟩ := He.ba z
  exact {
    glo := c.gl KX G iPlan "Plan" rfl
    cls := clB_ok (c.ex 29 rfl)
    mki := ⟨_, mkB_ok (c.ex 31 rfl), c.def_ 109 rfl⟩
    n1 := noB_ok (c.ex 34 rfl) (by decide +kernel)
    n2 := noB_ok (c.ex 34 rfl) (by decide +kernel)
    n3 := noB_ok (c.ex 34 rfl) (by decide +kernel)
    n4 := noB_ok (c.ex 34 rfl) (by decide +kernel)
    p1 := ⟨_, _, propB_ok (c.ex 3 rfl), c.def_ 116 rfl⟩
    p2 := ⟨_, _, propB_ok (c.ex 4 rfl), c.def_ 117 rfl⟩
    p3 := ⟨_, _, propB_ok (c.ex 5 rfl), c.def_ 118 rfl⟩
    c1 := He.eqO_ok h1
    c2 := He.eqO_ok h2
    c3 := of_decide_eq_true h3
    c4 := of_decide_eq_true h4
    isi := of_decide_eq_true h5
    eq := ⟨_, He.eqO_ok h6, h7, c.def_ 110 rfl⟩ }
theorem SaysN.kin (c : SaysN fnl chkN tfl h K) (KX : K.In h) (G : h.Ns mainGlobals mg) {x0 : Str} {C : Addr} (hk : kinB K x0 C = true) : Kin K mg x0 C := fun x hx => by
  obtain ⟨p, hp, rfl⟩ := List.mem_map.mp (show x ∈ kinl.map (·.1) from hx)
  exact ⟨_, c.gl KX G p.2 p.1 (kinl_at p hp), of_decide_eq_true (List.all_eq_true.mp hk p hp)⟩
theorem SaysN.xct (c : SaysN fnl chkN tfl h K) (KX : K.In h) (G : h.Ns mainGlobals mg) {x0 : Str} {C : Addr} (h1 : excqB K C = true) (h2 : kinB K x0 C = true) (h3 : veB K C = true) (h4 : emB K C (pI iNotBehindError K) = true) : XcT K mg x0 C :=
  ⟨excqB_ok h1, c.kin KX G h2, of_decide_eq_true h3, _, c.gl KX G iNotBehindError "NotBehindError" rfl, of_decide_eq_true h4⟩
theorem excN_of {x : Str} {C : Addr} (g : mg x = some (.ref C)) (hb : exB K C = true) : ExcN K mg x C := by
  obtain ⟨h1, z⟩ := He.ba hb
  obtain ⟨h2, z⟩ := He.ba z
  obtain ⟨h3, h4⟩ := He.ba z
  exact ⟨g, h2, h1, of_decide_eq_true h3, of_decide_eq_true h4⟩
theorem excI_of {x q : Str} {C : Addr} {st : Stmt} (g : mg x = some (.ref C)) (ho : oexB K C = true) (hi : iniB K C = true) (F : ∃ fd, FunD K "__init__" q (defArgs st) (defBody st) (defScope st) [] [] (He.ma K C "__init__") fd) : ExcI K mg x C q st := by
  obtain ⟨h1, h2⟩ := He.ba hi
  obtain ⟨fd, F⟩ := F
  exact ⟨g, oexB_ok ho, _, fd, He.eqO_ok h1, of_decide_eq_true h2, F⟩
theorem SaysN.exc (c : SaysN fnl chkN tfl h K) (KX : K.In h) (G : h.Ns mainGlobals mg) : ExcAll K mg (pI iBadNumber K) (pI iMismatch K) (pI iBadCount K) (pI iBadRow K) where
  tn := excN_of (c.gl KX G iBadNumber "BadNumber" rfl) (c.ex 37 rfl)
  tm := excN_of (c.gl KX G iMismatch "Mismatch" rfl) (c.ex 38 rfl)
  tc := ⟨excI_of (c.gl KX G iBadCount "BadCount" rfl) (c.ex 7 rfl) (c.ex 9 rfl) (c.def_ 111 rfl), noB_ok (c.ex 35 rfl) (by decide +kernel), noB_ok (c.ex 35 rfl) (by decide +kernel), noB_ok (c.ex 35 rfl) (by decide +kernel)⟩
  tr := ⟨excI_of (c.gl KX G iBadRow "BadRow" rfl) (c.ex 8 rfl) (c.ex 10 rfl) (c.def_ 112 rfl), noB_ok (c.ex 36 rfl) (by decide +kernel)⟩
  xn := c.xct KX G (c.ex 11 rfl) (c.ex 15 rfl) (c.ex 19 rfl) (c.ex 39 rfl)
  xm := c.xct KX G (c.ex 12 rfl) (c.ex 16 rfl) (c.ex 20 rfl) (c.ex 40 rfl)
  xc := c.xct KX G (c.ex 13 rfl) (c.ex 17 rfl) (c.ex 21 rfl) (c.ex 41 rfl)
  xr := c.xct KX G (c.ex 14 rfl) (c.ex 18 rfl) (c.ex 22 rfl) (c.ex 42 rfl)
  hc := c.ex 23 rfl
  hr := c.ex 24 rfl
theorem defC_of {x : Str} {st : Stmt} {a : Addr} (hm : mg x = some (.ref a)) (F : ∃ fd, FunD K x x (defArgs st) (defBody st) (defScope st) [] [] a fd) : DefC K mg x st (cAt K a) := by
  obtain ⟨fd, F⟩ := F
  refine ⟨a, fd, hm, F, ?_⟩
  obtain ⟨co, dd, dV, kV, doc, pm, an, cdv, ct, sl, rfl, lk, hcd, _, _⟩ := F.ex
  obtain ⟨c, rfl⟩ := He.codeIn_ref hcd
  rw [cAt_eq lk rfl]
end
end Nb
end -- K5
section -- K6
set_option maxHeartbeats 1000000
namespace Nb
open PySem PySem.Spec PyProof.Rows L2
section
variable {h : Heap} {mg : Str → Option Value} {K : PySem.W.Frag}
theorem lawAt (w : World) {fa : Addr} (KX : K.In h) (G : h.Ns mainGlobals mg) (hfa : mg "law" = some (.ref fa)) (c : SaysN fnl chkN tfl h K) : LamX.LawAtS PySem.Challenge.rw_notbehind_k79_whole_anytime_papers w K CX0 13 63 "_law_script" mg fa h := by
  have gl := c.gl KX G ilaw "law" rfl
  obtain rfl : fa = pI ilaw K := Value.ref.inj (Option.some.inj (hfa.symm.trans gl))
  obtain ⟨fd, F⟩ := c.def_ 100 rfl
  have mem1 : pI ilawunlike ∈ tfl := List.mem_cons_self
  have mem2 : pI ilawwrong ∈ tfl := List.mem_cons_of_mem _ List.mem_cons_self
  have two : ∀ {Q : Addr × Addr → Prop}, Q (cAt K (pI ilawunlike K), tAt K (pI ilawunlike K)) → Q (cAt K (pI ilawwrong K), tAt K (pI ilawwrong K)) → ∀ p ∈ [(cAt K (pI ilawunlike K), tAt K (pI ilawunlike K)), (cAt K (pI ilawwrong K), tAt K (pI ilawwrong K))], Q p := fun {Q} h1 h2 p hp => by
    simp only [List.mem_cons, List.not_mem_nil, or_false] at hp
    rcases hp with rfl | rfl
    · exact h1
    · exact h2
  have ne : tAt K (pI ilawunlike K) ≠ tAt K (pI ilawwrong K) := fun e => by
    have z := c.ex 27 rfl
    rw [decide_eq_true e] at z
    cases z
  refine ⟨fd, [(cAt K (pI ilawunlike K), tAt K (pI ilawunlike K)), (cAt K (pI ilawwrong K), tAt K (pI ilawwrong K))], spLaw K [(tAt K (pI ilawunlike K), qU), (tAt K (pI ilawwrong K), qW)], two (c.empty _ mem1) (c.empty _ mem2), two (c.out _ mem1) (c.out _ mem2), two (PySem.W.codeHd_of_K KX (c.hd _ mem1)) (PySem.W.codeHd_of_K KX (c.hd _ mem2)), fun s u => ?_, fun H a ns hn _ hT hsq => ?_, fun base hK hG hTB => ?_⟩
  · exact (FunD.bindsA (ps := ["_law_script"]) F fun _ _ _ _ _ _ us hl => match us, hl with | [_], _ => rfl) s [u] rfl
  · refine ⟨a, ns, rfl, hsq, hn, fun t ht => ?_, fun _ => rfl⟩
    simp only [List.mem_cons, List.not_mem_nil, or_false] at ht
    rcases ht with rfl | rfl
    · exact hT _ List.mem_cons_self
    · exact hT _ (List.mem_cons_of_mem _ List.mem_cons_self)
  · have U := defC_of (hm := c.gl KX G ilawunlike "_law_unlike" rfl) (c.def_ 98 rfl)
    have W := defC_of (hm := c.gl KX G ilawwrong "_law_wrong" rfl) (c.def_ 99 rfl)
    refine ok_law (c.txt KX G) (c.tab KX G) (c.plan KX G) (c.exc KX G) U (hTB _ List.mem_cons_self) List.mem_cons_self (fun t ht e => ?_) W (hTB _ (List.mem_cons_of_mem _ List.mem_cons_self)) (List.mem_cons_of_mem _ List.mem_cons_self) (fun t ht e => ?_) F
    · simp only [List.mem_cons, List.not_mem_nil, or_false] at ht
      rcases ht with rfl | rfl
      · rfl
      · exact absurd e.symm ne
    · simp only [List.mem_cons, List.not_mem_nil, or_false] at ht
      rcases ht with rfl | rfl
      · exact absurd e ne
      · rfl
end
end Nb
namespace HR
open PySem PySem.W PySem.Calls PyProof.Rows Nb
theorem runs (w : World) : HandSHeadRun.RunEq R qv (hookN fnl chkN tfl) (obN fnl chkN tfl) 20000 names w := fun os => by
  have r1 := run1 w os
  have r2 := run2 w os
  have r3 := run3 w os
  have r4 := run4 w os
  show (EF w os).map (fun s => (HandSHeadRun.looksF R.prog (boot_heap w.params) s.abs, seenF s, obN fnl chkN tfl s)) = some (true, openGood qv names, valN fnl)
  cases e : EF w os with
  | none => rw [e] at r1; cases r1
  | some s =>
    rw [e] at r1 r2 r3 r4
    have e1 : HandSHeadRun.looksF R.prog (boot_heap w.params) s.abs = true := Option.some.inj r1
    have e2 : seenF s = openGood qv names := Option.some.inj r2
    have e3 := Option.some.inj r3
    have e4 : (fnl.all fun d => d.ok (kN (HandSHeadRun.getT s))) = true := Option.some.inj r4
    obtain ⟨e5, e6⟩ := Prod.mk.inj e3
    obtain ⟨e6, e7⟩ := Prod.mk.inj e6
    show some (_, _, _) = _
    rw [e1, e2]
    refine congrArg some (congrArg (Prod.mk true) (congrArg (Prod.mk _) ?_))
    show (((fnl.all fun d => d.ok (kN (HandSHeadRun.getT s))), chkN (kN (HandSHeadRun.getT s)), emT (HandSHeadRun.getT s) (kN (HandSHeadRun.getT s)) tfl), fnl.map fun d => fnN (kN (HandSHeadRun.getT s)) (d.at_ (kN (HandSHeadRun.getT s)))) = ((true, true, true), fnl.map DefN.val)
    rw [e4, e5, e6, e7]
end HR
open PySem PySem.W PySem.Calls PyProof.Rows
set_option maxHeartbeats 0 in
theorem PySem.Challenge.cw_notbehind_k79_whole_anytime_papers_holds : PySem.Challenge.rw_notbehind_k79_whole_anytime_papers.Holds := by
  w_on; o_law
  refine HandSHeadRun.head_any (r := OpenLaw.row PySem.Challenge.rw_notbehind_k79_whole_anytime_papers) (q := HR.qv) (H := Nb.hookN Nb.fnl Nb.chkN Nb.tfl) (ob := Nb.obN Nb.fnl Nb.chkN Nb.tfl) (M := 20000) (loose := HR.names) (d := HandSHeadRun.topDef (OpenLaw.row PySem.Challenge.rw_notbehind_k79_whole_anytime_papers).prog 147) (kwd := []) (Nb.obN_eq _ _ _)
    (by kernel_rfl) (fun s => by kernel_rfl) HR.runs (by kernel_rfl) (by kernel_rfl) (by kernel_rfl) (by rfl) (by first | assumption | decide +kernel) (by decide +kernel) ⟨rfl, rfl, rfl, rfl, rfl, by decide +kernel⟩ ?hw ?hc
  case hw => w_witness2
  case hc =>
    refine LamX.walk_ofTsE (l := PySem.Challenge.rw_notbehind_k79_whole_anytime_papers) (n := 63) (k := 13) (x := "_law_script") (CX := fun _ => L2.CX0) rfl (by decide) (by kernel_rfl) ⟨rfl, by decide, by decide⟩ ?F (fun _ _ _ _ _ z => z)
    intro w mg fa h ⟨K, KX, c⟩ G hmg0
    have at_law : mg ("law" : PySem.Str) = some (.ref fa) := by
      have e : (HandSHeadRun.topDef (OpenLaw.row PySem.Challenge.rw_notbehind_k79_whole_anytime_papers).prog 147).name = ("law" : PySem.Str) := by kernel_rfl
      rw [← e]
      exact hmg0
    exact ⟨K, KX, Nb.lawAt w KX G at_law c⟩
end -- K6
