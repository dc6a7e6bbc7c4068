import PyProof.Rows.All
import Wide.All
import OpenK.AllK
import Wide.FinOn
import HandS.Base
import HandS.Call
import HandS.Defaults
import HandS.Words
import HandS.Property
import HandS.Star
import HandS.HeadHook1
import HandS.HeadHook2
import HandS.HeadHook3
import KE.KStateDown
import HandS.Head0
import HandS.Head1
import HandS.Head2
import HandS.ForMost
import HandS.Evl
import HandS.Conv
import HandS.TupAny
import HandS.Deep
import HandS.Wide
import HandS.SortKw
import HandS.Slots
import KE.KSortKey
import PyProof.ListMulRoad
import PyProof.FactsAll.tuple_2
import HandS.TupMul
import HandS.More
import HandS.IsInst
import HandS.Style
import HandS.MakeKwOnly
import HandS.Walk
import PyProof.DictUpdate
import KE.KDictOf
import KE.KSuper
import HandS.Nested
import HandS.ClsMeth
import KE.KStar
import HandS.Small
import HandS.HeadEnd
import PySem.Challenge.RW_epochrooms_k63_whole_kept_things_counted
set_option Elab.async false
set_option linter.all false
set_option maxRecDepth 100000
set_option maxHeartbeats 2000000
/-! the head's facts, read by a Hook of our own: defs wherever they stand, tables, any looks -/
namespace EpH
open PySem PySem.Spec PyProof.Rows L2 He
abbrev Fr := PySem.W.Frag
/-! ### places -/
def gl (x : Str) : Fr → Addr := fun K => ga K x
def me (C m : Str) : Fr → Addr := fun K => ma K (ga K C) m
/-- a property's getter -/
def getter (K : Fr) (p : Addr) : Addr := match PySem.W.recIn K p "property" with
  | some (.ref g :: _) => g
  | _ => 0
def pr (C m : Str) : Fr → Addr := fun K => getter K (ma K (ga K C) m)
/-! ### a def -/
structure DefP where
  ad : Fr → Addr
  name : Str
  qual : Str
  params : Arguments
  body : List Stmt
  scope : Scope
  cl : Bool := false
  dfl : List Dv := []
  kwd : List (Str × Dv) := []
abbrev FnP : Type := Option (Str × Str × Arguments × FuncBody × Scope × Addr × List Str × Addr)
def fnP (K : Fr) (a : Addr) : FnP := match K.lookup a with
  | some ⟨_, _, .func fd, _⟩ => some (fd.name, fd.qualname, fd.params, fd.body, fd.scope, fd.globals, fd.closure.map (·.1), fd.builtins)
  | _ => none
def DefP.val (d : DefP) : FnP := some (d.name, d.qual, d.params, .stmts d.body, d.scope, mainGlobals, (match d.cl with | true => ["__class__"] | false => []), builtinsNs)
def DefP.dvs (K : Fr) (d : DefP) : List V := d.dfl.map (Dv.v K)
def DefP.kws (K : Fr) (d : DefP) : List (Str × V) := d.kwd.map fun q => (q.1, q.2.v K)
def DefP.ok (K : Fr) (d : DefP) : Bool := PySem.W.keepIn K (.ref (d.ad K)) && (match K.lookup (d.ad K) with
  | some ⟨_, _, .func fd, _⟩ => PySem.W.codeIn K fd.code d.qual && (dflB K fd.defaults (d.dvs K) && kwdB K fd.kwdefaults (d.kws K))
  | _ => false)
theorem DefP.fn {K : Fr} {d : DefP} (e : fnP K (d.ad K) = d.val) (c : d.ok K = true) : PySem.W.keepIn K (.ref (d.ad K)) = true ∧ ∃ oc od fd osl, K.lookup (d.ad K) = some ⟨oc, od, .func fd, osl⟩ ∧ fd.name = d.name ∧ fd.qualname = d.qual ∧ fd.params = d.params ∧ fd.body = .stmts d.body ∧ fd.scope = d.scope ∧ fd.globals = mainGlobals ∧ fd.closure.map (·.1) = (match d.cl with | true => ["__class__"] | false => []) ∧ fd.builtins = builtinsNs ∧
    PySem.W.codeIn K fd.code d.qual = true ∧ DflV K fd.defaults (d.dvs K) ∧ KwdV K fd.kwdefaults (d.kws K) := by
  obtain ⟨kp, c2⟩ := ba c
  refine ⟨kp, ?_⟩
  unfold fnP at e
  cases q : K.lookup (d.ad K) with
  | none =>
    rw [q] at c2
    cases c2
  | some o =>
    obtain ⟨oc, od, dt, osl⟩ := o
    rw [q] at c2 e
    cases dt with
    | func fd =>
      have e2 := Option.some.inj (show some (fd.name, fd.qualname, fd.params, fd.body, fd.scope, fd.globals, fd.closure.map (·.1), fd.builtins) = some (d.name, d.qual, d.params, FuncBody.stmts d.body, d.scope, mainGlobals, (match d.cl with | true => (["__class__"] : List Str) | false => []), builtinsNs) from e)
      simp only [Prod.mk.injEq] at e2
      obtain ⟨h1, h2, h3, h4, h5, h6, h7, h8⟩ := e2
      have c3 : (PySem.W.codeIn K fd.code d.qual && (dflB K fd.defaults (d.dvs K) && kwdB K fd.kwdefaults (d.kws K))) = true := c2
      obtain ⟨k1, k2⟩ := ba c3
      obtain ⟨k3, k4⟩ := ba k2
      exact ⟨oc, od, fd, osl, rfl, h1, h2, h3, h4, h5, h6, h7, h8, k1, dflB_ok k3, kwdB_ok k4⟩
    | _ => cases c2
/-- a def without a closure -/
theorem DefP.funD {K : Fr} {d : DefP} (e : fnP K (d.ad K) = d.val) (c : d.ok K = true) (hc : d.cl = false) : ∃ fd, FunD K d.name d.qual d.params d.body d.scope (d.dvs K) (d.kws K) (d.ad K) fd := by
  obtain ⟨kp, oc, od, fd, osl, lk, h1, h2, h3, h4, h5, h6, h7, h8, k1, k3, k4⟩ := DefP.fn e c
  rw [hc] at h7
  obtain ⟨n1, n2, n3, n4, n5, n6, n7, n8, n9, n10, n11, n12, n13, n14, n15⟩ := fd
  have h9 : n7 = [] := List.map_eq_nil_iff.mp h7
  clear h7
  dsimp only at h1 h2 h3 h4 h5 h6 h8
  subst h1 h2 h3 h4 h5 h6 h9 h8
  exact ⟨_, ⟨oc, od, n8, n9, n10, n11, n12, n13, n14, osl, rfl, lk, k1, k3, k4⟩, kp⟩
theorem fun_of {K : Fr} {x qual : Str} {st : Stmt} {kws : List (Str × V)} {f : Addr} {fd : FuncData} (F : FunD K x qual (defArgs st) (defBody st) (defScope st) [] kws f fd) : Fun K x qual st f fd := by
  obtain ⟨oc, od, dV, kV, doc, pm, an, cdv, ct, osl, h1, h2, h3, h4, _⟩ := F.ex
  rcases h4 with ⟨_, rfl⟩ | ⟨e, _⟩
  · exact ⟨⟨oc, od, kV, doc, pm, an, cdv, ct, osl, h1, h2, h3⟩, F.kp⟩
  · exact absurd rfl e
/-! ### values that are tuples, at any place -/
def tupAt (K : Fr) (a : Addr) (vs : List V) : Bool := match K.lookup a with
  | some ⟨.type c, _, .seq its _, _⟩ => decide (c = "tuple") && (decide (its.size ≤ sizeLine) && relAll vs its.toList)
  | _ => false
theorem tupAt_ok {K : Fr} {a : Addr} {vs : List V} (h : tupAt K a vs = true) (H : Hp) : SqT K H a vs := by
  unfold tupAt at h
  cases q : K.lookup a with
  | none =>
    rw [q] at h
    cases h
  | some o =>
    obtain ⟨oc, od, dt, osl⟩ := o
    rw [q] at h
    cases oc with
    | type c =>
      cases dt with
      | seq its n =>
        obtain ⟨h1, h2⟩ := ba (show (decide (c = "tuple") && (decide (its.size ≤ sizeLine) && relAll vs its.toList)) = true from h)
        obtain ⟨h3, h4⟩ := ba h2
        exact .inr ⟨_, its, n, q, congrArg Value.type (of_decide_eq_true h1), rfl, of_decide_eq_true h3, relAll_ok h4⟩
      | _ => cases h
    | _ => cases dt <;> cases h
/-- the value of a key, if it is an object -/
def refAt (K : Fr) (d : Addr) (z : Str) : Addr := match PySem.W.nsIn K d z with
  | some (some (.ref b)) => b
  | _ => 0
/-! ### the Hook -/
abbrev TabP : Type := (Fr → Addr) × List Str
abbrev AlP : Type := Bool × List FnP × List (Option (List (Option (Str × Int))))
/-- what an object of the top names, as far as it is looked at -/
def refs1 (o : Obj) : List Addr := match o.data with
  | .dict es _ => es.toList.flatMap fun e => refV e.val
  | .func fd => refV fd.code ++ (refV fd.defaults ++ (refV fd.kwdefaults ++ fd.closure.map (·.2)))
  | .cls cd => [cd.ns]
  | _ => []
def refs2 (o : Obj) : List Addr := match o.data with
  | .dict es _ => es.toList.flatMap fun e => refV e.val
  | _ => []
def refs3 (o : Obj) : List Addr := match o.data with
  | .func fd => refV fd.code ++ (refV fd.defaults ++ (refV fd.kwdefaults ++ fd.closure.map (·.2)))
  | .fields vs => vs.toList.flatMap refV
  | _ => []
def refs4 (o : Obj) : List Addr := match o.data with
  | .func fd => refV fd.code
  | _ => []
def nxP (g : Addr → Option Obj) (r : Obj → List Addr) (as : List Addr) : List Addr := as.flatMap fun a => match g a with
  | some o => r o
  | none => []
/-- the places that are looked at -/
def asP (g : Addr → Option Obj) : List Addr :=
  (fun l1 => (fun l2 => (fun l3 => (fun l4 => mainGlobals :: cStatics :: (l1 ++ (l2 ++ (l3 ++ (l4 ++ nxP g refs4 l4))))) (nxP g refs3 l3)) (nxP g refs2 l2)) (nxP g refs1 l1)) (nxP g refs2 [mainGlobals])
def obsK (chk : List (Fr → Bool)) (fn : List DefP) (ts : List TabP) (K : Fr) : AlP := ((chk.all fun p => p K) && fn.all fun d => d.ok K, fn.map fun d => fnP K (d.ad K), ts.map fun t => dicW K (t.1 K))
def valK (fn : List DefP) (ts : List TabP) (w : World) : AlP := (true, fn.map DefP.val, ts.map fun t => some (keysIn w.params t.2))
def SaysK (chk : List (Fr → Bool)) (fn : List DefP) (ts : List TabP) (w : World) (K : Fr) : Prop := obsK chk fn ts K = valK fn ts w
def obsKG (chk : List (Fr → Bool)) (fn : List DefP) (ts : List TabP) (g : Addr → Option Obj) : AlP := obsK chk fn ts (frG g (asP g))
def hookK (chk : List (Fr → Bool)) (fn : List DefP) (ts : List TabP) : PySem.W.Hook where
  α := AlP
  obs := fun s => obsKG chk fn ts s.heap.get?
  val := fun w => valK fn ts w
  says := fun w h => ∃ K : Fr, K.In h ∧ SaysK chk fn ts w K
  of := fun _ _ e => ⟨_, frG_in, e⟩
  keeps := fun _ _ _ ⟨K, hK, c⟩ k => ⟨K, PySem.W.Frag.In.keeps hK k, c⟩
theorem obsKG_eq {chk : List (Fr → Bool)} {fn : List DefP} {ts : List TabP} {g : Addr → Option Obj} {s : Shared} (h : ∀ a, g a = s.heap.get? a) : obsKG chk fn ts g = (hookK chk fn ts).obs s := by
  have e : g = s.heap.get? := funext h
  rw [e] <;> rfl
section
variable {chk : List (Fr → Bool)} {fn : List DefP} {ts : List TabP} {w : World} {K : Fr}
theorem SaysK.ck (c : SaysK chk fn ts w K) (i : Nat) {p : Fr → Bool} (h : chk[i]? = some p := by rfl) : p K = true := by
  have c1 := (ba (show ((chk.all fun p => p K) && fn.all fun d => d.ok K) = true from congrArg (fun z : AlP => z.1) c)).1
  exact List.all_eq_true.mp c1 p (List.mem_of_getElem? h)
theorem SaysK.def_ (c : SaysK chk fn ts w K) (i : Nat) {d : DefP} (h : fn[i]? = some d := by rfl) : fnP K (d.ad K) = d.val ∧ d.ok K = true := by
  have c2 := (ba (show ((chk.all fun p => p K) && fn.all fun d => d.ok K) = true from congrArg (fun z : AlP => z.1) c)).2
  have e : fn.map (fun d => fnP K (d.ad K)) = fn.map DefP.val := congrArg (fun z : AlP => z.2.1) c
  have e2 : (fn.map fun d => fnP K (d.ad K))[i]? = (fn.map DefP.val)[i]? := by rw [e]
  rw [List.getElem?_map, List.getElem?_map, h] at e2
  exact ⟨Option.some.inj e2, List.all_eq_true.mp c2 d (List.mem_of_getElem? h)⟩
theorem SaysK.tab (c : SaysK chk fn ts w K) (i : Nat) {t : TabP} (h : ts[i]? = some t := by rfl) : ∃ es n, KDict K w (t.1 K) es n := by
  have e : ts.map (fun t => dicW K (t.1 K)) = ts.map fun t => some (keysIn w.params t.2) := congrArg (fun z : AlP => z.2.2) c
  have e2 : (ts.map fun t => dicW K (t.1 K))[i]? = (ts.map fun t => some (keysIn w.params t.2))[i]? := by rw [e]
  rw [List.getElem?_map, List.getElem?_map, h] at e2
  exact dicW_ok (Option.some.inj e2)
end
/-! looks -/
/-- scalars -/
def scP : PyData → Bool
  | .bool _ => true | .int _ => true | .str _ => true | _ => false
def clsB (C : Str) (fs : List Str) (K : Fr) : Bool := (Fa.cls C).ok K && fs.all fun f => eqO (PySem.W.findIn K (.ref (ga K C)) f) (some none)
def methB (C m : Str) (f : Fr → Addr) (K : Fr) : Bool := eqO (PySem.W.findIn K (.ref (ga K C)) m) (some (some (.ref (f K)))) && (PySem.W.isFn K (.ref (f K)) && PySem.W.keepIn K (.ref (f K)))
def mkB (C : Str) (f : Fr → Addr) (K : Fr) : Bool := PySem.W.makesIn K (ga K C) && (eqO (PySem.W.findIn K (.ref (ga K C)) "__init__") (some (some (.ref (f K)))) && (PySem.W.isFn K (.ref (f K)) && PySem.W.keepIn K (.ref (ga K C))))
def propB (C m : Str) (g : Fr → Addr) (K : Fr) : Bool := eqO (PySem.W.findIn K (.ref (ga K C)) m) (some (some (.ref (ma K (ga K C) m)))) && (eqO (PySem.W.specialIn K (.ref (ma K (ga K C) m)) "__get__") (some (some (.builtin "property.__get__"))) && (decide (PySem.W.takesIn K (.ref (ma K (ga K C) m)) = some true) && (match PySem.W.recIn K (ma K (ga K C) m) "property" with
  | some (.ref g' :: _) => decide (g' = g K)
  | _ => false)))
def getB (C : Str) (g : Fr → Addr) (K : Fr) : Bool := eqO (PySem.W.findIn K (.ref (ga K C)) "__getitem__") (some (some (.ref (g K)))) && (PySem.W.fnIn K (g K) && PySem.W.isFn K (.ref (g K)))
def setB (C : Str) (g : Fr → Addr) (K : Fr) : Bool := eqO (PySem.W.findIn K (.ref (ga K C)) "__setitem__") (some (some (.ref (g K)))) && (PySem.W.noSeq K (ga K C) && PySem.W.isFn K (.ref (g K)))
def callB (C : Str) (g : Fr → Addr) (K : Fr) : Bool := eqO (PySem.W.findIn K (.ref (ga K C)) "__call__") (some (some (.ref (g K)))) && (PySem.W.isFn K (.ref (g K)) && PySem.W.fnIn K (g K))
/-- scalars as values -/
def vOf : PyData → V
  | .bool b => .bl b
  | .int i => .int i
  | .str x => .str x
  | _ => .non
/-- a class's words and way -/
def wordsB (C : Str) (ws : List Str) (way : Str) (K : Fr) : Bool := conB K C "WORDS" (.adr (me C "WORDS")) && (tupAt K (me C "WORDS" K) (ws.map .str) && conB K C "WAY" (.str way))
/-- a table of tuples -/
def tabvB (x : Str) (l : List (Str × List PyData)) (K : Fr) : Bool := l.all fun q => eqO (PySem.W.nsIn K (ga K x) q.1) (some (some (.ref (refAt K (ga K x) q.1)))) && (tupAt K (refAt K (ga K x) q.1) (q.2.map vOf) && q.2.all scP)
/-- for isinstance -/
def isiB (C : Str) (K : Fr) : Bool := eqO (PySem.W.findIn K (.ref (ga K C)) "__class__") (some (some (.builtin "object.__class__"))) && (eqO (PySem.W.specialIn K (.builtin "object.__class__") "__get__") (some (some (.builtin "getset_descriptor.__get__"))) && (decide (PySem.W.takesIn K (.builtin "object.__class__") = some true) && decide (PySem.W.mroIn K (ga K C) (.type "object") = some true)))
def kitB3 (C : Str) (K : Fr) : Bool := decide (PySem.W.kitAny K (.ref (ga K C)) [.ref (ga K "EpochBook"), .ref (ga K "LookBook"), .ref (ga K "StillBook")] = some true)
/-- the program's file -/
def fileP : Str := PySem.Challenge.pw_epochrooms_k63_whole_kept_things_counted.main.file
def codeFile (K : Fr) (cd : Value) : Bool := match cd with
  | .ref c => (match K.lookup c with
    | some ⟨_, _, .fields vs, _⟩ => (match (vs[2]? : Option Value) with
      | some (Value.str file _) => (fileP : Str) == file
      | _ => false)
    | _ => false)
  | _ => false
def cellIs (K : Fr) (l : List (Str × Addr)) (D : Addr) : Bool := match l with
  | [(_, cc)] => (match K.lookup cc with
    | some ⟨_, _, .cell (some (.ref D')), _⟩ => decide (D' = D)
    | _ => false)
  | _ => false
def superB (C : Str) (K : Fr) : Bool := (match K.lookup (me C "__init__" K) with
  | some ⟨_, _, .func fd, _⟩ => cellIs K fd.closure (ga K C) && codeFile K fd.code
  | _ => false) && ((PySem.W.clsIn K (ga K C)).isSome && (decide (PySem.W.mroIn K (ga K C) (.ref (ga K C)) = some true) && (eqO (PySem.W.ks_superIn K (ga K C) (ga K C) "__init__") (some (some (.ref (me "Book" "__init__" K)))) && (decide (PySem.W.typeIn K (.ref (me "Book" "__init__" K)) = some (.type "function")) && (PySem.W.fnIn K (me "Book" "__init__" K) && eqO (PySem.W.nsIn K cStatics "thirdparty.any") (some none))))))
end EpH
set_option maxHeartbeats 4000000
/-! the head's data (printed by tools/join.py) -/
namespace EpH
open PySem PySem.Spec PyProof.Rows L2 He
def topH (i : Nat) : Stmt := PySem.Challenge.pw_epochrooms_k63_whole_kept_things_counted.main.body.getD i (.Pass ⟨0, 0, 0, 0⟩)
def chk0 : List (Fr → Bool) := [fun K => Fa.ok K (.free "int"), fun K => Fa.ok K (.free "max"), fun K => Fa.ok K (.free "len"), fun K => Fa.ok K (.glo "_law_pool"), fun K => Fa.ok K (.glo "_law_switches"), fun K => Fa.ok K (.free "range"), fun K => Fa.ok K (.glo "_law_choices"), fun K => Fa.ok K (.glo "_law_take"), fun K => Fa.ok K (.glo "_law_one"), fun K => Fa.ok K (.glo "_law_own"), fun K => Fa.ok K (.glo "_law_any_own"), clsB "EpochBook" ["own", "order"], wordsB "EpochBook" ["epochs", "behind", "check", "fetch", "mark", "test", "step", "told"] "epochs", clsB "LookBook" ["own", "order"], wordsB "LookBook" ["check", "look", "chain"] "looks", clsB "StillBook" ["own", "order"], wordsB "StillBook" ["counts", "still", "read", "sleep"] "still", fun K => Fa.ok K (.int "LEAST_EPOCHS" 2), fun K => Fa.ok K (.int "MOST_EPOCHS" 6), fun K => Fa.ok K (.int "MOST_COUNTS" 4), fun K => Fa.ok K (.glo "ORDERS"), tabvB "ORDERS" [("check", [.bool false, .bool true]), ("fetch", [.str "ahead", .str "behind"]), ("mark", [.str "own", .str "fresh"]), ("test", [.str "last", .str "equal"]), ("step", [.str "add", .str "set", .str "still"]), ("told", [.bool false, .bool true]), ("look", [.str "ahead", .str "behind"]), ("chain", [.str "next", .str "both", .str "none"]), ("still", [.str "anywhere", .str "outside"]), ("read", [.str "ahead", .str "behind"]), ("sleep", [.str "inside", .str "late", .str "outside", .str "none"])], fun K => Fa.ok K (.free "tuple"), fun K => Fa.ok K (.glo "values_at"), fun K => Fa.ok K (.free "isinstance"), fun K => Fa.ok K (.free "bool"), fun K => Fa.ok K (.glo "is_whole"), fun K => Fa.ok K (.free "str"), fun K => Fa.ok K (.glo "is_same"), fun K => Fa.ok K (.glo "is_value"), methB "EpochBook" "first_wrong" (me "Book" "first_wrong"), methB "LookBook" "first_wrong" (me "Book" "first_wrong"), methB "StillBook" "first_wrong" (me "Book" "first_wrong"), fun K => Fa.ok K (.free "list"), superB "EpochBook", fun K => Fa.ok K (.free "super"), fun K => Fa.ok K (.glo "EpochBook"), mkB "EpochBook" (me "EpochBook" "__init__"), superB "LookBook", fun K => Fa.ok K (.glo "LookBook")]
def chk1 : List (Fr → Bool) := [mkB "LookBook" (me "LookBook" "__init__"), superB "StillBook", fun K => Fa.ok K (.glo "StillBook"), mkB "StillBook" (me "StillBook" "__init__"), methB "EpochBook" "look_at_word" (me "Book" "look_at_word"), methB "LookBook" "look_at_word" (me "Book" "look_at_word"), methB "StillBook" "look_at_word" (me "Book" "look_at_word"), setB "EpochBook" (me "Book" "__setitem__"), setB "LookBook" (me "Book" "__setitem__"), setB "StillBook" (me "Book" "__setitem__"), fun K => Fa.ok K (.glo "_law_book"), fun K => Fa.ok K (.glo "Setting"), mkB "Setting" (me "Setting" "__init__"), clsB "Setting" ["kept", "hands"], fun K => Fa.ok K (.int "MOST_READERS" 3), fun K => Fa.ok K (.int "MOST_TAKERS" 2), fun K => Fa.ok K (.int "MOST_STEPPERS" 7), fun K => Fa.ok K (.int "MOST_THINGS" 40), isiB "EpochBook", kitB3 "EpochBook", isiB "LookBook", kitB3 "LookBook", isiB "StillBook", kitB3 "StillBook", fun K => Fa.ok K (.glo "is_book"), fun K => Fa.ok K (.glo "look_at_book"), fun K => Fa.ok K (.glo "is_number"), propB "EpochBook" "way" (pr "Book" "way"), propB "LookBook" "way" (pr "Book" "way"), propB "StillBook" "way" (pr "Book" "way"), fun K => Fa.ok K (.free "dict"), methB "EpochBook" "twin" (me "EpochBook" "twin"), methB "LookBook" "twin" (me "LookBook" "twin"), methB "StillBook" "twin" (me "StillBook" "twin"), fun K => Fa.ok K (.glo "_law_setting"), clsB "Bench" ["setting", "done", "states"], isiB "Setting", fun K => Fa.ok K (.glo "look_at_setting"), propB "Setting" "readers" (pr "Setting" "readers"), propB "Setting" "takers" (pr "Setting" "takers")]
def chk2 : List (Fr → Bool) := [propB "Setting" "steppers" (pr "Setting" "steppers"), propB "Setting" "things" (pr "Setting" "things"), getB "EpochBook" (me "Book" "__getitem__"), getB "LookBook" (me "Book" "__getitem__"), getB "StillBook" (me "Book" "__getitem__"), fun K => Fa.ok K (.glo "first_epochs"), fun K => Fa.ok K (.glo "first_looks"), fun K => Fa.ok K (.glo "first_stills"), fun K => Fa.ok K (.glo "first_state"), fun K => Fa.ok K (.glo "Bench"), mkB "Bench" (me "Bench" "__init__"), fun K => Fa.ok K (.glo "is_unsafe"), fun K => Fa.ok K (.glo "held_by"), fun K => Fa.ok K (.free "sorted"), fun K => Fa.ok K (.glo "kept"), methB "Bench" "state" (me "Bench" "state"), clsB "EpochWorld" ["setting", "own", "epoch", "spot", "reader_rows", "taker_rows", "stepper_rows", "freed", "bad"], fun K => Fa.ok K (.glo "EpochWorld"), mkB "EpochWorld" (me "EpochWorld" "__init__"), clsB "LookWorld" ["setting", "own", "spot", "reader_rows", "taker_rows", "freed", "bad"], fun K => Fa.ok K (.glo "LookWorld"), mkB "LookWorld" (me "LookWorld" "__init__"), clsB "StillWorld" ["setting", "own", "spot", "reader_rows", "taker_rows", "freed", "bad"], fun K => Fa.ok K (.glo "StillWorld"), mkB "StillWorld" (me "StillWorld" "__init__"), fun K => Fa.ok K (.glo "world_of"), fun K => Fa.ok K (.free "enumerate"), fun K => Fa.ok K (.glo "READER_DEEDS"), tabvB "READER_DEEDS" [("got", [.str "tell"]), ("anew", [.str "tell"]), ("read", [.str "write"]), ("wrote", [.str "check"]), ("told", [.str "get"]), ("inside", [.str "use", .str "end"])], methB "EpochWorld" "reader_deeds" (me "EpochWorld" "reader_deeds"), fun K => Fa.ok K (.glo "TAKER_DEEDS"), tabvB "TAKER_DEEDS" [("read", [.str "write"]), ("wrote", [.str "check"]), ("anew", [.str "tell"]), ("took", [.str "mark"])], methB "EpochWorld" "taker_deeds" (me "EpochWorld" "taker_deeds"), fun K => Fa.ok K (.glo "STEPPER_DEEDS"), tabvB "STEPPER_DEEDS" [("read", [.str "write"]), ("wrote", [.str "check"]), ("anew", [.str "tell"]), ("ready", [.str "begin"]), ("looking", [.str "look"]), ("passed", [.str "step"]), ("done", [.str "leave"])], methB "EpochWorld" "stepper_deeds" (me "EpochWorld" "stepper_deeds"), methB "EpochWorld" "moves" (me "EpochWorld" "moves"), methB "LookWorld" "reader_deeds" (me "LookWorld" "reader_deeds"), methB "LookWorld" "taker_deeds" (me "LookWorld" "taker_deeds"), methB "LookWorld" "moves" (me "LookWorld" "moves")]
def chk3 : List (Fr → Bool) := [methB "StillWorld" "reader_deeds" (me "StillWorld" "reader_deeds"), methB "StillWorld" "taker_deeds" (me "StillWorld" "taker_deeds"), methB "StillWorld" "moves" (me "StillWorld" "moves"), fun K => eqO (PySem.W.nsIn K mainGlobals "moves_rules") (some (some (.ref (ga K "moves")))), methB "Bench" "moves" (me "Bench" "moves"), propB "Bench" "unsafe" (pr "Bench" "unsafe"), fun K => Fa.ok K (.glo "has_form"), fun K => Fa.ok K (.glo "is_possible"), methB "EpochWorld" "reader_does" (me "EpochWorld" "reader_does"), methB "EpochWorld" "sees" (me "EpochWorld" "sees"), methB "EpochWorld" "put" (me "EpochWorld" "put"), methB "EpochWorld" "taker_does" (me "EpochWorld" "taker_does"), methB "EpochWorld" "steps" (me "EpochWorld" "steps"), methB "EpochWorld" "words" (me "EpochWorld" "words"), methB "EpochWorld" "goes_by" (me "EpochWorld" "goes_by"), methB "EpochWorld" "looks" (me "EpochWorld" "looks"), methB "EpochWorld" "stepper_does" (me "EpochWorld" "stepper_does"), methB "EpochWorld" "do" (me "EpochWorld" "do"), methB "LookWorld" "use" (me "LookWorld" "use"), methB "LookWorld" "reader_does" (me "LookWorld" "reader_does"), methB "LookWorld" "words" (me "LookWorld" "words"), methB "LookWorld" "taker_does" (me "LookWorld" "taker_does"), methB "LookWorld" "do" (me "LookWorld" "do"), methB "StillWorld" "reader_does" (me "StillWorld" "reader_does"), methB "StillWorld" "noted" (me "StillWorld" "noted"), methB "StillWorld" "looked" (me "StillWorld" "looked"), methB "StillWorld" "taker_does" (me "StillWorld" "taker_does"), methB "StillWorld" "do" (me "StillWorld" "do"), methB "EpochWorld" "state" (me "EpochWorld" "state"), methB "LookWorld" "state" (me "LookWorld" "state"), methB "StillWorld" "state" (me "StillWorld" "state"), fun K => Fa.ok K (.glo "step"), callB "Bench" (me "Bench" "__call__"), methB "Bench" "last" (me "Bench" "last"), propB "Bench" "place" (pr "Bench" "place"), fun K => Fa.ok K (.glo "_law_right"), fun K => Fa.ok K (.glo "law")]
def chk : List (Fr → Bool) := chk0 ++ chk1 ++ chk2 ++ chk3
def fn0 : List DefP := [⟨gl "_law_pool", "_law_pool", "_law_pool", defArgs (topH 63), defBody (topH 63), defScope (topH 63), false, [], []⟩, ⟨gl "_law_switches", "_law_switches", "_law_switches", defArgs (topH 66), defBody (topH 66), defScope (topH 66), false, [], []⟩, ⟨gl "_law_choices", "_law_choices", "_law_choices", defArgs (topH 67), defBody (topH 67), defScope (topH 67), false, [], []⟩, ⟨gl "_law_take", "_law_take", "_law_take", defArgs (topH 64), defBody (topH 64), defScope (topH 64), false, [], []⟩, ⟨gl "_law_one", "_law_one", "_law_one", defArgs (topH 65), defBody (topH 65), defScope (topH 65), false, [], []⟩, ⟨gl "_law_own", "_law_own", "_law_own", defArgs (topH 68), defBody (topH 68), defScope (topH 68), false, [], []⟩, ⟨gl "_law_any_own", "_law_any_own", "_law_any_own", defArgs (topH 69), defBody (topH 69), defScope (topH 69), false, [], []⟩, ⟨gl "values_at", "values_at", "values_at", defArgs (topH 17), defBody (topH 17), defScope (topH 17), false, [], []⟩, ⟨gl "is_whole", "is_whole", "is_whole", defArgs (topH 11), defBody (topH 11), defScope (topH 11), false, [], []⟩, ⟨gl "is_same", "is_same", "is_same", defArgs (topH 18), defBody (topH 18), defScope (topH 18), false, [], []⟩, ⟨gl "is_value", "is_value", "is_value", defArgs (topH 19), defBody (topH 19), defScope (topH 19), false, [], []⟩, ⟨me "Book" "first_wrong", "first_wrong", "Book.first_wrong", defArgs (inClass (topH 21) 3), defBody (inClass (topH 21) 3), defScope (inClass (topH 21) 3), false, [], []⟩, ⟨me "Book" "__init__", "__init__", "Book.__init__", defArgs (inClass (topH 21) 2), defBody (inClass (topH 21) 2), defScope (inClass (topH 21) 2), false, [], []⟩, ⟨me "EpochBook" "__init__", "__init__", "EpochBook.__init__", defArgs (inClass (topH 22) 2), defBody (inClass (topH 22) 2), defScope (inClass (topH 22) 2), true, [], [("check", .bl true), ("fetch", .str "behind"), ("mark", .str "fresh"), ("test", .str "equal"), ("step", .str "still"), ("told", .bl true)]⟩, ⟨me "LookBook" "__init__", "__init__", "LookBook.__init__", defArgs (inClass (topH 23) 2), defBody (inClass (topH 23) 2), defScope (inClass (topH 23) 2), true, [], [("check", .bl true), ("look", .str "behind"), ("chain", .str "none")]⟩, ⟨me "StillBook" "__init__", "__init__", "StillBook.__init__", defArgs (inClass (topH 24) 2), defBody (inClass (topH 24) 2), defScope (inClass (topH 24) 2), true, [], [("still", .str "outside"), ("read", .str "behind"), ("sleep", .str "none")]⟩, ⟨me "Book" "look_at_word", "look_at_word", "Book.look_at_word", defArgs (inClass (topH 21) 5), defBody (inClass (topH 21) 5), defScope (inClass (topH 21) 5), false, [], []⟩, ⟨me "Book" "__setitem__", "__setitem__", "Book.__setitem__", defArgs (inClass (topH 21) 10), defBody (inClass (topH 21) 10), defScope (inClass (topH 21) 10), false, [], []⟩, ⟨gl "_law_book", "_law_book", "_law_book", defArgs (topH 70), defBody (topH 70), defScope (topH 70), false, [], []⟩, ⟨me "Setting" "__init__", "__init__", "Setting.__init__", defArgs (inClass (topH 41) 0), defBody (inClass (topH 41) 0), defScope (inClass (topH 41) 0), false, [.int 1, .int 1, .int 0], [("things", .int 3)]⟩, ⟨gl "is_book", "is_book", "is_book", defArgs (topH 25), defBody (topH 25), defScope (topH 25), false, [], []⟩, ⟨gl "look_at_book", "look_at_book", "look_at_book", defArgs (topH 26), defBody (topH 26), defScope (topH 26), false, [], []⟩, ⟨gl "is_number", "is_number", "is_number", defArgs (topH 10), defBody (topH 10), defScope (topH 10), false, [], []⟩, ⟨pr "Book" "way", "way", "Book.way", defArgs (inClass (topH 21) 4), defBody (inClass (topH 21) 4), defScope (inClass (topH 21) 4), false, [], []⟩, ⟨me "EpochBook" "twin", "twin", "EpochBook.twin", defArgs (inClass (topH 22) 5), defBody (inClass (topH 22) 5), defScope (inClass (topH 22) 5), false, [], []⟩, ⟨me "LookBook" "twin", "twin", "LookBook.twin", defArgs (inClass (topH 23) 5), defBody (inClass (topH 23) 5), defScope (inClass (topH 23) 5), false, [], []⟩, ⟨me "StillBook" "twin", "twin", "StillBook.twin", defArgs (inClass (topH 24) 5), defBody (inClass (topH 24) 5), defScope (inClass (topH 24) 5), false, [], []⟩, ⟨gl "_law_setting", "_law_setting", "_law_setting", defArgs (topH 71), defBody (topH 71), defScope (topH 71), false, [], []⟩, ⟨gl "look_at_setting", "look_at_setting", "look_at_setting", defArgs (topH 42), defBody (topH 42), defScope (topH 42), false, [], []⟩, ⟨pr "Setting" "readers", "readers", "Setting.readers", defArgs (inClass (topH 41) 2), defBody (inClass (topH 41) 2), defScope (inClass (topH 41) 2), false, [], []⟩, ⟨pr "Setting" "takers", "takers", "Setting.takers", defArgs (inClass (topH 41) 3), defBody (inClass (topH 41) 3), defScope (inClass (topH 41) 3), false, [], []⟩, ⟨pr "Setting" "steppers", "steppers", "Setting.steppers", defArgs (inClass (topH 41) 4), defBody (inClass (topH 41) 4), defScope (inClass (topH 41) 4), false, [], []⟩, ⟨pr "Setting" "things", "things", "Setting.things", defArgs (inClass (topH 41) 5), defBody (inClass (topH 41) 5), defScope (inClass (topH 41) 5), false, [], []⟩, ⟨me "Book" "__getitem__", "__getitem__", "Book.__getitem__", defArgs (inClass (topH 21) 9), defBody (inClass (topH 21) 9), defScope (inClass (topH 21) 9), false, [], []⟩, ⟨gl "first_epochs", "first_epochs", "first_epochs", defArgs (topH 31), defBody (topH 31), defScope (topH 31), false, [], []⟩, ⟨gl "first_looks", "first_looks", "first_looks", defArgs (topH 34), defBody (topH 34), defScope (topH 34), false, [], []⟩, ⟨gl "first_stills", "first_stills", "first_stills", defArgs (topH 44), defBody (topH 44), defScope (topH 44), false, [], []⟩, ⟨gl "first_state", "first_state", "first_state", defArgs (topH 49), defBody (topH 49), defScope (topH 49), false, [], []⟩, ⟨me "Bench" "__init__", "__init__", "Bench.__init__", defArgs (inClass (topH 61) 0), defBody (inClass (topH 61) 0), defScope (inClass (topH 61) 0), false, [], []⟩, ⟨gl "is_unsafe", "is_unsafe", "is_unsafe", defArgs (topH 47), defBody (topH 47), defScope (topH 47), false, [], []⟩]
def fn1 : List DefP := [⟨gl "held_by", "held_by", "held_by", defArgs (topH 56), defBody (topH 56), defScope (topH 56), false, [], []⟩, ⟨gl "kept", "kept", "kept", defArgs (topH 57), defBody (topH 57), defScope (topH 57), false, [], []⟩, ⟨me "Bench" "state", "state", "Bench.state", defArgs (inClass (topH 61) 4), defBody (inClass (topH 61) 4), defScope (inClass (topH 61) 4), false, [], []⟩, ⟨me "EpochWorld" "__init__", "__init__", "EpochWorld.__init__", defArgs (inClass (topH 32) 0), defBody (inClass (topH 32) 0), defScope (inClass (topH 32) 0), false, [], []⟩, ⟨me "LookWorld" "__init__", "__init__", "LookWorld.__init__", defArgs (inClass (topH 35) 0), defBody (inClass (topH 35) 0), defScope (inClass (topH 35) 0), false, [], []⟩, ⟨me "StillWorld" "__init__", "__init__", "StillWorld.__init__", defArgs (inClass (topH 45) 0), defBody (inClass (topH 45) 0), defScope (inClass (topH 45) 0), false, [], []⟩, ⟨gl "world_of", "world_of", "world_of", defArgs (topH 48), defBody (topH 48), defScope (topH 48), false, [], []⟩, ⟨me "EpochWorld" "reader_deeds", "reader_deeds", "EpochWorld.reader_deeds", defArgs (inClass (topH 32) 3), defBody (inClass (topH 32) 3), defScope (inClass (topH 32) 3), false, [], []⟩, ⟨me "EpochWorld" "taker_deeds", "taker_deeds", "EpochWorld.taker_deeds", defArgs (inClass (topH 32) 4), defBody (inClass (topH 32) 4), defScope (inClass (topH 32) 4), false, [], []⟩, ⟨me "EpochWorld" "stepper_deeds", "stepper_deeds", "EpochWorld.stepper_deeds", defArgs (inClass (topH 32) 5), defBody (inClass (topH 32) 5), defScope (inClass (topH 32) 5), false, [], []⟩, ⟨me "EpochWorld" "moves", "moves", "EpochWorld.moves", defArgs (inClass (topH 32) 6), defBody (inClass (topH 32) 6), defScope (inClass (topH 32) 6), false, [], []⟩, ⟨me "LookWorld" "reader_deeds", "reader_deeds", "LookWorld.reader_deeds", defArgs (inClass (topH 35) 3), defBody (inClass (topH 35) 3), defScope (inClass (topH 35) 3), false, [], []⟩, ⟨me "LookWorld" "taker_deeds", "taker_deeds", "LookWorld.taker_deeds", defArgs (inClass (topH 35) 4), defBody (inClass (topH 35) 4), defScope (inClass (topH 35) 4), false, [], []⟩, ⟨me "LookWorld" "moves", "moves", "LookWorld.moves", defArgs (inClass (topH 35) 5), defBody (inClass (topH 35) 5), defScope (inClass (topH 35) 5), false, [], []⟩, ⟨me "StillWorld" "reader_deeds", "reader_deeds", "StillWorld.reader_deeds", defArgs (inClass (topH 45) 3), defBody (inClass (topH 45) 3), defScope (inClass (topH 45) 3), false, [], []⟩, ⟨me "StillWorld" "taker_deeds", "taker_deeds", "StillWorld.taker_deeds", defArgs (inClass (topH 45) 4), defBody (inClass (topH 45) 4), defScope (inClass (topH 45) 4), false, [], []⟩, ⟨me "StillWorld" "moves", "moves", "StillWorld.moves", defArgs (inClass (topH 45) 5), defBody (inClass (topH 45) 5), defScope (inClass (topH 45) 5), false, [], []⟩, ⟨gl "moves", "moves", "moves", defArgs (topH 50), defBody (topH 50), defScope (topH 50), false, [], []⟩, ⟨me "Bench" "moves", "moves", "Bench.moves", defArgs (inClass (topH 61) 5), defBody (inClass (topH 61) 5), defScope (inClass (topH 61) 5), false, [], []⟩, ⟨pr "Bench" "unsafe", "unsafe", "Bench.unsafe", defArgs (inClass (topH 61) 11), defBody (inClass (topH 61) 11), defScope (inClass (topH 61) 11), false, [], []⟩, ⟨gl "has_form", "has_form", "has_form", defArgs (topH 52), defBody (topH 52), defScope (topH 52), false, [], []⟩, ⟨gl "is_possible", "is_possible", "is_possible", defArgs (topH 53), defBody (topH 53), defScope (topH 53), false, [], []⟩, ⟨me "EpochWorld" "reader_does", "reader_does", "EpochWorld.reader_does", defArgs (inClass (topH 32) 8), defBody (inClass (topH 32) 8), defScope (inClass (topH 32) 8), false, [], []⟩, ⟨me "EpochWorld" "sees", "sees", "EpochWorld.sees", defArgs (inClass (topH 32) 9), defBody (inClass (topH 32) 9), defScope (inClass (topH 32) 9), false, [], []⟩, ⟨me "EpochWorld" "put", "put", "EpochWorld.put", defArgs (inClass (topH 32) 10), defBody (inClass (topH 32) 10), defScope (inClass (topH 32) 10), false, [], []⟩, ⟨me "EpochWorld" "taker_does", "taker_does", "EpochWorld.taker_does", defArgs (inClass (topH 32) 11), defBody (inClass (topH 32) 11), defScope (inClass (topH 32) 11), false, [], []⟩, ⟨me "EpochWorld" "steps", "steps", "EpochWorld.steps", defArgs (inClass (topH 32) 14), defBody (inClass (topH 32) 14), defScope (inClass (topH 32) 14), false, [], []⟩, ⟨me "EpochWorld" "words", "words", "EpochWorld.words", defArgs (inClass (topH 32) 2), defBody (inClass (topH 32) 2), defScope (inClass (topH 32) 2), false, [], []⟩, ⟨me "EpochWorld" "goes_by", "goes_by", "EpochWorld.goes_by", defArgs (inClass (topH 32) 12), defBody (inClass (topH 32) 12), defScope (inClass (topH 32) 12), false, [], []⟩, ⟨me "EpochWorld" "looks", "looks", "EpochWorld.looks", defArgs (inClass (topH 32) 13), defBody (inClass (topH 32) 13), defScope (inClass (topH 32) 13), false, [], []⟩, ⟨me "EpochWorld" "stepper_does", "stepper_does", "EpochWorld.stepper_does", defArgs (inClass (topH 32) 15), defBody (inClass (topH 32) 15), defScope (inClass (topH 32) 15), false, [], []⟩, ⟨me "EpochWorld" "do", "do", "EpochWorld.do", defArgs (inClass (topH 32) 7), defBody (inClass (topH 32) 7), defScope (inClass (topH 32) 7), false, [], []⟩, ⟨me "LookWorld" "use", "use", "LookWorld.use", defArgs (inClass (topH 35) 7), defBody (inClass (topH 35) 7), defScope (inClass (topH 35) 7), false, [], []⟩, ⟨me "LookWorld" "reader_does", "reader_does", "LookWorld.reader_does", defArgs (inClass (topH 35) 8), defBody (inClass (topH 35) 8), defScope (inClass (topH 35) 8), false, [], []⟩, ⟨me "LookWorld" "words", "words", "LookWorld.words", defArgs (inClass (topH 35) 2), defBody (inClass (topH 35) 2), defScope (inClass (topH 35) 2), false, [], []⟩, ⟨me "LookWorld" "taker_does", "taker_does", "LookWorld.taker_does", defArgs (inClass (topH 35) 9), defBody (inClass (topH 35) 9), defScope (inClass (topH 35) 9), false, [], []⟩, ⟨me "LookWorld" "do", "do", "LookWorld.do", defArgs (inClass (topH 35) 6), defBody (inClass (topH 35) 6), defScope (inClass (topH 35) 6), false, [], []⟩, ⟨me "StillWorld" "reader_does", "reader_does", "StillWorld.reader_does", defArgs (inClass (topH 45) 7), defBody (inClass (topH 45) 7), defScope (inClass (topH 45) 7), false, [], []⟩, ⟨me "StillWorld" "noted", "noted", "StillWorld.noted", defArgs (inClass (topH 45) 8), defBody (inClass (topH 45) 8), defScope (inClass (topH 45) 8), false, [], []⟩, ⟨me "StillWorld" "looked", "looked", "StillWorld.looked", defArgs (inClass (topH 45) 9), defBody (inClass (topH 45) 9), defScope (inClass (topH 45) 9), false, [], []⟩]
def fn2 : List DefP := [⟨me "StillWorld" "taker_does", "taker_does", "StillWorld.taker_does", defArgs (inClass (topH 45) 10), defBody (inClass (topH 45) 10), defScope (inClass (topH 45) 10), false, [], []⟩, ⟨me "StillWorld" "do", "do", "StillWorld.do", defArgs (inClass (topH 45) 6), defBody (inClass (topH 45) 6), defScope (inClass (topH 45) 6), false, [], []⟩, ⟨me "EpochWorld" "state", "state", "EpochWorld.state", defArgs (inClass (topH 32) 1), defBody (inClass (topH 32) 1), defScope (inClass (topH 32) 1), false, [], []⟩, ⟨me "LookWorld" "state", "state", "LookWorld.state", defArgs (inClass (topH 35) 1), defBody (inClass (topH 35) 1), defScope (inClass (topH 35) 1), false, [], []⟩, ⟨me "StillWorld" "state", "state", "StillWorld.state", defArgs (inClass (topH 45) 1), defBody (inClass (topH 45) 1), defScope (inClass (topH 45) 1), false, [], []⟩, ⟨gl "step", "step", "step", defArgs (topH 54), defBody (topH 54), defScope (topH 54), false, [], []⟩, ⟨me "Bench" "__call__", "__call__", "Bench.__call__", defArgs (inClass (topH 61) 1), defBody (inClass (topH 61) 1), defScope (inClass (topH 61) 1), false, [], []⟩, ⟨me "Bench" "last", "last", "Bench.last", defArgs (inClass (topH 61) 8), defBody (inClass (topH 61) 8), defScope (inClass (topH 61) 8), false, [], []⟩, ⟨pr "Bench" "place", "place", "Bench.place", defArgs (inClass (topH 61) 9), defBody (inClass (topH 61) 9), defScope (inClass (topH 61) 9), false, [], []⟩, ⟨gl "_law_right", "_law_right", "_law_right", defArgs (topH 72), defBody (topH 72), defScope (topH 72), false, [], []⟩, ⟨gl "law", "law", "law", defArgs (topH 73), defBody (topH 73), defScope (topH 73), false, [], []⟩]
def fn : List DefP := fn0 ++ fn1 ++ fn2
def ts : List TabP := [(gl "ORDERS", ["check", "fetch", "mark", "test", "step", "told", "look", "chain", "still", "read", "sleep"]), (gl "READER_DEEDS", ["got", "anew", "read", "wrote", "told", "inside"]), (gl "TAKER_DEEDS", ["read", "wrote", "anew", "took"]), (gl "STEPPER_DEEDS", ["read", "wrote", "anew", "ready", "looking", "passed", "done"])]
end EpH
set_option maxHeartbeats 0
/-! the head's run: the same run looked at in parts, so that no part needs much memory -/
namespace EpH
open PySem PySem.W PySem.Calls PyProof.Rows
abbrev R : OpenRow := OpenLaw.row PySem.Challenge.rw_epochrooms_k63_whole_kept_things_counted
abbrev qv : Program := view R.prog [73]
def hk : PySem.W.Hook := hookK chk fn ts
def ob (s : PySem.W.SharedT) : AlP := obsKG chk fn ts (HandSHeadRun.getT s)
theorem ob_eq (s : PySem.W.SharedT) : ob s = hk.obs s.abs := obsKG_eq (HandSHeadRun.getT_eq s)
def names : List PySem.Str := (["_wall", "RoomsError", "NoSwitch", "NoValue", "NoBook", "NoSetting", "NoMove", "NoHand", "is_number", "is_whole", "ORDERS", "LEAST_EPOCHS", "MOST_EPOCHS", "MOST_COUNTS", "values_at", "is_same", "is_value", "care", "Book", "EpochBook", "LookBook", "StillBook", "is_book", "look_at_book", "READER_DEEDS", "TAKER_DEEDS", "STEPPER_DEEDS", "first_epochs", "EpochWorld", "first_looks"] : List PySem.Str) ++ (["LookWorld", "MOST_READERS", "MOST_TAKERS", "MOST_STEPPERS", "MOST_THINGS", "Setting", "look_at_setting", "first_stills", "StillWorld", "is_unsafe", "world_of", "first_state", "moves", "moves_rules", "has_form", "is_possible", "step", "held_by", "kept", "KINDS", "hand_of", "Bench", "_law_pool", "_law_take", "_law_one", "_law_switches", "_law_choices", "_law_own", "_law_any_own", "_law_book"] : List PySem.Str) ++ (["_law_setting", "_law_right"] : List PySem.Str)
/-- the state behind the top -/
noncomputable def endS (w : World) (os : OsState) : Option SharedT := HandSHeadRun.endF (HandSHeadRun.stepQ (HandSHeadRun.denQ HandSHeadRun.tabQ) R.prog w) 16000 R.prog w os
abbrev wF (w : World) : World := w.withFollow "special-get-raises" false
abbrev wT (w : World) : World := w.withFollow "special-get-raises" true
/-- the part of the heap that is looked at -/
def KK (s : SharedT) : PySem.W.Frag := He.frG (HandSHeadRun.getT s) (asP (HandSHeadRun.getT s))
/-- two looks at one state -/
theorem both {σ α β : Type} {o : Option σ} {f : σ → α} {g : σ → β} {a : α} {b : β} (h1 : o.map f = some a) (h2 : o.map g = some b) : o.map (fun s => (f s, g s)) = some (a, b) := by
  cases o with
  | none => cases h1
  | some s =>
    have e1 : f s = a := Option.some.inj h1
    have e2 : g s = b := Option.some.inj h2
    show some (f s, g s) = _
    rw [e1, e2]
theorem seen_ {σ α β : Type} {o : Option σ} {f : σ → α} {g : α → β} {a : α} {b : β} (h : o.map f = some a) (e : g a = b) : o.map (fun s => g (f s)) = some b := by
  cases o with
  | none => cases h
  | some s =>
    have e1 : f s = a := Option.some.inj h
    show some (g (f s)) = _
    rw [e1, e]
theorem chk_cut (K : PySem.W.Frag) : (chk.all fun p => p K) = ((chk0.all fun p => p K) && (chk1.all fun p => p K) && (chk2.all fun p => p K) && (chk3.all fun p => p K)) := by
  unfold chk
  simp only [List.all_append]
theorem fn_cut (K : PySem.W.Frag) : (fn.all fun d => d.ok K) = ((fn0.all fun d => d.ok K) && (fn1.all fun d => d.ok K) && (fn2.all fun d => d.ok K)) := by
  unfold fn
  simp only [List.all_append]
/-- what is looked at, part by part -/
noncomputable def look1 (w : World) (s : SharedT) := (HandSHeadRun.looksF R.prog (boot_heap w.params) s.abs, HandSHeadRun.seenQ qv names (importedModules R.prog.main.body) (fun s => xlAt qv [] s && recOk R.toRowW.records s) s.abs)
def look2 (s : SharedT) : Bool := (fun K : PySem.W.Frag => (chk0.all fun p => p K) && (chk1.all fun p => p K) && (chk2.all fun p => p K) && (chk3.all fun p => p K)) (KK s)
def look3 (s : SharedT) : Bool := (fun K : PySem.W.Frag => (fn0.all fun d => d.ok K)) (KK s)
def look4 (s : SharedT) : Bool := (fun K : PySem.W.Frag => (fn1.all fun d => d.ok K) && (fn2.all fun d => d.ok K)) (KK s)
def look5 (s : SharedT) := (fun K : PySem.W.Frag => (fn.map fun d => fnP K (d.ad K), ts.map fun t => He.dicW K (t.1 K))) (KK s)
theorem f1 (w : World) (os : OsState) : (endS (wF w) os).map (look1 (wF w)) = some (true, openGood qv names) := by kernel_rfl
theorem f2 (w : World) (os : OsState) : (endS (wF w) os).map look2 = some true := by kernel_rfl
theorem f3 (w : World) (os : OsState) : (endS (wF w) os).map look3 = some true := by kernel_rfl
theorem f4 (w : World) (os : OsState) : (endS (wF w) os).map look4 = some true := by kernel_rfl
theorem f5 (w : World) (os : OsState) : (endS (wF w) os).map look5 = some (fn.map DefP.val, ts.map fun t => some (He.keysIn (wF w).params t.2)) := by kernel_rfl
theorem t1 (w : World) (os : OsState) : (endS (wT w) os).map (look1 (wT w)) = some (true, openGood qv names) := by kernel_rfl
theorem t2 (w : World) (os : OsState) : (endS (wT w) os).map look2 = some true := by kernel_rfl
theorem t3 (w : World) (os : OsState) : (endS (wT w) os).map look3 = some true := by kernel_rfl
theorem t4 (w : World) (os : OsState) : (endS (wT w) os).map look4 = some true := by kernel_rfl
theorem t5 (w : World) (os : OsState) : (endS (wT w) os).map look5 = some (fn.map DefP.val, ts.map fun t => some (He.keysIn (wT w).params t.2)) := by kernel_rfl
/-- all looks together -/
theorem all_of {w : World} {os : OsState} (h1 : (endS w os).map (look1 w) = some (true, openGood qv names)) (h2 : (endS w os).map look2 = some true) (h3 : (endS w os).map look3 = some true) (h4 : (endS w os).map look4 = some true) (h5 : (endS w os).map look5 = some (fn.map DefP.val, ts.map fun t => some (He.keysIn w.params t.2))) :
    (endS w os).map (fun s => (HandSHeadRun.looksF R.prog (boot_heap w.params) s.abs, HandSHeadRun.seenQ qv names (importedModules R.prog.main.body) (fun s => xlAt qv [] s && recOk R.toRowW.records s) s.abs, ob s)) = some (true, openGood qv names, hk.val w) := by
  cases e : endS w os with
  | none =>
    rw [e] at h2
    cases h2
  | some s =>
    rw [e] at h1 h2 h3 h4 h5
    have g1 := Option.some.inj (show some (look1 w s) = _ from h1)
    have g2 : look2 s = true := Option.some.inj (show some (look2 s) = _ from h2)
    have g3 : look3 s = true := Option.some.inj (show some (look3 s) = _ from h3)
    have g4 : look4 s = true := Option.some.inj (show some (look4 s) = _ from h4)
    have g5 := Option.some.inj (show some (look5 s) = _ from h5)
    have o : ob s = hk.val w := by
      have q1 : (chk.all fun p => p (KK s)) = true := by rw [chk_cut]; exact g2
      have q2 : (fn.all fun d => d.ok (KK s)) = true := by
        rw [fn_cut]
        have g3 : (fn0.all fun d => d.ok (KK s)) = true := g3
        have g4 : ((fn1.all fun d => d.ok (KK s)) && (fn2.all fun d => d.ok (KK s))) = true := g4
        rw [g3, Bool.true_and]
        exact g4
      have q3 : (fn.map fun d => fnP (KK s) (d.ad (KK s)), ts.map fun t => He.dicW (KK s) (t.1 (KK s))) = (fn.map DefP.val, ts.map fun t => some (He.keysIn w.params t.2)) := g5
      show ((chk.all fun p => p (KK s)) && fn.all fun d => d.ok (KK s), fn.map fun d => fnP (KK s) (d.ad (KK s)), ts.map fun t => He.dicW (KK s) (t.1 (KK s))) = valK fn ts w
      rw [q1, q2, q3]
      rfl
    show some (HandSHeadRun.looksF R.prog (boot_heap w.params) s.abs, HandSHeadRun.seenQ qv names (importedModules R.prog.main.body) (fun s => xlAt qv [] s && recOk R.toRowW.records s) s.abs, ob s) = _
    rw [o]
    have e1 := congrArg Prod.fst g1
    have e2 := congrArg Prod.snd g1
    exact congrArg some (Prod.ext e1 (Prod.ext e2 rfl))
theorem runF (w : World) : HandSHeadRun.RunEq R qv hk ob 16000 names (wF w) := fun os => all_of (f1 w os) (f2 w os) (f3 w os) (f4 w os) (f5 w os)
theorem runT (w : World) : HandSHeadRun.RunEq R qv hk ob 16000 names (wT w) := fun os => all_of (t1 w os) (t2 w os) (t3 w os) (t4 w os) (t5 w os)
theorem run (w : World) : HandSHeadRun.RunEq R qv hk ob 16000 names w := byRow2 "special-get-raises" runF runT w
end EpH
set_option maxHeartbeats 4000000
/-! abstract values: what a slot holds, what a heap holds, told by predicates that stand in every heap that goes on from there -/
namespace Ep
open PySem PySem.Spec PyProof.Rows L2 Evl

/-! ### data made of none, truth values, ints, texts, tuples -/
mutual
inductive Dt (K : PySem.W.Frag) (H : Hp) : V → PyData → Prop
  | non : Dt K H .non .none
  | bl (b : Bool) : Dt K H (.bl b) (.bool b)
  | int (i : Int) : Dt K H (.int i) (.int i)
  | str (x : Str) : Dt K H (.str x) (.str x)
  | tup {a : Addr} {xs : List V} {ds : List PyData} : SqT K H a xs → DtL K H xs ds → Dt K H (.ref a) (.tuple ds)
inductive DtL (K : PySem.W.Frag) (H : Hp) : List V → List PyData → Prop
  | nil : DtL K H [] []
  | cons {v : V} {vs : List V} {d : PyData} {ds : List PyData} : Dt K H v d → DtL K H vs ds → DtL K H (v :: vs) (d :: ds)
end
/-- every tuple stays -/
def TEx (K : PySem.W.Frag) (H H' : Hp) : Prop := ∀ a xs, SqT K H a xs → SqT K H' a xs
variable {K : PySem.W.Frag} {H H' : Hp}
theorem TEx.of (e : Ex H H') : TEx K H H' := fun _ _ h => ex_t e h
theorem TEx.trans {H1 H2 H3 : Hp} (a : TEx K H1 H2) (b : TEx K H2 H3) : TEx K H1 H3 := fun x xs h => b x xs (a x xs h)
theorem TEx.upd {p : Addr} {o u : HO} (h : H p = some o) (no : ∀ xs, o ≠ .tup xs) (nf : ∀ x y, o ≠ .frz x y) : TEx K H (upd H p u) := fun a xs q => by
  rcases q with (q | ⟨f, q⟩) | q
  · refine Or.inl (Or.inl ?_)
    rw [upd_ne (ne_of q h (Ne.symm (no xs)))]
    exact q
  · refine Or.inl (Or.inr ⟨f, ?_⟩)
    rw [upd_ne (ne_of q h (Ne.symm (nf _ _)))]
    exact q
  · exact Or.inr q
mutual
theorem Dt.mono (e : TEx K H H') : ∀ {v : V} {d : PyData}, Dt K H v d → Dt K H' v d
  | _, _, .non => .non
  | _, _, .bl b => .bl b
  | _, _, .int i => .int i
  | _, _, .str x => .str x
  | _, _, .tup h r => .tup (e _ _ h) (DtL.mono e r)
theorem DtL.mono (e : TEx K H H') : ∀ {vs : List V} {ds : List PyData}, DtL K H vs ds → DtL K H' vs ds
  | _, _, .nil => .nil
  | _, _, .cons h r => .cons (Dt.mono e h) (DtL.mono e r)
end
mutual
theorem Dt.dp : ∀ {v : V} {d : PyData}, Dt K H v d → Dp K H v d
  | _, _, .non => .non
  | _, _, .bl b => .bl b
  | _, _, .int i => .int i
  | _, _, .str x => .str x
  | _, _, .tup h r => .tup h (DtL.dp r)
theorem DtL.dp : ∀ {vs : List V} {ds : List PyData}, DtL K H vs ds → DpAll K H vs ds
  | _, _, .nil => .nil
  | _, _, .cons h r => .cons (Dt.dp h) (DtL.dp r)
end
theorem DtL.length : ∀ {vs : List V} {ds : List PyData}, DtL K H vs ds → vs.length = ds.length
  | _, _, .nil => rfl
  | _, _, .cons _ r => congrArg Nat.succ (DtL.length r)
theorem DtL.get : ∀ {vs : List V} {ds : List PyData} {i : Nat} {d : PyData}, DtL K H vs ds → ds[i]? = some d → ∃ v, vs[i]? = some v ∧ Dt K H v d
  | _, _, _, _, .nil, e => by simp at e
  | _, _, 0, _, .cons h _, e => by simp at e; subst e; exact ⟨_, rfl, h⟩
  | _, _, i + 1, _, .cons _ r, e => by
    obtain ⟨v, h1, h2⟩ := DtL.get (i := i) r (by simpa using e)
    exact ⟨v, by simpa using h1, h2⟩
theorem DtL.getV : ∀ {vs : List V} {ds : List PyData} {i : Nat} {v : V}, DtL K H vs ds → vs[i]? = some v → ∃ d, ds[i]? = some d ∧ Dt K H v d
  | _, _, _, _, .nil, e => by simp at e
  | _, _, 0, _, .cons h _, e => by simp at e; subst e; exact ⟨_, rfl, h⟩
  | _, _, i + 1, _, .cons _ r, e => by
    obtain ⟨v, h1, h2⟩ := DtL.getV (i := i) r (by simpa using e)
    exact ⟨v, by simpa using h1, h2⟩
theorem DtL.append : ∀ {vs ws : List V} {ds es : List PyData}, DtL K H vs ds → DtL K H ws es → DtL K H (vs ++ ws) (ds ++ es)
  | _, _, _, _, .nil, s => s
  | _, _, _, _, .cons h r, s => .cons h (DtL.append r s)
theorem DtL.take : ∀ {vs : List V} {ds : List PyData} (n : Nat), DtL K H vs ds → DtL K H (vs.take n) (ds.take n)
  | _, _, 0, _ => .nil
  | _, _, _ + 1, .nil => .nil
  | _, _, n + 1, .cons h r => .cons h (DtL.take n r)
theorem DtL.drop : ∀ {vs : List V} {ds : List PyData} (n : Nat), DtL K H vs ds → DtL K H (vs.drop n) (ds.drop n)
  | _, _, 0, r => r
  | _, _, _ + 1, .nil => .nil
  | _, _, n + 1, .cons _ r => DtL.drop n r
theorem DtL.set : ∀ {vs : List V} {ds : List PyData} {v : V} {d : PyData} (n : Nat), DtL K H vs ds → Dt K H v d → DtL K H (vs.set n v) (ds.set n d)
  | _, _, _, _, _, .nil, _ => .nil
  | _, _, _, _, 0, .cons _ r, h => .cons h r
  | _, _, _, _, n + 1, .cons q r, h => .cons q (DtL.set n r h)
theorem DtL.ints : ∀ {vs : List V} {ns : List Int}, DtL K H vs (ns.map PyData.int) → vs = ns.map V.int
  | _, [], .nil => rfl
  | _, n :: ns, .cons h r => by
    cases h
    rw [DtL.ints r]
    rfl
theorem DtL.ofInts : ∀ {ns : List Int}, DtL K H (ns.map V.int) (ns.map PyData.int)
  | [] => .nil
  | n :: ns => .cons (.int n) DtL.ofInts
theorem DtL.map {α : Type} {f : α → V} {g : α → PyData} : ∀ (l : List α), (∀ a ∈ l, Dt K H (f a) (g a)) → DtL K H (l.map f) (l.map g)
  | [], _ => .nil
  | a :: l, h => .cons (h a (List.mem_cons_self ..)) (DtL.map l fun b hb => h b (List.mem_cons_of_mem _ hb))
theorem Dt.tuple_inv {v : V} {ds : List PyData} (h : Dt K H v (.tuple ds)) : ∃ a xs, v = .ref a ∧ SqT K H a xs ∧ DtL K H xs ds := by
  cases h with
  | tup h r => exact ⟨_, _, rfl, h, r⟩
theorem Dt.int_inv {v : V} {i : Int} (h : Dt K H v (.int i)) : v = .int i := by cases h; rfl
theorem Dt.str_inv {v : V} {i : Str} (h : Dt K H v (.str i)) : v = .str i := by cases h; rfl
theorem Dt.bl_inv {v : V} {i : Bool} (h : Dt K H v (.bool i)) : v = .bl i := by cases h; rfl
theorem Dt.non_inv {v : V} (h : Dt K H v .none) : v = .non := by cases h; rfl

/-! ### abstract values, heaps, slots -/
/-- what never changes: tuples and what is known to its object -/
def Tk (H H' : Hp) : Prop := (∀ a xs, H a = some (.tup xs) → H' a = some (.tup xs)) ∧ ∀ a o u, H a = some (.frz o u) → H' a = some (.frz o u)
theorem Tk.of (e : Ex H H') : Tk H H' := ⟨fun _ _ h => e _ _ h, fun _ _ _ h => e _ _ h⟩
theorem Tk.refl (H : Hp) : Tk H H := .of (.refl H)
theorem Tk.trans {H1 H2 H3 : Hp} (a : Tk H1 H2) (b : Tk H2 H3) : Tk H1 H3 := ⟨fun x xs h => b.1 x xs (a.1 x xs h), fun x o u h => b.2 x o u (a.2 x o u h)⟩
theorem Tk.tex (t : Tk H H') : TEx K H H' := fun a xs q => by
  rcases q with (q | ⟨f, q⟩) | q
  · exact Or.inl (Or.inl (t.1 _ _ q))
  · exact Or.inl (Or.inr ⟨f, t.2 _ _ _ q⟩)
  · exact Or.inr q
theorem Tk.upd {p : Addr} {o u : HO} (h : H p = some o) (no : ∀ xs, o ≠ .tup xs) (nf : ∀ x y, o ≠ .frz x y) : Tk H (upd H p u) := ⟨fun a xs q => by
    rw [upd_ne (ne_of q h (Ne.symm (no xs)))]
    exact q, fun a x y q => by
    rw [upd_ne (ne_of q h (Ne.symm (nf _ _)))]
    exact q⟩
theorem Tk.ins {p : Addr} {C dx : Addr} {fs : List (Str × V)} {u : HO} (h : H p = some (.ins C dx fs)) : Tk H (L2.upd H p u) := .upd h (fun _ => by intro z; cases z) (fun _ _ => by intro z; cases z)
theorem Tk.lst {p : Addr} {xs : List V} {u : HO} (h : H p = some (.lst xs)) : Tk H (L2.upd H p u) := .upd h (fun _ => by intro z; cases z) (fun _ _ => by intro z; cases z)
theorem Tk.dK {p : Addr} {xs : List (Key × V)} {u : HO} (h : H p = some (.dK xs)) : Tk H (L2.upd H p u) := .upd h (fun _ => by intro z; cases z) (fun _ _ => by intro z; cases z)
/-- what is said of a value; st: it stands where only tuples are kept -/
structure Ab where
  P : Hp → V → Prop
  mono : ∀ {H H' : Hp} {v : V}, Ex H H' → P H v → P H' v
  st : Bool := false
  ok : st = true → ∀ {H H' : Hp} {v : V}, Tk H H' → P H v → P H' v := by intro z; cases z
structure Mb where
  P : Hp → Prop
  mono : ∀ {H H' : Hp}, Ex H H' → P H → P H'
/-- what is tracked at H0 stands -/
def mE (H0 : Hp) : Mb := ⟨fun H => Ex H0 H, fun e h => h.trans e⟩
inductive Sl where
  | any
  | val (a : Ab)
def Slots (ρ : List Sl) (H : Hp) (σ : L2.St) : Prop := ρ.length = σ.length ∧ ∀ (i : Nat) (a : Ab), ρ[i]? = some (.val a) → ∃ v, σ[i]? = some (some v) ∧ a.P H v
theorem Slots.mono {ρ : List Sl} {σ : L2.St} (e : Ex H H') (h : Slots ρ H σ) : Slots ρ H' σ := ⟨h.1, fun i a q => by
  obtain ⟨v, h1, h2⟩ := h.2 i a q
  exact ⟨v, h1, a.mono e h2⟩⟩
theorem Slots.set {ρ : List Sl} {σ : L2.St} {a : Ab} {v : V} (h : Slots ρ H σ) (i : Nat) (q : a.P H v) : Slots (ρ.set i (.val a)) H (σ.set i (some v)) := ⟨by simpa using h.1, fun j b e => by
  by_cases hj : i = j
  · subst hj
    have hl : i < ρ.length := by
      have := (List.getElem?_eq_some_iff.mp e).1
      simpa using this
    rw [List.getElem?_set_self hl] at e
    cases e
    exact ⟨v, List.getElem?_set_self (by rw [← h.1]; exact hl), q⟩
  · rw [List.getElem?_set_ne hj] at e
    rw [List.getElem?_set_ne hj]
    exact h.2 j b e⟩
theorem Slots.forget {ρ : List Sl} {σ : L2.St} (h : Slots ρ H σ) (i : Nat) (o : Option V) : Slots (ρ.set i .any) H (σ.set i o) := ⟨by simpa using h.1, fun j b e => by
  by_cases hj : i = j
  · subst hj
    have hl : i < ρ.length := by
      have := (List.getElem?_eq_some_iff.mp e).1
      simpa using this
    rw [List.getElem?_set_self hl] at e
    cases e
  · rw [List.getElem?_set_ne hj] at e
    rw [List.getElem?_set_ne hj]
    exact h.2 j b e⟩
def wipeS (ρ : List Sl) : List Nat → List Sl
  | [] => ρ
  | i :: vs => (wipeS ρ vs).set i .any
theorem Slots.wipe {ρ : List Sl} {σ : L2.St} (vs : List Nat) (h : Slots ρ H σ) : Slots (wipeS ρ vs) H (L2.wipe σ vs) := by
  induction vs with
  | nil => exact h
  | cons i vs ih => exact ih.forget i none
/-- the values of a list, one by one -/
inductive AbL : List Ab → Hp → List V → Prop
  | nil {H : Hp} : AbL [] H []
  | cons {a : Ab} {as : List Ab} {H : Hp} {v : V} {vs : List V} : a.P H v → AbL as H vs → AbL (a :: as) H (v :: vs)
theorem AbL.mono : ∀ {as : List Ab} {vs : List V}, Ex H H' → AbL as H vs → AbL as H' vs
  | _, _, _, .nil => .nil
  | a :: _, _, e, .cons h r => .cons (a.mono e h) (AbL.mono e r)
theorem AbL.length : ∀ {as : List Ab} {vs : List V}, AbL as H vs → as.length = vs.length
  | _, _, .nil => rfl
  | _, _, .cons _ r => congrArg Nat.succ (AbL.length r)

def tA (M : Mb) (ρ : List Sl) (A : Ab) : TE := fun σ H Q => M.P H ∧ Slots ρ H σ ∧ ∀ v H', Ex H H' → A.P H' v → Q v H'
def tAT (M : Mb) (ρ : List Sl) (b : Bool) : TT := fun σ H Q => M.P H ∧ Slots ρ H σ ∧ ∀ H', Ex H H' → Q b H'
def tAA (M : Mb) (ρ : List Sl) (As : List Ab) : TA := fun σ H Q => M.P H ∧ Slots ρ H σ ∧ ∀ vs H', Ex H H' → AbL As H' vs → Q vs H'
def tAO (M : Mb) (ρ : List Sl) (o : Option Int) : TO := fun σ H Q => M.P H ∧ Slots ρ H σ ∧ ∀ H', Ex H H' → Q o H'
abbrev AE (X : Cx) (M : Mb) (ρ : List Sl) (e : Expr) (A : Ab) : Prop := PE X e (tA M ρ A)
abbrev AT (X : Cx) (M : Mb) (ρ : List Sl) (e : Expr) (b : Bool) : Prop := PT X e (tAT M ρ b)
abbrev AA (X : Cx) (M : Mb) (ρ : List Sl) (es : List Expr) (As : List Ab) : Prop := PA X es (tAA M ρ As)
abbrev AO (X : Cx) (M : Mb) (ρ : List Sl) (e : Option Expr) (o : Option Int) : Prop := PO X e (tAO M ρ o)

section
variable {X : Cx} {M : Mb} {ρ : List Sl} {e a b : Expr} {A B C : Ab} {pos : Pos}
theorem weakE {t t' : TE} (h : PE X e t) (w : ∀ σ H Q, t' σ H Q → t σ H Q) : PE X e t' := ⟨fun pins s σ H Q I h' => h.run pins s σ H Q I (w _ _ _ h')⟩
theorem weakT {t t' : TT} (h : PT X e t) (w : ∀ σ H Q, t' σ H Q → t σ H Q) : PT X e t' := ⟨fun pins s σ H Q I h' => h.run pins s σ H Q I (w _ _ _ h')⟩
theorem weakA {es : List Expr} {t t' : TA} (h : PA X es t) (w : ∀ σ H Q, t' σ H Q → t σ H Q) : PA X es t' := ⟨fun pos pins s σ H Q I h' => h.run pos pins s σ H Q I (w _ _ _ h')⟩
theorem weakO {o : Option Expr} {t t' : TO} (h : PO X o t) (w : ∀ σ H Q, t' σ H Q → t σ H Q) : PO X o t' := ⟨fun pins s σ H Q I h' => h.run pins s σ H Q I (w _ _ _ h')⟩

def D (K : PySem.W.Frag) (d : PyData) : Ab := ⟨fun H v => Dt K H v d, fun e h => h.mono (.of e), true, fun _ _ _ _ e h => h.mono e.tex⟩
abbrev aI (K : PySem.W.Frag) (i : Int) : Ab := D K (.int i)
abbrev aS (K : PySem.W.Frag) (x : Str) : Ab := D K (.str x)
abbrev aB (K : PySem.W.Frag) (b : Bool) : Ab := D K (.bool b)
abbrev aN (K : PySem.W.Frag) : Ab := D K .none
def Rf (p : Addr) : Ab := ⟨fun _ v => v = .ref p, fun _ h => h, true, fun _ _ _ _ _ h => h⟩
/-- a list that is tracked -/
def LD (K : PySem.W.Frag) (ds : List PyData) : Ab := ⟨fun H v => ∃ p vs, v = .ref p ∧ H p = some (.lst vs) ∧ DtL K H vs ds, fun e ⟨p, vs, h1, h2, h3⟩ => ⟨p, vs, h1, e _ _ h2, h3.mono (.of e)⟩, false, fun z => by cases z⟩
/-- a value as it is -/
def Vl (x : V) : Ab := ⟨fun _ v => v = x, fun _ h => h, true, fun _ _ _ _ _ h => h⟩
/-- what was said at H0 -/
def At (H0 : Hp) (A : Ab) : Ab := ⟨fun _ v => A.P H0 v, fun _ h => h, true, fun _ _ _ _ _ h => h⟩
def keepT (ρ : List Sl) : List Sl := ρ.map fun s => match s with
  | .any => .any
  | .val a => match a.st with
    | true => .val a
    | false => .any
theorem Slots.keep {ρ : List Sl} {σ : L2.St} (t : Tk H H') (h : Slots ρ H σ) : Slots (keepT ρ) H' σ := ⟨by simpa [keepT] using h.1, fun i a e => by
  unfold keepT at e
  rw [List.getElem?_map] at e
  cases q : ρ[i]? with
  | none => rw [q] at e; cases e
  | some s =>
    rw [q] at e
    cases s with
    | any => cases e
    | val b =>
      have e' : (match b.st with | true => Sl.val b | false => Sl.any) = Sl.val a := Option.some.inj e
      cases hb : b.st with
      | false =>
        rw [hb] at e'
        cases e'
      | true =>
        rw [hb] at e'
        cases e'
        obtain ⟨v, h1, h2⟩ := h.2 i a q
        exact ⟨v, h1, a.ok hb t h2⟩⟩

theorem ae_view (h : AE X M ρ e A) (w : ∀ H v, M.P H → A.P H v → B.P H v) : AE X M ρ e B :=
  weakE h fun σ H Q ⟨m, sl, q⟩ => ⟨m, sl, fun v H' ex av => q v H' ex (w H' v (M.mono ex m) av)⟩
theorem ae_eq (h : AE X M ρ e A) (w : A = B) : AE X M ρ e B := w ▸ h
theorem av (i : Nat) {x : Str} (hA : ρ[i]? = some (.val A) := by rfl) (hN : X.N[i]? = some x := by rfl) (hv : Vis X.env.scope x := by first | exact Or.inl rfl | exact Or.inr (Or.inl rfl) | exact Or.inr (Or.inr rfl)) (hd : (x == ("__debug__" : Str)) = false := by decide)
    (hcd : (x == ("__classdict__" : Str)) = false := by decide) : AE X M ρ (.Name x pos) A :=
  weakE (pe_var hN hv hd hcd) fun σ H Q ⟨_, sl, q⟩ => by
    obtain ⟨v, h1, h2⟩ := sl.2 i A hA
    exact ⟨v, h1, q v H (Ex.refl H) h2⟩
theorem ae_c {v : V} (h : PE X e (tC v)) (ha : ∀ H, A.P H v) : AE X M ρ e A := weakE h fun σ H Q ⟨_, _, q⟩ => q v H (Ex.refl H) (ha H)
theorem ae_int {i : Int} {j} : AE X M ρ (.Constant (.int i) j pos) (aI X.K i) := ae_c pe_int fun _ => .int i
theorem ae_str {i : Str} {j} : AE X M ρ (.Constant (.str i) j pos) (aS X.K i) := ae_c pe_str fun _ => .str i
theorem ae_bl {i : Bool} {j} : AE X M ρ (.Constant (.bool i) j pos) (aB X.K i) := ae_c pe_bl fun _ => .bl i
theorem ae_non {j} : AE X M ρ (.Constant .none j pos) (aN X.K) := ae_c pe_non fun _ => .non
theorem ae_globI {x : Str} {i : Int} {t : Tok} (hm : X.mg x = some (.int i t)) (hg : Gl X x := by rfl) (hd : (x == ("__debug__" : Str)) = false := by decide) : AE X M ρ (.Name x pos) (aI X.K i) := ae_c (v := .int i) (pe_glob hg hm ⟨_, rfl⟩ hd) fun _ => .int i
theorem ae_globR {x : Str} {p : Addr} (hm : X.mg x = some (.ref p)) (hg : Gl X x := by rfl) (hd : (x == ("__debug__" : Str)) = false := by decide) : AE X M ρ (.Name x pos) (Rf p) := ae_c (v := .ref p) (pe_glob hg hm rfl hd) fun _ => rfl
/-- a way that is never gone -/
theorem ae_never (h : False) : AE X M ρ e A := h.elim

/-! #### arguments, tuples, lists -/
theorem aa_nil : AA X M ρ [] [] := weakA pa_nil fun σ H Q ⟨_, _, q⟩ => q [] H (Ex.refl H) .nil
theorem aa_cons {es : List Expr} {As : List Ab} (h : AE X M ρ e A) (hr : AA X M ρ es As) (hs : starEach (e :: es) X.env = (false, eval e X.env) :: starEach es X.env := by rfl) : AA X M ρ (e :: es) (A :: As) :=
  weakA (pa_cons h hr hs) fun σ H Q ⟨m, sl, q⟩ => ⟨m, sl, fun v H1 e1 a1 => ⟨M.mono e1 m, sl.mono e1, fun vs H2 e2 a2 => q (v :: vs) H2 (e1.trans e2) (.cons (A.mono e2 a1) a2)⟩⟩
def DsAb (K : PySem.W.Frag) (ds : List PyData) : List Ab := ds.map (D K)
theorem AbL.ds : ∀ {ds : List PyData} {vs : List V}, AbL (ds.map (D K)) H vs → DtL K H vs ds
  | [], _, .nil => .nil
  | d :: ds, _, .cons h r => .cons h (AbL.ds r)
/-- arguments that are data -/
def AD (X : Cx) (M : Mb) (ρ : List Sl) (es : List Expr) (ds : List PyData) : Prop := AA X M ρ es (ds.map (D X.K))
theorem ad_nil : AD X M ρ [] [] := aa_nil
theorem ad_cons {es : List Expr} {d : PyData} {ds : List PyData} (h : AE X M ρ e (D X.K d)) (hr : AD X M ρ es ds) (hs : starEach (e :: es) X.env = (false, eval e X.env) :: starEach es X.env := by rfl) : AD X M ρ (e :: es) (d :: ds) := aa_cons h hr hs
theorem ae_tup {es : List Expr} {ds : List PyData} {x1} (h : AD X M ρ es ds) (hl : ds.length ≤ 1000 := by first | decide | (simp; done) | (simp; omega)) : AE X M ρ (.Tuple es x1 pos) (D X.K (.tuple ds)) :=
  weakE (pe_tup h) fun σ H Q ⟨m, sl, q⟩ => ⟨m, sl, fun vs H1 e1 a1 => by
    have r := a1.ds
    refine ⟨by rw [r.length]; exact sz_of (by omega), fun p hp => q _ _ (e1.trans (Ex.new hp)) (.tup (st_of upd_same) (r.mono (.of (Ex.new hp))))⟩⟩
theorem ae_lst {es : List Expr} {ds : List PyData} (h : AD X M ρ es ds) (hl : ds.length ≤ 1000 := by first | decide | (simp; done) | (simp; omega)) : AE X M ρ (.List es pos) (LD X.K ds) :=
  weakE (pe_lst h) fun σ H Q ⟨m, sl, q⟩ => ⟨m, sl, fun vs H1 e1 a1 => by
    have r := a1.ds
    refine ⟨by rw [r.length]; exact sz_of (by omega), fun p hp => q _ _ (e1.trans (Ex.new hp)) ⟨p, vs, rfl, upd_same, r.mono (.of (Ex.new hp))⟩⟩⟩

/-! #### operators -/
/-- an operation by values, on what A and B say -/
def RA (r : R2) (M : Mb) (A B C : Ab) : Prop := ∀ H x y, M.P H → A.P H x → B.P H y → ∀ Q : VK, (∀ z H', Ex H H' → C.P H' z → Q z H') → r x y H Q
theorem ae_opT {r : R2} (hr : RA r M A B C) : ∀ σ H Q, tA M ρ C σ H Q → tOp r (tA M ρ A) (tA M ρ B) σ H Q := fun σ H Q ⟨m, sl, q⟩ =>
  ⟨m, sl, fun x H1 e1 a1 => ⟨M.mono e1 m, sl.mono e1, fun y H2 e2 a2 => hr H2 x y (M.mono (e1.trans e2) m) (A.mono e2 a1) a2 Q fun z H3 e3 c => q z H3 ((e1.trans e2).trans e3) c⟩⟩
theorem ae_op {op : Operator} {r : R2} (ho : OpR X (binaryOp op) r) (hr : RA r M A B C) (ha : AE X M ρ a A) (hb : AE X M ρ b B) : AE X M ρ (.BinOp a op b pos) C := weakE (pe_op ho ha hb) (ae_opT hr)
theorem ae_cmp {op : CmpOp} {r : R2} (ho : OpR X (compareOp op) r) (hr : RA r M A B C) (ha : AE X M ρ a A) (hb : AE X M ρ b B) (hm : behindInMarks op b = false := by first | exact nobehind _ (by decide) (by decide) | rfl) : AE X M ρ (.Compare a [op] [b] pos) C := weakE (pe_cmpR ho ha hb hm) (ae_opT hr)
theorem ae_ix {r : R2} (ho : IxR X r) (hr : RA r M A B C) (ha : AE X M ρ a A) (hb : AE X M ρ b B) (hs : PlainIx b := by exact fun _ _ => rfl) : AE X M ρ (.Subscript a b pos) C := weakE (pe_ix ho ha hb hs) (ae_opT hr)
theorem ra_val {r : R2} (h : ∀ H x y, M.P H → A.P H x → B.P H y → ∃ z, C.P H z ∧ ∀ Q : VK, Q z H → r x y H Q) : RA r M A B C := fun H x y m a b Q q => by
  obtain ⟨z, c, k⟩ := h H x y m a b
  exact k Q (q z H (Ex.refl H) c)
theorem ra_I0 {g : Int → Int → V} {d : Int → Int → PyData} {i j : Int} (h : ∀ H i j, Dt K H (g i j) (d i j)) : RA (rI0 g) M (aI K i) (aI K j) (D K (d i j)) := fun H x y _ ha hb Q q => by
  cases ha
  cases hb
  exact ⟨i, j, rfl, rfl, q _ H (Ex.refl H) (h H i j)⟩
theorem ra_I {P : Int → Int → Prop} {g : Int → Int → V} {d : Int → Int → PyData} {i j : Int} (h : ∀ H i j, Dt K H (g i j) (d i j)) (hc : P i j) : RA (rI P g) M (aI K i) (aI K j) (D K (d i j)) := fun H x y _ ha hb Q q => by
  cases ha
  cases hb
  exact ⟨i, j, rfl, rfl, hc, q _ H (Ex.refl H) (h H i j)⟩
end
end Ep
set_option maxHeartbeats 4000000
/-! sorted(x, key=int) over a list or a tuple of whole numbers -/
namespace Ep
open PySem PySem.Spec PyProof.Rows L2
section
variable {X : Cx} {pins : List (Addr × Obj)} {σ : L2.St} {H : Hp} {s : Shared}
theorem ks_int (a : Addr) : Builtin.«list.sort» ⟨[.ref a], [(Str.ofString "key", .type "int")]⟩ = ksk_tree a (.type "int") false := rfl
/-- all but the frame kept, the frame's map kept, one new list: the invariant stands -/
theorem inv_laidL {h' : Heap} {tk : Nat} {D : Addr} {o : HO} {m : Str → Option Value} (I : Inv X pins σ H s) (hm : s.heap.Ns X.env.locals m) (hm' : h'.Ns X.env.locals m) (k : ∀ b u, b ≠ X.env.locals → s.heap.get? b = some u → h'.get? b = some u)
    (hD : s.heap.objs.size ≤ D) (new : ObjOk X.prog X.w (upd H D o) h' D o) : Inv X pins σ (upd H D o) { s with heap := h', toks := tk } := by
  have hn : H D = none := I.hok.fresh hD
  have neD : ∀ b u, s.heap.get? b = some u → b ≠ D := fun b u e => Nat.ne_of_lt (Nat.lt_of_lt_of_le (Heap.lt_size e) hD)
  have trL : ∀ b u, H b = some u → b ≠ X.env.locals := fun b u e z => by
    rw [z, I.free] at e
    cases e
  refine I.step (g' := s.gens) (d' := s.drawn) (ch := []) (fun _ z => nomatch z) (fun b u h1 _ _ e _ => k b u h1 e) (fun b u h1 _ _ e _ => ⟨u.slots, k b u h1 e⟩) (fun b u _ e n => ?_) (fun b u _ e => ?_) (fun b xs e => ?_) (fun b u xs e => ?_) (fun b ps e => ?_) (fun m' hm2 => ?_) ?_ I.bare
  · rw [upd_ne (neD b u e)]
    exact n
  · by_cases hb : b = X.env.locals
    · obtain ⟨o', _, _, e', _⟩ := hm'
      exact ⟨o', by rw [hb]; exact e'⟩
    · exact ⟨u, k b u hb e⟩
  · rw [upd_ne (ne_of_none e hn)]
    exact e
  · rw [upd_ne (ne_of_none e hn)]
    exact e
  · exact ⟨#[], by rw [upd_ne (ne_of_none e hn), e]; simp⟩
  · rw [SlX.ns_only hm2 hm]
    exact hm'
  · intro b u e
    by_cases hb : b = D
    · subst hb
      rw [upd_same] at e
      cases e
      exact new
    · rw [upd_ne hb] at e
      refine (I.hok b u e).stay (fun c v hc q => k c v ?_ q) (fun c q => by rw [upd_ne (ne_of_none q hn)]; exact q) fun c xs q => by rw [upd_ne (ne_of_none q hn)]; exact q
      rcases hc with rfl | hc
      · exact trL c u e
      · exact trL c _ hc
theorem vals_intsI {vs : List Value} {ns : List Int} (h : IntsAre vs ns) : Vals (ns.map V.int) vs := vals_of_ints h
theorem run_sortedKey {a : Addr} {ns : List Int} {Q : VK} (I : Inv X pins σ H s) (hs : SqL X.K H a (ns.map V.int) ∨ SqT X.K H a (ns.map V.int)) (h64 : ns.length < 64)
    (q : ∀ (ns' : List Int) (p : Addr), ns'.Perm ns → ns'.Pairwise (· ≤ ·) → H p = none → Q (.ref p) (upd H p (.lst (ns'.map V.int)))) :
    wpAny (model X.prog X.w) X.A (call (.builtin "sorted") [.ref a] [(Str.ofString "key", .type "int")]) (EP X pins σ Q) X.xe s := by
  obtain ⟨its, rv, hcol⟩ : ∃ its : List Value, Vals (ns.map V.int) its ∧ ∃ (T : String) (o : Obj) (n : Nat), (T = "list" ∨ T = "tuple") ∧ s.heap.get? a = some o ∧ o.cls = .type T ∧ o.data = .seq its.toArray n := by
    rcases hs with hs | hs
    · obtain ⟨its, rv, pl, hz⟩ := I.list hs
      obtain ⟨o, ho, hc, n, hd⟩ := pl.isList
      exact ⟨its, rv, "list", o, n, .inl rfl, ho, hc, hd⟩
    · obtain ⟨its, rv, ⟨o, ho, hc, n, hd⟩, hz⟩ := I.tuple hs
      exact ⟨its, rv, "tuple", o, n, .inr rfl, ho, hc, hd⟩
  obtain ⟨T, o, n, hT, ho, hc, hd⟩ := hcol
  have hi : IntsAre its ns := rv.ints
  have hlen : its.length = ns.length := by rw [← rv.length, List.length_map]
  refine call_function_entry_kw kind_sorted plain_sorted entry_sorted (ksk_s1 _ _) ?_
  unfold Builtin.«sorted»
  refine wpAny_bind (m := checkCount "sorted" 1 1 _) (wpAny_pure ?_)
  refine wpAny_bind (wpAny_collect_seq a hT ho hc hd (fun h1 hk => ?_) (by rw [List.size_toArray, sizeLine_eq]; omega))
  have ev : its.toArray.toList = its := by simp
  rw [ev]
  have I1 : Inv X pins σ H { s with heap := h1 } := I.kept (t' := s.toks) hk
  obtain ⟨m, F1⟩ := I1.fr
  have N1 : News X.base X.env.locals h1 (allNews X.base h1 X.env.locals) := news_all
  refine wpAny_bind (wpAny_newList ?_ (by rw [sizeLine_eq]; omega))
  have hoL : (h1.push (seqObj "list" its.toArray 0)).get? h1.objs.size = some (seqObj "list" its.toArray 0) := Heap.get?_push_size _ rfl
  have keep : ∀ b o, h1.get? b = some o → (h1.push (seqObj "list" its.toArray 0)).get? b = some o := fun b o q => Heap.get?_push_of_some _ q
  have hL : X.env.locals < h1.objs.size := F1.ns.lt
  refine wpAny_bind (wpAny_holding (wpAny_call_entry_kw slot_list_sort ⟨_, hoL, rfl⟩ entry_list_sort ?body (ksk_l1 _ _)))
  case body =>
    show wpAny (model X.prog X.w) X.A.in1.in1 (Builtin.«list.sort» ⟨[.ref h1.objs.size], [(Str.ofString "key", .type "int")]⟩) _ _ _
    rw [ks_int]
    refine ksk_sort (kz := ns) (b := false) (s := { s with heap := h1.push (seqObj "list" its.toArray 0) })
      (F1.kept keep) (N1.grown keep) hoL (Nat.ne_of_gt hL) (Heap.get?_none_of_le (Nat.le_trans F1.above (Nat.le_of_lt hL)))
      (fun p hp => Nat.ne_of_lt (Heap.lt_size (N1 p hp).1)) hlen.symm (by omega) (fun i v k hv hk2 h tk own F' N' => ?_) fun h' tk out c F' N' ko => ⟨_, rfl, wpAny_pure ⟨_, rfl, ?_⟩⟩
    · obtain ⟨t, ht⟩ := hi.get i k hk2
      rw [ht] at hv
      cases hv
      exact call_int_int ⟨h, tk, t, rfl, rfl, F', N'⟩
    · obtain ⟨ps, hp, ho2, hs2⟩ := ko
      have hrel : ∀ p, p ∈ ns.zip its → p.1 = numOf p.2 ∧ p.2 ∈ its := by
        have e0 : ns.zip its = (its.map numOf).zip its := by rw [hi.nums]
        rw [e0, List.zip_map_left]
        intro p hp
        obtain ⟨⟨u, v⟩, hq, rfl⟩ := List.mem_map.mp hp
        have h1 : u = v ∧ u ∈ its := mem_zip_self hq
        refine ⟨?_, ?_⟩
        · show numOf u = numOf v
          rw [h1.1]
        · show v ∈ its
          rw [← h1.1]
          exact h1.2
      have hI : IntsAre (ps.map Prod.snd) ((ps.map Prod.snd).map numOf) := intsAre_map _ fun v hv => by
        obtain ⟨p, hp', rfl⟩ := List.mem_map.mp hv
        exact hi.all _ (hrel p (hp.mem_iff.mp hp')).2
      have hP : ((ps.map Prod.snd).map numOf).Perm ns := by
        have h1 := (hp.map Prod.snd).map numOf
        rw [List.map_snd_zip (by omega), hi.nums] at h1
        exact h1
      have hO : ((ps.map Prod.snd).map numOf).Pairwise (· ≤ ·) := by
        rw [List.pairwise_map, List.pairwise_map]
        refine hs2.imp_of_mem fun {p q} hp' hq' hr => ?_
        have hr' : p.1 ≤ q.1 := hr
        rw [(hrel p (hp.mem_iff.mp hp')).1, (hrel q (hp.mem_iff.mp hq')).1] at hr'
        exact hr'
      rw [← ho2] at hI hP hO
      have kAll : ∀ b u, b ≠ X.env.locals → h1.get? b = some u → h'.get? b = some u := fun b u hb e => by
        cases eb : X.base.get? b with
        | some u2 =>
          have z := I1.bk b u2 eb
          have z2 : h1.get? b = some u2 := z
          rw [e] at z2
          cases z2
          exact F'.keep b u eb
        | none => exact (N' (b, u) (List.mem_cons_of_mem _ (mem_allNews hb eb e))).1
      have hl2 : (out.toList.map numOf).length ≤ sizeLine := by
        rw [hP.length_eq, sizeLine_eq]
        omega
      refine ⟨.ref h1.objs.size, upd H h1.objs.size (.lst ((out.toList.map numOf).map V.int)), inv_laidL (s := { s with heap := h1 }) I1 F1.ns F'.ns kAll (Nat.le_refl _) ?_, rfl, q _ _ hP hO (I1.hok.fresh (Nat.le_refl _))⟩
      refine ⟨by rw [List.length_map]; exact hl2, out.toList, c, vals_of_ints hI, ?_⟩
      have z := (N' _ List.mem_cons_self).1
      rw [Array.toArray_toList]
      exact z
def rSortedI (K : PySem.W.Frag) : List V → List V → Hp → VK → Prop := fun vs zs H Q => ∃ (a : Addr) (ns : List Int), vs = [V.ref a] ∧ zs = [.ty "int"] ∧ (SqL K H a (ns.map V.int) ∨ SqT K H a (ns.map V.int)) ∧ ns.length < 64 ∧
  ∀ (ns' : List Int) (p : Addr), ns'.Perm ns → ns'.Pairwise (· ≤ ·) → H p = none → Q (.ref p) (upd H p (.lst (ns'.map V.int)))
theorem cr_sortedI : CallRK X (.builtin "sorted") [Str.ofString "key"] (rSortedI X.K) := by
  intro pins s σ H vs zs us ws Q I r rz h
  obtain ⟨a, ns, rfl, rfl, hs, h64, q⟩ := h
  obtain rfl := Vals.ref1 r
  obtain ⟨w1, rfl, e1⟩ := vals1 rz
  obtain rfl : w1 = Value.type "int" := e1
  exact run_sortedKey I hs h64 q
end
end Ep
set_option maxHeartbeats 4000000
/-! tuple * int, for any small int -/
namespace L2
open PySem PySem.Spec PyProof.Rows AutoSeq1
theorem ep_mul1 (l : Addr) (items : Array Value) (n : Nat) (dd : Option Addr) (sl : Array (Option Value)) (u : Tok) :
    Meets (Builtin.«tuple.__mul__» ⟨[.ref l, .int 1 u], []⟩) (fun _ R s => s.heap.get? l = some { cls := .type "tuple", dict := dd, data := .seq items n, slots := sl } ∧ R (.ok (.ret (Value.ref l))) s) :=
  .of_wp fun prog w A R s h => by
    obtain ⟨hp, g, d, tk, os⟩ := s
    obtain ⟨hl, h⟩ := h
    have f1 := AutoSeq1.idx_int
    have c0 : (decide ((1 : Int) < -(2 ^ 63)) || decide ((1 : Int) ≥ 2 ^ 63)) = false := by decide
    have c1 : (items.isEmpty || (1 : Int) == 1) = true := by simp
    wp_walk using wpAny_loadPart' hl
    repeat (first
      | (refine wpAny_ite_false (decide_eq_false (by rw [c0]; exact Bool.false_ne_true)) ?_; wp_walk using wpAny_loadPart' hl)
      | (refine wpAny_ite_true (decide_eq_true (by rw [c1])) ?_; wp_walk using wpAny_loadPart' hl))
    exact ⟨_, rfl, h⟩
theorem ep_mul0 (l : Addr) (items : Array Value) (n : Nat) (dd : Option Addr) (sl : Array (Option Value)) (u : Tok) (c1 : (items.isEmpty || (0 : Int) == 1) = false) :
    Meets (Builtin.«tuple.__mul__» ⟨[.ref l, .int 0 u], []⟩) (fun _ R s => s.heap.get? l = some { cls := .type "tuple", dict := dd, data := .seq items n, slots := sl } ∧
      R (.ok (.ret (Value.ref s.heap.objs.size))) { s with heap := s.heap.push { cls := Value.type "tuple", data := Data.seq #[] }, toks := s.toks }) :=
  .of_wp fun prog w A R s h => by
    obtain ⟨hp, g, d, tk, os⟩ := s
    obtain ⟨hl, h⟩ := h
    have f1 := AutoSeq1.idx_int
    have c0 : (decide ((0 : Int) < -(2 ^ 63)) || decide ((0 : Int) ≥ 2 ^ 63)) = false := by decide
    have c2 : (decide ((0 : Int) ≤ 0) || items.isEmpty) = true := by simp
    have hsz : (#[] : Array Value).size ≤ sizeLine := Nat.zero_le _
    wp_walk using wpAny_loadPart' hl
    repeat (first
      | (refine wpAny_ite_false (decide_eq_false (by rw [c0]; exact Bool.false_ne_true)) ?_; wp_walk using wpAny_loadPart' hl)
      | (refine wpAny_ite_false (decide_eq_false (by rw [c1]; exact Bool.false_ne_true)) ?_; wp_walk using wpAny_loadPart' hl)
      | (refine wpAny_ite_true (decide_eq_true (by rw [c2])) ?_; wp_walk using wpAny_loadPart' hl)
      | (refine wpAny_ite_false (decide_eq_false (Nat.not_lt.mpr hsz)) ?_; wp_walk using wpAny_loadPart' hl))
    exact ⟨_, rfl, h⟩
def rRepA (K : PySem.W.Frag) : R2 := fun x y H Q => ∃ l k xs, x = .ref l ∧ y = .int k ∧ SqT K H l xs ∧ xs ≠ [] ∧ 0 ≤ k ∧ k ≤ 1000 ∧ xs.length ≤ 1000 ∧ (k = 1 → Q (.ref l) H) ∧ (k ≠ 1 → ∀ p, H p = none → Q (.ref p) (upd H p (.tup (List.replicate k.toNat xs).flatten)))
section
variable {X : Cx}
theorem op_repA : OpR X (binaryOp .Mult) (rRepA X.K) := by
  intro pins s σ H x y v u Q I rx ry h
  obtain ⟨l, k, xs, rfl, rfl, hT, hne, h1, h2, hz, q1, q2⟩ := h
  by_cases k2 : 2 ≤ k
  · exact op_repT pins s σ H _ _ v u Q I rx ry ⟨l, k, xs, rfl, rfl, hT, hne, k2, h2, hz, q2 (by omega)⟩
  · cases rx
    obtain ⟨t, rfl⟩ := ry
    obtain ⟨its, r, ⟨⟨cls, dd, data, sl⟩, ho, hc, n, hd⟩, hs⟩ := I.tuple hT
    simp only at hc hd
    subst hc hd
    have hle : its.length = xs.length := r.length.symm
    have hn : its ≠ [] := fun e => hne (by
      rw [e] at hle
      exact List.eq_nil_of_length_eq_zero hle.symm)
    have hi : its.toArray.isEmpty = false := by
      cases its with
      | nil => exact absurd rfl hn
      | cons a b => rfl
    by_cases k1 : k = 1
    · subst k1
      refine wpAny_binaryOp_repeat_ref (T := "tuple") (U := "int") (by decide) ⟨_, ho, rfl⟩ (fun s' => typeIs_int s' 1 t) noFill_tuple_mul F.fills_int_mul F.slot_int_rmul repeat_tuple F.slot_int_index.lookup
        (call_meets F.slot_int_rmul (typeIs_int s 1 t) F.entry_int_rmul (F.args_int_rmul_2 _ _) (int_rmul_tuple 1 t l its.toArray n dd sl)
          ⟨ho, rfl, ⟨_, ho, rfl⟩, call_meets F.slot_tuple_mul ⟨_, ho, rfl⟩ F.entry_tuple_mul (F.args_tuple_mul_2 _ _) (ep_mul1 l its.toArray n dd sl t) ⟨ho, ?_⟩⟩)
      exact ⟨.ref l, H, I, rfl, q1 rfl⟩
    · have k0 : k = 0 := by omega
      subst k0
      have c1 : (its.toArray.isEmpty || (0 : Int) == 1) = false := by
        rw [hi]
        rfl
      refine wpAny_binaryOp_repeat_ref (T := "tuple") (U := "int") (by decide) ⟨_, ho, rfl⟩ (fun s' => typeIs_int s' 0 t) noFill_tuple_mul F.fills_int_mul F.slot_int_rmul repeat_tuple F.slot_int_index.lookup
        (call_meets F.slot_int_rmul (typeIs_int s 0 t) F.entry_int_rmul (F.args_int_rmul_2 _ _) (int_rmul_tuple 0 t l its.toArray n dd sl)
          ⟨ho, rfl, ⟨_, ho, rfl⟩, call_meets F.slot_tuple_mul ⟨_, ho, rfl⟩ F.entry_tuple_mul (F.args_tuple_mul_2 _ _) (ep_mul0 l its.toArray n dd sl t c1) ⟨ho, ?_⟩⟩)
      refine ⟨.ref s.heap.objs.size, _, I.laid (t' := s.toks) (o := .tup []) (fun b ob q => Heap.get?_push_of_some _ q) (Nat.le_refl _) ?_, rfl, ?_⟩
      · exact ⟨Nat.zero_le _, [], .nil, IsTup.new _ _⟩
      · have z := q2 (by decide) _ (I.hok.fresh (Nat.le_refl _))
        exact z
end
end L2
set_option maxHeartbeats 4000000
/-! rules for expressions, over abstract values -/
namespace Ep
open PySem PySem.Spec PyProof.Rows L2 Evl

/-! ### sorting whole numbers -/
def ins1 (x : Int) : List Int → List Int
  | [] => [x]
  | y :: ys => if x ≤ y then x :: y :: ys else y :: ins1 x ys
def srt : List Int → List Int
  | [] => []
  | x :: xs => ins1 x (srt xs)
theorem ins1_perm (x : Int) : ∀ ys : List Int, (ins1 x ys).Perm (x :: ys)
  | [] => .refl _
  | y :: ys => by
    unfold ins1
    split
    · exact .refl _
    · exact ((ins1_perm x ys).cons y).trans (.swap x y ys)
theorem srt_perm : ∀ xs : List Int, (srt xs).Perm xs
  | [] => .refl _
  | x :: xs => (ins1_perm x _).trans ((srt_perm xs).cons x)
theorem ins1_sorted (x : Int) : ∀ ys : List Int, ys.Pairwise (· ≤ ·) → (ins1 x ys).Pairwise (· ≤ ·)
  | [], _ => by simp [ins1]
  | y :: ys, h => by
    unfold ins1
    have h1 := List.pairwise_cons.mp h
    split
    · rename_i hxy
      refine List.pairwise_cons.mpr ⟨fun z hz => ?_, h⟩
      rcases List.mem_cons.mp hz with rfl | hz
      · exact hxy
      · exact Int.le_trans hxy (h1.1 z hz)
    · rename_i hxy
      refine List.pairwise_cons.mpr ⟨fun z hz => ?_, ins1_sorted x ys h1.2⟩
      rcases List.mem_cons.mp ((ins1_perm x ys).mem_iff.mp hz) with rfl | hz
      · omega
      · exact h1.1 z hz
theorem srt_sorted : ∀ xs : List Int, (srt xs).Pairwise (· ≤ ·)
  | [] => .nil
  | x :: xs => ins1_sorted x _ (srt_sorted xs)
theorem sorted_unique : ∀ {xs ys : List Int}, xs.Pairwise (· ≤ ·) → ys.Pairwise (· ≤ ·) → xs.Perm ys → xs = ys
  | [], ys, _, _, p => by rw [p.nil_eq]
  | x :: xs, [], _, _, p => by have := p.length_eq; simp at this
  | x :: xs, y :: ys, hx, hy, p => by
    have h1 := List.pairwise_cons.mp hx
    have h2 := List.pairwise_cons.mp hy
    have e : x = y := by
      have a : x ∈ y :: ys := p.mem_iff.mp (List.mem_cons_self ..)
      have b : y ∈ x :: xs := p.mem_iff.mpr (List.mem_cons_self ..)
      rcases List.mem_cons.mp a with a | a
      · exact a
      · rcases List.mem_cons.mp b with b | b
        · exact b.symm
        · have q1 := h1.1 y b
          have q2 := h2.1 x a
          omega
    subst e
    rw [sorted_unique h1.2 h2.2 (List.perm_cons x |>.mp p)]
theorem srt_eq {xs ys : List Int} (h : ys.Pairwise (· ≤ ·)) (p : ys.Perm xs) : ys = srt xs := sorted_unique h (srt_sorted xs) (p.trans (srt_perm xs).symm)
theorem srt_len (xs : List Int) : (srt xs).length = xs.length := (srt_perm xs).length_eq

variable {K : PySem.W.Frag} {H H' : Hp}
/-! ### == of scalars -/
def scD : PyData → PyData → Bool
  | .none, .none => true | .none, .int _ => true | .int _, .none => true | .none, .bool _ => true | .bool _, .none => true | .none, .str _ => true | .str _, .none => true
  | .int _, .int _ => true | .bool _, .bool _ => true | .str _, .str _ => true
  | .int _, .str _ => true | .str _, .int _ => true | .bool _, .str _ => true | .str _, .bool _ => true
  | _, _ => false
def eqD : PyData → PyData → Bool
  | .none, .none => true
  | .bool a, .bool b => decide (a = b)
  | .int a, .int b => decide (a = b)
  | .str a, .str b => decide (a = b)
  | _, _ => false
theorem eqD_ok {x y : V} {d e : PyData} (h : scD d e = true) (hx : Dt K H x d) (hy : Dt K H y e) : scal x y = true ∧ decide (x = y) = eqD d e := by
  cases hx <;> cases hy <;> first
    | (cases h; done)
    | (refine ⟨rfl, ?_⟩; simp [eqD]; done)
    | (refine ⟨rfl, ?_⟩; simp [eqD]; rfl)
section
variable {X : Cx} {M : Mb} {ρ : List Sl} {e a b c : Expr} {A B C : Ab} {pos : Pos} {d d1 d2 : PyData}
/-- a comparison -/
def AC (X : Cx) (M : Mb) (ρ : List Sl) (op : CmpOp) (a b : Expr) (k : Bool) : Prop := ∃ r A B, OpR X (compareOp op) r ∧ RA r M A B (aB X.K k) ∧ AE X M ρ a A ∧ AE X M ρ b B ∧ behindInMarks op b = false
theorem ac_mk {op : CmpOp} {r : R2} {k : Bool} (ho : OpR X (compareOp op) r) (hr : RA r M A B (aB X.K k)) (ha : AE X M ρ a A) (hb : AE X M ρ b B) (hm : behindInMarks op b = false := by first | exact nobehind _ (by decide) (by decide) | rfl) : AC X M ρ op a b k := ⟨r, A, B, ho, hr, ha, hb, hm⟩
theorem ae_cmpC {op : CmpOp} {k : Bool} (h : AC X M ρ op a b k) : AE X M ρ (.Compare a [op] [b] pos) (aB X.K k) := by
  obtain ⟨r, A, B, ho, hr, ha, hb, hm⟩ := h
  exact ae_cmp ho hr ha hb hm
theorem at_cmpC {op : CmpOp} {k : Bool} (h : AC X M ρ op a b k) : AT X M ρ (.Compare a [op] [b] pos) k := by
  obtain ⟨r, A, B, ho, hr, ha, hb, hm⟩ := h
  exact weakT (pt_cmpR ho ha hb hm) fun σ H Q ⟨m, sl, q⟩ => ae_opT (C := aB X.K k) hr σ H _ ⟨m, sl, fun v H1 e1 a1 => by cases a1; exact ⟨k, rfl, q H1 e1⟩⟩
theorem ac_eq {op : CmpOp} {k k' : Bool} (h : AC X M ρ op a b k) (e : k = k') : AC X M ρ op a b k' := e ▸ h
theorem ac_eqS (ha : AE X M ρ a (D X.K d1)) (hb : AE X M ρ b (D X.K d2)) (hs : scD d1 d2 = true := by first | rfl | assumption) : AC X M ρ .Eq a (b) (eqD d1 d2) :=
  ac_mk op_eq (ra_val fun H x y _ hx hy => by
    obtain ⟨h1, h2⟩ := eqD_ok hs hx hy
    exact ⟨_, Dt.bl _, fun Q q => ⟨h1, by rw [h2]; exact q⟩⟩) ha hb
theorem ac_neS (ha : AE X M ρ a (D X.K d1)) (hb : AE X M ρ b (D X.K d2)) (hs : scD d1 d2 = true := by first | rfl | assumption) : AC X M ρ .NotEq a (b) (!eqD d1 d2) :=
  ac_mk op_ne (ra_val fun H x y _ hx hy => by
    obtain ⟨h1, h2⟩ := eqD_ok hs hx hy
    exact ⟨_, Dt.bl _, fun Q q => ⟨h1, by rw [h2]; exact q⟩⟩) ha hb
theorem ac_isN {j p'} (ha : AE X M ρ a (D X.K d)) : AC X M ρ .Is a (.Constant .none j p') (eqD d .none) :=
  ac_mk op_isN (ra_val (B := aN X.K) fun H x y _ hx hy => by
    cases hy
    refine ⟨_, Dt.bl _, fun Q q => ⟨rfl, ?_⟩⟩
    have e : decide (x = V.non) = eqD d .none := by cases hx <;> simp [eqD]
    rw [e]
    exact q) ha ae_non
theorem ac_notN {j p'} (ha : AE X M ρ a (D X.K d)) : AC X M ρ .IsNot a (.Constant .none j p') (!eqD d .none) :=
  ac_mk op_notN (ra_val (B := aN X.K) fun H x y _ hx hy => by
    cases hy
    refine ⟨_, Dt.bl _, fun Q q => ⟨rfl, ?_⟩⟩
    have e : decide (x = V.non) = eqD d .none := by cases hx <;> simp [eqD]
    rw [e]
    exact q) ha ae_non
/-! ### deep == -/
theorem ac_eqDp (hu : X.A.units + 64 < cLine) (ha : AE X M ρ a A) (hb : AE X M ρ b B) (hx : ∀ H v, M.P H → A.P H v → Dp X.K H v d1) (hy : ∀ H v, M.P H → B.P H v → Dp X.K H v d2) (s1 : SeqAt.shaped d1 = true) (s2 : SeqAt.shaped d2 = true) :
    AC X M ρ .Eq a (b) (PyData.eqv d1 d2) :=
  ac_mk (op_eqD hu) (ra_val fun H x y m h1 h2 => ⟨_, Dt.bl _, fun Q q => ⟨d1, d2, hx H x m h1, hy H y m h2, s1, s2, q⟩⟩) ha hb
theorem ac_neDp (hu : X.A.units + 64 < cLine) (ha : AE X M ρ a A) (hb : AE X M ρ b B) (hx : ∀ H v, M.P H → A.P H v → Dp X.K H v d1) (hy : ∀ H v, M.P H → B.P H v → Dp X.K H v d2) (s1 : SeqAt.shaped d1 = true) (s2 : SeqAt.shaped d2 = true) :
    AC X M ρ .NotEq a (b) (!PyData.eqv d1 d2) :=
  ac_mk (op_neD hu) (ra_val fun H x y m h1 h2 => ⟨_, Dt.bl _, fun Q q => ⟨d1, d2, hx H x m h1, hy H y m h2, s1, s2, q⟩⟩) ha hb
theorem LD.dp {ds : List PyData} {v : V} (h : (LD K ds).P H v) : Dp K H v (.list ds) := by
  obtain ⟨p, vs, rfl, h1, h2⟩ := h
  exact .lst (SqL.of h1) h2.dp
/-! ### numbers -/
variable {i j : Int}
theorem ae_add (ha : AE X M ρ a (aI X.K i)) (hb : AE X M ρ b (aI X.K j)) : AE X M ρ (.BinOp a .Add b pos) (aI X.K (i + j)) := ae_op op_add (ra_I0 (d := fun i j => .int (i + j)) fun _ _ _ => .int _) ha hb
theorem ae_sub (ha : AE X M ρ a (aI X.K i)) (hb : AE X M ρ b (aI X.K j)) : AE X M ρ (.BinOp a .Sub b pos) (aI X.K (i - j)) := ae_op op_sub (ra_I0 (d := fun i j => .int (i - j)) fun _ _ _ => .int _) ha hb
theorem ae_mul (ha : AE X M ρ a (aI X.K i)) (hb : AE X M ρ b (aI X.K j)) (h : CMul i j) : AE X M ρ (.BinOp a .Mult b pos) (aI X.K (i * j)) := ae_op op_mul (ra_I (d := fun i j => .int (i * j)) (fun _ _ _ => .int _) h) ha hb
theorem ae_mod (ha : AE X M ρ a (aI X.K i)) (hb : AE X M ρ b (aI X.K j)) (h : 0 < j) : AE X M ρ (.BinOp a .Mod b pos) (aI X.K (i % j)) := ae_op op_mod (ra_I (d := fun i j => .int (i % j)) (fun _ _ _ => .int _) h) ha hb
theorem ae_fdiv (ha : AE X M ρ a (aI X.K i)) (hb : AE X M ρ b (aI X.K j)) (h : CDivW i j) : AE X M ρ (.BinOp a .FloorDiv b pos) (aI X.K (i / j)) := ae_op op_fdivW (ra_I (d := fun i j => .int (i / j)) (fun _ _ _ => .int _) h) ha hb
theorem ae_pow (ha : AE X M ρ a (aI X.K i)) (hb : AE X M ρ b (aI X.K j)) (h : CPow i j) : AE X M ρ (.BinOp a .Pow b pos) (aI X.K (i ^ j.toNat)) := ae_op op_pow (ra_I (d := fun i j => .int (i ^ j.toNat)) (fun _ _ _ => .int _) h) ha hb
theorem ac_lt (ha : AE X M ρ a (aI X.K i)) (hb : AE X M ρ b (aI X.K j)) : AC X M ρ .Lt a (b) (decide (i < j)) := ac_mk op_lt (ra_I0 (d := fun i j => .bool (decide (i < j))) fun _ _ _ => .bl _) ha hb
theorem ac_gt (ha : AE X M ρ a (aI X.K i)) (hb : AE X M ρ b (aI X.K j)) : AC X M ρ .Gt a (b) (decide (i > j)) := ac_mk op_gt (ra_I0 (d := fun i j => .bool (decide (i > j))) fun _ _ _ => .bl _) ha hb
theorem ac_ge (ha : AE X M ρ a (aI X.K i)) (hb : AE X M ρ b (aI X.K j)) : AC X M ρ .GtE a (b) (decide (i ≥ j)) := ac_mk op_ge (ra_I0 (d := fun i j => .bool (decide (i ≥ j))) fun _ _ _ => .bl _) ha hb
theorem ae_neg (ha : AE X M ρ a (aI X.K i)) : AE X M ρ (.UnaryOp .USub a pos) (aI X.K (-i)) := weakE (pe_un un_neg ha) fun σ H Q ⟨m, sl, q⟩ => ⟨m, sl, fun x H1 e1 a1 => ⟨i, a1.int_inv, q _ H1 e1 (.int _)⟩⟩
/-! ### tuples -/
theorem ae_cat {ds es : List PyData} (ha : AE X M ρ a (D X.K (.tuple ds))) (hb : AE X M ρ b (D X.K (.tuple es))) (hl : ds.length + es.length ≤ 1000) : AE X M ρ (.BinOp a .Add b pos) (D X.K (.tuple (ds ++ es))) :=
  ae_op op_catA (fun H x y m hx hy Q q => by
    obtain ⟨p, xs, rfl, h1, h2⟩ := hx.tuple_inv
    obtain ⟨r, ys, rfl, h3, h4⟩ := hy.tuple_inv
    refine ⟨p, r, xs, ys, rfl, rfl, h1, h3, by rw [h2.length, h4.length]; exact sz_of (by omega), fun e => ?_, fun _ e => ?_, fun _ _ t ht => ?_⟩
    · subst e
      cases h2
      exact q _ H (Ex.refl H) hy
    · subst e
      cases h4
      rw [List.append_nil] at q
      exact q _ H (Ex.refl H) hx
    · exact q _ _ (Ex.new ht) (.tup (st_of upd_same) ((h2.append h4).mono (.of (Ex.new ht))))) ha hb
def repD (n : Nat) (ds : List PyData) : List PyData := (List.replicate n ds).flatten
theorem DtL.flat {vs : List V} {ds : List PyData} (h : DtL K H vs ds) : ∀ n, DtL K H ((List.replicate n vs).flatten) (repD n ds)
  | 0 => .nil
  | n + 1 => by
    unfold repD
    rw [List.replicate_succ, List.flatten_cons, List.replicate_succ, List.flatten_cons]
    exact h.append (h.flat n)
theorem ae_ixT {ds : List PyData} (ha : AE X M ρ a (D X.K (.tuple ds))) (hb : AE X M ρ b (aI X.K i)) (h : atI ds i = some d) (hs : PlainIx b := by exact fun _ _ => rfl) : AE X M ρ (.Subscript a b pos) (D X.K d) :=
  ae_ix ix_tup (ra_val fun H x y _ hx hy => by
    obtain ⟨p, xs, rfl, h1, h2⟩ := hx.tuple_inv
    cases hy
    have hv : ∃ v, atI xs i = some v ∧ Dt X.K H v d := by
      unfold atI at h ⊢
      rw [h2.length]
      cases e : ixN ds.length i with
      | none => rw [e] at h; cases h
      | some j =>
        rw [e] at h
        exact h2.get h
    obtain ⟨v, h3, h4⟩ := hv
    exact ⟨v, h4, fun Q q => ⟨p, xs, i, v, rfl, rfl, h1, h3, q⟩⟩) ha hb hs
theorem ae_ixL {ds : List PyData} (ha : AE X M ρ a (LD X.K ds)) (hb : AE X M ρ b (aI X.K i)) (h : atI ds i = some d) (hs : PlainIx b := by exact fun _ _ => rfl) : AE X M ρ (.Subscript a b pos) (D X.K d) :=
  ae_ix ix_list (ra_val fun H x y _ hx hy => by
    obtain ⟨p, xs, rfl, h1, h2⟩ := hx
    cases hy
    have hv : ∃ v, atI xs i = some v ∧ Dt X.K H v d := by
      unfold atI at h ⊢
      rw [h2.length]
      cases e : ixN ds.length i with
      | none => rw [e] at h; cases h
      | some j =>
        rw [e] at h
        exact h2.get h
    obtain ⟨v, h3, h4⟩ := hv
    exact ⟨v, h4, fun Q q => ⟨p, xs, i, v, rfl, rfl, .of h1, h3, q⟩⟩) ha hb hs
/-- of one of the module's tables -/
theorem ae_ixK {p : Addr} {z : Str} {A : Ab} (ha : AE X M ρ a (Rf p)) (hb : AE X M ρ b (aS X.K z)) (h : ∃ v, KDct X.K X.w p z v ∧ ∀ H, A.P H v) (hs : PlainIx b := by exact fun _ _ => rfl) : AE X M ρ (.Subscript a b pos) A :=
  ae_ix ix_kdict (ra_val fun H x y _ hx hy => by
    obtain ⟨v, h1, h2⟩ := h
    cases hy
    exact ⟨v, h2 H, fun Q q => ⟨p, z, v, hx, rfl, h1, q⟩⟩) ha hb hs
/-- slices -/
def cutD (ds : List PyData) (lo hi : Option Int) : List PyData := (ds.drop (HT.sIx ds.length 0 lo)).take (HT.sIx ds.length ds.length hi - HT.sIx ds.length 0 lo)
theorem ao_none : AO X M ρ none none := weakO po_none fun σ H Q ⟨_, _, q⟩ => q H (Ex.refl H)
theorem ao_some (h : AE X M ρ e (aI X.K i)) : AO X M ρ (some e) (some i) := weakO (po_some h) fun σ H Q ⟨m, sl, q⟩ => ⟨m, sl, fun v H1 e1 a1 => ⟨i, a1.int_inv, q H1 e1⟩⟩
theorem ae_slT {ds : List PyData} {lo hi : Option Expr} {l h : Option Int} {p2 : Pos} (ha : AE X M ρ a (D X.K (.tuple ds))) (hl : AO X M ρ lo l) (hh : AO X M ρ hi h) : AE X M ρ (.Subscript a (.Slice lo hi none p2) pos) (D X.K (.tuple (cutD ds l h))) :=
  weakE (pe_slice sl_tupA ha hl hh) fun σ H Q ⟨m, sl, q⟩ => ⟨m, sl, fun x H1 e1 a1 => ⟨M.mono e1 m, sl.mono e1, fun H2 e2 => ⟨M.mono (e1.trans e2) m, sl.mono (e1.trans e2), fun H3 e3 => by
    obtain ⟨p, xs, rfl, h1, h2⟩ := (a1.mono (TEx.of (e2.trans e3))).tuple_inv
    have hlen := h2.length
    refine ⟨p, xs, rfl, h1, fun hw => ?_, fun _ t ht => ?_⟩
    · have e : cutD ds l h = ds := by
        unfold cutD
        rw [← hlen, hw.1, hw.2, hlen]
        simp
      rw [e] at q
      exact q _ H3 ((e1.trans e2).trans e3) (.tup h1 h2)
    · refine q _ _ (((e1.trans e2).trans e3).trans (Ex.new ht)) (.tup (st_of upd_same) ?_)
      unfold cutV cutD
      rw [hlen]
      exact ((h2.drop _).take _).mono (.of (Ex.new ht))⟩⟩⟩
theorem ae_slL {ds : List PyData} {lo hi : Option Expr} {l h : Option Int} {p2 : Pos} (ha : AE X M ρ a (LD X.K ds)) (hl : AO X M ρ lo l) (hh : AO X M ρ hi h) : AE X M ρ (.Subscript a (.Slice lo hi none p2) pos) (LD X.K (cutD ds l h)) :=
  weakE (pe_slice sl_list ha hl hh) fun σ H Q ⟨m, sl, q⟩ => ⟨m, sl, fun x H1 e1 a1 => ⟨M.mono e1 m, sl.mono e1, fun H2 e2 => ⟨M.mono (e1.trans e2) m, sl.mono (e1.trans e2), fun H3 e3 => by
    obtain ⟨p, xs, rfl, h1, h2⟩ := (LD X.K ds).mono (e2.trans e3) a1
    have hlen := h2.length
    refine ⟨p, xs, rfl, .of h1, fun t ht => ?_⟩
    refine q _ _ (((e1.trans e2).trans e3).trans (Ex.new ht)) ⟨t, _, rfl, upd_same, ?_⟩
    unfold cutV cutD
    rw [hlen]
    exact ((h2.drop _).take _).mono (.of (Ex.new ht))⟩⟩⟩
/-! ### in -/
def flatD : PyData → Bool
  | .none => true | .bool _ => true | .int _ => true | .str _ => true | _ => false
def eqF : PyData → PyData → Bool
  | .none, .none => true
  | .bool a, .bool b => a == b
  | .bool a, .int b => (if a then 1 else 0) == b
  | .int a, .bool b => a == (if b then 1 else 0)
  | .int a, .int b => a == b
  | .str a, .str b => a == b
  | _, _ => false
def inD (d : PyData) (ds : List PyData) : Bool := ds.any fun z => eqF z d
theorem Dt.flat {v : V} {d : PyData} (h : Dt K H v d) (f : flatD d = true) : flatV v = true := by cases h <;> first | rfl | cases f
theorem eqF_ok {v w : V} {d e : PyData} (h : Dt K H v d) (h' : Dt K H w e) (f : flatD d = true) (g : flatD e = true) : eqV v w = eqF d e := by
  cases h <;> cases h' <;> first
    | rfl
    | (cases f; done)
    | (cases g; done)
theorem DtL.flat_all : ∀ {vs : List V} {ds : List PyData}, DtL K H vs ds → ds.all flatD = true → vs.all flatV = true
  | _, _, .nil, _ => rfl
  | _, _, .cons h r, f => by
    rw [List.all_cons, Bool.and_eq_true] at f ⊢
    exact ⟨h.flat f.1, r.flat_all f.2⟩
theorem DtL.inV {v : V} {d : PyData} (h : Dt K H v d) (g : flatD d = true) : ∀ {vs : List V} {ds : List PyData}, DtL K H vs ds → ds.all flatD = true → L2.inV v vs = inD d ds
  | _, _, .nil, _ => rfl
  | _, _, .cons h' r, f => by
    rw [List.all_cons, Bool.and_eq_true] at f
    show (eqV _ _ || L2.inV v _) = (eqF _ _ || inD d _)
    rw [eqF_ok h' h f.1 g, DtL.inV h g r f.2]
/-- what holds items that are walked: a tuple, a list -/
def SqA (K : PySem.W.Frag) (B : Ab) (ds : List PyData) : Prop := ∀ H v, B.P H v → ∃ p vs, v = .ref p ∧ (SqL K H p vs ∨ SqT K H p vs) ∧ DtL K H vs ds
theorem sqA_tup {ds : List PyData} : SqA K (D K (.tuple ds)) ds := fun H v h => by
  obtain ⟨p, vs, e, h1, h2⟩ := Dt.tuple_inv h
  exact ⟨p, vs, e, .inr h1, h2⟩
theorem sqA_lst {ds : List PyData} : SqA K (LD K ds) ds := fun H v ⟨p, vs, e, h1, h2⟩ => ⟨p, vs, e, .inl (.of h1), h2⟩
theorem ac_in {ds : List PyData} (ha : AE X M ρ a (D X.K d)) (hb : AE X M ρ b B) (hB : SqA X.K B ds) (f : flatD d = true) (g : ds.all flatD = true) (hm : behindInMarks .In b = false := by rfl) : AC X M ρ .In a (b) (inD d ds) :=
  ac_mk op_in_seq (ra_val fun H x y _ hx hy => by
    obtain ⟨p, vs, rfl, h1, h2⟩ := hB H y hy
    refine ⟨_, Dt.bl _, fun Q q => ⟨p, vs, rfl, h1, hx.flat f, h2.flat_all g, ?_⟩⟩
    rw [DtL.inV hx f h2 g]
    exact q) ha hb hm
theorem ac_notIn {ds : List PyData} (ha : AE X M ρ a (D X.K d)) (hb : AE X M ρ b B) (hB : SqA X.K B ds) (f : flatD d = true) (g : ds.all flatD = true) (hm : behindInMarks .NotIn b = false := by rfl) : AC X M ρ .NotIn a (b) (!inD d ds) :=
  ac_mk op_notIn_seq (ra_val fun H x y _ hx hy => by
    obtain ⟨p, vs, rfl, h1, h2⟩ := hB H y hy
    refine ⟨_, Dt.bl _, fun Q q => ⟨p, vs, rfl, h1, hx.flat f, h2.flat_all g, ?_⟩⟩
    rw [DtL.inV hx f h2 g]
    exact q) ha hb hm
theorem ac_inDp {ds : List PyData} (hu : X.A.units + 65 < cLine) (ha : AE X M ρ a (D X.K d)) (hb : AE X M ρ b (LD X.K ds)) (s1 : SeqAt.shaped d = true) (s2 : SeqAt.shaped (.list ds) = true) (hm : behindInMarks .In b = false := by rfl) : AC X M ρ .In a (b) (ds.any fun z => PyData.eqv z d) :=
  ac_mk (op_inD hu) (ra_val (A := D X.K d) (B := LD X.K ds) fun H x y _ hx hy => ⟨_, Dt.bl _, fun Q q => ⟨d, ds, Dt.dp hx, LD.dp hy, s1, s2, q⟩⟩) ha hb hm
/-! ### lists -/
theorem ae_catL {ds es : List PyData} (ha : AE X M ρ a (LD X.K ds)) (hb : AE X M ρ b (LD X.K es)) (hl : ds.length + es.length ≤ 1000) : AE X M ρ (.BinOp a .Add b pos) (LD X.K (ds ++ es)) :=
  ae_op op_cat (fun H x y m hx hy Q q => by
    obtain ⟨p, xs, rfl, h1, h2⟩ := hx
    obtain ⟨r, ys, rfl, h3, h4⟩ := hy
    exact ⟨p, r, xs, ys, rfl, rfl, h1, h3, by rw [h2.length, h4.length]; exact sz_of (by omega), fun t ht => q _ _ (Ex.new ht) ⟨t, _, rfl, upd_same, (h2.append h4).mono (.of (Ex.new ht))⟩⟩) ha hb
theorem ae_len {ds : List PyData} {p : Pos} (hm : X.mg "len" = none) (ha : AE X M ρ a B) (hB : SqA X.K B ds) (hg : Gl X "len" := by rfl) (he : starEach [a] X.env = (false, eval a X.env) :: starEach [] X.env := by rfl) : AE X M ρ (.Call (.Name "len" p) [a] [] pos) (aI X.K ds.length) :=
  weakE (pe_callB call_len_seq hg hm PySem.boot_len (aa_cons ha aa_nil he) (by decide) (by decide) he) fun σ H Q ⟨m, sl, q⟩ => ⟨m, sl, fun vs H1 e1 a1 => by
    cases a1 with
    | cons h hr =>
      cases hr
      obtain ⟨p, vs, rfl, h1, h2⟩ := hB _ _ h
      refine ⟨p, vs, rfl, h1, ?_⟩
      rw [h2.length]
      exact q _ _ e1 (.int _)⟩
theorem ae_list {ds : List PyData} {p : Pos} (hm : X.mg "list" = none) (ha : AE X M ρ a B) (hB : SqA X.K B ds) (hg : Gl X "list" := by rfl) (he : starEach [a] X.env = (false, eval a X.env) :: starEach [] X.env := by rfl) : AE X M ρ (.Call (.Name "list" p) [a] [] pos) (LD X.K ds) :=
  weakE (pe_callTy call_list_of hg hm (by decide +kernel) (aa_cons ha aa_nil he) (by decide) (by decide) he) fun σ H Q ⟨m, sl, q⟩ => ⟨m, sl, fun vs H1 e1 a1 => by
    cases a1 with
    | cons h hr =>
      cases hr
      obtain ⟨p, vs, rfl, h1, h2⟩ := hB _ _ h
      exact ⟨p, vs, rfl, h1, fun l hl => q _ _ (e1.trans (Ex.new hl)) ⟨l, vs, rfl, upd_same, h2.mono (.of (Ex.new hl))⟩⟩⟩
theorem ae_tuple {ds : List PyData} {p : Pos} (hm : X.mg "tuple" = none) (ha : AE X M ρ a (LD X.K ds)) (hg : Gl X "tuple" := by rfl) (he : starEach [a] X.env = (false, eval a X.env) :: starEach [] X.env := by rfl) : AE X M ρ (.Call (.Name "tuple" p) [a] [] pos) (D X.K (.tuple ds)) :=
  weakE (pe_callTy call_tuple_of hg hm (by decide +kernel) (aa_cons ha aa_nil he) (by decide) (by decide) he) fun σ H Q ⟨m, sl, q⟩ => ⟨m, sl, fun vs H1 e1 a1 => by
    cases a1 with
    | cons h hr =>
      cases hr
      obtain ⟨p, vs, rfl, h1, h2⟩ := h
      exact ⟨p, vs, rfl, .inl ⟨.of h1, fun l hl => q _ _ (e1.trans (Ex.new hl)) (.tup (st_of upd_same) (h2.mono (.of (Ex.new hl))))⟩⟩⟩
/-- sorted(x, key=int) of whole numbers -/
theorem ae_sorted {ns : List Int} {p kp ip : Pos} (hm : X.mg "sorted" = none) (hi : X.mg "int" = none) (ha : AE X M ρ a B) (hB : SqA X.K B (ns.map .int)) (hl : ns.length < 64) (hg : Gl X "sorted" := by rfl) (hgi : Gl X "int" := by rfl)
    (hs : starEach [a] X.env = (false, eval a X.env) :: starEach [] X.env := by rfl)
    (he : backTo pos (starEach [a] X.env) = (false, eval a X.env) :: backTo pos (starEach [] X.env) := by rfl) (hpl : (backTo pos (starEach [a] X.env)).any (·.1) = false := by rfl)
    (hall : (backToKw pos (keywordEach [⟨some "key", .Name "int" ip, kp⟩] X.env)).all (·.1.isSome) = true := by rfl) (hnone : (backToKw pos (keywordEach [⟨some "key", .Name "int" ip, kp⟩] X.env)).any (·.1.isNone) = false := by rfl) (hks : (backToKw pos (keywordEach [⟨some "key", .Name "int" ip, kp⟩] X.env)).filterMap (·.1) = [Str.ofString "key"] := by rfl) :
    AE X M ρ (.Call (.Name "sorted" p) [a] [⟨some "key", .Name "int" ip, kp⟩] pos) (LD X.K ((srt ns).map .int)) :=
  weakE (pe_callBK cr_sortedI hg hm (by decide +kernel) (aa_cons ha aa_nil hs) (pk_cons (pe_bltn (v := .ty "int") hgi hi (by decide +kernel) rfl) pk_nil) (by decide) (by decide) he hpl hall hnone hks) fun σ H Q ⟨m, sl, q⟩ => ⟨m, sl, fun vs H1 e1 a1 => by
    cases a1 with
    | cons h hr =>
      cases hr
      obtain ⟨p, vs, rfl, h1, h2⟩ := hB _ _ h
      have ev := h2.ints
      subst ev
      refine ⟨p, ns, rfl, rfl, h1, hl, fun ns' t pm so ht => ?_⟩
      rw [srt_eq so pm]
      exact q _ _ (e1.trans (Ex.new ht)) ⟨t, _, rfl, upd_same, DtL.ofInts⟩⟩
end
end Ep
set_option maxHeartbeats 4000000
/-! rules of our own: own getitem and setitem, an attribute as a target within a tuple -/
namespace Ep
open PySem PySem.Spec PyProof.Rows L2

section
variable {X : Cx} {pins : List (Addr × Obj)} {σ : L2.St} {H : Hp} {s : Shared}
/-- a call one level in -/
theorem run_in1 {CX : CXT} {k : Nat} {f : Addr} {fd : FuncData} {ps : List Str} {sp : Sp} {E : XK} {Q : VK} {us : List Value} {vs : List V} (F : FnOk X.prog X.w X.K X.mg X.base CX k f fd ps sp) (hr : Room (k + 1) X.A)
    (hb : Binds X.K fd ps []) (hx : Passes CX X E) (I : Inv X pins σ H s) (r : Vals vs us) (h : sp vs H Q E) : wpAny (model X.prog X.w) X.A.in1 (call (.ref f) us) (EP X pins σ Q) X.xe s := by
  have hl : (us ++ []).length = ps.length := by
    rw [List.append_nil, ← r.length]
    exact F.len _ _ _ _ h
  have e : us ++ [] = us := List.append_nil _
  refine wpAny_call (codeAny_mono (F.run X.A.in1 X.stack s H ⟨us, []⟩ us vs Q E hr.in1 I.env0.in1 (by have z := hb s us I.kIn hl; rw [e] at z; exact z) r h) fun r s' hq => ?_)
  cases r with
  | error er => exact hx pins σ H s er s' I hq
  | ok fl =>
    cases fl with
    | ret u => exact I.after hq
    | next => exact False.elim hq
    | brk => exact False.elim hq
    | cont => exact False.elim hq
theorem run_at {CX : CXT} {k : Nat} {f : Addr} {fd : FuncData} {ps : List Str} {sp : Sp} {E : XK} {Q : VK} {us : List Value} {vs : List V} (F : FnOk X.prog X.w X.K X.mg X.base CX k f fd ps sp) (hr : Room k X.A)
    (hb : Binds X.K fd ps []) (hx : Passes CX X E) (I : Inv X pins σ H s) (r : Vals vs us) (h : sp vs H Q E) : wpAny (model X.prog X.w) X.A (call (.ref f) us) (EP X pins σ Q) X.xe s := by
  have hl : (us ++ []).length = ps.length := by
    rw [List.append_nil, ← r.length]
    exact F.len _ _ _ _ h
  have e : us ++ [] = us := List.append_nil _
  refine wpAny_call (codeAny_mono (F.run X.A X.stack s H ⟨us, []⟩ us vs Q E hr I.env0 (by have z := hb s us I.kIn hl; rw [e] at z; exact z) r h) fun r s' hq => ?_)
  cases r with
  | error er => exact hx pins σ H s er s' I hq
  | ok fl =>
    cases fl with
    | ret u => exact I.after hq
    | next => exact False.elim hq
    | brk => exact False.elim hq
    | cont => exact False.elim hq
end

/-! ### o[i] by an own def -/
structure GetO (K : PySem.W.Frag) (C g : Addr) : Prop where
  at_ : PySem.W.findIn K (.ref C) "__getitem__" = some (some (.ref g))
  fi : PySem.W.fnIn K g = true
  fn : PySem.W.isFn K (.ref g) = true
def tGetO (C : Addr) (sp : Sp) (E : XK) (ta tb : TE) : TE := fun σ H Q => ta σ H fun x H1 => tb σ H1 fun y H2 => ∃ p dx fs, x = .ref p ∧ H2 p = some (.ins C dx fs) ∧ sp [.ref p, y] H2 Q E
section
variable {X : Cx} {a b : Expr} {ta tb : TE} {pos : Pos}
theorem pe_getO {CX : CXT} {k : Nat} {C g : Addr} {fd : FuncData} {ps : List Str} {sp : Sp} {E : XK} (ha : PE X a ta) (hb : PE X b tb) (c : GetO X.K C g) (F : FnOk X.prog X.w X.K X.mg X.base CX k g fd ps sp)
    (hr : Room (k + 1) X.A) (bb : Binds X.K fd ps []) (hx : Passes CX X E)
    (hsl : ∀ (p : Addr) (i : Value), subscripted b true (.ref p) i = runValue (.builtin "lifetime.subscript" ⟨[.ref p, i], []⟩) := by intro _ _; with_unfolding_all rfl) : PE X (.Subscript a b pos) (tGetO C sp E ta tb) := by
  refine ⟨fun pins s σ H Q I h => ?_⟩
  refine Subscript_ (binT ha hb I h fun v u s2 x y H2 I2 rx ry q => ?_)
  obtain ⟨p, dx, fs, rfl, hp, q⟩ := q
  obtain rfl : v = Value.ref p := rx
  obtain ⟨mA, O, _, _, _, _⟩ := ins_get I2.hok hp
  obtain ⟨od, J, _⟩ := O.look
  obtain ⟨m, Fr_⟩ := I2.fr
  exact PySem.W.sub_K Fr_ I2.mod.kin J c.at_ c.fi c.fn (run_in1 (vs := [.ref p, y]) F hr bb hx I2 (.cons rfl (.cons ry .nil)) q) (hsl p u)
end

/-! ### o[i] = v by an own def -/
structure SetO (K : PySem.W.Frag) (C g : Addr) : Prop where
  at_ : PySem.W.findIn K (.ref C) "__setitem__" = some (some (.ref g))
  sq : PySem.W.noSeq K C = true
  fn : PySem.W.isFn K (.ref g) = true
def rSetO (C : Addr) (sp : Sp) (E : XK) : TSet := fun o i v H Q => ∃ p dx fs, o = .ref p ∧ H p = some (.ins C dx fs) ∧ sp [.ref p, i, v] H (fun _ H' => Q H') E
section
variable {X : Cx}
theorem set_own {CX : CXT} {k : Nat} {C g : Addr} {fd : FuncData} {ps : List Str} {sp : Sp} {E : XK} (c : SetO X.K C g) (F : FnOk X.prog X.w X.K X.mg X.base CX k g fd ps sp) (hr : Room k X.A) (bb : Binds X.K fd ps []) (hx : Passes CX X E) :
    PSet X (rSetO C sp E) := by
  intro pins s σ H o i v ov iv u Q I ro ri rv h
  obtain ⟨p, dx, fs, rfl, hp, q⟩ := h
  obtain rfl : ov = Value.ref p := ro
  obtain ⟨mA, O, _, _, _, _⟩ := ins_get I.hok hp
  obtain ⟨od, J, _⟩ := O.look
  obtain ⟨m, Fr_⟩ := I.fr
  refine PySem.W.ksp_setItem Fr_ I.mod.kin J c.sq c.at_ c.fn (thn (run_at (vs := [.ref p, i, v]) F hr bb hx I (.cons rfl (.cons ri (.cons rv .nil))) q) fun w s' ⟨_, H', I', _, q'⟩ => ⟨H', I', q'⟩)
end

/-! ### self.f as a target -/
def gFld (K : PySem.W.Frag) (to : TE) (f : Str) : TG := fun v σ H Q => to σ H fun x H1 => ∃ a C dx fs, x = .ref a ∧ H1 a = some (.ins C dx fs) ∧ Cls K C ∧ NoAttr K C f ∧ fs.length < 1000 ∧ Q σ (upd H1 a (.ins C dx (putF f v fs)))
section
variable {X : Cx} {o : Expr} {to : TE} {f : Str} {pos : Pos}
theorem pg_fld (ho : PE X o to) (ha : ∀ v, assign (.Attribute o f pos) X.env v = (do
      let ov ← holding [v] (eval o X.env)
      standAt pos.atName
      holding [v, ov] (setAttr ov f v)
      release [v, ov] []) := by intro _; rfl) : PG X (.Attribute o f pos) (gFld X.K to f) := by
  refine ⟨fun pins s σ H v u Q I r h => ?_⟩
  rw [ha]
  refine wpAny_bind (wpAny_holding (thn (ho.run pins s σ H _ I h) fun ov s1 ⟨x, H1, I1, r1, q1⟩ => ?_))
  obtain ⟨a, C, dx, fs, rfl, ea, c, n, l, q⟩ := q1
  obtain rfl : ov = Value.ref a := r1
  refine wpAny_bind (wpAny_standAt (wpAny_bind (wpAny_holding (setattr_ok I1 ea c n l r fun s2 I2 => ?_))))
  exact wpAny_release ⟨σ, _, I2, q⟩
end
end Ep
set_option maxHeartbeats 4000000
/-! promises over abstract values, calls, fields, tests, blocks -/
namespace Ep
open PySem PySem.Spec PyProof.Rows L2 Evl

/-! ### results told from the heap before and the heap behind -/
abbrev RR := Hp → Hp → V → Prop
def tR (M : Mb) (ρ : List Sl) (R : RR) : TE := fun σ H Q => M.P H ∧ Slots ρ H σ ∧ ∀ v H', Ex H H' → R H H' v → Q v H'
abbrev AR (X : Cx) (M : Mb) (ρ : List Sl) (e : Expr) (R : RR) : Prop := PE X e (tR M ρ R)
abbrev rA (A : Ab) : RR := fun _ H' v => A.P H' v
/-- a new list -/
def rN (K : PySem.W.Frag) (ds : List PyData) : RR := fun H H' v => ∃ p vs, v = .ref p ∧ H p = none ∧ H' p = some (.lst vs) ∧ DtL K H' vs ds
abbrev AN (X : Cx) (M : Mb) (ρ : List Sl) (e : Expr) (ds : List PyData) : Prop := AR X M ρ e (rN X.K ds)
/-- a promise: nothing tracked is changed -/
def spG {ι : Type} (pc : ι → Prop) (pre : ι → List Ab) (res : ι → RR) : Sp := fun vs H Q _ => ∃ i, pc i ∧ AbL (pre i) H vs ∧ ∀ v H', Ex H H' → res i H H' v → Q v H'
/-- a promise: from M0 to M1 -/
def spM {ι : Type} (pc : ι → Prop) (pre : ι → List Ab) (M0 M1 : ι → Mb) (res : ι → Ab) : Sp := fun vs H Q _ => ∃ i, pc i ∧ (M0 i).P H ∧ AbL (pre i) H vs ∧ ∀ v H', Tk H H' → (M1 i).P H' → (res i).P H' v → Q v H'
section
variable (P : Program) (w : World) (K : PySem.W.Frag) (mg : Str → Option Value) (base : Heap)
/-- a def by its name; a method, a property, the making of an instance, by the class -/
def GFn (k : Nat) (x : Str) (sp : Sp) : Prop := ∃ f fd ps, FnOk P w K mg base CX0 k f fd ps sp ∧ mg x = some (.ref f) ∧ PySem.W.keepIn K (.ref f) = true ∧ Binds K fd ps []
def GMt (k : Nat) (C : Addr) (m : Str) (sp : Sp) : Prop := ∃ f fd ps, FnOk P w K mg base CX0 k f fd ps sp ∧ Cls K C ∧ Meth K C m f ∧ Binds K fd ps []
def GPr (k : Nat) (C : Addr) (m : Str) (sp : Sp) : Prop := ∃ p g fd ps, FnOk P w K mg base CX0 k g fd ps sp ∧ Cls K C ∧ PropOf K C m p g ∧ Binds K fd ps []
def GMk (k : Nat) (x : Str) (C : Addr) (sp : Sp) : Prop := ∃ f fd ps, FnOk P w K mg base CX0 k f fd ps sp ∧ mg x = some (.ref C) ∧ Mk K C f ∧ Binds K fd ps []
end
variable {K : PySem.W.Frag} {H H' : Hp}
theorem rN_back {ds : List PyData} {H H1 H' : Hp} {v : V} (e : Ex H H1) (h : rN K ds H1 H' v) : rN K ds H H' v := by
  obtain ⟨p, vs, h1, h2, h3⟩ := h
  exact ⟨p, vs, h1, fresh_back e h2, h3⟩
section
variable {X : Cx} {M M' : Mb} {ρ ρ' : List Sl} {e a b c o : Expr} {es : List Expr} {A B C : Ab} {As : List Ab} {R R' : RR} {pos apos : Pos} {d d1 d2 : PyData} {x m f : Str} {p : Pos} {k : Nat}
theorem an_ae {ds : List PyData} (h : AN X M ρ e ds) : AE X M ρ e (LD X.K ds) := weakE h fun σ H Q ⟨m, sl, q⟩ => ⟨m, sl, fun v H' ex ⟨p, vs, h1, _, h2, h3⟩ => q v H' ex ⟨p, vs, h1, h2, h3⟩⟩
theorem ar_imp (h : AR X M ρ e R) (w : ∀ H H' v, M.P H → Ex H H' → R H H' v → R' H H' v) : AR X M ρ e R' := weakE h fun σ H Q ⟨m, sl, q⟩ => ⟨m, sl, fun v H' ex r => q v H' ex (w H H' v m ex r)⟩
theorem an_lst {ds : List PyData} (h : AD X M ρ es ds) (hl : ds.length ≤ 1000 := by first | decide | (simp; done) | (simp; omega)) : AN X M ρ (.List es pos) ds :=
  weakE (pe_lst h) fun σ H Q ⟨m, sl, q⟩ => ⟨m, sl, fun vs H1 e1 a1 => by
    have r := a1.ds
    refine ⟨by rw [r.length]; exact sz_of (by omega), fun p hp => q _ _ (e1.trans (Ex.new hp)) ⟨p, vs, rfl, fresh_back e1 hp, upd_same, r.mono (.of (Ex.new hp))⟩⟩⟩
theorem an_list {ds : List PyData} {p : Pos} (hm : X.mg "list" = none) (ha : AE X M ρ a B) (hB : SqA X.K B ds) (hg : Gl X "list" := by rfl) (he : starEach [a] X.env = (false, eval a X.env) :: starEach [] X.env := by rfl) : AN X M ρ (.Call (.Name "list" p) [a] [] pos) ds :=
  weakE (pe_callTy call_list_of hg hm (by decide +kernel) (aa_cons ha aa_nil he) (by decide) (by decide) he) fun σ H Q ⟨m, sl, q⟩ => ⟨m, sl, fun vs H1 e1 a1 => by
    cases a1 with
    | cons h hr =>
      cases hr
      obtain ⟨p, vs, rfl, h1, h2⟩ := hB _ _ h
      exact ⟨p, vs, rfl, h1, fun l hl => q _ _ (e1.trans (Ex.new hl)) ⟨l, vs, rfl, fresh_back e1 hl, upd_same, h2.mono (.of (Ex.new hl))⟩⟩⟩
theorem an_slL {ds : List PyData} {lo hi : Option Expr} {l h : Option Int} {p2 : Pos} (ha : AE X M ρ a B) (hB : ∀ H v, B.P H v → ∃ p vs, v = .ref p ∧ SqL X.K H p vs ∧ DtL X.K H vs ds) (hl : AO X M ρ lo l) (hh : AO X M ρ hi h) : AN X M ρ (.Subscript a (.Slice lo hi none p2) pos) (cutD ds l h) :=
  weakE (pe_slice sl_list ha hl hh) fun σ H Q ⟨m, sl, q⟩ => ⟨m, sl, fun x H1 e1 a1 => ⟨M.mono e1 m, sl.mono e1, fun H2 e2 => ⟨M.mono (e1.trans e2) m, sl.mono (e1.trans e2), fun H3 e3 => by
    obtain ⟨p, xs, rfl, h1, h2⟩ := hB _ _ (B.mono (e2.trans e3) a1)
    have hlen := h2.length
    refine ⟨p, xs, rfl, h1, fun t ht => ?_⟩
    refine q _ _ (((e1.trans e2).trans e3).trans (Ex.new ht)) ⟨t, _, rfl, fresh_back ((e1.trans e2).trans e3) ht, upd_same, ?_⟩
    unfold cutV cutD
    rw [hlen]
    exact ((h2.drop _).take _).mono (.of (Ex.new ht))⟩⟩⟩
theorem an_sorted {ns : List Int} {p kp ip : Pos} (hm : X.mg "sorted" = none) (hi : X.mg "int" = none) (ha : AE X M ρ a B) (hB : SqA X.K B (ns.map .int)) (hl : ns.length < 64) (hg : Gl X "sorted" := by rfl) (hgi : Gl X "int" := by rfl)
    (hs : starEach [a] X.env = (false, eval a X.env) :: starEach [] X.env := by rfl)
    (he : backTo pos (starEach [a] X.env) = (false, eval a X.env) :: backTo pos (starEach [] X.env) := by rfl) (hpl : (backTo pos (starEach [a] X.env)).any (·.1) = false := by rfl)
    (hall : (backToKw pos (keywordEach [⟨some "key", .Name "int" ip, kp⟩] X.env)).all (·.1.isSome) = true := by rfl) (hnone : (backToKw pos (keywordEach [⟨some "key", .Name "int" ip, kp⟩] X.env)).any (·.1.isNone) = false := by rfl) (hks : (backToKw pos (keywordEach [⟨some "key", .Name "int" ip, kp⟩] X.env)).filterMap (·.1) = [Str.ofString "key"] := by rfl) :
    AN X M ρ (.Call (.Name "sorted" p) [a] [⟨some "key", .Name "int" ip, kp⟩] pos) ((srt ns).map .int) :=
  weakE (pe_callBK cr_sortedI hg hm (by decide +kernel) (aa_cons ha aa_nil hs) (pk_cons (pe_bltn (v := .ty "int") hgi hi (by decide +kernel) rfl) pk_nil) (by decide) (by decide) he hpl hall hnone hks) fun σ H Q ⟨m, sl, q⟩ => ⟨m, sl, fun vs H1 e1 a1 => by
    cases a1 with
    | cons h hr =>
      cases hr
      obtain ⟨p, vs, rfl, h1, h2⟩ := hB _ _ h
      have ev := h2.ints
      subst ev
      refine ⟨p, ns, rfl, rfl, h1, hl, fun ns' t pm so ht => ?_⟩
      rw [srt_eq so pm]
      exact q _ _ (e1.trans (Ex.new ht)) ⟨t, _, rfl, fresh_back e1 ht, upd_same, DtL.ofInts⟩⟩

/-! ### calls -/
variable {ι : Type} {pc : ι → Prop} {pre : ι → List Ab} {res : ι → RR}
theorem ar_call (G : GFn X.prog X.w X.K X.mg X.base k x (spG pc pre res)) (hr : Room k X.A) (i : ι) (hi : pc i) (ha : AA X M ρ (e :: es) (pre i)) (hb : ∀ H H1 H' v, Ex H H1 → res i H1 H' v → R H H' v)
    (hg : Gl X x := by rfl) (hdb : (x == ("__debug__" : Str)) = false := by decide) (he : starEach (e :: es) X.env = (false, eval e X.env) :: starEach es X.env := by rfl) (hpl : (backTo pos (starEach es X.env)).any (·.1) = false := by rfl) :
    AR X M ρ (.Call (.Name x p) (e :: es) [] pos) R := by
  obtain ⟨f, fd, ps, F, hm, kp, bb⟩ := G
  exact weakE (pe_call F hr hg hm kp bb .nil pass0 ha hdb he hpl) fun σ H Q ⟨m, sl, q⟩ => ⟨m, sl, fun vs H1 e1 a1 => ⟨i, hi, by rw [List.append_nil]; exact a1, fun v H' e2 r => q v H' (e1.trans e2) (hb H H1 H' v e1 r)⟩⟩
theorem ae_call {rs : ι → Ab} (G : GFn X.prog X.w X.K X.mg X.base k x (spG pc pre fun i => rA (rs i))) (hr : Room k X.A) (i : ι) (hi : pc i) (ha : AA X M ρ (e :: es) (pre i)) (hA : rs i = A := by rfl)
    (hg : Gl X x := by rfl) (hdb : (x == ("__debug__" : Str)) = false := by decide) (he : starEach (e :: es) X.env = (false, eval e X.env) :: starEach es X.env := by rfl) (hpl : (backTo pos (starEach es X.env)).any (·.1) = false := by rfl) :
    AE X M ρ (.Call (.Name x p) (e :: es) [] pos) A := hA ▸ ar_call G hr i hi ha (fun _ _ _ _ _ h => h) hg hdb he hpl
theorem an_call {rs : ι → List PyData} {ds : List PyData} (G : GFn X.prog X.w X.K X.mg X.base k x (spG pc pre fun i => rN X.K (rs i))) (hr : Room k X.A) (i : ι) (hi : pc i) (ha : AA X M ρ (e :: es) (pre i)) (hA : rs i = ds := by rfl)
    (hg : Gl X x := by rfl) (hdb : (x == ("__debug__" : Str)) = false := by decide) (he : starEach (e :: es) X.env = (false, eval e X.env) :: starEach es X.env := by rfl) (hpl : (backTo pos (starEach es X.env)).any (·.1) = false := by rfl) :
    AN X M ρ (.Call (.Name x p) (e :: es) [] pos) ds := hA ▸ ar_call G hr i hi ha (fun _ _ _ _ e h => rN_back e h) hg hdb he hpl
/-- the receiver's part: it is an instance of the class at C, with no field m -/
def Recv (M : Mb) (C : Addr) (m : Str) (A B : Ab) : Prop := ∀ H v, M.P H → A.P H v → ∃ a dx fs, v = .ref a ∧ H a = some (.ins C dx fs) ∧ fs.lookup m = none ∧ B.P H v
theorem ar_meth {C : Addr} {pl : Sem Bool} (ho : AE X M ρ o A) (hA : Recv M C m A B) (G : GMt X.prog X.w X.K X.mg X.base k C m (spG pc pre res)) (hr : Room k X.A) (i : ι) (hi : pc i) (hp : pre i = B :: As) (ha : AA X M ρ (e :: es) As) (hb : ∀ H H1 H' v, Ex H H1 → res i H1 H' v → R H H' v)
    (hst : starEach (e :: es) X.env = (false, eval e X.env) :: starEach es X.env := by rfl) (hpl : (backTo pos (starEach es X.env)).any (·.1) = false := by rfl)
    (ht : eval (.Call (.Attribute o m apos) (e :: es) [] pos) X.env = (do
      let ov ← eval o X.env
      standAt apos.atName
      let (f, first) ← holding [ov] (getMethod ov m pl)
      callWith pos f first (backTo pos (starEach (e :: es) X.env)) (backToKw pos (keywordEach [] X.env))) := by rfl) :
    AR X M ρ (.Call (.Attribute o m apos) (e :: es) [] pos) R := by
  obtain ⟨f, fd, ps, F, hc, hm, bb⟩ := G
  refine weakE (pe_meth ho hc hm F hr bb .nil pass0 ha hst hpl ht) fun σ H Q ⟨m, sl, q⟩ => ⟨m, sl, fun v H1 e1 a1 => ?_⟩
  obtain ⟨a, dx, fs, ev, h1, h2, h3⟩ := hA H1 v (M.mono e1 m) a1
  refine ⟨a, dx, fs, ev, h1, h2, M.mono e1 m, sl.mono e1, fun vs H2 e2 a2 => ⟨i, hi, ?_, fun u H' e3 r => q u H' ((e1.trans e2).trans e3) (hb H H2 H' u (e1.trans e2) r)⟩⟩
  rw [hp, List.append_nil]
  exact .cons (B.mono e2 h3) a2
theorem ar_meth0 {C : Addr} {pl : Sem Bool} (ho : AE X M ρ o A) (hA : Recv M C m A B) (G : GMt X.prog X.w X.K X.mg X.base k C m (spG pc pre res)) (hr : Room k X.A) (i : ι) (hi : pc i) (hp : pre i = [B]) (hb : ∀ H H1 H' v, Ex H H1 → res i H1 H' v → R H H' v)
    (ht : eval (.Call (.Attribute o m apos) [] [] pos) X.env = (do
      let ov ← eval o X.env
      standAt apos.atName
      let (f, first) ← holding [ov] (getMethod ov m pl)
      callWith pos f first (backTo pos (starEach [] X.env)) (backToKw pos (keywordEach [] X.env))) := by rfl) :
    AR X M ρ (.Call (.Attribute o m apos) [] [] pos) R := by
  obtain ⟨f, fd, ps, F, hc, hm, bb⟩ := G
  refine weakE (pe_meth0 ho hc hm F hr bb .nil pass0 ht) fun σ H Q ⟨m, sl, q⟩ => ⟨m, sl, fun v H1 e1 a1 => ?_⟩
  obtain ⟨a, dx, fs, ev, h1, h2, h3⟩ := hA H1 v (M.mono e1 m) a1
  refine ⟨a, dx, fs, ev, h1, h2, ⟨i, hi, ?_, fun u H' e3 r => q u H' (e1.trans e3) (hb H H1 H' u e1 r)⟩⟩
  rw [hp]
  exact .cons h3 .nil
/-- o.f, a property -/
theorem ar_prop {C : Addr} (ho : AE X M ρ o A) (hA : ∀ H v, M.P H → A.P H v → ∃ a dx fs, v = .ref a ∧ H a = some (.ins C dx fs) ∧ B.P H v) (G : GPr X.prog X.w X.K X.mg X.base k C f (spG pc pre res)) (hr : Room (k + 1) X.A) (i : ι) (hi : pc i) (hp : pre i = [B]) (hb : ∀ H H1 H' v, Ex H H1 → res i H1 H' v → R H H' v)
    (hab : attributeBase o f X.env (eval o X.env) = eval o X.env := by rfl) : AR X M ρ (.Attribute o f pos) R := by
  obtain ⟨pa, g, fd, ps, F, hc, hm, bb⟩ := G
  refine weakE (pe_prop ho hc hm F hr bb .nil pass0 hab) fun σ H Q ⟨m, sl, q⟩ => ⟨m, sl, fun v H1 e1 a1 => ?_⟩
  obtain ⟨a, dx, fs, ev, h1, h3⟩ := hA H1 v (M.mono e1 m) a1
  refine ⟨a, dx, fs, ev, h1, i, hi, ?_, fun u H' e3 r => q u H' (e1.trans e3) (hb H H1 H' u e1 r)⟩
  rw [hp, ← ev]
  exact .cons h3 .nil
/-- o.f, a field -/
def FldAt (K : PySem.W.Frag) (M : Mb) (A : Ab) (f : Str) (B : Ab) : Prop := ∀ H v, M.P H → A.P H v → ∃ a C dx fs y, v = .ref a ∧ H a = some (.ins C dx fs) ∧ Cls K C ∧ NoAttr K C f ∧ fs.lookup f = some y ∧ B.P H y
theorem ae_fld (ho : AE X M ρ o A) (h : FldAt X.K M A f B) (hab : attributeBase o f X.env (eval o X.env) = eval o X.env := by rfl) : AE X M ρ (.Attribute o f pos) B :=
  weakE (pe_fld ho hab) fun σ H Q ⟨m, sl, q⟩ => ⟨m, sl, fun v H1 e1 a1 => by
    obtain ⟨a, C, dx, fs, y, h1, h2, h3, h4, h5, h6⟩ := h H1 v (M.mono e1 m) a1
    exact ⟨a, C, dx, fs, y, h1, h2, h3, h4, h5, q y H1 e1 h6⟩⟩
/-- o.NAME, a constant of the class -/
theorem ae_con (ho : AE X M ρ o A) (h : ∀ H v, M.P H → A.P H v → ∃ a C dx fs y u, v = .ref a ∧ H a = some (.ins C dx fs) ∧ Cls X.K C ∧ Con X.K C f y u ∧ fs.lookup f = none ∧ B.P H y) (hab : attributeBase o f X.env (eval o X.env) = eval o X.env := by rfl) : AE X M ρ (.Attribute o f pos) B :=
  weakE (pe_con ho hab) fun σ H Q ⟨m, sl, q⟩ => ⟨m, sl, fun v H1 e1 a1 => by
    obtain ⟨a, C, dx, fs, y, u, h1, h2, h3, h4, h5, h6⟩ := h H1 v (M.mono e1 m) a1
    exact ⟨a, C, dx, fs, y, u, h1, h2, h3, h4, h5, q y H1 e1 h6⟩⟩
/-- d[k] of a dict that is tracked -/
def DKv (A : Ab) (M : Mb) (kvs : List (Key × V)) : Prop := ∀ H v, M.P H → A.P H v → ∃ p, v = .ref p ∧ H p = some (.dK kvs)
theorem ae_dget {kvs : List (Key × V)} {z : Str} {y : V} (hu : X.A.units + 1 < cLine) (ha : AE X M ρ a A) (hA : DKv A M kvs) (hb : AE X M ρ b (aS X.K z)) (hv : valV kvs (Sum.inr z) = some y) (hB : ∀ H, B.P H y) (hs : NoSl b := by exact fun _ _ => rfl) : AE X M ρ (.Subscript a b pos) B :=
  weakE (pe_dget hu ha hb hs) fun σ H Q ⟨m, sl, q⟩ => ⟨m, sl, fun v H1 e1 a1 => ⟨M.mono e1 m, sl.mono e1, fun u H2 e2 a2 => by
    obtain ⟨p, h1, h2⟩ := hA H2 v (M.mono (e1.trans e2) m) (A.mono e2 a1)
    cases a2
    exact ⟨p, y, h1, hv ▸ DGet.k (k := Sum.inr z) h2, q y H2 (e1.trans e2) (hB H2)⟩⟩⟩

/-! ### tests -/
variable {b1 b2 : Bool}
theorem at_val (h : AE X M ρ e (aB X.K b1)) (he : ∀ whole, isTrue e X.env whole = (do let v ← whole; standAt e.pos; holding [v] (truthy v)) := by intro _; rfl) : AT X M ρ e b1 :=
  weakT (pt_val h he) fun σ H Q ⟨m, sl, q⟩ => ⟨m, sl, fun v H1 e1 a1 => by cases a1; exact ⟨b1, rfl, q H1 e1⟩⟩
theorem at_cmpR {op : CmpOp} (h : ∃ r, OpR X (compareOp op) r ∧ RA r M A B (aB X.K b1)) (ha : AE X M ρ a A) (hb : AE X M ρ b B) (hm : behindInMarks op b = false := by first | exact nobehind _ (by decide) (by decide) | rfl) : AT X M ρ (.Compare a [op] [b] pos) b1 := by
  obtain ⟨r, ho, hr⟩ := h
  exact weakT (pt_cmpR ho ha hb hm) fun σ H Q ⟨m, sl, q⟩ => ae_opT (C := aB X.K b1) hr σ H _ ⟨m, sl, fun v H1 e1 a1 => by cases a1; exact ⟨b1, rfl, q H1 e1⟩⟩
theorem at_not (h : AT X M ρ e b1) : AT X M ρ (.UnaryOp .Not e pos) (!b1) := weakT (pt_not h) fun σ H Q ⟨m, sl, q⟩ => ⟨m, sl, fun H1 e1 => q H1 e1⟩
/-- and, or -/
abbrev AW (X : Cx) (M : Mb) (ρ : List Sl) (e : Expr) (b : Bool) : Prop := PW X e (tAT M ρ b)
theorem weakW {t t' : TT} (h : PW X e t) (w : ∀ σ H Q, t' σ H Q → t σ H Q) : PW X e t' := ⟨fun wh pins s σ H Q I h' => h.run wh pins s σ H Q I (w _ _ _ h')⟩
def tNo : TT := fun _ _ _ => False
theorem pw_no : PW X e tNo := ⟨fun _ _ _ _ _ _ _ h => h.elim⟩
theorem aw_and1 (h : AT X M ρ a b1) : AW X M ρ (.BoolOp .And [a] pos) b1 := pw_and1 h
theorem aw_or1 (h : AT X M ρ a b1) : AW X M ρ (.BoolOp .Or [a] pos) b1 := pw_or1 h
theorem aw_and {rest : List Expr} (h1 : AT X M ρ a b1) (h2 : b1 = true → AW X M ρ (.BoolOp .And (b :: rest) pos) b2) : AW X M ρ (.BoolOp .And (a :: b :: rest) pos) (b1 && b2) := by
  cases b1 with
  | true => exact weakW (pw_and h1 (h2 rfl)) fun σ H Q ⟨m, sl, q⟩ => ⟨m, sl, fun H1 e1 => ⟨M.mono e1 m, sl.mono e1, fun H2 e2 => q H2 (e1.trans e2)⟩⟩
  | false => exact weakW (pw_and h1 pw_no) fun σ H Q ⟨m, sl, q⟩ => ⟨m, sl, fun H1 e1 => q H1 e1⟩
theorem aw_or {rest : List Expr} (h1 : AT X M ρ a b1) (h2 : b1 = false → AW X M ρ (.BoolOp .Or (b :: rest) pos) b2) : AW X M ρ (.BoolOp .Or (a :: b :: rest) pos) (b1 || b2) := by
  cases b1 with
  | false => exact weakW (pw_or h1 (h2 rfl)) fun σ H Q ⟨m, sl, q⟩ => ⟨m, sl, fun H1 e1 => ⟨M.mono e1 m, sl.mono e1, fun H2 e2 => q H2 (e1.trans e2)⟩⟩
  | true => exact weakW (pw_or h1 pw_no) fun σ H Q ⟨m, sl, q⟩ => ⟨m, sl, fun H1 e1 => q H1 e1⟩
/-- as values -/
def tNoE : TE := fun _ _ _ => False
theorem pe_no : PE X e tNoE := ⟨fun _ _ _ _ _ _ h => h.elim⟩
theorem ae_one {op} (h : AE X M ρ a A) : AE X M ρ (.BoolOp op [a] pos) A := pe_one h
theorem ae_and {rest : List Expr} (h1 : AE X M ρ a (aB X.K b1)) (h2 : b1 = true → AE X M ρ (.BoolOp .And (b :: rest) pos) (aB X.K b2)) : AE X M ρ (.BoolOp .And (a :: b :: rest) pos) (aB X.K (b1 && b2)) := by
  cases b1 with
  | true => exact weakE (pe_and h1 (h2 rfl)) fun σ H Q ⟨m, sl, q⟩ => ⟨m, sl, fun v H1 e1 a1 => by cases a1; exact ⟨true, rfl, M.mono e1 m, sl.mono e1, fun u H2 e2 a2 => q u H2 (e1.trans e2) a2⟩⟩
  | false => exact weakE (pe_and h1 pe_no) fun σ H Q ⟨m, sl, q⟩ => ⟨m, sl, fun v H1 e1 a1 => by cases a1; exact ⟨false, rfl, q _ H1 e1 (.bl _)⟩⟩
theorem ae_or {rest : List Expr} (h1 : AE X M ρ a (aB X.K b1)) (h2 : b1 = false → AE X M ρ (.BoolOp .Or (b :: rest) pos) (aB X.K b2)) : AE X M ρ (.BoolOp .Or (a :: b :: rest) pos) (aB X.K (b1 || b2)) := by
  cases b1 with
  | false => exact weakE (pe_or h1 (h2 rfl)) fun σ H Q ⟨m, sl, q⟩ => ⟨m, sl, fun v H1 e1 a1 => by cases a1; exact ⟨false, rfl, M.mono e1 m, sl.mono e1, fun u H2 e2 a2 => q u H2 (e1.trans e2) a2⟩⟩
  | true => exact weakE (pe_or h1 pe_no) fun σ H Q ⟨m, sl, q⟩ => ⟨m, sl, fun v H1 e1 a1 => by cases a1; exact ⟨true, rfl, q _ H1 e1 (.bl _)⟩⟩
theorem ae_not (h1 : AE X M ρ a (aB X.K b1)) : AE X M ρ (.UnaryOp .Not a pos) (aB X.K (!b1)) := weakE (pe_not h1) fun σ H Q ⟨m, sl, q⟩ => ⟨m, sl, fun v H1 e1 a1 => by cases a1; exact ⟨b1, rfl, q _ H1 e1 (.bl _)⟩⟩
/-- a if t else b -/
theorem ae_if (hc : AT X M ρ c b1) (h1 : b1 = true → AE X M ρ a A) (h2 : b1 = false → AE X M ρ b A) : AE X M ρ (.IfExp c a b pos) A := by
  cases b1 with
  | true => exact weakE (pe_ifExp hc (h1 rfl) pe_no) fun σ H Q ⟨m, sl, q⟩ => ⟨m, sl, fun H1 e1 => ⟨M.mono e1 m, sl.mono e1, fun v H2 e2 a2 => q v H2 (e1.trans e2) a2⟩⟩
  | false => exact weakE (pe_ifExp hc pe_no (h2 rfl)) fun σ H Q ⟨m, sl, q⟩ => ⟨m, sl, fun H1 e1 => ⟨M.mono e1 m, sl.mono e1, fun v H2 e2 a2 => q v H2 (e1.trans e2) a2⟩⟩
theorem ae_ifD (hc : AT X M ρ c b1) (h1 : b1 = true → AE X M ρ a (D X.K d1)) (h2 : b1 = false → AE X M ρ b (D X.K d2)) : AE X M ρ (.IfExp c a b pos) (D X.K (if b1 = true then d1 else d2)) :=
  ae_if hc (fun h => by rw [if_pos h]; exact h1 h) (fun h => by rw [if_neg (by rw [h]; decide)]; exact h2 h)
theorem ar_if (hc : AT X M ρ c b1) (h1 : b1 = true → AR X M ρ a R) (h2 : b1 = false → AR X M ρ b R) (hb : ∀ H H1 H' v, Ex H H1 → R H1 H' v → R H H' v) : AR X M ρ (.IfExp c a b pos) R := by
  cases b1 with
  | true => exact weakE (pe_ifExp hc (h1 rfl) pe_no) fun σ H Q ⟨m, sl, q⟩ => ⟨m, sl, fun H1 e1 => ⟨M.mono e1 m, sl.mono e1, fun v H2 e2 a2 => q v H2 (e1.trans e2) (hb H H1 H2 v e1 a2)⟩⟩
  | false => exact weakE (pe_ifExp hc pe_no (h2 rfl)) fun σ H Q ⟨m, sl, q⟩ => ⟨m, sl, fun H1 e1 => ⟨M.mono e1 m, sl.mono e1, fun v H2 e2 a2 => q v H2 (e1.trans e2) (hb H H1 H2 v e1 a2)⟩⟩
end
end Ep
set_option maxHeartbeats 4000000
/-! blocks, targets, loops over abstract values -/
namespace Ep
open PySem PySem.Spec PyProof.Rows L2 Evl

def tS (M : Mb) (ρ : List Sl) (D : Ends) : TS := fun D' σ H => D' = D ∧ M.P H ∧ Slots ρ H σ
abbrev AS (X : Cx) (M : Mb) (ρ : List Sl) (sts : List Stmt) (D : Ends) : Prop := PSs X sts (tS M ρ D)
def tG (M : Mb) (ρ : List Sl) (A : Ab) (M' : Mb) (ρ' : List Sl) : TG := fun v σ H Q => M.P H ∧ Slots ρ H σ ∧ A.P H v ∧ ∀ σ' H', Tk H H' → M'.P H' → Slots ρ' H' σ' → Q σ' H'
abbrev AG (X : Cx) (M : Mb) (ρ : List Sl) (tg : Expr) (A : Ab) (M' : Mb) (ρ' : List Sl) : Prop := PG X tg (tG M ρ A M' ρ')
def tGs (M : Mb) (ρ : List Sl) (As : List Ab) (M' : Mb) (ρ' : List Sl) : TGs := fun vs σ H Q => M.P H ∧ Slots ρ H σ ∧ AbL As H vs ∧ ∀ σ' H', Tk H H' → M'.P H' → Slots ρ' H' σ' → Q σ' H'
abbrev AGs (X : Cx) (M : Mb) (ρ : List Sl) (tgs : List Expr) (As : List Ab) (M' : Mb) (ρ' : List Sl) : Prop := PGs X tgs (tGs M ρ As M' ρ')
/-- an expression that changes what is tracked -/
def tM (M : Mb) (ρ : List Sl) (M' : Mb) (ρ' : List Sl) (A : Ab) : TE := fun σ H Q => M.P H ∧ Slots ρ H σ ∧ ∀ v H', M'.P H' → Slots ρ' H' σ → A.P H' v → Q v H'
abbrev AM (X : Cx) (M : Mb) (ρ : List Sl) (e : Expr) (M' : Mb) (ρ' : List Sl) (A : Ab) : Prop := PE X e (tM M ρ M' ρ' A)
inductive SlW : List Sl → List Sl → Prop
  | nil : SlW [] []
  | any {s : Sl} {r r0 : List Sl} : SlW r r0 → SlW (s :: r) (.any :: r0)
  | same {s : Sl} {r r0 : List Sl} : SlW r r0 → SlW (s :: r) (s :: r0)
theorem SlW.refl : ∀ r : List Sl, SlW r r
  | [] => .nil
  | _ :: r => .same (SlW.refl r)
theorem SlW.length : ∀ {r r0 : List Sl}, SlW r r0 → r.length = r0.length
  | _, _, .nil => rfl
  | _, _, .any h => congrArg Nat.succ h.length
  | _, _, .same h => congrArg Nat.succ h.length
theorem SlW.at {a : Ab} : ∀ {r r0 : List Sl} {i : Nat}, SlW r r0 → r0[i]? = some (.val a) → r[i]? = some (.val a)
  | _, _, _, .nil, e => e
  | _, _, 0, .any _, e => by simp at e
  | _, _, 0, .same _, e => by simpa using e
  | _, _, i + 1, .any h, e => by
    have := SlW.at (i := i) h (by simpa using e)
    simpa using this
  | _, _, i + 1, .same h, e => by
    have := SlW.at (i := i) h (by simpa using e)
    simpa using this
theorem SlW.go {r r0 : List Sl} {H : Hp} {σ : L2.St} (w : SlW r r0) (h : Slots r H σ) : Slots r0 H σ := ⟨w.length ▸ h.1, fun i a e => h.2 i a (w.at e)⟩

/-- what stands where a new list has been made -/
def mN (K : PySem.W.Frag) (H0 : Hp) (p : Addr) (vs : List V) (ds : List PyData) : Mb := ⟨fun H => Ex H0 H ∧ H p = some (.lst vs) ∧ DtL K H vs ds, fun e ⟨h1, h2, h3⟩ => ⟨h1.trans e, e _ _ h2, h3.mono (.of e)⟩⟩
def mR (H0 : Hp) (R : RR) (v : V) : Mb := ⟨fun H => ∃ H1, Ex H0 H1 ∧ R H0 H1 v ∧ Ex H1 H, fun e ⟨H1, h1, h2, h3⟩ => ⟨H1, h1, h2, h3.trans e⟩⟩
section
variable {X : Cx} {M M' M1 M2 : Mb} {ρ ρ' ρ1 ρ2 : List Sl} {e a b c o : Expr} {es : List Expr} {A B C : Ab} {As : List Ab} {R R' : RR} {pos apos pos' : Pos} {d d1 d2 : PyData} {x m f : Str} {p : Pos} {k : Nat} {st : Stmt} {sts rest : List Stmt} {D : Ends} {tg : Expr} {tgs : List Expr} {b1 : Bool}
theorem weakS {t t' : TS} (h : PSs X sts t) (w : ∀ D σ H, t' D σ H → t D σ H) : PSs X sts t' := ⟨fun pins s σ H D I h' => h.run pins s σ H D I (w _ _ _ h')⟩
theorem weakG {t t' : TG} (h : PG X tg t) (w : ∀ v σ H Q, t' v σ H Q → t v σ H Q) : PG X tg t' := ⟨fun pins s σ H v u Q I r h' => h.run pins s σ H v u Q I r (w _ _ _ _ h')⟩
theorem weakGs {t t' : TGs} (h : PGs X tgs t) (w : ∀ v σ H Q, t' v σ H Q → t v σ H Q) : PGs X tgs t' := ⟨fun pins s σ H v u Q I r h' => h.run pins s σ H v u Q I r (w _ _ _ _ h')⟩
theorem as_pre (h : AS X M' ρ' sts D) (w : ∀ H σ, M.P H → Slots ρ H σ → M'.P H ∧ Slots ρ' H σ) : AS X M ρ sts D := weakS h fun D' σ H ⟨e, m, sl⟩ => ⟨e, w H σ m sl⟩
theorem as_preM (h : AS X M' ρ sts D) (w : ∀ H, M.P H → M'.P H) : AS X M ρ sts D := as_pre h fun H σ m sl => ⟨w H m, sl⟩
/-- from one heap on -/
theorem as_fix (h : ∀ H0 σ0, M.P H0 → Slots ρ H0 σ0 → AS X (mE H0) ρ sts D) : AS X M ρ sts D := ⟨fun pins s σ H D' I ⟨e, m, sl⟩ => (h H σ m sl).run pins s σ H D' I ⟨e, Ex.refl H, sl⟩⟩
theorem as_never (h : ∀ H σ, M.P H → Slots ρ H σ → False) : AS X M ρ sts D := ⟨fun pins s σ H D' I ⟨_, m, sl⟩ => (h H σ m sl).elim⟩
theorem as_nil (h : ∀ σ H, M.P H → Slots ρ H σ → D.nx σ H) : AS X M ρ [] D := weakS pss_nil fun D' σ H ⟨e, m, sl⟩ => by subst e; exact h σ H m sl
theorem as_ret (ha : AE X M ρ e A) (h : ∀ v H, M.P H → A.P H v → D.rt v H) : AS X M ρ (.Return (some e) pos :: rest) D :=
  weakS (pss_cons (ps_ret ha) pss_never) fun D' σ H ⟨q, m, sl⟩ => by subst q; exact ⟨m, sl, fun v H' ex av => h v H' (M.mono ex m) av⟩
theorem as_retR (ha : AR X M ρ e R) (h : ∀ H0 v H, M.P H0 → Ex H0 H → R H0 H v → D.rt v H) : AS X M ρ (.Return (some e) pos :: rest) D :=
  weakS (pss_cons (ps_ret ha) pss_never) fun D' σ H ⟨q, m, sl⟩ => by subst q; exact ⟨m, sl, fun v H' ex av => h H v H' m ex av⟩
theorem as_retM (ha : AM X M ρ e M' ρ' A) (h : ∀ v H, M'.P H → A.P H v → D.rt v H) : AS X M ρ (.Return (some e) pos :: rest) D :=
  weakS (pss_cons (ps_ret ha) pss_never) fun D' σ H ⟨q, m, sl⟩ => by subst q; exact ⟨m, sl, fun v H' m' _ av => h v H' m' av⟩
theorem as_retN (h : ∀ H, M.P H → D.rt .non H) : AS X M ρ (.Return none pos :: rest) D :=
  weakS (pss_cons ps_retN pss_never) fun D' σ H ⟨q, m, sl⟩ => by subst q; exact h H m
theorem pss_then {t u : TS} (h1 : PS X st t) (h2 : PSs X rest u) (w : ∀ σ H, M.P H → Slots ρ H σ → t { D with nx := u D } σ H) : AS X M ρ (st :: rest) D :=
  weakS (pss_cons h1 h2) fun D' σ H ⟨q, m, sl⟩ => by subst q; exact w σ H m sl
/-- the rest from where an expression's result stands -/
def tE1 (X : Cx) (rest : List Stmt) (D : Ends) : TS := fun D' σ H => D' = D ∧ ∃ M ρ, AS X M ρ rest D ∧ M.P H ∧ Slots ρ H σ
theorem pss_e1 : PSs X rest (tE1 X rest D) := ⟨fun pins s σ H D' I ⟨e, M, ρ, h, m, sl⟩ => h.run pins s σ H D' I ⟨e, m, sl⟩⟩
def nxt (X : Cx) (rest : List Stmt) (D : Ends) : Ends := { D with nx := fun σ H => tE1 X rest D D σ H }
theorem as_end (h : AS X M ρ rest D) : AS X M ρ [] (nxt X rest D) := as_nil fun σ H m sl => ⟨rfl, M, ρ, h, m, sl⟩
theorem as_if (hc : AT X M ρ c b1) {orelse : List Stmt} (h1 : b1 = true → AS X M ρ sts (nxt X rest D)) (h2 : b1 = false → AS X M ρ orelse (nxt X rest D)) : AS X M ρ (.If c sts orelse pos :: rest) D := by
  cases b1 with
  | true => exact pss_then (ps_if hc (h1 rfl) pss_never) (pss_e1 (D := D)) fun σ H m sl => ⟨m, sl, fun H1 e1 => ⟨rfl, M.mono e1 m, sl.mono e1⟩⟩
  | false => exact pss_then (ps_if hc pss_never (h2 rfl)) (pss_e1 (D := D)) fun σ H m sl => ⟨m, sl, fun H1 e1 => ⟨rfl, M.mono e1 m, sl.mono e1⟩⟩
theorem as_expr (ha : AE X M ρ e A) (h : AS X M ρ rest D) (hs : swapsWith e none pos.line X.env = pure false := by rfl) : AS X M ρ (.Expr e pos :: rest) D :=
  pss_then (ps_expr ha hs) h fun σ H m sl => ⟨m, sl, fun v H' ex _ => ⟨rfl, M.mono ex m, sl.mono ex⟩⟩
theorem as_exprM (ha : AM X M ρ e M' ρ' A) (h : AS X M' ρ' rest D) (hs : swapsWith e none pos.line X.env = pure false := by rfl) : AS X M ρ (.Expr e pos :: rest) D :=
  pss_then (ps_expr ha hs) h fun σ H m sl => ⟨m, sl, fun v H' m' sl' _ => ⟨rfl, m', sl'⟩⟩
theorem as_doc {y j} (h : AS X M ρ rest D) : AS X M ρ (.Expr (.Constant (.str y) j pos) pos' :: rest) D := pss_then ps_doc h fun σ H m sl => ⟨rfl, m, sl⟩
theorem as_pass (h : AS X M ρ rest D) : AS X M ρ (.Pass pos :: rest) D := pss_then ps_pass h fun σ H m sl => ⟨rfl, m, sl⟩
/-! ### name = e -/
theorem as_asg {i : Nat} {pn : Pos} (ha : AE X M ρ e A) (h : AS X M (ρ.set i (.val A)) rest D) (hN : X.N.Nodup) (hi : X.N[i]? = some x := by rfl) (hx : Loc X.env.scope x := by first | exact Or.inl rfl | exact Or.inr rfl) (hs : swapsWith e (some (.Name x pn)) pos.line X.env = pure false := by rfl) (hf : X.fn x = true ∨ X.env.scope.names.lookup x = some .local := by first | exact .inl rfl | exact .inr rfl) :
    AS X M ρ (.Assign [.Name x pn] e pos :: rest) D :=
  pss_then (ps_set hN hi hx ha hs hf) h fun σ H m sl => ⟨m, sl, fun v H' ex av => ⟨rfl, M.mono ex m, (sl.mono ex).set i av⟩⟩
theorem as_asgM {i : Nat} {pn : Pos} (ha : AM X M ρ e M' ρ' A) (h : AS X M' (ρ'.set i (.val A)) rest D) (hN : X.N.Nodup) (hi : X.N[i]? = some x := by rfl) (hx : Loc X.env.scope x := by first | exact Or.inl rfl | exact Or.inr rfl) (hs : swapsWith e (some (.Name x pn)) pos.line X.env = pure false := by rfl) (hf : X.fn x = true ∨ X.env.scope.names.lookup x = some .local := by first | exact .inl rfl | exact .inr rfl) :
    AS X M ρ (.Assign [.Name x pn] e pos :: rest) D :=
  pss_then (ps_set hN hi hx ha hs hf) h fun σ H m sl => ⟨m, sl, fun v H' m' sl' av => ⟨rfl, m', sl'.set i av⟩⟩
theorem as_asgR {i : Nat} {pn : Pos} (ha : AR X M ρ e R) (h : ∀ H0 H1 v, M.P H0 → Ex H0 H1 → R H0 H1 v → AS X (mE H1) (ρ.set i (.val (Vl v))) rest D) (hN : X.N.Nodup) (hi : X.N[i]? = some x := by rfl) (hx : Loc X.env.scope x := by first | exact Or.inl rfl | exact Or.inr rfl) (hs : swapsWith e (some (.Name x pn)) pos.line X.env = pure false := by rfl) (hf : X.fn x = true ∨ X.env.scope.names.lookup x = some .local := by first | exact .inl rfl | exact .inr rfl) :
    AS X M ρ (.Assign [.Name x pn] e pos :: rest) D :=
  pss_then (ps_set hN hi hx ha hs hf) (pss_e1 (D := D)) fun σ H m sl => ⟨m, sl, fun v H' ex r => ⟨rfl, _, _, h H H' v m ex r, Ex.refl H', (sl.mono ex).set (a := Vl v) i rfl⟩⟩
theorem as_asgN {i : Nat} {pn : Pos} {ds : List PyData} (ha : AN X M ρ e ds) (h : ∀ H0 p vs, M.P H0 → H0 p = none → AS X (mN X.K H0 p vs ds) (ρ.set i (.val (Rf p))) rest D) (hN : X.N.Nodup) (hi : X.N[i]? = some x := by rfl) (hx : Loc X.env.scope x := by first | exact Or.inl rfl | exact Or.inr rfl) (hs : swapsWith e (some (.Name x pn)) pos.line X.env = pure false := by rfl) (hf : X.fn x = true ∨ X.env.scope.names.lookup x = some .local := by first | exact .inl rfl | exact .inr rfl) :
    AS X M ρ (.Assign [.Name x pn] e pos :: rest) D :=
  pss_then (ps_set hN hi hx ha hs hf) (pss_e1 (D := D)) fun σ H m sl => ⟨m, sl, fun v H' ex r => by
    obtain ⟨p, vs, h1, h2, h3, h4⟩ := r
    exact ⟨rfl, _, _, h H p vs m h2, ⟨ex, h3, h4⟩, (sl.mono ex).set (a := Rf p) i h1⟩⟩
/-- two names at once -/
theorem as_par {i j : Nat} {y : Str} {px py pt : Pos} {kt k2 pt2} (ha : AA X M ρ [a, b] [A, B]) (h : AS X M ((ρ.set i (.val A)).set j (.val B)) rest D) (hN : X.N.Nodup) (hi : X.N[i]? = some x := by rfl) (hj : X.N[j]? = some y := by rfl) (hij : i ≠ j := by decide)
    (hx : X.env.scope.names.lookup x = some .local := by rfl) (hy : X.env.scope.names.lookup y = some .local := by rfl) (hc : X.calm = true := by rfl)
    (hw : swappedStores [.Tuple [.Name x px, .Name y py] kt pt] (.Tuple [a, b] k2 pt2) X.env = pure (some [x, y]) := by rfl)
    (hs : swapsWithSole [.Tuple [.Name x px, .Name y py] kt pt] (.Tuple [a, b] k2 pt2) pos.line X.env = pure false := by rfl) :
    AS X M ρ (.Assign [.Tuple [.Name x px, .Name y py] kt pt] (.Tuple [a, b] k2 pt2) pos :: rest) D :=
  pss_then (ps_par hc hN hi hj hij hx hy ha hw hs) h fun σ H m sl => ⟨m, sl, fun vs H' ex av => by
    cases av with
    | cons h1 r =>
      cases r with
      | cons h2 r =>
        cases r
        exact ⟨_, _, rfl, rfl, M.mono ex m, ((sl.mono ex).set i h1).set j h2⟩⟩
theorem as_par3 {i j l : Nat} {y z : Str} {px py pz pt : Pos} {kt k2 pt2} (ha : AA X M ρ [a, b, c] [A, B, C]) (h : AS X M (((ρ.set i (.val A)).set j (.val B)).set l (.val C)) rest D) (hN : X.N.Nodup) (hi : X.N[i]? = some x := by rfl) (hj : X.N[j]? = some y := by rfl) (hl : X.N[l]? = some z := by rfl)
    (hij : i ≠ j := by decide) (hil : i ≠ l := by decide) (hjl : j ≠ l := by decide)
    (hx : X.env.scope.names.lookup x = some .local := by rfl) (hy : X.env.scope.names.lookup y = some .local := by rfl) (hz : X.env.scope.names.lookup z = some .local := by rfl) (hc : X.calm = true := by rfl)
    (hw : swappedStores [.Tuple [.Name x px, .Name y py, .Name z pz] kt pt] (.Tuple [a, b, c] k2 pt2) X.env = pure (some [x, y, z]) := by rfl)
    (hs : swapsWithSole [.Tuple [.Name x px, .Name y py, .Name z pz] kt pt] (.Tuple [a, b, c] k2 pt2) pos.line X.env = pure false := by rfl) :
    AS X M ρ (.Assign [.Tuple [.Name x px, .Name y py, .Name z pz] kt pt] (.Tuple [a, b, c] k2 pt2) pos :: rest) D :=
  pss_then (ps_par3 hc hN hi hj hl hij hil hjl hx hy hz ha hw hs) h fun σ H m sl => ⟨m, sl, fun vs H' ex av => by
    cases av with
    | cons h1 r =>
      cases r with
      | cons h2 r =>
        cases r with
        | cons h3 r =>
          cases r
          exact ⟨_, _, _, rfl, rfl, M.mono ex m, (((sl.mono ex).set i h1).set j h2).set l h3⟩⟩
/-! ### targets -/
theorem am_of (ha : AE X M ρ e A) : AM X M ρ e M ρ A := weakE ha fun σ H Q ⟨m, sl, q⟩ => ⟨m, sl, fun v H' ex av => q v H' (M.mono ex m) (sl.mono ex) av⟩
theorem am_imp (ha : AM X M ρ e M1 ρ1 A) (h : ∀ H v, M1.P H → A.P H v → M2.P H ∧ B.P H v) : AM X M ρ e M2 ρ1 B := weakE ha fun σ H Q ⟨m, sl, q⟩ => ⟨m, sl, fun v H' m' sl' av => q v H' (h H' v m' av).1 sl' (h H' v m' av).2⟩
theorem as_tgt (ha : AM X M ρ e M1 ρ1 A) (hg : AG X M1 ρ1 tg A M2 ρ2) (h : AS X M2 ρ2 rest D) (hs : swapsWithSole [tg] e pos.line X.env = pure false := by rfl) (hw : swappedStores [tg] e X.env = pure none := by rfl)
    (h1 : (assignEach [tg] X.env).map (·.2) = [assign tg X.env] := by rfl) : AS X M ρ (.Assign [tg] e pos :: rest) D :=
  pss_then (ps_asg ha hg hs hw h1) h fun σ H m sl => ⟨m, sl, fun v H' m' sl' av => ⟨m', sl', av, fun σ2 H2 _ m2 sl2 => ⟨rfl, m2, sl2⟩⟩⟩
theorem ag_name {i : Nat} (hN : X.N.Nodup) (hi : X.N[i]? = some x := by rfl) (hx : Loc X.env.scope x := by first | exact Or.inl rfl | exact Or.inr rfl) (hf : X.fn x = true ∨ X.env.scope.names.lookup x = some .local := by first | exact .inl rfl | exact .inr rfl) : AG X M ρ (.Name x pos) A M (ρ.set i (.val A)) :=
  weakG (pg_name hN hi hx hf) fun v σ H Q ⟨m, sl, av, q⟩ => q _ H (Tk.refl H) m (sl.set i av)
theorem ags_nil : AGs X M ρ [] [] M ρ := weakGs pgs_nil fun v σ H Q ⟨m, sl, av, q⟩ => by cases av; exact ⟨rfl, q σ H (Tk.refl H) m sl⟩
/-- the values still to be stored are data -/
theorem AbL.tk : ∀ {ds : List PyData} {K : PySem.W.Frag} {H H' : Hp} {vs : List V}, Tk H H' → AbL (ds.map (Ep.D K)) H vs → AbL (ds.map (Ep.D K)) H' vs
  | [], _, _, _, _, _, .nil => .nil
  | _ :: _, _, _, _, _, t, .cons h r => .cons (h.mono t.tex) (AbL.tk t r)
theorem ags_cons {ds : List PyData} (h1 : AG X M ρ tg (Ep.D X.K d) M1 ρ1) (h2 : AGs X M1 ρ1 tgs (ds.map (Ep.D X.K)) M2 ρ2)
    (hs : (assignEach (tg :: tgs) X.env).map (·.2) = assign tg X.env :: (assignEach tgs X.env).map (·.2) := by rfl) : AGs X M ρ (tg :: tgs) ((d :: ds).map (Ep.D X.K)) M2 ρ2 :=
  weakGs (pgs_cons h1 h2 hs) fun vs σ H Q ⟨m, sl, av, q⟩ => by
    cases av with
    | cons h r => exact ⟨_, _, rfl, m, sl, h, fun σ1 H1 t1 m1 sl1 => ⟨m1, sl1, AbL.tk t1 r, fun σ2 H2 t2 m2 sl2 => q σ2 H2 (t1.trans t2) m2 sl2⟩⟩
theorem DtL.abl {K : PySem.W.Frag} {H : Hp} : ∀ {vs : List V} {ds : List PyData}, DtL K H vs ds → AbL (ds.map (Ep.D K)) H vs
  | _, _, .nil => .nil
  | _, _, .cons h r => .cons h (DtL.abl r)
theorem ag_tup {ds : List PyData} {kk : Nat} (h : AGs X M ρ tgs (ds.map (Ep.D X.K)) M' ρ') (hc : X.calm = true := by rfl) (hn : (assignEach tgs X.env).length = ds.length := by rfl) (hst : (assignEach tgs X.env).findIdx? (·.1) = none := by rfl) : AG X M ρ (.Tuple tgs kk pos) (Ep.D X.K (.tuple ds)) M' ρ' :=
  weakG (pg_tup hc h hn hst) fun v σ H Q ⟨m, sl, av, q⟩ => by
    obtain ⟨p, xs, e, h1, h2⟩ := Dt.tuple_inv av
    exact ⟨p, xs, e, h1, h2.length, m, sl, h2.abl, q⟩
/-- o.f = value -/
theorem ag_fld {po : Addr} (ho : AE X M ρ o (Rf po)) (h : ∀ H v, M.P H → A.P H v → ∃ C dx fs, H po = some (.ins C dx fs) ∧ Cls X.K C ∧ NoAttr X.K C f ∧ fs.length < 1000 ∧ M'.P (upd H po (.ins C dx (putF f v fs))))
    (ha : ∀ v, assign (.Attribute o f pos) X.env v = (do
      let ov ← holding [v] (eval o X.env)
      standAt pos.atName
      holding [v, ov] (setAttr ov f v)
      release [v, ov] []) := by intro _; rfl) : AG X M ρ (.Attribute o f pos) A M' (keepT ρ) :=
  weakG (pg_fld ho ha) fun v σ H Q ⟨m, sl, av, q⟩ => ⟨m, sl, fun x H1 e1 hx => by
    obtain ⟨C, dx, fs, h1, h2, h3, h4, h5⟩ := h H1 v (M.mono e1 m) (A.mono e1 av)
    exact ⟨po, C, dx, fs, hx, h1, h2, h3, h4, q σ _ ((Tk.of e1).trans (Tk.ins h1)) h5 ((sl.mono e1).keep (Tk.ins h1))⟩⟩
/-- l[i] = value, a list at l -/
theorem ag_sub {i : Int} {l : Addr} (ho : AE X M ρ o (Rf l)) (hi : AE X M ρ a (aI X.K i)) (h : ∀ H v, M.P H → A.P H v → ∃ xs j, H l = some (.lst xs) ∧ ixN xs.length i = some j ∧ M'.P (upd H l (.lst (xs.set j v))))
    (ha : ∀ v, assign (.Subscript o a pos) X.env v = (do
      let ov ← holding [v] (eval o X.env)
      let iv ← holding [v, ov] (eval a X.env)
      standAt pos
      holding [v, ov, iv] (setItem ov iv v)
      release [v, ov, iv] []) := by intro _; rfl) : AG X M ρ (.Subscript o a pos) A M' (keepT ρ) :=
  weakG (pg_sub ho hi set_list ha) fun v σ H Q ⟨m, sl, av, q⟩ => ⟨m, sl, fun x H1 e1 hx => ⟨M.mono e1 m, sl.mono e1, fun y H2 e2 hy => by
    obtain ⟨xs, j, h1, h2, h3⟩ := h H2 v (M.mono (e1.trans e2) m) (A.mono (e1.trans e2) av)
    cases hy
    exact ⟨l, xs, i, j, hx, rfl, h1, h2, q σ _ ((Tk.of (e1.trans e2)).trans (Tk.lst h1)) h3 ((sl.mono (e1.trans e2)).keep (Tk.lst h1))⟩⟩⟩
/-- o.f += e -/
theorem as_fldaug {po : Addr} {i j : Int} (ho : AE X M ρ o (Rf po)) (hv : AE X M ρ e (aI X.K j)) (h : ∀ H, M.P H → ∃ C dx fs, H po = some (.ins C dx fs) ∧ Cls X.K C ∧ NoAttr X.K C f ∧ fs.lookup f = some (.int i) ∧ fs.length < 1000 ∧ M'.P (upd H po (.ins C dx (putF f (.int (i + j)) fs))))
    (k : AS X M' (keepT ρ) rest D) {tpos : Pos} : AS X M ρ (.AugAssign (.Attribute o f tpos) .Add e pos :: rest) D :=
  pss_then (ps_fldaug ho hv in_add) k fun σ H m sl => ⟨m, sl, fun v H1 e1 hv => by
    obtain ⟨C, dx, fs, h1, h2, h3, h4, h5, h6⟩ := h H1 (M.mono e1 m)
    refine ⟨po, C, dx, fs, _, hv, h1, h2, h3, h4, M.mono e1 m, sl.mono e1, fun y H2 e2 hy => ?_⟩
    obtain ⟨C', dx', fs', g1, g2, g3, g4, g5, g6⟩ := h H2 (M.mono (e1.trans e2) m)
    cases hy
    have e3 := (e2 _ _ h1).symm.trans g1
    cases e3
    exact ⟨i, j, rfl, rfl, dx, fs, g1, g5, rfl, g6, (sl.mono (e1.trans e2)).keep (Tk.ins g1)⟩⟩
/-- l.append(e), l.extend(new list) -/
theorem am_append {l : Addr} (ho : AE X M ρ o (Rf l)) (ha : AE X M ρ e A) (hL : ∀ H, M.P H → ∃ xs, H l = some (.lst xs)) (h : ∀ H v xs, M.P H → A.P H v → H l = some (.lst xs) → xs.length < 1000 ∧ M'.P (upd H l (.lst (xs ++ [v]))))
    (hbase : attributeBase o "append" X.env (eval o X.env) = eval o X.env := by rfl)
    (hfew : ((backTo pos (starEach [e] X.env)).all (fun x => !x.1) && (backToKw pos (keywordEach [] X.env)).all (fun x => x.1.isSome)
      && decide ([e].length + ([] : List Keyword).length + (if ([] : List Keyword).isEmpty then 0 else 1) < 30)) = true := by rfl)
    (hline : (apos.endLine == pos.line) = true := by rfl) (hs : starEach [e] X.env = (false, eval e X.env) :: starEach [] X.env := by rfl) (hplain : (backTo pos (starEach [] X.env)).any (·.1) = false := by rfl) :
    AM X M ρ (.Call (.Attribute o "append" apos) [e] [] pos) M' (keepT ρ) (aN X.K) :=
  weakE (pe_bm PySem.F.plainAttrs_list PySem.F.slot_list_append PySem.F.type_list_append mt_append ho (aa_cons ha aa_nil hs) hbase hfew hline hs hplain) fun σ H Q ⟨m, sl, q⟩ => ⟨m, sl, fun v H1 e1 hv => by
    cases hv
    obtain ⟨xs, g1⟩ := hL H1 (M.mono e1 m)
    refine ⟨Or.inl ⟨rfl, _, SqL.of g1⟩, M.mono e1 m, sl.mono e1, fun vs H2 e2 av => ?_⟩
    · cases av with
      | cons h1 r =>
        cases r
        have g1 := e2 _ _ g1
        obtain ⟨g2, g3⟩ := h H2 _ xs (M.mono (e1.trans e2) m) h1 g1
        exact ⟨l, xs, _, rfl, rfl, g1, sz_lt (by omega), q _ _ g3 ((sl.mono (e1.trans e2)).keep (Tk.lst g1)) .non⟩⟩
theorem am_extend {l : Addr} {ds : List PyData} (ho : AE X M ρ o (Rf l)) (ha : AE X M ρ e (LD X.K ds)) (hL : ∀ H, M.P H → ∃ xs, H l = some (.lst xs)) (h : ∀ H zs xs, M.P H → DtL X.K H zs ds → H l = some (.lst xs) → xs.length + ds.length ≤ 1000 ∧ M'.P (upd H l (.lst (xs ++ zs))))
    (hbase : attributeBase o "extend" X.env (eval o X.env) = eval o X.env := by rfl)
    (hfew : ((backTo pos (starEach [e] X.env)).all (fun x => !x.1) && (backToKw pos (keywordEach [] X.env)).all (fun x => x.1.isSome)
      && decide ([e].length + ([] : List Keyword).length + (if ([] : List Keyword).isEmpty then 0 else 1) < 30)) = true := by rfl)
    (hline : (apos.endLine == pos.line) = true := by rfl) (hs : starEach [e] X.env = (false, eval e X.env) :: starEach [] X.env := by rfl) (hplain : (backTo pos (starEach [] X.env)).any (·.1) = false := by rfl) :
    AM X M ρ (.Call (.Attribute o "extend" apos) [e] [] pos) M' (keepT ρ) (aN X.K) :=
  weakE (pe_bm PySem.F.plainAttrs_list PySem.F.slot_list_extend PySem.F.type_list_extend mt_extend ho (aa_cons ha aa_nil hs) hbase hfew hline hs hplain) fun σ H Q ⟨m, sl, q⟩ => ⟨m, sl, fun v H1 e1 hv => by
    cases hv
    obtain ⟨xs, g1⟩ := hL H1 (M.mono e1 m)
    refine ⟨Or.inl ⟨rfl, _, SqL.of g1⟩, M.mono e1 m, sl.mono e1, fun vs H2 e2 av => ?_⟩
    · cases av with
      | cons h1 r =>
        cases r
        obtain ⟨b, zs, rfl, h1, h2⟩ := h1
        have g1 := e2 _ _ g1
        obtain ⟨g2, g3⟩ := h H2 zs xs (M.mono (e1.trans e2) m) h2 g1
        exact ⟨l, b, xs, zs, rfl, rfl, g1, h1, by rw [h2.length]; exact sz_of (by omega), q _ _ g3 ((sl.mono (e1.trans e2)).keep (Tk.lst g1)) .non⟩⟩
end
end Ep
set_option maxHeartbeats 4000000
/-! loops, comprehensions, calls that change what is tracked, whole defs -/
namespace Ep
open PySem PySem.Spec PyProof.Rows L2 Evl

def lpE (M : Mb) (ρ : List Sl) (D : Ends) : Ends := ⟨fun σ H => M.P H ∧ Slots ρ H σ, D.rt, D.nx, fun σ H => M.P H ∧ Slots ρ H σ⟩
section
variable {X : Cx} {M M' M1 M2 : Mb} {ρ ρ' ρ0 ρ2 : List Sl} {e a b c o it : Expr} {es : List Expr} {A B C : Ab} {As : List Ab} {R R' : RR} {pos apos pos' : Pos} {d d1 d2 : PyData} {x m f : Str} {p : Pos} {k : Nat} {st : Stmt} {sts rest body : List Stmt} {D : Ends} {tg : Expr} {tgs : List Expr} {b1 : Bool}
theorem as_lp (hM : ∀ H, M.P H → M'.P H) (hw : SlW ρ ρ') : AS X M ρ [] (lpE M' ρ' D) := as_nil fun σ H m sl => ⟨hM H m, hw.go sl⟩
/-- what stands ahead of a loop -/
def LpC (M : Mb) (R : RR) (H0 H1 : Hp) (v : V) : Prop := M.P H0 ∧ Ex H0 H1 ∧ R H0 H1 v
theorem for_gen {wi : TI} {Y : Nat → Hp → V → Hp → Prop} (items : List PyData) (Mi : Hp → Hp → V → Nat → Mb) (ρ1 : Nat → PyData → List Sl) (I : Nat → PyData → PyData)
    (hi : PI X tg it wi) (hwi : ∀ σ H, M.P H → Slots ρ H σ → ∀ Rr : It → Hp → Prop, (∀ H1 v J (G : Hp → Prop), LpC M R H H1 v → Walk J items.length G Y → (∀ i H2, (Mi H H1 v i).P H2 → G H2) → (∀ i x H2 H3, (Mi H H1 v i).P H2 → Y i H2 x H3 → ∃ d, items[i]? = some d ∧ Ex H2 H3 ∧ Dt X.K H3 x (I i d)) → Rr J H1) → wi σ H Rr)
    (h0 : ∀ H0 H1 v, LpC M R H0 H1 v → (Mi H0 H1 v 0).P H1) (hw : SlW ρ ρ0)
    (hg : ∀ M d i, AG X M ρ0 tg (Ep.D X.K (I i d)) M (ρ1 i d))
    (hs : ∀ H0 H1 v, LpC M R H0 H1 v → ∀ i d, items[i]? = some d → AS X (Mi H0 H1 v i) (ρ1 i d) body (lpE (Mi H0 H1 v (i + 1)) ρ0 (nxt X rest D)))
    (hd : ∀ H0 H1 v, LpC M R H0 H1 v → AS X (Mi H0 H1 v items.length) ρ0 rest D)
    (hp : PassesOwn (model X.prog X.w) X.A X.env X.xe := by exact PassesOwn.never) (hc : X.calm = true := by rfl) (hfs : ∀ x, foldedSetIterable it X.env x = pure x := by intro _; rfl) : AS X M ρ (.For tg it body [] pos :: rest) D := by
  have G : PG X tg (fun v σ H Q => ∃ M1 d i, tG M1 ρ0 (Ep.D X.K (I i d)) M1 (ρ1 i d) v σ H Q) := ⟨fun pins s σ H v u Q I0 r ⟨M1, d, i, h⟩ => (hg M1 d i).run pins s σ H v u Q I0 r h⟩
  have B : PSs X body (fun D' σ H => ∃ H0 H1 v i d, LpC M R H0 H1 v ∧ items[i]? = some d ∧ D' = lpE (Mi H0 H1 v (i + 1)) ρ0 (nxt X rest D) ∧ (Mi H0 H1 v i).P H ∧ Slots (ρ1 i d) H σ) :=
    ⟨fun pins s σ H D' I0 ⟨H0, H1, v, i, d, h1, h2, h3, h4, h5⟩ => (hs H0 H1 v h1 i d h2).run pins s σ H D' I0 ⟨h3, h4, h5⟩⟩
  refine pss_then (ps_for hp hc hi G B hfs) (pss_e1 (D := D)) fun σ H m sl => hwi σ H m sl _ fun H1 v J Gd hL W hG hY => ?_
  refine for_it (g := fun v σ H Q => ∃ M1 d i, tG M1 ρ0 (Ep.D X.K (I i d)) M1 (ρ1 i d) v σ H Q) (tb := fun D' σ H => ∃ H0 H1 v i d, LpC M R H0 H1 v ∧ items[i]? = some d ∧ D' = lpE (Mi H0 H1 v (i + 1)) ρ0 (nxt X rest D) ∧ (Mi H0 H1 v i).P H ∧ Slots (ρ1 i d) H σ) (D := { D with nx := tE1 X rest D D }) W (fun i σ' H' => (Mi H H1 v i).P H' ∧ Slots ρ0 H' σ') ⟨h0 H H1 v hL, hw.go (sl.mono hL.2.1)⟩ (fun i σ' H' _ q => hG i H' q.1) ?_ (fun σ' H' q => ⟨rfl, _, _, hd H H1 v hL, q.1, q.2⟩)
  rintro i y σ' H' H2 hi' ⟨q1, q2⟩ hy
  obtain ⟨d, hd', ex, dt⟩ := hY i y H' H2 q1 hy
  exact ⟨Mi H H1 v i, d, i, (Mi H H1 v i).mono ex q1, q2.mono ex, dt, fun σ3 H3 _ m3 sl3 => ⟨H, H1, v, i, d, hL, hd', rfl, m3, sl3⟩⟩
/-- for x in a list -/
theorem as_forL {items : List PyData} (hi : AR X M ρ it R) (Mi : Hp → Hp → V → Nat → Mb) (ρ0 : List Sl) (ρ1 : PyData → List Sl)
    (h0 : ∀ H0 H1 v, LpC M R H0 H1 v → (Mi H0 H1 v 0).P H1) (hl : ∀ H0 H1 v, LpC M R H0 H1 v → ∃ p vs, v = .ref p ∧ vs.length = items.length ∧ ∀ i H, (Mi H0 H1 v i).P H → SqL X.K H p vs ∧ DtL X.K H vs items) (hw : SlW ρ ρ0)
    (hg : ∀ M d, AG X M ρ0 tg (Ep.D X.K d) M (ρ1 d))
    (hs : ∀ H0 H1 v, LpC M R H0 H1 v → ∀ i d, items[i]? = some d → AS X (Mi H0 H1 v i) (ρ1 d) body (lpE (Mi H0 H1 v (i + 1)) ρ0 (nxt X rest D)))
    (hd : ∀ H0 H1 v, LpC M R H0 H1 v → AS X (Mi H0 H1 v items.length) ρ0 rest D)
    (hp : PassesOwn (model X.prog X.w) X.A X.env X.xe := by exact PassesOwn.never) (hc : X.calm = true := by rfl) (hfs : ∀ x, foldedSetIterable it X.env x = pure x := by intro _; rfl) : AS X M ρ (.For tg it body [] pos :: rest) D := by
  refine for_gen (wi := iList X.K (tR M ρ R)) (Y := fun i H x H' => H' = H ∧ ∃ vs : List V, (DtL X.K H vs items) ∧ vs[i]? = some x) (R := R) items Mi (fun _ d => ρ1 d) (fun _ d => d) (pi_list hi) ?_ h0 hw (fun M d _ => hg M d) hs hd hp hc hfs
  intro σ H m sl Rr h
  refine ⟨m, sl, fun v H1 ex r => ?_⟩
  obtain ⟨q, vs, e1, e2, e3⟩ := hl H H1 v ⟨m, ex, r⟩
  refine ⟨q, e1, ⟨vs, (e3 0 H1 (h0 _ _ _ ⟨m, ex, r⟩)).1⟩, h H1 v _ (fun H2 => ∃ i, (Mi H H1 v i).P H2) ⟨m, ex, r⟩ ?_ (fun i H2 q => ⟨i, q⟩) ?_⟩
  · have W := walk_list (K := X.K) (a := q) (xs := vs)
    rw [e2] at W
    refine W.mono (fun H2 ⟨i, q⟩ => (e3 i H2 q).1) fun i H2 y H3 _ hq ⟨h1, h2⟩ => ?_
    obtain ⟨j, q⟩ := hq
    exact ⟨h1, vs, (e3 j H2 q).2, h2⟩
  · rintro i y H2 H3 q ⟨rfl, vs', h1, h2⟩
    obtain ⟨d, g1, g2⟩ := h1.getV h2
    exact ⟨d, g1, Ex.refl _, g2⟩
/-- for x in a tuple -/
theorem as_forT {items : List PyData} (hi : AR X M ρ it R) (Mi : Hp → Hp → V → Nat → Mb) (ρ0 : List Sl) (ρ1 : PyData → List Sl)
    (h0 : ∀ H0 H1 v, LpC M R H0 H1 v → (Mi H0 H1 v 0).P H1) (hl : ∀ H0 H1 v, LpC M R H0 H1 v → ∃ p vs, v = .ref p ∧ vs.length = items.length ∧ ∀ i H, (Mi H0 H1 v i).P H → SqT X.K H p vs ∧ DtL X.K H vs items) (hw : SlW ρ ρ0)
    (hg : ∀ M d, AG X M ρ0 tg (Ep.D X.K d) M (ρ1 d))
    (hs : ∀ H0 H1 v, LpC M R H0 H1 v → ∀ i d, items[i]? = some d → AS X (Mi H0 H1 v i) (ρ1 d) body (lpE (Mi H0 H1 v (i + 1)) ρ0 (nxt X rest D)))
    (hd : ∀ H0 H1 v, LpC M R H0 H1 v → AS X (Mi H0 H1 v items.length) ρ0 rest D)
    (hp : PassesOwn (model X.prog X.w) X.A X.env X.xe := by exact PassesOwn.never) (hc : X.calm = true := by rfl) (hfs : ∀ x, foldedSetIterable it X.env x = pure x := by intro _; rfl) : AS X M ρ (.For tg it body [] pos :: rest) D := by
  refine for_gen (wi := iTup X.K (tR M ρ R)) (Y := fun i H x H' => H' = H ∧ ∃ vs : List V, (DtL X.K H vs items) ∧ vs[i]? = some x) (R := R) items Mi (fun _ d => ρ1 d) (fun _ d => d) (pi_tup hi) ?_ h0 hw (fun M d _ => hg M d) hs hd hp hc hfs
  intro σ H m sl Rr h
  refine ⟨m, sl, fun v H1 ex r => ?_⟩
  obtain ⟨q, vs, e1, e2, e3⟩ := hl H H1 v ⟨m, ex, r⟩
  refine ⟨q, e1, ⟨vs, (e3 0 H1 (h0 _ _ _ ⟨m, ex, r⟩)).1⟩, h H1 v _ (fun H2 => ∃ i, (Mi H H1 v i).P H2) ⟨m, ex, r⟩ ?_ (fun i H2 q => ⟨i, q⟩) ?_⟩
  · have W := walk_tup (K := X.K) (a := q) (xs := vs)
    rw [e2] at W
    refine W.mono (fun H2 ⟨i, q⟩ => (e3 i H2 q).1) fun i H2 y H3 _ hq ⟨h1, h2⟩ => ?_
    obtain ⟨j, q⟩ := hq
    exact ⟨h1, vs, (e3 j H2 q).2, h2⟩
  · rintro i y H2 H3 q ⟨rfl, vs', h1, h2⟩
    obtain ⟨d, g1, g2⟩ := h1.getV h2
    exact ⟨d, g1, Ex.refl _, g2⟩
/-- for (i, x) in enumerate(a list) -/
theorem as_forE {items : List PyData} {elts : List Expr} {kk : Nat} {tpos : Pos} (hm : X.mg "enumerate" = none) (hi : AE X M ρ a B) (Mi : Hp → Hp → V → Nat → Mb) (ρ0 : List Sl) (ρ1 : Nat → PyData → List Sl)
    (h0 : ∀ H0 H1 v, LpC M (rA B) H0 H1 v → (Mi H0 H1 v 0).P H1) (hl : ∀ H0 H1 v, LpC M (rA B) H0 H1 v → ∃ p vs, v = .ref p ∧ vs.length = items.length ∧ ∀ i H, (Mi H0 H1 v i).P H → SqL X.K H p vs ∧ DtL X.K H vs items) (hw : SlW ρ ρ0)
    (hg : ∀ M d i, AG X M ρ0 (.Tuple elts kk tpos) (Ep.D X.K (.tuple [.int (i : Nat), d])) M (ρ1 i d))
    (hs : ∀ H0 H1 v, LpC M (rA B) H0 H1 v → ∀ i d, items[i]? = some d → AS X (Mi H0 H1 v i) (ρ1 i d) body (lpE (Mi H0 H1 v (i + 1)) ρ0 (nxt X rest D)))
    (hd : ∀ H0 H1 v, LpC M (rA B) H0 H1 v → AS X (Mi H0 H1 v items.length) ρ0 rest D)
    (hgl : Gl X "enumerate" := by rfl) (hst : starEach [a] X.env = [(false, eval a X.env)] := by rfl)
    (hp : PassesOwn (model X.prog X.w) X.A X.env X.xe := by exact PassesOwn.never) (hc : X.calm = true := by rfl) (hfs : ∀ x, foldedSetIterable (.Call (.Name "enumerate" p) [a] [] pos') X.env x = pure x := by intro _; rfl) : AS X M ρ (.For (.Tuple elts kk tpos) (.Call (.Name "enumerate" p) [a] [] pos') body [] pos :: rest) D := by
  refine for_gen (wi := iEnum X.K (tAA M ρ [B])) (Y := fun i H x H' => ∃ vs : List V, DtL X.K H vs items ∧ YPair (fun i => some (.int (i : Nat))) (fun i => vs[i]?) i H x H') (R := rA B) items Mi ρ1 (fun i d => .tuple [.int (i : Nat), d]) (pi_enum hgl hm (aa_cons hi aa_nil hst) hst) ?_ h0 hw hg hs hd hp hc hfs
  intro σ H m sl Rr h
  refine ⟨m, sl, fun us H1 ex r => ?_⟩
  cases r with
  | cons r rr =>
    cases rr
    rename_i v
    obtain ⟨q, vs, e1, e2, e3⟩ := hl H H1 v ⟨m, ex, r⟩
    subst e1
    refine ⟨q, vs, rfl, (e3 0 H1 (h0 _ _ _ ⟨m, ex, r⟩)).1, h H1 _ _ (fun H2 => ∃ i, (Mi H H1 _ i).P H2) ⟨m, ex, r⟩ ?_ (fun i H2 q => ⟨i, q⟩) ?_⟩
    · have W := walk_enum (K := X.K) (a := q) (xs := vs)
      rw [e2] at W
      refine W.mono (fun H2 ⟨i, q⟩ => (e3 i H2 q).1) fun i H2 y H3 _ hq hy => ?_
      obtain ⟨j, q⟩ := hq
      exact ⟨vs, (e3 j H2 q).2, hy⟩
    · rintro i y H2 H3 q ⟨vs', h1, T, x', y', rfl, hT, rfl, hx, hy⟩
      cases hx
      obtain ⟨d, g1, g2⟩ := h1.getV hy
      exact ⟨d, g1, Ex.new hT, .tup (st_of upd_same) (.cons (.int _) (.cons (g2.mono (.of (Ex.new hT))) .nil))⟩
/-- for i in range(n) -/
theorem as_forR {n : Nat} (hm : X.mg "range" = none) (hi : AE X M ρ a (aI X.K n)) (hn : n ≤ 1000) (Mi : Hp → Hp → V → Nat → Mb) (ρ0 : List Sl) (ρ1 : PyData → List Sl)
    (h0 : ∀ H0 H1 v, LpC M (rA (aI X.K n)) H0 H1 v → (Mi H0 H1 v 0).P H1) (hw : SlW ρ ρ0)
    (hg : ∀ M d, AG X M ρ0 tg (Ep.D X.K d) M (ρ1 d))
    (hs : ∀ H0 H1 v, LpC M (rA (aI X.K n)) H0 H1 v → ∀ i, i < n → AS X (Mi H0 H1 v i) (ρ1 (.int i)) body (lpE (Mi H0 H1 v (i + 1)) ρ0 (nxt X rest D)))
    (hd : ∀ H0 H1 v, LpC M (rA (aI X.K n)) H0 H1 v → AS X (Mi H0 H1 v n) ρ0 rest D)
    (hgl : Gl X "range" := by rfl) (hst : starEach [a] X.env = [(false, eval a X.env)] := by rfl)
    (hp : PassesOwn (model X.prog X.w) X.A X.env X.xe := by exact PassesOwn.never) (hc : X.calm = true := by rfl) (hfs : ∀ x, foldedSetIterable (.Call (.Name "range" p) [a] [] pos') X.env x = pure x := by intro _; rfl) : AS X M ρ (.For tg (.Call (.Name "range" p) [a] [] pos') body [] pos :: rest) D := by
  have hget : ∀ i d, ((List.range n).map fun i : Nat => PyData.int i)[i]? = some d → i < n ∧ d = .int i := fun i d h => by
    rw [List.getElem?_map] at h
    cases q : (List.range n)[i]? with
    | none => rw [q] at h; cases h
    | some j =>
      rw [q] at h
      obtain ⟨h1, h2⟩ := List.getElem?_eq_some_iff.mp q
      rw [List.length_range] at h1
      rw [List.getElem_range] at h2
      subst h2
      exact ⟨h1, (Option.some.inj h).symm⟩
  have hlen : ((List.range n).map fun i : Nat => PyData.int i).length = n := by rw [List.length_map, List.length_range]
  refine for_gen (wi := iRng1 (tAA M ρ [aI X.K n])) (Y := fun i H x H' => i < n ∧ YFn (fun i => .int ((0 : Int) + i)) i H x H') (R := rA (aI X.K n)) ((List.range n).map fun i : Nat => PyData.int i) Mi (fun _ d => ρ1 d) (fun _ d => d) (pi_range1 hgl hm (aa_cons hi aa_nil hst) hst) ?_ h0 hw (fun M d _ => hg M d) (fun H0 H1 v hL i d h => ?_) (fun H0 H1 v hL => by rw [hlen]; exact hd H0 H1 v hL) hp hc hfs
  · intro σ H m sl Rr h
    refine ⟨m, sl, fun us H1 ex r => ?_⟩
    cases r with
    | cons r rr =>
      cases rr
      have hL : LpC M (rA (aI X.K n)) H H1 _ := ⟨m, ex, r⟩
      cases r
      refine ⟨n, rfl, by omega, by omega, h H1 _ _ (fun _ => True) hL ?_ (fun _ _ _ => trivial) ?_⟩
      · have W := walk_range (lo := 0) (n := n)
        rw [hlen]
        show Walk (Itr 0 ((n : Int).toNat)) n _ _
        rw [Int.toNat_natCast]
        exact ⟨fun i H hi' _ => hi', fun H _ => Nat.le_refl _, fun i H x H' hi' _ y => ⟨hi', y⟩⟩
      · rintro i y H2 H3 q ⟨hi', rfl, rfl⟩
        refine ⟨.int i, ?_, Ex.refl _, ?_⟩
        · rw [List.getElem?_map, List.getElem?_range hi']
          rfl
        · show Dt X.K _ (V.int ((0 : Int) + (i : Nat))) _
          rw [Int.zero_add]
          exact .int _
  · obtain ⟨h1, rfl⟩ := hget i d h
    exact hs H0 H1 v hL i h1
end
end Ep
set_option maxHeartbeats 4000000
/-! comprehensions -/
namespace Ep
open PySem PySem.Spec PyProof.Rows L2 Evl
theorem wipe_get (σ : L2.St) : ∀ (vs : List Nat) (i : Nat), (wipe σ vs)[i]? = if i ∈ vs then σ[i]?.map fun _ => none else σ[i]?
  | [], i => by simp [wipe]
  | v :: vs, i => by
    show ((wipe σ vs).set v none)[i]? = _
    rw [List.getElem?_set, wipe_length]
    by_cases h : v = i
    · subst h
      rw [if_pos rfl, if_pos (List.mem_cons_self ..)]
      by_cases hl : v < σ.length
      · rw [if_pos hl, List.getElem?_eq_getElem hl]
        rfl
      · rw [if_neg hl, List.getElem?_eq_none (by omega)]
        rfl
    · rw [if_neg h, wipe_get σ vs i]
      by_cases hm : i ∈ vs
      · rw [if_pos hm, if_pos (List.mem_cons_of_mem _ hm)]
      · rw [if_neg hm, if_neg (by
          intro q
          rcases List.mem_cons.mp q with e | q
          · exact h e.symm
          · exact hm q)]
theorem wipe_set {σ : L2.St} {vs : List Nat} {j : Nat} {o : Option V} (h : j ∈ vs) : wipe ((wipe σ vs).set j o) vs = wipe σ vs := by
  apply List.ext_getElem?
  intro i
  rw [wipe_get, List.getElem?_set, wipe_get, wipe_length]
  by_cases hi : i ∈ vs
  · rw [if_pos hi, if_pos hi]
    split
    · rename_i e
      subst e
      by_cases hl : j < σ.length
      · rw [if_pos hl, List.getElem?_eq_getElem hl]
        rfl
      · rw [if_neg hl, List.getElem?_eq_none (by omega)]
    · cases σ[i]? <;> rfl
  · rw [if_neg hi, if_neg hi]
    by_cases e : j = i
    · subst e
      exact absurd h hi
    · rw [if_neg e]
section
variable {K : PySem.W.Frag} {X : Cx} {M M' M1 M2 : Mb} {ρ ρ' ρ0 ρ2 : List Sl} {e a b c o it elt : Expr} {es ifs : List Expr} {A B C : Ab} {As : List Ab} {R R' : RR} {pos apos pos' : Pos} {d d1 d2 : PyData} {x m f : Str} {p : Pos} {k : Nat} {b1 : Bool}
abbrev ATs (X : Cx) (M : Mb) (ρ : List Sl) (ifs : List Expr) (b : Bool) : Prop := PTs X ifs (tAT M ρ b)
theorem ats_nil : ATs X M ρ [] true := ⟨fun pins s σ H Q I ⟨m, sl, q⟩ => pts_nil.run pins s σ H Q I (q H (Ex.refl H))⟩
theorem ats_one (h : AT X M ρ c b1) : ATs X M ρ [c] b1 := pts_one h
/-- [elt for x in .. if ..] -/
theorem an_lc {wi : TI} {Y : Nat → Hp → V → Hp → Prop} {j : Nat} {y : Str} {py : Pos} {scope : Scope} (own : List (Str × Nat)) (items : List PyData) (cf : PyData → Bool) (ff : PyData → PyData)
    (hi : PI X (.Name y py) it wi) (hwi : ∀ σ H, M.P H → Slots ρ H σ → ∀ Rr : It → Hp → Prop, (∀ H1 J (G : Hp → Prop), Ex H H1 → Walk J items.length G Y → (∀ H2, Ex H1 H2 → G H2) → (∀ i x H2 H3, Ex H1 H2 → Y i H2 x H3 → ∃ d, items[i]? = some d ∧ Ex H2 H3 ∧ Dt X.K H3 x d) → Rr J H1) → wi σ H Rr)
    (hlen : items.length ≤ 1000) (hN : X.N.Nodup) (ok : BlkOk X.N X.env.scope scope own) (hj : j ∈ own.map (·.2)) (hg : ∀ (s : Shared) (H : Hp) (C : Addr) (cl : List (Str × Addr)) (fp : List Addr), PG (X.blk s H scope (compEnvC scope cl C X.env) fp) (.Name y py) (gName j))
    (ht : ∀ (s : Shared) (H : Hp) (C : Addr) (cl : List (Str × Addr)) (fp : List Addr) d, d ∈ items → ATs (X.blk s H scope (compEnvC scope cl C X.env) fp) M ((wipeS ρ (own.map (·.2))).set j (.val (D X.K d))) ifs (cf d))
    (he : ∀ (s : Shared) (H : Hp) (C : Addr) (cl : List (Str × Addr)) (fp : List Addr) d, d ∈ items → cf d = true → AE (X.blk s H scope (compEnvC scope cl C X.env) fp) M ((wipeS ρ (own.map (·.2))).set j (.val (D X.K d))) elt (D X.K (ff d)))
    (hc : X.calm = true := by rfl) (hs : ∀ x, foldedSetIterable it X.env x = pure x := by intro _; rfl) : AN X M ρ (.ListComp elt [⟨.Name y py, it, ifs, 0⟩] scope pos) ((items.filter cf).map ff) := by
  refine weakE (pe_lc (g := gName j) (tt := fun σ H Q => ∃ d, d ∈ items ∧ tAT M ((wipeS ρ (own.map (·.2))).set j (.val (D X.K d))) (cf d) σ H Q) (te := fun σ H Q => ∃ d, d ∈ items ∧ cf d = true ∧ tA M ((wipeS ρ (own.map (·.2))).set j (.val (D X.K d))) (D X.K (ff d)) σ H Q) hc hN hi ok hg
    (fun s H C cl fp => ⟨fun pins s' σ H' Q I ⟨d, hd, h⟩ => (ht s H C cl fp d hd).run pins s' σ H' Q I h⟩) (fun s H C cl fp => ⟨fun pins s' σ H' Q I ⟨d, hd, hcd, h⟩ => (he s H C cl fp d hd hcd).run pins s' σ H' Q I h⟩) hs) fun σ H Q ⟨m, sl, q⟩ => ?_
  refine hwi σ H m sl _ fun H1 J G e1 W hG hY => fun Dl hDl => ?_
  have sl1 := (sl.mono e1).wipe (own.map (·.2))
  refine lc_it (g := gName j) (tt := fun σ H Q => ∃ d, d ∈ items ∧ tAT M ((wipeS ρ (own.map (·.2))).set j (.val (D X.K d))) (cf d) σ H Q) (te := fun σ H Q => ∃ d, d ∈ items ∧ cf d = true ∧ tA M ((wipeS ρ (own.map (·.2))).set j (.val (D X.K d))) (D X.K (ff d)) σ H Q) (vs := own.map (·.2)) (σ := σ) W (fun i H' => Ex H1 H' ∧ ∃ vs, H' Dl = some (.lst vs) ∧ DtL X.K H' vs (((items.take i).filter cf).map ff)) ⟨Ex.new hDl, [], upd_same, .nil⟩ (fun i H' _ p => hG H' p.1) ?_ (fun H' ⟨e2, vs, h1, h2⟩ => ?_)
  · rintro i v H2 H3 hi' ⟨e2, vs, h1, h2⟩ hy
    obtain ⟨d, hd, e3, dt⟩ := hY i v H2 H3 e2 hy
    have hmem : d ∈ items := List.mem_of_getElem? hd
    have etake : items.take (i + 1) = items.take i ++ [d] := by rw [List.take_add_one, hd]; rfl
    refine ⟨wipe_set hj, d, hmem, M.mono (e1.trans (e2.trans e3)) m, (sl1.mono (e2.trans e3)).set j dt, fun H4 e4 => ?_⟩
    cases hcd : cf d with
    | true =>
      rw [if_pos rfl]
      refine ⟨d, hmem, hcd, M.mono (e1.trans ((e2.trans e3).trans e4)) m, ((sl1.mono ((e2.trans e3).trans e4))).set j (dt.mono (.of e4)), fun u H5 e5 du => ⟨vs, e5 _ _ (e4 _ _ (e3 _ _ h1)), ?_, Ex.mut (((e2.trans e3).trans e4).trans e5) hDl, vs ++ [u], upd_same, ?_⟩⟩
      · have := h2.length
        have h3 : (((items.take i).filter cf).map ff).length ≤ items.length := by
          rw [List.length_map]
          exact Nat.le_trans (List.length_filter_le ..) (by rw [List.length_take]; omega)
        exact sz_lt (by omega)
      · rw [etake, List.filter_append, List.map_append, List.filter_cons, if_pos hcd]
        refine DtL.mono (Tk.lst (e5 _ _ (e4 _ _ (e3 _ _ h1)))).tex (DtL.append (h2.mono (.of ((e3.trans e4).trans e5))) (.cons du .nil))
    | false =>
      rw [if_neg Bool.false_ne_true]
      refine ⟨(e2.trans e3).trans e4, vs, e4 _ _ (e3 _ _ h1), ?_⟩
      rw [etake, List.filter_append, List.map_append, List.filter_cons, if_neg (by rw [hcd]; decide)]
      show DtL X.K H4 vs (_ ++ [])
      rw [List.append_nil]
      exact h2.mono (.of (e3.trans e4))
  · refine q _ H' (e1.trans e2) ⟨Dl, vs, rfl, fresh_back e1 hDl, h1, ?_⟩
    rw [List.take_length] at h2
    exact h2
/-- over a tuple, a list, a range -/
theorem wi_tup {items : List PyData} : ∀ σ H, M.P H → Slots ρ H σ → ∀ Rr : It → Hp → Prop, (∀ H1 J (G : Hp → Prop), Ex H H1 → Walk J items.length G (fun (i : Nat) (H : Hp) (x : V) (H' : Hp) => H' = H ∧ ∃ vs : List V, DtL K H vs items ∧ vs[i]? = some x) → (∀ H2, Ex H1 H2 → G H2) → (∀ i x H2 H3, Ex H1 H2 → (fun (i : Nat) (H : Hp) (x : V) (H' : Hp) => H' = H ∧ ∃ vs : List V, DtL K H vs items ∧ vs[i]? = some x) i H2 x H3 → ∃ d, items[i]? = some d ∧ Ex H2 H3 ∧ Dt K H3 x d) → Rr J H1) → iTup K (tA M ρ (D K (.tuple items))) σ H Rr := by
  intro σ H m sl Rr h
  refine ⟨m, sl, fun v H1 ex r => ?_⟩
  obtain ⟨q, vs, e1, e2, e3⟩ := Dt.tuple_inv r
  refine ⟨q, e1, ⟨vs, e2⟩, h H1 _ (fun H2 => Ex H1 H2) ex ?_ (fun H2 q => q) ?_⟩
  · have W := walk_tup (K := K) (a := q) (xs := vs)
    rw [e3.length] at W
    exact W.mono (fun H2 q => ex_t q e2) fun i H2 y H3 _ hq ⟨h1, h2⟩ => ⟨h1, vs, e3.mono (.of hq), h2⟩
  · rintro i y H2 H3 q ⟨rfl, vs', h1, h2⟩
    obtain ⟨d, g1, g2⟩ := h1.getV h2
    exact ⟨d, g1, Ex.refl _, g2⟩
theorem wi_lst {items : List PyData} : ∀ σ H, M.P H → Slots ρ H σ → ∀ Rr : It → Hp → Prop, (∀ H1 J (G : Hp → Prop), Ex H H1 → Walk J items.length G (fun (i : Nat) (H : Hp) (x : V) (H' : Hp) => H' = H ∧ ∃ vs : List V, DtL K H vs items ∧ vs[i]? = some x) → (∀ H2, Ex H1 H2 → G H2) → (∀ i x H2 H3, Ex H1 H2 → (fun (i : Nat) (H : Hp) (x : V) (H' : Hp) => H' = H ∧ ∃ vs : List V, DtL K H vs items ∧ vs[i]? = some x) i H2 x H3 → ∃ d, items[i]? = some d ∧ Ex H2 H3 ∧ Dt K H3 x d) → Rr J H1) → iList K (tA M ρ (LD K items)) σ H Rr := by
  intro σ H m sl Rr h
  refine ⟨m, sl, fun v H1 ex r => ?_⟩
  obtain ⟨q, vs, e1, e2, e3⟩ := r
  refine ⟨q, e1, ⟨vs, .of e2⟩, h H1 _ (fun H2 => Ex H1 H2) ex ?_ (fun H2 q => q) ?_⟩
  · have W := walk_list (K := K) (a := q) (xs := vs)
    rw [e3.length] at W
    exact W.mono (fun H2 q => ex_l q (.of e2)) fun i H2 y H3 _ hq ⟨h1, h2⟩ => ⟨h1, vs, e3.mono (.of hq), h2⟩
  · rintro i y H2 H3 q ⟨rfl, vs', h1, h2⟩
    obtain ⟨d, g1, g2⟩ := h1.getV h2
    exact ⟨d, g1, Ex.refl _, g2⟩
def rngD (n : Nat) : List PyData := (List.range n).map fun i : Nat => PyData.int i
theorem rngD_len (n : Nat) : (rngD n).length = n := by unfold rngD; rw [List.length_map, List.length_range]
theorem wi_rng {n : Nat} (hn : n ≤ 1000) : ∀ σ H, M.P H → Slots ρ H σ → ∀ Rr : It → Hp → Prop, (∀ H1 J (G : Hp → Prop), Ex H H1 → Walk J (rngD n).length G (fun i H x H' => i < n ∧ YFn (fun i => .int ((0 : Int) + i)) i H x H') → (∀ H2, Ex H1 H2 → G H2) → (∀ i x H2 H3, Ex H1 H2 → (fun i (H : Hp) x (H' : Hp) => i < n ∧ YFn (fun i => .int ((0 : Int) + i)) i H x H') i H2 x H3 → ∃ d, (rngD n)[i]? = some d ∧ Ex H2 H3 ∧ Dt K H3 x d) → Rr J H1) → iRng1 (tAA M ρ [aI K n]) σ H Rr := by
  intro σ H m sl Rr h
  refine ⟨m, sl, fun us H1 ex r => ?_⟩
  cases r with
  | cons r rr =>
    cases rr
    cases r
    refine ⟨n, rfl, by omega, by omega, h H1 _ (fun _ => True) ex ?_ (fun _ _ => trivial) ?_⟩
    · rw [rngD_len]
      show Walk (Itr 0 ((n : Int).toNat)) n _ _
      rw [Int.toNat_natCast]
      have W := walk_range (lo := 0) (n := n)
      exact ⟨fun i H hi' _ => hi', fun H _ => Nat.le_refl _, fun i H x H' hi' _ y => ⟨hi', y⟩⟩
    · rintro i y H2 H3 q ⟨hi', rfl, rfl⟩
      refine ⟨.int i, ?_, Ex.refl _, ?_⟩
      · unfold rngD
        rw [List.getElem?_map, List.getElem?_range hi']
        rfl
      · show Dt K _ (V.int ((0 : Int) + (i : Nat))) _
        rw [Int.zero_add]
        exact .int _
/-- all but the list at l stands -/
def ExB (l : Addr) (H H' : Hp) : Prop := ∀ p o, p ≠ l → H p = some o → H' p = some o
theorem ExB.trans {l : Addr} {H1 H2 H3 : Hp} (a : ExB l H1 H2) (b : ExB l H2 H3) : ExB l H1 H3 := fun p o n h => b p o n (a p o n h)
theorem ExB.tk {l : Addr} {zs : List V} {H H' : Hp} (e : ExB l H H') (h : H l = some (.lst zs)) : Tk H H' := ⟨fun a xs q => e _ _ (ne_of q h (by intro z; cases z)) q, fun a x y q => e _ _ (ne_of q h (by intro z; cases z)) q⟩
theorem ExB.of {l : Addr} {H H' : Hp} (e : Ex H H') : ExB l H H' := fun p o _ h => e p o h
theorem wi1_tup {items : List PyData} : ∀ σ H, M.P H → Slots ρ H σ → ∀ Rr : It → Hp → Prop, (∀ H1 J (G : Hp → Prop), Ex H H1 → Walk J items.length G (fun (i : Nat) (H : Hp) (x : V) (H' : Hp) => H' = H ∧ ∃ vs : List V, DtL K H vs items ∧ vs[i]? = some x) → (∀ Dl zs, H Dl = some (.lst zs) → ∀ H2, ExB Dl H1 H2 → G H2) →
    (∀ Dl zs, H Dl = some (.lst zs) → ∀ i x H2 H3, ExB Dl H1 H2 → (fun (i : Nat) (H : Hp) (x : V) (H' : Hp) => H' = H ∧ ∃ vs : List V, DtL K H vs items ∧ vs[i]? = some x) i H2 x H3 → ∃ d, items[i]? = some d ∧ Ex H2 H3 ∧ Dt K H3 x d) → Rr J H1) → iTup K (tA M ρ (D K (.tuple items))) σ H Rr := by
  intro σ H m sl Rr h
  refine ⟨m, sl, fun v H1 ex r => ?_⟩
  obtain ⟨q, vs, e1, e2, e3⟩ := Dt.tuple_inv r
  refine ⟨q, e1, ⟨vs, e2⟩, h H1 _ (fun H2 => TEx K H1 H2) ex ?_ (fun Dl zs hD H2 q => (q.tk (ex _ _ hD)).tex) ?_⟩
  · have W := walk_tup (K := K) (a := q) (xs := vs)
    rw [e3.length] at W
    exact W.mono (fun H2 q => q _ _ e2) fun i H2 y H3 _ hq ⟨h1, h2⟩ => ⟨h1, vs, e3.mono hq, h2⟩
  · rintro Dl zs hD i y H2 H3 q ⟨rfl, vs', h1, h2⟩
    obtain ⟨d, g1, g2⟩ := h1.getV h2
    exact ⟨d, g1, Ex.refl _, g2⟩
theorem wi1_new {items : List PyData} : ∀ σ H, M.P H → Slots ρ H σ → ∀ Rr : It → Hp → Prop, (∀ H1 J (G : Hp → Prop), Ex H H1 → Walk J items.length G (fun (i : Nat) (H : Hp) (x : V) (H' : Hp) => H' = H ∧ ∃ vs : List V, DtL K H vs items ∧ vs[i]? = some x) → (∀ Dl zs, H Dl = some (.lst zs) → ∀ H2, ExB Dl H1 H2 → G H2) →
    (∀ Dl zs, H Dl = some (.lst zs) → ∀ i x H2 H3, ExB Dl H1 H2 → (fun (i : Nat) (H : Hp) (x : V) (H' : Hp) => H' = H ∧ ∃ vs : List V, DtL K H vs items ∧ vs[i]? = some x) i H2 x H3 → ∃ d, items[i]? = some d ∧ Ex H2 H3 ∧ Dt K H3 x d) → Rr J H1) → iList K (tR M ρ (rN K items)) σ H Rr := by
  intro σ H m sl Rr h
  refine ⟨m, sl, fun v H1 ex r => ?_⟩
  obtain ⟨q, vs, e1, e0, e2, e3⟩ := r
  refine ⟨q, e1, ⟨vs, .of e2⟩, h H1 _ (fun H2 => TEx K H1 H2 ∧ H2 q = some (.lst vs)) ex ?_ (fun Dl zs hD H2 q => ⟨(q.tk (ex _ _ hD)).tex, q _ _ (ne_of_none hD e0).symm e2⟩) ?_⟩
  · have W := walk_list (K := K) (a := q) (xs := vs)
    rw [e3.length] at W
    exact W.mono (fun H2 q => .of q.2) fun i H2 y H3 _ hq ⟨h1, h2⟩ => ⟨h1, vs, e3.mono hq.1, h2⟩
  · rintro Dl zs hD i y H2 H3 q ⟨rfl, vs', h1, h2⟩
    obtain ⟨d, g1, g2⟩ := h1.getV h2
    exact ⟨d, g1, Ex.refl _, g2⟩
/-- [elt for x in .. for y in ..] -/
theorem an_lc2 {wi wi1 : TI} {Y : Nat → Hp → V → Hp → Prop} {Y1 : PyData → Nat → Hp → V → Hp → Prop} {j j1 : Nat} {y y1 : Str} {py py1 : Pos} {it1 : Expr} {scope : Scope} (own : List (Str × Nat)) (items : List PyData) (sub : PyData → List PyData)
    (hi : PI X (.Name y py) it wi) (hwi : ∀ σ H, M.P H → Slots ρ H σ → ∀ Rr : It → Hp → Prop, (∀ H1 J (G : Hp → Prop), Ex H H1 → Walk J items.length G Y → (∀ H2, Ex H1 H2 → G H2) → (∀ i x H2 H3, Ex H1 H2 → Y i H2 x H3 → ∃ d, items[i]? = some d ∧ Ex H2 H3 ∧ Dt X.K H3 x d) → Rr J H1) → wi σ H Rr)
    (hi1 : ∀ (s : Shared) (H : Hp) (C : Addr) (cl : List (Str × Addr)) (fp : List Addr), PI (X.blk s H scope (compEnvC scope cl C X.env) fp) (.Name y1 py1) it1 wi1)
    (hwi1 : ∀ d, d ∈ items → ∀ σ H, M.P H → Slots ((wipeS ρ (own.map (·.2))).set j (.val (D X.K d))) H σ → ∀ Rr : It → Hp → Prop, (∀ H1 J (G : Hp → Prop), Ex H H1 → Walk J (sub d).length G (Y1 d) → (∀ Dl zs, H Dl = some (.lst zs) → ∀ H2, ExB Dl H1 H2 → G H2) → (∀ Dl zs, H Dl = some (.lst zs) → ∀ i x H2 H3, ExB Dl H1 H2 → Y1 d i H2 x H3 → ∃ d', (sub d)[i]? = some d' ∧ Ex H2 H3 ∧ Dt X.K H3 x d') → Rr J H1) → wi1 σ H Rr)
    (hlen : (items.flatMap sub).length ≤ 1000) (hN : X.N.Nodup) (ok : BlkOk X.N X.env.scope scope own) (hj : j ∈ own.map (·.2)) (hj1 : j1 ∈ own.map (·.2)) (hjj : j ≠ j1)
    (hg : ∀ (s : Shared) (H : Hp) (C : Addr) (cl : List (Str × Addr)) (fp : List Addr), PG (X.blk s H scope (compEnvC scope cl C X.env) fp) (.Name y py) (gName j))
    (hg1 : ∀ (s : Shared) (H : Hp) (C : Addr) (cl : List (Str × Addr)) (fp : List Addr), PG (X.blk s H scope (compEnvC scope cl C X.env) fp) (.Name y1 py1) (gName j1))
    (he : ∀ (s : Shared) (H : Hp) (C : Addr) (cl : List (Str × Addr)) (fp : List Addr) d d', d ∈ items → d' ∈ sub d → AE (X.blk s H scope (compEnvC scope cl C X.env) fp) M (((wipeS ρ (own.map (·.2))).set j (.val (D X.K d))).set j1 (.val (D X.K d'))) elt (D X.K d'))
    (hc : X.calm = true := by rfl) (hs : ∀ x, foldedSetIterable it X.env x = pure x := by intro _; rfl) (hs1 : ∀ env x, foldedSetIterable it1 env x = pure x := by intro _ _; rfl) : AN X M ρ (.ListComp elt [⟨.Name y py, it, [], 0⟩, ⟨.Name y1 py1, it1, [], 0⟩] scope pos) (items.flatMap sub) := by
  refine weakE (pe_lc2 (vs1 := [j1]) (g := gName j) (g1 := gName j1) (tt := tYes) (tt1 := tYes) (te := fun σ H Q => ∃ d d', d ∈ items ∧ d' ∈ sub d ∧ tA M (((wipeS ρ (own.map (·.2))).set j (.val (D X.K d))).set j1 (.val (D X.K d'))) (D X.K d') σ H Q) hc hN hi ok (fun i h => by
      have e : i = j1 := by simpa using h
      rw [e]
      exact hj1) hg (fun _ _ _ _ _ => pts_nil) hi1 hg1 (fun _ _ _ _ _ => pts_nil)
    (fun s H C cl fp => ⟨fun pins s' σ H' Q I ⟨d, d', hd, hcd, h⟩ => (he s H C cl fp d d' hd hcd).run pins s' σ H' Q I h⟩) hs hs1) fun σ H Q ⟨m, sl, q⟩ => ?_
  refine hwi σ H m sl _ fun H1 J G e1 W hG hY => fun Dl hDl => ?_
  have sl1 := (sl.mono e1).wipe (own.map (·.2))
  have key : ∃ Wf : Nat → Nat → Hp → Prop, (∃ mm, Wf 0 mm (upd H1 Dl (.lst []))) ∧ ∀ i mm H2, Wf i mm H2 → (J.stop i H2 ∧ Q (.ref Dl) H2) ∨ (J.go i H2 ∧ ∃ Nx : Hp → Prop, (∀ H', Nx H' → ∃ m', m' < mm ∧ Wf (i + 1) m' H') ∧ ∀ x H', J.yld i H2 x H' →
      ∃ d, d ∈ items ∧ Dt X.K H' x d ∧ Ex H1 H' ∧ (∃ vs, H' Dl = some (.lst vs) ∧ DtL X.K H' vs ((items.take i).flatMap sub)) ∧ items[i]? = some d ∧ ∀ H'', Ex H1 H'' → (∃ vs, H'' Dl = some (.lst vs) ∧ DtL X.K H'' vs ((items.take (i + 1)).flatMap sub)) → Nx H'') := by
    refine ⟨fun i mm H' => mm = items.length - i ∧ i ≤ items.length ∧ Ex H1 H' ∧ ∃ vs, H' Dl = some (.lst vs) ∧ DtL X.K H' vs ((items.take i).flatMap sub), ⟨_, rfl, Nat.zero_le _, Ex.new hDl, [], upd_same, .nil⟩, ?_⟩
    rintro i mm H2 ⟨rfl, hi', e2, vs, h1, h2⟩
    by_cases hlt : i < items.length
    · refine .inr ⟨W.goes i H2 hlt (hG H2 e2), fun H' => Ex H1 H' ∧ ∃ vs, H' Dl = some (.lst vs) ∧ DtL X.K H' vs ((items.take (i + 1)).flatMap sub), fun H' p' => ⟨items.length - (i + 1), by omega, rfl, hlt, p'.1, p'.2⟩, fun x H3 y => ?_⟩
      obtain ⟨d, hd, e3, dt⟩ := hY i x H2 H3 e2 (W.yields i H2 x H3 hlt (hG H2 e2) y)
      exact ⟨d, List.mem_of_getElem? hd, dt, e2.trans e3, ⟨vs, e3 _ _ h1, h2.mono (.of e3)⟩, hd, fun H'' a b => ⟨a, b⟩⟩
    · have e : i = items.length := by omega
      subst e
      refine .inl ⟨W.stops H2 (hG H2 e2), q _ H2 (e1.trans e2) ⟨Dl, vs, rfl, fresh_back e1 hDl, h1, ?_⟩⟩
      rw [List.take_length] at h2
      exact h2
  obtain ⟨Wf, w0, wt⟩ := key
  refine ⟨Wf, w0, fun i mm H2 w2 => ?_⟩
  rcases wt i mm H2 w2 with h | ⟨hgo, Nx, hNx, hy⟩
  · exact .inl h
  · refine .inr ⟨hgo, Nx, hNx, fun x H3 yx => ?_⟩
    obtain ⟨d, hmem, dt, e3, ⟨vs, h1, h2⟩, hd, hfin⟩ := hy x H3 yx
    have etake : items.take (i + 1) = items.take i ++ [d] := by rw [List.take_add_one, hd]; rfl
    have efl : (items.take (i + 1)).flatMap sub = (items.take i).flatMap sub ++ sub d := by rw [etake, List.flatMap_append]; simp
    have slj := (sl1.mono e3).set (a := D X.K d) j dt
    refine ⟨wipe_set hj, iteT (B := Nx H3) ?_⟩
    refine hwi1 d hmem _ H3 (M.mono (e1.trans e3) m) slj _ fun H4 J1 G1 e4 W1 hG1 hY1 => ?_
    have lenb : ∀ n, ((items.take i).flatMap sub ++ (sub d).take n).length ≤ 1000 := fun n => by
      have hd' : i < items.length := (List.getElem?_eq_some_iff.mp hd).1
      have es : items = items.take i ++ d :: items.drop (i + 1) := by
        conv => lhs; rw [← List.take_append_drop (i + 1) items, etake]
        simp
      have : (items.flatMap sub).length = ((items.take i).flatMap sub).length + ((sub d).length + ((items.drop (i + 1)).flatMap sub).length) := by
        conv => lhs; rw [es]
        rw [List.flatMap_append, List.flatMap_cons]
        simp
      rw [List.length_append, List.length_take]
      omega
    refine ⟨fun i1 m1 H5 => m1 = (sub d).length - i1 ∧ i1 ≤ (sub d).length ∧ Ex H1 H5 ∧ ExB Dl H4 H5 ∧ ∃ vs, H5 Dl = some (.lst vs) ∧ DtL X.K H5 vs ((items.take i).flatMap sub ++ (sub d).take i1), ⟨_, rfl, Nat.zero_le _, e3.trans e4, fun _ _ _ h => h, vs, e4 _ _ h1, ?_⟩, ?_⟩
    · rw [List.take_zero, List.append_nil]
      exact h2.mono (.of e4)
    rintro i1 m1 H5 ⟨rfl, hi1', e5, eb5, ws, g1, g2⟩
    have hG5 := hG1 Dl vs h1 H5 eb5
    by_cases hlt1 : i1 < (sub d).length
    · refine .inr ⟨W1.goes i1 H5 hlt1 hG5, fun H6 => Ex H1 H6 ∧ ExB Dl H4 H6 ∧ ∃ vs, H6 Dl = some (.lst vs) ∧ DtL X.K H6 vs ((items.take i).flatMap sub ++ (sub d).take (i1 + 1)), fun H6 p6 => ⟨(sub d).length - (i1 + 1), by omega, rfl, hlt1, p6⟩, fun x1 H6 yx1 => ?_⟩
      obtain ⟨d', hd', e6, dt'⟩ := hY1 Dl vs h1 i1 x1 H5 H6 eb5 (W1.yields i1 H5 x1 H6 hlt1 hG5 yx1)
      have hmem' : d' ∈ sub d := List.mem_of_getElem? hd'
      have sl6 : Slots (((wipeS ρ (own.map (·.2))).set j (.val (D X.K d))).set j1 (.val (D X.K d'))) H6 ((((wipe σ (own.map (·.2))).set j (some x))).set j1 (some x1)) :=
        ((sl1.mono (e5.trans e6)).set (a := D X.K d) j (dt.mono ((Tk.of e4).trans ((eb5.tk (e4 _ _ h1)).trans (Tk.of e6))).tex)).set (a := D X.K d') j1 dt'
      refine ⟨?_, ?_⟩
      · show wipe ((wipe _ [j1]).set j1 (some x1)) [j1] = wipe _ [j1]
        exact wipe_set (List.mem_singleton.mpr rfl)
      refine iteT (B := Ex H1 H6 ∧ ExB Dl H4 H6 ∧ ∃ vs, H6 Dl = some (.lst vs) ∧ DtL X.K H6 vs ((items.take i).flatMap sub ++ (sub d).take (i1 + 1))) ?_
      have ew : (wipe ((wipe σ (own.map (·.2))).set j (some x)) [j1]).set j1 (some x1) = ((wipe σ (own.map (·.2))).set j (some x)).set j1 (some x1) := by
        show ((((wipe σ (own.map (·.2))).set j (some x))).set j1 none).set j1 (some x1) = _
        rw [List.set_set]
      refine ⟨d, d', hmem, hmem', M.mono (e1.trans (e5.trans e6)) m, ew ▸ sl6, fun u H7 e7 du => ⟨ws, e7 _ _ (e6 _ _ g1), ?_, Ex.mut ((e5.trans e6).trans e7) hDl, ?_, ws ++ [u], upd_same, ?_⟩⟩
      · have := g2.length
        have := lenb i1
        exact sz_lt (by omega)
      · exact fun p o hp ho => by
          rw [upd_ne hp]
          exact e7 _ _ (e6 _ _ (eb5 p o hp ho))
      · have et : (sub d).take (i1 + 1) = (sub d).take i1 ++ [d'] := by rw [List.take_add_one, hd']; rfl
        rw [et, ← List.append_assoc]
        exact DtL.mono (Tk.lst (e7 _ _ (e6 _ _ g1))).tex (DtL.append (g2.mono (TEx.of (e6.trans e7))) (.cons du .nil))
    · have e : i1 = (sub d).length := by omega
      subst e
      rw [List.take_length] at g2
      exact .inl ⟨W1.stops H5 hG5, hfin H5 e5 ⟨ws, g1, by rw [efl]; exact g2⟩⟩
end
end Ep
set_option maxHeartbeats 4000000
/-! calls that change what is tracked, new instances, dict stores, isinstance, whole defs -/
namespace Ep
open PySem PySem.Spec PyProof.Rows L2 Evl
/-- a heap without what stands at some addresses -/
def era (H : Hp) (ps : List Addr) : Hp := fun a => if a ∈ ps then none else H a
theorem era_ex (H : Hp) (ps : List Addr) : Ex (era H ps) H := fun a o h => by
  unfold era at h
  split at h
  · cases h
  · exact h
theorem era_no {H : Hp} {ps : List Addr} {a : Addr} (h : a ∈ ps) : era H ps a = none := if_pos h
theorem era_at {H : Hp} {ps : List Addr} {a : Addr} (h : a ∉ ps) : era H ps a = H a := if_neg h
/-- kinds that may change -/
def soft : HO → Bool
  | .ins .. => true | .lst _ => true | .dK _ => true | _ => false
theorem era_tk {H H' : Hp} {ps : List Addr} (h : ∀ p ∈ ps, ∃ o, H p = some o ∧ soft o = true) (e : Ex (era H ps) H') : Tk H H' := ⟨fun a xs q => e _ _ (by
    rw [era_at]
    · exact q
    · intro hm
      obtain ⟨o, h1, h2⟩ := h a hm
      rw [q] at h1
      cases h1
      cases h2), fun a x y q => e _ _ (by
    rw [era_at]
    · exact q
    · intro hm
      obtain ⟨o, h1, h2⟩ := h a hm
      rw [q] at h1
      cases h1
      cases h2)⟩
theorem era_back {H H' : Hp} {ps : List Addr} (h : ∀ p ∈ ps, H p = none) : Ex H (era H ps) := fun a o q => by
  rw [era_at]
  · exact q
  · intro hm
    rw [h a hm] at q
    cases q
/-- a promise: from M0 to M1 -/
def spC {ι : Type} (pc : ι → Prop) (pre : ι → List Ab) (M0 M1 : ι → Mb) (res : ι → Ab) : Sp := fun vs H Q _ => ∃ i, pc i ∧ (M0 i).P H ∧ AbL (pre i) H vs ∧ ∀ v H', (M1 i).P H' → (res i).P H' v → Q v H'
section
variable {X : Cx} {M M' M1 M2 : Mb} {ρ ρ' ρ0 ρ2 : List Sl} {e a b c o it elt : Expr} {es ifs : List Expr} {A B C : Ab} {As : List Ab} {R R' : RR} {pos apos pos' : Pos} {d d1 d2 : PyData} {x m f : Str} {p : Pos} {k : Nat} {b1 : Bool} {D : Ends} {rest : List Stmt}
variable {ι : Type} {pc : ι → Prop} {pre : ι → List Ab} {Ma Mz : ι → Mb} {res : ι → Ab}
theorem am_call (G : GFn X.prog X.w X.K X.mg X.base k x (spC pc pre Ma Mz res)) (hr : Room k X.A) (ha : AA X M ρ (e :: es) As)
    (hM : ∀ H vs, M.P H → AbL As H vs → ∃ i, pc i ∧ (Ma i).P H ∧ AbL (pre i) H vs ∧ ∀ v H', (Mz i).P H' → (res i).P H' v → Tk H H' ∧ M'.P H' ∧ A.P H' v)
    (hg : Gl X x := by rfl) (hdb : (x == ("__debug__" : Str)) = false := by decide) (he : starEach (e :: es) X.env = (false, eval e X.env) :: starEach es X.env := by rfl) (hpl : (backTo pos (starEach es X.env)).any (·.1) = false := by rfl) :
    AM X M ρ (.Call (.Name x p) (e :: es) [] pos) M' (keepT ρ) A := by
  obtain ⟨f, fd, ps, F, hm, kp, bb⟩ := G
  refine weakE (pe_call F hr hg hm kp bb .nil pass0 ha hdb he hpl) fun σ H Q ⟨m, sl, q⟩ => ⟨m, sl, fun vs H1 e1 a1 => ?_⟩
  obtain ⟨i, h1, h2, h3, h4⟩ := hM H1 vs (M.mono e1 m) a1
  rw [List.append_nil]
  exact ⟨i, h1, h2, h3, fun v H' m' r => by
    obtain ⟨t, g1, g2⟩ := h4 v H' m' r
    exact q v H' g1 ((sl.mono e1).keep t) g2⟩
theorem am_meth {C : Addr} {pl : Sem Bool} (ho : AE X M ρ o A) (hA : Recv M C m A A) (G : GMt X.prog X.w X.K X.mg X.base k C m (spC pc pre Ma Mz res)) (hr : Room k X.A) (ha : AA X M ρ (e :: es) As)
    (hM : ∀ H v vs, M.P H → A.P H v → AbL As H vs → ∃ i, pc i ∧ (Ma i).P H ∧ AbL (pre i) H (v :: vs) ∧ ∀ v H', (Mz i).P H' → (res i).P H' v → Tk H H' ∧ M'.P H' ∧ B.P H' v)
    (hst : starEach (e :: es) X.env = (false, eval e X.env) :: starEach es X.env := by rfl) (hpl : (backTo pos (starEach es X.env)).any (·.1) = false := by rfl)
    (ht : eval (.Call (.Attribute o m apos) (e :: es) [] pos) X.env = (do
      let ov ← eval o X.env
      standAt apos.atName
      let (f, first) ← holding [ov] (getMethod ov m pl)
      callWith pos f first (backTo pos (starEach (e :: es) X.env)) (backToKw pos (keywordEach [] X.env))) := by rfl) :
    AM X M ρ (.Call (.Attribute o m apos) (e :: es) [] pos) M' (keepT ρ) B := by
  obtain ⟨f, fd, ps, F, hc, hm, bb⟩ := G
  refine weakE (pe_meth ho hc hm F hr bb .nil pass0 ha hst hpl ht) fun σ H Q ⟨m, sl, q⟩ => ⟨m, sl, fun v H1 e1 a1 => ?_⟩
  obtain ⟨a, dx, fs, ev, h1, h2, h3⟩ := hA H1 v (M.mono e1 m) a1
  refine ⟨a, dx, fs, ev, h1, h2, M.mono e1 m, sl.mono e1, fun vs H2 e2 a2 => ?_⟩
  obtain ⟨i, g1, g2, g3, g4⟩ := hM H2 v vs (M.mono (e1.trans e2) m) (A.mono e2 h3) a2
  rw [List.append_nil]
  exact ⟨i, g1, g2, g3, fun v H' m' r => by
    obtain ⟨t, j1, j2⟩ := g4 v H' m' r
    exact q v H' j1 ((sl.mono (e1.trans e2)).keep t) j2⟩
/-- o(..), an instance called -/
theorem am_callO {C g : Addr} {fd : FuncData} {ps : List Str} (ho : AE X M ρ o A) (hA : ∀ H v, M.P H → A.P H v → ∃ a dx fs, v = .ref a ∧ H a = some (.ins C dx fs)) (c : StX.CallO X.K C g) (F : FnOk X.prog X.w X.K X.mg X.base CX0 k g fd ps (spC pc pre Ma Mz res)) (bb : Binds X.K fd ps []) (hr : Room k X.A) (ha : AA X M ρ (e :: es) As)
    (hM : ∀ H v vs, M.P H → A.P H v → AbL As H vs → ∃ i, pc i ∧ (Ma i).P H ∧ AbL (pre i) H (v :: vs) ∧ ∀ v H', (Mz i).P H' → (res i).P H' v → Tk H H' ∧ M'.P H' ∧ B.P H' v)
    (ht : eval (.Call o (e :: es) [] pos) X.env = (do callWith pos (← eval o X.env) [] (backTo pos (starEach (e :: es) X.env)) (backToKw pos (keywordEach [] X.env))) := by rfl)
    (he : starEach (e :: es) X.env = (false, eval e X.env) :: starEach es X.env := by rfl) (hpl : (backTo pos (starEach es X.env)).any (·.1) = false := by rfl) :
    AM X M ρ (.Call o (e :: es) [] pos) M' (keepT ρ) B := by
  have FR0 : FnR X.prog X.w X.K X.mg X.base CX0 k g (fun vs H Q E => spC pc pre Ma Mz res (vs ++ []) H Q E) := F.raw bb .nil
  refine weakE (StX.pe_callO ho c FR0 hr pass0 ha ht he hpl) fun σ H Q ⟨m, sl, q⟩ => ⟨m, sl, fun v H1 e1 a1 => ?_⟩
  obtain ⟨a, dx, fs, ev, h1⟩ := hA H1 v (M.mono e1 m) a1
  refine ⟨a, ev, M.mono e1 m, sl.mono e1, fun vs H2 e2 a2 => ⟨.inr ⟨dx, fs, e2 _ _ h1⟩, ?_⟩⟩
  obtain ⟨i, g1, g2, g3, g4⟩ := hM H2 v vs (M.mono (e1.trans e2) m) (A.mono e2 a1) a2
  rw [← ev, List.append_nil]
  exact ⟨i, g1, g2, g3, fun v H' m' r => by
    obtain ⟨t, j1, j2⟩ := g4 v H' m' r
    exact q v H' j1 ((sl.mono (e1.trans e2)).keep t) j2⟩
/-- C(..) -/
theorem ar_make {C : Addr} (G : GMk X.prog X.w X.K X.mg X.base k x C (spC pc pre Ma Mz res)) (hr : Room (k + 1) X.A) (ha : AA X M ρ (e :: es) As)
    (hM : ∀ H vs q dx, M.P H → AbL As H vs → H q = none → H dx = none → dx ≠ q → ∃ i, pc i ∧ (Ma i).P (upd (upd H dx (.own q)) q (.ins C dx [])) ∧ AbL (pre i) (upd (upd H dx (.own q)) q (.ins C dx [])) (.ref q :: vs) ∧ ∀ v H', (Mz i).P H' → (res i).P H' v → v = .non ∧ Ex H H' ∧ R H H' (.ref q))
    (hb : ∀ H H1 H' v, Ex H H1 → R H1 H' v → R H H' v)
    (hg : Gl X x := by rfl) (hdb : (x == ("__debug__" : Str)) = false := by decide) (he : starEach (e :: es) X.env = (false, eval e X.env) :: starEach es X.env := by rfl) (hpl : (backTo pos (starEach es X.env)).any (·.1) = false := by rfl) :
    AR X M ρ (.Call (.Name x p) (e :: es) [] pos) R := by
  obtain ⟨f, fd, ps, F, hm, mk, bb⟩ := G
  refine weakE (pe_make mk F hr hg hm bb .nil pass0 ha hdb he hpl) fun σ H Q ⟨m, sl, q⟩ => ⟨m, sl, fun vs H1 e1 a1 => fun y dx h1 h2 h3 => ?_⟩
  obtain ⟨i, g1, g2, g3, g4⟩ := hM H1 vs y dx (M.mono e1 m) a1 h1 h2 h3
  rw [List.append_nil]
  exact ⟨i, g1, g2, g3, fun v H' m' r => by
    obtain ⟨j1, j2, j3⟩ := g4 v H' m' r
    exact ⟨j1, q _ H' (e1.trans j2) (hb H H1 H' _ e1 j3)⟩⟩
/-- d[k] = v -/
theorem as_dput {pd : Addr} {z : Str} (hu : X.A.units + 1 < cLine) (hv : AM X M ρ e M1 ρ' A) (ho : AE X M1 ρ' o (Rf pd)) (hi : AE X M1 ρ' a (aS X.K z)) (h : ∀ H v, M1.P H → A.P H v → ∃ kvs, H pd = some (.dK kvs) ∧ kvs.length < 1000 ∧ M'.P (upd H pd (.dK (putK kvs (Sum.inr z) v))))
    (k : AS X M' (keepT ρ') rest D) (hs : swapsWith e (some (.Subscript o a pos')) pos.line X.env = pure false := by rfl) : AS X M ρ (.Assign [.Subscript o a pos'] e pos :: rest) D :=
  pss_then (ps_dput hu ho hi hv hs) k fun σ H m sl => ⟨m, sl, fun v H1 m1 sl1 av => ⟨m1, sl1, fun x H2 e2 hx => ⟨M1.mono e2 m1, sl1.mono e2, fun y H3 e3 hy => by
    obtain ⟨kvs, h1, h2, h3⟩ := h H3 v (M1.mono (e2.trans e3) m1) (A.mono (e2.trans e3) av)
    cases hy
    exact ⟨pd, _, hx, DPut.k (k := Sum.inr z) h1 (sz_lt (by omega)), rfl, h3, (sl1.mono (e2.trans e3)).keep (Tk.dK h1)⟩⟩⟩⟩
/-! ### isinstance -/
def tyN : PyData → String
  | .none => "NoneType" | .bool _ => "bool" | .int _ => "int" | .str _ => "str" | .tuple _ => "tuple" | _ => "list"
/-- x's type is t -/
def TyA (K : PySem.W.Frag) (M : Mb) (A : Ab) (t : Value) : Prop := ∀ H v, M.P H → A.P H v → TyX K H v t
theorem ae_isi {t u : Value} {cv : V} {bb : Bool} (hm : X.mg "isinstance" = none) (ha : AE X M ρ a A) (hA : TyA X.K M A t) (hb : PE X b (tC cv)) (hc : ClsV cv u) (hk : PySem.W.kitOne X.K t u = some bb) (hg : Gl X "isinstance" := by rfl)
    (h1 : starEach [a, b] X.env = (false, eval a X.env) :: starEach [b] X.env := by rfl) (h2 : starEach [b] X.env = (false, eval b X.env) :: starEach [] X.env := by rfl) (h3 : (backTo pos (starEach [b] X.env)).any (·.1) = false := by rfl) :
    AE X M ρ (.Call (.Name "isinstance" p) [a, b] [] pos) (aB X.K bb) :=
  weakE (pe_callB call_isi hg hm (by decide +kernel) (pa_cons ha (pa_cons hb pa_nil h2) h1) (by decide) (by decide) h1 h3) fun σ H Q ⟨m, sl, q⟩ => ⟨m, sl, fun v H1 e1 a1 => ⟨v, cv, t, u, bb, rfl, hc, hA H1 v (M.mono e1 m) a1, hk, q _ H1 e1 (.bl _)⟩⟩
end
/-! ### whole defs -/
def startS (N : List Str) (As : List Ab) : List Sl := As.map .val ++ List.replicate (N.length - As.length) .any
def rtG (H0 : Hp) (R : RR) : Ends := ⟨fun _ H' => Ex H0 H' ∧ R H0 H' .non, fun v H' => Ex H0 H' ∧ R H0 H' v, fun _ _ => False, fun _ _ => False⟩
def rtC (M1 : Mb) (A : Ab) : Ends := ⟨fun _ H' => M1.P H' ∧ A.P H' .non, fun v H' => M1.P H' ∧ A.P H' v, fun _ _ => False, fun _ _ => False⟩
theorem AbL.get {A : Ab} {H : Hp} : ∀ {As : List Ab} {vs : List V} {i : Nat}, AbL As H vs → As[i]? = some A → ∃ v, vs[i]? = some v ∧ A.P H v
  | _, _, _, .nil, e => by simp at e
  | _, _, 0, .cons h _, e => by
    simp at e
    subst e
    exact ⟨_, rfl, h⟩
  | _, _, i + 1, .cons _ r, e => by
    obtain ⟨v, h1, h2⟩ := AbL.get (i := i) r (by simpa using e)
    exact ⟨v, by simpa using h1, h2⟩
theorem start_slots {N : List Str} {As : List Ab} {vs : List V} {H : Hp} (h : AbL As H vs) : Slots (startS N As) H (L2.start N vs) := by
  have hl := h.length
  refine ⟨by simp [startS, L2.start, hl], fun i A e => ?_⟩
  unfold startS at e
  rw [List.getElem?_append] at e
  split at e
  · rename_i hi
    rw [List.getElem?_map] at e
    cases q : As[i]? with
    | none => rw [q] at e; cases e
    | some B =>
      rw [q] at e
      have eB : B = A := by
        have := Option.some.inj e
        injection this
      subst eB
      obtain ⟨v, h1, h2⟩ := h.get q
      refine ⟨v, ?_, h2⟩
      unfold L2.start
      rw [List.getElem?_append_left (by rw [List.length_map]; exact (List.getElem?_eq_some_iff.mp h1).1), List.getElem?_map, h1]
      rfl
  · rw [List.getElem?_replicate] at e
    split at e <;> cases e
section
variable {P : Program} {w : World} {K : PySem.W.Frag} {mg : Str → Option Value} {base : Heap} {x qual : Str} {st : Stmt} {f : Addr} {fd : FuncData} {N ps : List Str} {k : Nat} {ι : Type} {pc : ι → Prop} {pre : ι → List Ab} {res : ι → RR} {Ma Mz : ι → Mb} {rs : ι → Ab}
theorem sp_mono {X : Cx} {pins : List (Addr × Obj)} {D D' : Ends} {f : Flow} {s : Shared} (h : SP X pins D f s) (h1 : ∀ σ H, D.nx σ H → D'.nx σ H) (h2 : ∀ v H, D.rt v H → D'.rt v H) (h3 : ∀ σ H, D.bk σ H → D'.bk σ H) (h4 : ∀ σ H, D.ct σ H → D'.ct σ H) : SP X pins D' f s := by
  cases f with
  | next => obtain ⟨σ', H', I, q⟩ := h; exact ⟨σ', H', I, h1 _ _ q⟩
  | brk => obtain ⟨σ', H', I, q⟩ := h; exact ⟨σ', H', I, h3 _ _ q⟩
  | cont => obtain ⟨σ', H', I, q⟩ := h; exact ⟨σ', H', I, h4 _ _ q⟩
  | ret u => obtain ⟨v, σ', H', I, r, q⟩ := h; exact ⟨v, σ', H', I, r, h2 _ _ q⟩
theorem as_run {X : Cx} {M : Mb} {ρ : List Sl} {sts : List Stmt} {D D' : Ends} (h : AS X M ρ sts D) (h1 : ∀ σ H, D.nx σ H → D'.nx σ H) (h2 : ∀ v H, D.rt v H → D'.rt v H) (h3 : ∀ σ H, D.bk σ H → D'.bk σ H) (h4 : ∀ σ H, D.ct σ H → D'.ct σ H) :
    PSs X sts (fun D2 σ H => D2 = D' ∧ M.P H ∧ Slots ρ H σ) := ⟨fun pins s σ H D2 I ⟨e, m, sl⟩ => by
  subst e
  exact wpAny_mono (h.run pins s σ H D I ⟨rfl, m, sl⟩) (fun f s q => sp_mono q h1 h2 h3 h4) fun _ _ z => z⟩
theorem fn_G (F : Fun K x qual st f fd) (S : FnScope N ps (defScope st)) (hlen : ∀ i, (pre i).length = ps.length)
    (body : ∀ (cdv : Value) (A : Around) (outer : List Env) (s : Shared) (H : Hp) (E : XK), Room k (A.deeper (envOfC qual (defScope st) s.heap.objs.size f cdv)) → ∀ i, pc i → AS (cxOf CX0 P w K mg base N qual (defScope st) f cdv A outer s H E).nox (mE H) (startS N (pre i)) (defBody st) (rtG H (res i))) :
    FnOk P w K mg base CX0 (k + 1) f fd ps (spG pc pre res) := by
  refine F.ok S (fun vs H Q E h => ?_) (fun cdv A outer s H vs Q E hr h => ?_)
  · obtain ⟨i, _, h2, _⟩ := h
    rw [← h2.length, hlen]
  · obtain ⟨i, h1, h2, h3⟩ := h
    exact ⟨_, as_run (D' := { nx := fun _ H' => Q .non H', rt := Q }) (body cdv A outer s H E hr i h1) (fun _ H' q => h3 _ H' q.1 q.2) (fun v H' q => h3 v H' q.1 q.2) (fun _ _ z => z.elim) (fun _ _ z => z.elim), rfl, Ex.refl H, start_slots h2⟩
theorem fn_C (F : Fun K x qual st f fd) (S : FnScope N ps (defScope st)) (hlen : ∀ i, (pre i).length = ps.length)
    (body : ∀ (cdv : Value) (A : Around) (outer : List Env) (s : Shared) (H : Hp) (E : XK), Room k (A.deeper (envOfC qual (defScope st) s.heap.objs.size f cdv)) → ∀ i, pc i → AS (cxOf CX0 P w K mg base N qual (defScope st) f cdv A outer s H E).nox (Ma i) (startS N (pre i)) (defBody st) (rtC (Mz i) (rs i))) :
    FnOk P w K mg base CX0 (k + 1) f fd ps (spC pc pre Ma Mz rs) := by
  refine F.ok S (fun vs H Q E h => ?_) (fun cdv A outer s H vs Q E hr h => ?_)
  · obtain ⟨i, _, _, h2, _⟩ := h
    rw [← h2.length, hlen]
  · obtain ⟨i, h1, h0, h2, h3⟩ := h
    exact ⟨_, as_run (D' := { nx := fun _ H' => Q .non H', rt := Q }) (body cdv A outer s H E hr i h1) (fun _ H' q => h3 _ H' q.1 q.2) (fun v H' q => h3 v H' q.1 q.2) (fun _ _ z => z.elim) (fun _ _ z => z.elim), rfl, h0, start_slots h2⟩
end
section
variable {X : Cx} {M : Mb} {ρ : List Sl} {e : Expr} {A B : Ab} {R : RR} {pos : Pos} {rest : List Stmt} {H0 : Hp} {ds : List PyData}
/-- the ways out of a def -/
theorem as_retA (ha : AE X M ρ e A) (hM : ∀ H, M.P H → Ex H0 H) (hA : ∀ H v, M.P H → A.P H v → B.P H v) : AS X M ρ (.Return (some e) pos :: rest) (rtG H0 (rA B)) := as_ret ha fun v H m a => ⟨hM H m, hA H v m a⟩
theorem as_retL (ha : AN X M ρ e ds) (hM : ∀ H, M.P H → Ex H0 H) : AS X M ρ (.Return (some e) pos :: rest) (rtG H0 (rN X.K ds)) := as_retR ha fun H1 v H m ex r => ⟨(hM H1 m).trans ex, rN_back (hM H1 m) r⟩
end
end Ep
set_option maxHeartbeats 4000000
/-! the tuples that stand, carried along -/
namespace Ep
open PySem PySem.Spec PyProof.Rows L2 Evl
/-- M, and every tuple of Hs stands -/
def mK (Hs : Hp) (M : Mb) : Mb := ⟨fun H => Tk Hs H ∧ M.P H, fun e h => ⟨h.1.trans (.of e), M.mono e h.2⟩⟩
def spK {ι : Type} (pc : ι → Prop) (pre : ι → List Ab) (M0 M1 : ι → Mb) (res : ι → Ab) : Sp := fun vs H Q _ => ∃ i, pc i ∧ (M0 i).P H ∧ AbL (pre i) H vs ∧ ∀ v H', Tk H H' → (M1 i).P H' → (res i).P H' v → Q v H'
section
variable {X : Cx} {Hs : Hp} {M M' M1 M2 : Mb} {ρ ρ' ρ0 ρ2 : List Sl} {e a b c o it elt : Expr} {es ifs : List Expr} {A B C : Ab} {As : List Ab} {R R' : RR} {pos apos pos' : Pos} {d d1 d2 : PyData} {x m f : Str} {p : Pos} {k : Nat} {b1 : Bool} {D : Ends} {rest : List Stmt}
variable {ι : Type} {pc : ι → Prop} {pre : ι → List Ab} {Ma Mz : ι → Mb} {res : ι → Ab}
theorem kg_fld {po : Addr} (ho : AE X (mK Hs M) ρ o (Rf po)) (h : ∀ H v, M.P H → A.P H v → ∃ C dx fs, H po = some (.ins C dx fs) ∧ Cls X.K C ∧ NoAttr X.K C f ∧ fs.length < 1000 ∧ M'.P (upd H po (.ins C dx (putF f v fs))))
    (ha : ∀ v, assign (.Attribute o f pos) X.env v = (do
      let ov ← holding [v] (eval o X.env)
      standAt pos.atName
      holding [v, ov] (setAttr ov f v)
      release [v, ov] []) := by intro _; rfl) : AG X (mK Hs M) ρ (.Attribute o f pos) A (mK Hs M') (keepT ρ) :=
  ag_fld ho (fun H v m av => by
    obtain ⟨C, dx, fs, h1, h2, h3, h4, h5⟩ := h H v m.2 av
    exact ⟨C, dx, fs, h1, h2, h3, h4, m.1.trans (Tk.ins h1), h5⟩) ha
theorem kg_sub {i : Int} {l : Addr} (ho : AE X (mK Hs M) ρ o (Rf l)) (hi : AE X (mK Hs M) ρ a (aI X.K i)) (h : ∀ H v, M.P H → A.P H v → ∃ xs j, H l = some (.lst xs) ∧ ixN xs.length i = some j ∧ M'.P (upd H l (.lst (xs.set j v))))
    (ha : ∀ v, assign (.Subscript o a pos) X.env v = (do
      let ov ← holding [v] (eval o X.env)
      let iv ← holding [v, ov] (eval a X.env)
      standAt pos
      holding [v, ov, iv] (setItem ov iv v)
      release [v, ov, iv] []) := by intro _; rfl) : AG X (mK Hs M) ρ (.Subscript o a pos) A (mK Hs M') (keepT ρ) :=
  ag_sub ho hi (fun H v m av => by
    obtain ⟨xs, j, h1, h2, h3⟩ := h H v m.2 av
    exact ⟨xs, j, h1, h2, m.1.trans (Tk.lst h1), h3⟩) ha
theorem ks_fldaug {po : Addr} {i j : Int} (ho : AE X (mK Hs M) ρ o (Rf po)) (hv : AE X (mK Hs M) ρ e (aI X.K j)) (h : ∀ H, M.P H → ∃ C dx fs, H po = some (.ins C dx fs) ∧ Cls X.K C ∧ NoAttr X.K C f ∧ fs.lookup f = some (.int i) ∧ fs.length < 1000 ∧ M'.P (upd H po (.ins C dx (putF f (.int (i + j)) fs))))
    (k : AS X (mK Hs M') (keepT ρ) rest D) {tpos : Pos} : AS X (mK Hs M) ρ (.AugAssign (.Attribute o f tpos) .Add e pos :: rest) D :=
  as_fldaug ho hv (fun H m => by
    obtain ⟨C, dx, fs, h1, h2, h3, h4, h5, h6⟩ := h H m.2
    exact ⟨C, dx, fs, h1, h2, h3, h4, h5, m.1.trans (Tk.ins h1), h6⟩) k
theorem km_append {l : Addr} (ho : AE X (mK Hs M) ρ o (Rf l)) (ha : AE X (mK Hs M) ρ e A) (hL : ∀ H, M.P H → ∃ xs, H l = some (.lst xs)) (h : ∀ H v xs, M.P H → A.P H v → H l = some (.lst xs) → xs.length < 1000 ∧ M'.P (upd H l (.lst (xs ++ [v]))))
    (hbase : attributeBase o "append" X.env (eval o X.env) = eval o X.env := by rfl)
    (hfew : ((backTo pos (starEach [e] X.env)).all (fun x => !x.1) && (backToKw pos (keywordEach [] X.env)).all (fun x => x.1.isSome)
      && decide ([e].length + ([] : List Keyword).length + (if ([] : List Keyword).isEmpty then 0 else 1) < 30)) = true := by rfl)
    (hline : (apos.endLine == pos.line) = true := by rfl) (hs : starEach [e] X.env = (false, eval e X.env) :: starEach [] X.env := by rfl) (hplain : (backTo pos (starEach [] X.env)).any (·.1) = false := by rfl) :
    AM X (mK Hs M) ρ (.Call (.Attribute o "append" apos) [e] [] pos) (mK Hs M') (keepT ρ) (aN X.K) :=
  am_append ho ha (fun H m => hL H m.2) (fun H v xs m av hl => ⟨(h H v xs m.2 av hl).1, m.1.trans (Tk.lst hl), (h H v xs m.2 av hl).2⟩) hbase hfew hline hs hplain
/-- a method that keeps spK, from a body that carries Hs -/
theorem km_meth {C : Addr} {pl : Sem Bool} (ho : AE X (mK Hs M) ρ o A) (hA : Recv (mK Hs M) C m A A) (G : GMt X.prog X.w X.K X.mg X.base k C m (spK pc pre Ma Mz res)) (hr : Room k X.A) (ha : AA X (mK Hs M) ρ (e :: es) As)
    (hM : ∀ H v vs, M.P H → A.P H v → AbL As H vs → ∃ i, pc i ∧ (Ma i).P H ∧ AbL (pre i) H (v :: vs) ∧ ∀ v H', (Mz i).P H' → (res i).P H' v → M'.P H' ∧ B.P H' v)
    (hst : starEach (e :: es) X.env = (false, eval e X.env) :: starEach es X.env := by rfl) (hpl : (backTo pos (starEach es X.env)).any (·.1) = false := by rfl)
    (ht : eval (.Call (.Attribute o m apos) (e :: es) [] pos) X.env = (do
      let ov ← eval o X.env
      standAt apos.atName
      let (f, first) ← holding [ov] (getMethod ov m pl)
      callWith pos f first (backTo pos (starEach (e :: es) X.env)) (backToKw pos (keywordEach [] X.env))) := by rfl) :
    AM X (mK Hs M) ρ (.Call (.Attribute o m apos) (e :: es) [] pos) (mK Hs M') (keepT ρ) B := by
  obtain ⟨f, fd, ps, F, hc, hm, bb⟩ := G
  refine weakE (pe_meth ho hc hm F hr bb .nil pass0 ha hst hpl ht) fun σ H Q ⟨m, sl, q⟩ => ⟨m, sl, fun v H1 e1 a1 => ?_⟩
  obtain ⟨a, dx, fs, ev, h1, h2, h3⟩ := hA H1 v ((mK Hs M).mono e1 m) a1
  refine ⟨a, dx, fs, ev, h1, h2, (mK Hs M).mono e1 m, sl.mono e1, fun vs H2 e2 a2 => ?_⟩
  obtain ⟨i, g1, g2, g3, g4⟩ := hM H2 v vs (M.mono (e1.trans e2) m.2) (A.mono e2 h3) a2
  rw [List.append_nil]
  exact ⟨i, g1, g2, g3, fun v H' t m' r => by
    obtain ⟨j1, j2⟩ := g4 v H' m' r
    exact q v H' ⟨(m.1.trans (.of (e1.trans e2))).trans t, j1⟩ ((sl.mono (e1.trans e2)).keep t) j2⟩
end
section
variable {P : Program} {w : World} {K : PySem.W.Frag} {mg : Str → Option Value} {base : Heap} {x qual : Str} {st : Stmt} {f : Addr} {fd : FuncData} {N ps : List Str} {k : Nat} {ι : Type} {pc : ι → Prop} {pre : ι → List Ab} {Ma Mz : ι → Mb} {rs : ι → Ab}
theorem fn_K (F : Fun K x qual st f fd) (S : FnScope N ps (defScope st)) (hlen : ∀ i, (pre i).length = ps.length)
    (body : ∀ (cdv : Value) (A : Around) (outer : List Env) (s : Shared) (H : Hp) (E : XK), Room k (A.deeper (envOfC qual (defScope st) s.heap.objs.size f cdv)) → ∀ i, pc i → AS (cxOf CX0 P w K mg base N qual (defScope st) f cdv A outer s H E).nox (mK H (Ma i)) (startS N (pre i)) (defBody st) (rtC (mK H (Mz i)) (rs i))) :
    FnOk P w K mg base CX0 (k + 1) f fd ps (spK pc pre Ma Mz rs) := by
  refine F.ok S (fun vs H Q E h => ?_) (fun cdv A outer s H vs Q E hr h => ?_)
  · obtain ⟨i, _, _, h2, _⟩ := h
    rw [← h2.length, hlen]
  · obtain ⟨i, h1, h0, h2, h3⟩ := h
    exact ⟨_, as_run (D' := { nx := fun _ H' => Q .non H', rt := Q }) (body cdv A outer s H E hr i h1) (fun _ H' q => h3 _ H' q.1.1 q.1.2 q.2) (fun v H' q => h3 v H' q.1.1 q.1.2 q.2) (fun _ _ z => z.elim) (fun _ _ z => z.elim), rfl, ⟨Tk.refl H, h0⟩, start_slots h2⟩
end
section
variable {X : Cx} {M M1 : Mb} {ρ : List Sl} {e : Expr} {A B : Ab} {pos : Pos} {rest : List Stmt} {M' : Mb} {ρ' : List Sl}
theorem as_retC (ha : AM X M ρ e M' ρ' A) (hA : ∀ H v, M'.P H → A.P H v → M1.P H ∧ B.P H v) : AS X M ρ (.Return (some e) pos :: rest) (rtC M1 B) := as_retM ha fun v H m a => hA H v m a
theorem as_done (h : ∀ H, M.P H → M1.P H) : AS X M ρ [] (rtC M1 (aN X.K)) := as_nil fun σ H m _ => ⟨h H m, .non⟩
end
end Ep
set_option maxHeartbeats 4000000
/-! what the program computes, as plain functions: rows and states, moves, steps, kept -/
namespace Ep
open PySem PySem.Spec

def oI : Option Int → PyData
  | none => .none
  | some i => .int i
def tS' (l : List Str) : PyData := .tuple (l.map .str)
def tI (l : List Int) : PyData := .tuple (l.map .int)
def tO (l : List (Option Int)) : PyData := .tuple (l.map oI)
/-! ### the switches -/
structure EOwn where
  (epochs behind : Int) (check : Bool) (fetch mark test step : Str) (told : Bool)
structure LOwn where
  (check : Bool) (look chain : Str)
structure SOwn where
  (counts : Int) (still read sleep : Str)
inductive Own where
  | E (o : EOwn) | L (o : LOwn) | S (o : SOwn)
def Own.way : Own → Str
  | .E _ => "epochs" | .L _ => "looks" | .S _ => "still"
/-- a setting: its switches and its counts -/
structure Cfg where
  (own : Own) (nr nt ns nth : Nat)
abbrev Mv := Str × Nat × Str
def mvD (m : Mv) : PyData := .tuple [.str m.1, .int (m.2.1 : Nat), .str m.2.2]
/-- the moves of rows, one behind another -/
def mvs {α : Type} (kind : Str) (deeds : α → List Str) (rows : List α) (k0 : Nat := 0) : List Mv := match rows with
  | [] => []
  | r :: rs => (deeds r).map (fun d => (kind, k0, d)) ++ mvs kind deeds rs (k0 + 1)

/-! ### epochs -/
structure ER where
  (md : Str) (rd wd th : Option Int)
structure ET where
  (md : Str) (rd wd out : Option Int) (seen : Int) (bags : List (List Int))
structure EH where
  (md : Str) (rd wd : Option Int) (at_ : Int)
structure ES where
  (ep spot : Int) (rs : List ER) (ts : List ET) (hs : List EH) (fr : List Int)
def ER.d (r : ER) : PyData := .tuple [.str r.md, oI r.rd, oI r.wd, oI r.th]
def bagsD (b : List (List Int)) : PyData := .tuple (b.map tI)
def ET.d (r : ET) : PyData := .tuple [.str r.md, oI r.rd, oI r.wd, oI r.out, .int r.seen, bagsD r.bags]
def EH.d (r : EH) : PyData := .tuple [.str r.md, oI r.rd, oI r.wd, .int r.at_]
def ES.d (s : ES) : PyData := .tuple [.int s.ep, .int s.spot, .tuple (s.rs.map ER.d), .tuple (s.ts.map ET.d), .tuple (s.hs.map EH.d), tI s.fr]
abbrev Bad := Option (Nat × Option Int)
def badD (k : Nat) (th : Option Int) : PyData := .tuple [.str "unsafe", .int (k : Nat), oI th]
def bad0 : Bad → PyData
  | none => .none
  | some (k, th) => badD k th
def rdTab (m : Str) : List Str := if m = "got" then ["tell"] else if m = "anew" then ["tell"] else if m = "read" then ["write"] else if m = "wrote" then ["check"] else if m = "told" then ["get"] else ["use", "end"]
def tkTab (m : Str) : List Str := if m = "read" then ["write"] else if m = "wrote" then ["check"] else if m = "anew" then ["tell"] else ["mark"]
def stTab (m : Str) : List Str := if m = "read" then ["write"] else if m = "wrote" then ["check"] else if m = "anew" then ["tell"] else if m = "ready" then ["begin"] else if m = "looking" then ["look"] else if m = "passed" then ["step"] else ["leave"]
def eDeedsR (o : EOwn) (r : ER) : List Str := if r.md = "out" then (if o.fetch = "behind" then ["tell"] else ["get"]) else rdTab r.md
def takeIf (spot : Int) (nth : Nat) : List Str := if spot < nth then ["take"] else []
def eDeedsT (o : EOwn) (nth : Nat) (spot : Int) (r : ET) : List Str :=
  if r.md = "idle" then (if o.mark = "fresh" then takeIf spot nth else ["tell"]) ++ (["see"] : List Str) else if r.md = "told" then takeIf spot nth ++ (["leave"] : List Str) else tkTab r.md
def eDeedsH (o : EOwn) (r : EH) : List Str := if r.md = "idle" then (if o.told then ["tell"] else ["begin"]) else stTab r.md
def eMoves (o : EOwn) (nth : Nat) (s : ES) : List Mv := mvs "reader" (eDeedsR o) s.rs ++ mvs "taker" (eDeedsT o nth s.spot) s.ts ++ mvs "stepper" (eDeedsH o) s.hs
def eWords (s : ES) : List (Option Int) := s.rs.map (·.wd) ++ s.ts.map (·.wd) ++ s.hs.map (·.wd)
def eReader (o : EOwn) (s : ES) (k : Nat) (deed : Str) (r : ER) : ES × Bad :=
  let told : Str := if o.fetch = "behind" then "told" else "inside"
  if deed = "tell" then ({ s with rs := s.rs.set k ⟨"read", some s.ep, r.wd, r.th⟩ }, none)
  else if deed = "write" then ({ s with rs := s.rs.set k ⟨if o.check then "wrote" else told, none, r.rd, r.th⟩ }, none)
  else if deed = "check" then ({ s with rs := s.rs.set k ⟨if eqD (.int s.ep) (oI r.wd) then told else "anew", none, r.wd, r.th⟩ }, none)
  else if deed = "get" then ({ s with rs := s.rs.set k ⟨if o.fetch = "ahead" then "got" else "inside", none, r.wd, some s.spot⟩ }, none)
  else if deed = "end" then ({ s with rs := s.rs.set k ⟨"out", none, none, none⟩ }, none)
  else if inD (oI r.th) (s.fr.map .int) then (s, some (k, r.th))
  else (s, none)
/-- the bag that is freed when an epoch is first seen -/
def eAt (o : EOwn) (ep : Int) : Nat := ((ep - o.behind) % o.epochs).toNat
def eSees (o : EOwn) (s : ES) (seen : Int) (bags : List (List Int)) : List Int × Int × List (List Int) :=
  if seen = s.ep then (s.fr, seen, bags)
  else (srt (s.fr ++ (bags[eAt o s.ep]?).getD []), s.ep, bags.take (eAt o s.ep) ++ [[]] ++ bags.drop (eAt o s.ep + 1))
def ePut (bags : List (List Int)) (at_ : Nat) (th : Int) : List (List Int) := bags.take at_ ++ [srt ((bags[at_]?).getD [] ++ [th])] ++ bags.drop (at_ + 1)
def eSeen (o : EOwn) (s : ES) (deed : Str) (r : ET) : List Int × Int × List (List Int) :=
  if deed = "see" ∨ deed = "tell" ∨ deed = "check" ∨ (deed = "mark" ∧ o.mark = "fresh") then eSees o s r.seen r.bags else (s.fr, r.seen, r.bags)
def eTaker (o : EOwn) (s : ES) (k : Nat) (deed : Str) (r : ET) : ES :=
  let q := eSeen o s deed r
  if deed = "tell" then { s with fr := q.1, ts := s.ts.set k ⟨"read", some s.ep, r.wd, r.out, q.2.1, q.2.2⟩ }
  else if deed = "write" then { s with fr := q.1, ts := s.ts.set k ⟨if o.check then "wrote" else "told", none, r.rd, r.out, q.2.1, q.2.2⟩ }
  else if deed = "check" then { s with fr := q.1, ts := s.ts.set k ⟨if eqD (.int s.ep) (oI r.wd) then "told" else "anew", r.rd, r.wd, r.out, q.2.1, q.2.2⟩ }
  else if deed = "take" then { s with spot := s.spot + 1, fr := q.1, ts := s.ts.set k ⟨"took", r.rd, r.wd, some s.spot, q.2.1, q.2.2⟩ }
  else if deed = "mark" then { s with fr := q.1, ts := s.ts.set k ⟨"idle", r.rd, none, none, q.2.1, ePut q.2.2 (if o.mark = "fresh" then s.ep else r.wd.getD 0).toNat (r.out.getD 0)⟩ }
  else if deed = "leave" then { s with fr := q.1, ts := s.ts.set k ⟨"idle", r.rd, none, r.out, q.2.1, q.2.2⟩ }
  else { s with fr := q.1, ts := s.ts.set k ⟨r.md, r.rd, r.wd, r.out, q.2.1, q.2.2⟩ }
def eGoesBy (o : EOwn) (w : Option Int) (rd : Int) : Bool :=
  if eqD (oI w) .none then true else if o.test = "equal" then eqD (oI w) (.int rd) else !eqD (oI w) (.int ((rd - 1) % o.epochs))
def eLooks (o : EOwn) (s : ES) (r : EH) : EH :=
  if !eGoesBy o ((eWords s)[r.at_.toNat]?.getD none) (r.rd.getD 0) then ⟨if o.told then "done" else "idle", none, r.wd, 0⟩
  else if r.at_ + 1 = ((eWords s).length : Int) then ⟨"passed", r.rd, r.wd, 0⟩
  else ⟨"looking", r.rd, r.wd, r.at_ + 1⟩
def eSteps (o : EOwn) (ep rd : Int) : Int :=
  if o.step = "set" then (rd + 1) % o.epochs else if o.step ≠ "still" ∨ ep = rd then (ep + 1) % o.epochs else ep
def eStepper (o : EOwn) (s : ES) (k : Nat) (deed : Str) (r : EH) : ES :=
  if deed = "tell" then { s with hs := s.hs.set k ⟨"read", some s.ep, r.wd, 0⟩ }
  else if deed = "write" then { s with hs := s.hs.set k ⟨if o.check then "wrote" else "ready", none, r.rd, 0⟩ }
  else if deed = "check" then { s with hs := s.hs.set k ⟨if eqD (.int s.ep) (oI r.wd) then "ready" else "anew", none, r.wd, 0⟩ }
  else if deed = "begin" then { s with hs := s.hs.set k ⟨"looking", some s.ep, r.wd, 0⟩ }
  else if deed = "look" then { s with hs := s.hs.set k (eLooks o s r) }
  else if deed = "step" then { s with ep := eSteps o s.ep (r.rd.getD 0), hs := s.hs.set k ⟨if o.told then "done" else "idle", none, r.wd, 0⟩ }
  else { s with hs := s.hs.set k ⟨"idle", none, none, 0⟩ }
def eDo (o : EOwn) (s : ES) (m : Mv) : ES × Bad :=
  if m.1 = "reader" then (match s.rs[m.2.1]? with | some r => eReader o s m.2.1 m.2.2 r | none => (s, none))
  else if m.1 = "taker" then (match s.ts[m.2.1]? with | some r => (eTaker o s m.2.1 m.2.2 r, none) | none => (s, none))
  else (match s.hs[m.2.1]? with | some r => (eStepper o s m.2.1 m.2.2 r, none) | none => (s, none))
def eFirst (o : EOwn) (c : Cfg) : ES := ⟨0, 0, List.replicate c.nr ⟨"out", none, none, none⟩, List.replicate c.nt ⟨"idle", none, none, none, 0, List.replicate o.epochs.toNat []⟩, List.replicate c.ns ⟨"idle", none, none, 0⟩, []⟩

/-! ### looks -/
structure LR where
  (md : Str) (a b wd ot : Option Int)
structure LT where
  (md : Str) (at_ : Int) (found bag : List Int)
structure LS where
  (spot : Int) (rs : List LR) (ts : List LT) (fr : List Int)
def LR.d (r : LR) : PyData := .tuple [.str r.md, oI r.a, oI r.b, oI r.wd, oI r.ot]
def LT.d (r : LT) : PyData := .tuple [.str r.md, .int r.at_, tI r.found, tI r.bag]
def LS.d (s : LS) : PyData := .tuple [.int s.spot, .tuple (s.rs.map LR.d), .tuple (s.ts.map LT.d), tI s.fr]
def lWords (o : LOwn) (s : LS) : List (Option Int) := if o.chain = "none" then s.rs.map (·.wd) else s.rs.flatMap fun r => [r.wd, r.ot]
def lDeedsR (o : LOwn) (r : LR) : List Str :=
  if r.md = "out" then (if r.wd = none ∧ r.ot = none then ["get"] else ["get", "clear"])
  else if r.md = "inside" then (if o.chain = "none" then ["use", "clear"] else ["use", "next", "clear"])
  else if r.md = "pair" then ["use", "other", "clear"]
  else if r.md = "got" ∨ r.md = "next" then ["publish"] else ["check"]
def lDeedsT (o : LOwn) (nth : Nat) (spot : Int) (r : LT) : List Str :=
  if r.md = "looking" then ["look"]
  else if o.look = "behind" then (if r.md = "looked" then ["free"] else takeIf spot nth ++ (if r.bag ≠ [] then (["round"] : List Str) else []))
  else if r.md = "idle" then ["round"]
  else if r.md = "took" then ["free"]
  else takeIf spot nth ++ (if r.bag ≠ [] then (["free"] : List Str) else [])
def lMoves (o : LOwn) (nth : Nat) (s : LS) : List Mv := mvs "reader" (lDeedsR o) s.rs ++ mvs "taker" (lDeedsT o nth s.spot) s.ts
def lReader (o : LOwn) (s : LS) (k : Nat) (deed : Str) (r : LR) : LS × Bad :=
  if deed = "get" then ({ s with rs := s.rs.set k ⟨"got", some s.spot, none, r.wd, r.ot⟩ }, none)
  else if deed = "publish" ∧ r.md = "got" then ({ s with rs := s.rs.set k ⟨if o.check then "wrote" else "inside", r.a, none, r.a, r.ot⟩ }, none)
  else if deed = "publish" then ({ s with rs := s.rs.set k ⟨"linked", r.a, r.b, r.wd, r.b⟩ }, none)
  else if deed = "check" ∧ r.md = "wrote" then ({ s with rs := s.rs.set k (if eqD (.int s.spot) (oI r.a) then ⟨"inside", r.a, none, r.wd, r.ot⟩ else ⟨"out", none, none, r.wd, r.ot⟩) }, none)
  else if deed = "check" then ({ s with rs := s.rs.set k (if o.chain = "next" ∨ eqD (.int s.spot) (oI r.a) = true then ⟨"pair", r.a, r.b, r.wd, r.ot⟩ else ⟨"inside", r.a, none, r.wd, r.ot⟩) }, none)
  else if deed = "next" then ({ s with rs := s.rs.set k ⟨"next", r.a, some (r.a.getD 0 + 1), r.wd, r.ot⟩ }, none)
  else if deed = "clear" then ({ s with rs := s.rs.set k ⟨"out", none, none, none, none⟩ }, none)
  else if inD (oI (if deed = "use" then r.a else r.b)) (s.fr.map .int) then (s, some (k, if deed = "use" then r.a else r.b))
  else (s, none)
def lFound (w : Option Int) (found : List Int) : List Int := match w with
  | none => found
  | some x => if x ∈ found then found else srt (found ++ [x])
def lTaker (o : LOwn) (s : LS) (k : Nat) (deed : Str) (r : LT) : LS :=
  if deed = "take" then { s with spot := s.spot + 1, ts := s.ts.set k ⟨if o.look = "behind" then "idle" else "took", r.at_, r.found, r.bag ++ [s.spot]⟩ }
  else if deed = "round" then { s with ts := s.ts.set k ⟨"looking", 0, [], r.bag⟩ }
  else if deed = "look" then
    (let f := lFound ((lWords o s)[r.at_.toNat]?.getD none) r.found
     if r.at_ + 1 = ((lWords o s).length : Int) then { s with ts := s.ts.set k ⟨"looked", 0, f, r.bag⟩ } else { s with ts := s.ts.set k ⟨r.md, r.at_ + 1, f, r.bag⟩ })
  else { s with fr := srt (s.fr ++ r.bag.filter fun x => !decide (x ∈ r.found)), ts := s.ts.set k ⟨"idle", r.at_, [], r.bag.filter fun x => decide (x ∈ r.found)⟩ }
def lDo (o : LOwn) (s : LS) (m : Mv) : LS × Bad :=
  if m.1 = "reader" then (match s.rs[m.2.1]? with | some r => lReader o s m.2.1 m.2.2 r | none => (s, none))
  else (match s.ts[m.2.1]? with | some r => (lTaker o s m.2.1 m.2.2 r, none) | none => (s, none))
def lFirst (c : Cfg) : LS := ⟨0, List.replicate c.nr ⟨"out", none, none, none, none⟩, List.replicate c.nt ⟨"idle", 0, [], []⟩, []⟩

/-! ### stills -/
structure SR where
  (md : Str) (ct : Int) (fl : Bool) (th : Option Int)
structure ST where
  (md : Str) (at_ : Int) (noted : List Int) (out : Option Int)
structure SS where
  (spot : Int) (rs : List SR) (ts : List ST) (fr : List Int)
def SR.d (r : SR) : PyData := .tuple [.str r.md, .int r.ct, .bool r.fl, oI r.th]
def ST.d (r : ST) : PyData := .tuple [.str r.md, .int r.at_, tI r.noted, oI r.out]
def SS.d (s : SS) : PyData := .tuple [.int s.spot, .tuple (s.rs.map SR.d), .tuple (s.ts.map ST.d), tI s.fr]
def sDeedsR (o : SOwn) (r : SR) : List Str :=
  if r.md = "inside" then ((["use", "end"] : List Str) ++ (if o.still = "anywhere" ∧ r.fl = false then (["still"] : List Str) else [])) ++ (if r.fl then (["wake"] : List Str) else if o.sleep = "inside" then ["sleep"] else [])
  else if r.fl then (if o.sleep = "late" then ["get", "wake"] else ["wake"])
  else if o.sleep = "none" then ["get", "still"] else ["get", "still", "sleep"]
def sDeedsT (o : SOwn) (nth : Nat) (spot : Int) (r : ST) : List Str :=
  if r.md = "idle" then (if o.read = "behind" then takeIf spot nth else ["note"])
  else if r.md = "noted" then takeIf spot nth
  else if r.md = "noting" then ["note"] else if r.md = "waiting" then ["look"] else ["free"]
def sMoves (o : SOwn) (nth : Nat) (s : SS) : List Mv := mvs "reader" (sDeedsR o) s.rs ++ mvs "taker" (sDeedsT o nth s.spot) s.ts
def sReader (o : SOwn) (s : SS) (k : Nat) (deed : Str) (r : SR) : SS × Bad :=
  if deed = "get" then ({ s with rs := s.rs.set k ⟨"inside", r.ct, r.fl, some s.spot⟩ }, none)
  else if deed = "end" then ({ s with rs := s.rs.set k ⟨"out", r.ct, r.fl, none⟩ }, none)
  else if deed = "still" then ({ s with rs := s.rs.set k ⟨r.md, (r.ct + 1) % o.counts, r.fl, r.th⟩ }, none)
  else if deed = "sleep" ∨ deed = "wake" then ({ s with rs := s.rs.set k ⟨r.md, r.ct, decide (deed = "sleep"), r.th⟩ }, none)
  else if inD (oI r.th) (s.fr.map .int) then (s, some (k, r.th))
  else (s, none)
def sNoted (o : SOwn) (s : SS) (at_ : Int) (noted : List Int) : Str × Int × List Int :=
  let n := noted ++ [((s.rs[at_.toNat]?).map (·.ct)).getD 0]
  if at_ + 1 < (s.rs.length : Int) then ("noting", at_ + 1, n) else (if o.read = "behind" then "waiting" else "noted", 0, n)
def sLooked (s : SS) (at_ : Int) (noted : List Int) (r : SR) : Str × Int :=
  if r.ct = (noted[at_.toNat]?).getD 0 ∧ r.fl = false then ("waiting", at_)
  else if at_ + 1 < (s.rs.length : Int) then ("waiting", at_ + 1) else ("passed", 0)
def sTaker (o : SOwn) (s : SS) (k : Nat) (deed : Str) (r : ST) : SS :=
  if deed = "take" then { s with spot := s.spot + 1, ts := s.ts.set k ⟨if o.read = "behind" then "noting" else "waiting", 0, r.noted, some s.spot⟩ }
  else if deed = "note" then (let q := sNoted o s r.at_ r.noted; { s with ts := s.ts.set k ⟨q.1, q.2.1, q.2.2, r.out⟩ })
  else if deed = "look" then (match s.rs[r.at_.toNat]? with | some x => (let q := sLooked s r.at_ r.noted x; { s with ts := s.ts.set k ⟨q.1, q.2, r.noted, r.out⟩ }) | none => s)
  else { s with fr := srt (s.fr ++ [r.out.getD 0]), ts := s.ts.set k ⟨"idle", r.at_, [], none⟩ }
def sDo (o : SOwn) (s : SS) (m : Mv) : SS × Bad :=
  if m.1 = "reader" then (match s.rs[m.2.1]? with | some r => sReader o s m.2.1 m.2.2 r | none => (s, none))
  else (match s.ts[m.2.1]? with | some r => (sTaker o s m.2.1 m.2.2 r, none) | none => (s, none))
def sFirst (c : Cfg) : SS := ⟨0, List.replicate c.nr ⟨"out", 0, false, none⟩, List.replicate c.nt ⟨"idle", 0, [], none⟩, []⟩

/-! ### any of the three -/
inductive Sta where
  | E (s : ES) | L (s : LS) | S (s : SS) | bad (k : Nat) (th : Option Int)
def Sta.d : Sta → PyData
  | .E s => s.d | .L s => s.d | .S s => s.d | .bad k th => badD k th
def firstS (c : Cfg) : Sta := match c.own with
  | .E o => .E (eFirst o c) | .L _ => .L (lFirst c) | .S _ => .S (sFirst c)
def movesS (c : Cfg) (s : Sta) : List Mv := match c.own, s with
  | .E o, .E s => eMoves o c.nth s
  | .L o, .L s => lMoves o c.nth s
  | .S o, .S s => sMoves o c.nth s
  | _, _ => []
def outS {α : Type} (f : α → Sta) (p : α × Bad) : Sta := match p.2 with
  | some (k, th) => .bad k th
  | none => f p.1
def stepS (c : Cfg) (s : Sta) (m : Mv) : Sta := match c.own, s with
  | .E o, .E s => outS .E (eDo o s m)
  | .L o, .L s => outS .L (lDo o s m)
  | .S o, .S s => outS .S (sDo o s m)
  | _, s => s
def oL : Option Int → List Int
  | none => [] | some i => [i]
def heldS : Sta → List Int
  | .E s => s.ts.flatMap fun t => oL t.out ++ t.bags.flatten
  | .L s => s.ts.flatMap fun t => t.bag
  | .S s => s.ts.flatMap fun t => oL t.out
  | .bad _ _ => []
def keptS (s : Sta) : List Int := srt (heldS s)
def freedS : Sta → List Int
  | .E s => s.fr | .L s => s.fr | .S s => s.fr | .bad _ _ => []
def spotS : Sta → Int
  | .E s => s.spot | .L s => s.spot | .S s => s.spot | .bad _ _ => 0
end Ep
set_option maxHeartbeats 4000000
/-! the program's objects: what stands where -/
namespace Ep
open PySem PySem.Spec PyProof.Rows L2 Evl
def top (i : Nat) : Stmt := PySem.Challenge.pw_epochrooms_k63_whole_kept_things_counted.main.body.getD i (.Pass ⟨0, 0, 0, 0⟩)
/-- where the classes stand -/
structure Adr where
  (EB LB SB EW LW SW SE BE : Addr)
/-- a class of the text: plain, and none of its fields is a name of the class -/
structure TxC (K : PySem.W.Frag) (C : Addr) (fs : List Str) : Prop where
  cl : Cls K C
  na : ∀ f ∈ fs, NoAttr K C f
def Own.cls (a : Adr) : Own → Addr
  | .E _ => a.EB | .L _ => a.LB | .S _ => a.SB
def kvsE (o : EOwn) : List (Key × V) := [(.inr "epochs", .int o.epochs), (.inr "behind", .int o.behind), (.inr "check", .bl o.check), (.inr "fetch", .str o.fetch), (.inr "mark", .str o.mark), (.inr "test", .str o.test), (.inr "step", .str o.step), (.inr "told", .bl o.told)]
def kvsL (o : LOwn) : List (Key × V) := [(.inr "check", .bl o.check), (.inr "look", .str o.look), (.inr "chain", .str o.chain)]
def kvsS (o : SOwn) : List (Key × V) := [(.inr "counts", .int o.counts), (.inr "still", .str o.still), (.inr "read", .str o.read), (.inr "sleep", .str o.sleep)]
def kvsO : Own → List (Key × V)
  | .E o => kvsE o | .L o => kvsL o | .S o => kvsS o
section
variable (K : PySem.W.Frag) (a : Adr)
def IsBook (H : Hp) (b : Addr) (o : Own) : Prop := ∃ dx d l, H b = some (.ins (o.cls a) dx [("own", .ref d), ("order", .ref l)]) ∧ H d = some (.dK (kvsO o))
def handsD (c : Cfg) : PyData := .tuple [.int (c.nr : Nat), .int (c.nt : Nat), .int (c.ns : Nat), .int (c.nth : Nat)]
def IsSet (H : Hp) (s : Addr) (c : Cfg) : Prop := ∃ dx b t, H s = some (.ins a.SE dx [("kept", .ref b), ("hands", t)]) ∧ IsBook a H b c.own ∧ Dt K H t (handsD c)
variable {K} {a}
theorem IsBook.mono {H H' : Hp} {b : Addr} {o : Own} (e : Ex H H') (h : IsBook a H b o) : IsBook a H' b o := by
  obtain ⟨dx, d, l, h1, h2⟩ := h
  exact ⟨dx, d, l, e _ _ h1, e _ _ h2⟩
theorem IsSet.mono {H H' : Hp} {s : Addr} {c : Cfg} (e : Ex H H') (h : IsSet K a H s c) : IsSet K a H' s c := by
  obtain ⟨dx, b, t, h1, h2, h3⟩ := h
  exact ⟨dx, b, t, e _ _ h1, h2.mono e, h3.mono (.of e)⟩
variable (K) (a)
def aBook (o : Own) : Ab := ⟨fun H v => ∃ b, v = .ref b ∧ IsBook a H b o, fun e ⟨b, h1, h2⟩ => ⟨b, h1, h2.mono e⟩, false, fun z => by cases z⟩
def aSet (c : Cfg) : Ab := ⟨fun H v => ∃ b, v = .ref b ∧ IsSet K a H b c, fun e ⟨b, h1, h2⟩ => ⟨b, h1, h2.mono e⟩, false, fun z => by cases z⟩
/-- a dict of a book's switches -/
def aOwn (o : Own) : Ab := ⟨fun H v => ∃ p, v = .ref p ∧ H p = some (.dK (kvsO o)), fun e ⟨b, h1, h2⟩ => ⟨b, h1, e _ _ h2⟩, false, fun z => by cases z⟩
/-! ### worlds -/
/-- where a world's parts stand: itself, its dict, the setting, the switches, the rows -/
structure Wad where
  (p dx s d lr lt ls : Addr)
/-- a list with data, at a place -/
def LAt (H : Hp) (l : Addr) (ds : List PyData) : Prop := ∃ vs, H l = some (.lst vs) ∧ DtL K H vs ds
variable {K} in
theorem LAt.mono {H H' : Hp} {l : Addr} {ds : List PyData} (e : Ex H H') (h : LAt K H l ds) : LAt K H' l ds := by
  obtain ⟨vs, h1, h2⟩ := h
  exact ⟨vs, e _ _ h1, h2.mono (.of e)⟩
/-- what H0 holds, and the world over it -/
structure ECore (H0 : Hp) (q : Wad) (c : Cfg) (o : EOwn) (s : ES) (bad : Bad) (H : Hp) : Prop where
  ex : Ex H0 H
  own : c.own = .E o
  set : IsSet K a H0 q.s c
  dic : H0 q.d = some (.dK (kvsE o))
  np : H0 q.p = none
  nr : H0 q.lr = none
  nt : H0 q.lt = none
  ns : H0 q.ls = none
  rt : q.lr ≠ q.lt
  rs : q.lr ≠ q.ls
  ts : q.lt ≠ q.ls
  rows : LAt K H q.lr (s.rs.map ER.d)
  taks : LAt K H q.lt (s.ts.map ET.d)
  stps : LAt K H q.ls (s.hs.map EH.d)
  ins : ∃ lf vb, H q.p = some (.ins a.EW q.dx [("setting", .ref q.s), ("own", .ref q.d), ("epoch", .int s.ep), ("spot", .int s.spot), ("reader_rows", .ref q.lr), ("taker_rows", .ref q.lt), ("stepper_rows", .ref q.ls), ("freed", .ref lf), ("bad", vb)]) ∧
    H lf = some (.lst (s.fr.map .int)) ∧ Dt K H vb (bad0 bad) ∧ lf ≠ q.lr ∧ lf ≠ q.lt ∧ lf ≠ q.ls
variable {K} {a}
theorem ECore.mono {H0 H H' : Hp} {q : Wad} {c : Cfg} {o : EOwn} {s : ES} {bad : Bad} (e : Ex H H') (h : ECore K a H0 q c o s bad H) : ECore K a H0 q c o s bad H' := by
  obtain ⟨lf, vb, h1, h2, h3, h4⟩ := h.ins
  exact { h with ex := h.ex.trans e, rows := h.rows.mono e, taks := h.taks.mono e, stps := h.stps.mono e, ins := ⟨lf, vb, e _ _ h1, e _ _ h2, h3.mono (.of e), h4⟩ }
variable (K) (a)
def mEW (H0 : Hp) (q : Wad) (c : Cfg) (o : EOwn) (s : ES) (bad : Bad) : Mb := ⟨ECore K a H0 q c o s bad, fun e h => h.mono e⟩
def aEW (c : Cfg) (o : EOwn) (s : ES) (bad : Bad) : Ab := ⟨fun H v => ∃ (H0 : Hp) (q : Wad), v = V.ref q.p ∧ ECore K a H0 q c o s bad H, fun e h => by
  obtain ⟨H0, q, h1, h2⟩ := h
  exact ⟨H0, q, h1, h2.mono e⟩, false, fun z => by cases z⟩
variable {K} {a}
variable {X : Cx} {M : Mb} {ρ : List Sl} {e : Expr} {c : Cfg} {o : EOwn} {s : ES} {bad : Bad} {H0 Hs : Hp} {q : Wad}
def fsEW : List Str := ["setting", "own", "epoch", "spot", "reader_rows", "taker_rows", "stepper_rows", "freed", "bad"]
theorem ae_self (h : AE X (mK Hs (mEW K a H0 q c o s bad)) ρ e (Rf q.p)) : AE X (mK Hs (mEW K a H0 q c o s bad)) ρ e (aEW K a c o s bad) := ae_view h fun H v m e => ⟨H0, q, e, m.2⟩
section
theorem fe_own (T : TxC K a.EW fsEW) : FldAt K M (aEW K a c o s bad) "own" (aOwn (.E o)) := fun H v _ h => by
  obtain ⟨H0, q, h1, h⟩ := h
  obtain ⟨lf, vb, h2, _⟩ := h.ins
  exact ⟨_, _, _, _, _, h1, h2, T.cl, T.na _ (by decide), rfl, _, rfl, h.ex _ _ h.dic⟩
theorem fe_set (T : TxC K a.EW fsEW) : FldAt K M (aEW K a c o s bad) "setting" (aSet K a c) := fun H v _ h => by
  obtain ⟨H0, q, h1, h⟩ := h
  obtain ⟨lf, vb, h2, _⟩ := h.ins
  exact ⟨_, _, _, _, _, h1, h2, T.cl, T.na _ (by decide), rfl, _, rfl, h.set.mono h.ex⟩
theorem fe_ep (T : TxC K a.EW fsEW) : FldAt K M (aEW K a c o s bad) "epoch" (aI K s.ep) := fun H v _ h => by
  obtain ⟨H0, q, h1, h⟩ := h
  obtain ⟨lf, vb, h2, _⟩ := h.ins
  exact ⟨_, _, _, _, _, h1, h2, T.cl, T.na _ (by decide), rfl, .int _⟩
theorem fe_spot (T : TxC K a.EW fsEW) : FldAt K M (aEW K a c o s bad) "spot" (aI K s.spot) := fun H v _ h => by
  obtain ⟨H0, q, h1, h⟩ := h
  obtain ⟨lf, vb, h2, _⟩ := h.ins
  exact ⟨_, _, _, _, _, h1, h2, T.cl, T.na _ (by decide), rfl, .int _⟩
theorem fe_rr (T : TxC K a.EW fsEW) : FldAt K M (aEW K a c o s bad) "reader_rows" (LD K (s.rs.map ER.d)) := fun H v _ h => by
  obtain ⟨H0, q, h1, h⟩ := h
  obtain ⟨lf, vb, h2, _⟩ := h.ins
  obtain ⟨vs, h3, h4⟩ := h.rows
  exact ⟨_, _, _, _, _, h1, h2, T.cl, T.na _ (by decide), rfl, _, vs, rfl, h3, h4⟩
theorem fe_tr (T : TxC K a.EW fsEW) : FldAt K M (aEW K a c o s bad) "taker_rows" (LD K (s.ts.map ET.d)) := fun H v _ h => by
  obtain ⟨H0, q, h1, h⟩ := h
  obtain ⟨lf, vb, h2, _⟩ := h.ins
  obtain ⟨vs, h3, h4⟩ := h.taks
  exact ⟨_, _, _, _, _, h1, h2, T.cl, T.na _ (by decide), rfl, _, vs, rfl, h3, h4⟩
theorem fe_sr (T : TxC K a.EW fsEW) : FldAt K M (aEW K a c o s bad) "stepper_rows" (LD K (s.hs.map EH.d)) := fun H v _ h => by
  obtain ⟨H0, q, h1, h⟩ := h
  obtain ⟨lf, vb, h2, _⟩ := h.ins
  obtain ⟨vs, h3, h4⟩ := h.stps
  exact ⟨_, _, _, _, _, h1, h2, T.cl, T.na _ (by decide), rfl, _, vs, rfl, h3, h4⟩
theorem fe_fr (T : TxC K a.EW fsEW) : FldAt K M (aEW K a c o s bad) "freed" (LD K (s.fr.map .int)) := fun H v _ h => by
  obtain ⟨H0, q, h1, h⟩ := h
  obtain ⟨lf, vb, h2, h3, _⟩ := h.ins
  exact ⟨_, _, _, _, _, h1, h2, T.cl, T.na _ (by decide), rfl, _, _, rfl, h3, DtL.ofInts⟩
theorem fe_bad (T : TxC K a.EW fsEW) : FldAt K M (aEW K a c o s bad) "bad" (D K (bad0 bad)) := fun H v _ h => by
  obtain ⟨H0, q, h1, h⟩ := h
  obtain ⟨lf, vb, h2, _, h3, _⟩ := h.ins
  exact ⟨_, _, _, _, _, h1, h2, T.cl, T.na _ (by decide), rfl, h3⟩
end
end
end Ep
set_option maxHeartbeats 4000000
/-! short forms; the setting's properties; stores into an epoch world -/
namespace Ep
open PySem PySem.Spec PyProof.Rows L2 Evl
section
variable {X : Cx} {M M' : Mb} {ρ : List Sl} {e o a b c : Expr} {es : List Expr} {A B : Ab} {As : List Ab} {pos apos : Pos} {m f x : Str} {k : Nat} {b1 : Bool} {s1 s2 : Str}
variable {ι : Type} {pc : ι → Prop} {pre : ι → List Ab} {rs : ι → Ab}
theorem ae_meth {C : Addr} {pl : Sem Bool} (ho : AE X M ρ o A) (hA : Recv M C m A B) (G : GMt X.prog X.w X.K X.mg X.base k C m (spG pc pre fun i => rA (rs i))) (hr : Room k X.A) (i : ι) (hi : pc i) (hp : pre i = B :: As) (ha : AA X M ρ (e :: es) As) {Z : Ab} (hZ : rs i = Z := by rfl)
    (hst : starEach (e :: es) X.env = (false, eval e X.env) :: starEach es X.env := by rfl) (hpl : (backTo pos (starEach es X.env)).any (·.1) = false := by rfl)
    (ht : eval (.Call (.Attribute o m apos) (e :: es) [] pos) X.env = (do
      let ov ← eval o X.env
      standAt apos.atName
      let (f, first) ← holding [ov] (getMethod ov m pl)
      callWith pos f first (backTo pos (starEach (e :: es) X.env)) (backToKw pos (keywordEach [] X.env))) := by rfl) :
    AE X M ρ (.Call (.Attribute o m apos) (e :: es) [] pos) Z := hZ ▸ ar_meth ho hA G hr i hi hp ha (fun _ _ _ _ _ h => h) hst hpl ht
theorem ae_meth0 {C : Addr} {pl : Sem Bool} (ho : AE X M ρ o A) (hA : Recv M C m A B) (G : GMt X.prog X.w X.K X.mg X.base k C m (spG pc pre fun i => rA (rs i))) (hr : Room k X.A) (i : ι) (hi : pc i) (hp : pre i = [B]) {Z : Ab} (hZ : rs i = Z := by rfl)
    (ht : eval (.Call (.Attribute o m apos) [] [] pos) X.env = (do
      let ov ← eval o X.env
      standAt apos.atName
      let (f, first) ← holding [ov] (getMethod ov m pl)
      callWith pos f first (backTo pos (starEach [] X.env)) (backToKw pos (keywordEach [] X.env))) := by rfl) :
    AE X M ρ (.Call (.Attribute o m apos) [] [] pos) Z := hZ ▸ ar_meth0 ho hA G hr i hi hp (fun _ _ _ _ _ h => h) ht
theorem ae_prop {C : Addr} (ho : AE X M ρ o A) (hA : ∀ H v, M.P H → A.P H v → ∃ a dx fs, v = .ref a ∧ H a = some (.ins C dx fs) ∧ B.P H v) (G : GPr X.prog X.w X.K X.mg X.base k C f (spG pc pre fun i => rA (rs i))) (hr : Room (k + 1) X.A) (i : ι) (hi : pc i) (hp : pre i = [B]) {Z : Ab} (hZ : rs i = Z := by rfl)
    (hab : attributeBase o f X.env (eval o X.env) = eval o X.env := by rfl) : AE X M ρ (.Attribute o f pos) Z := hZ ▸ ar_prop ho hA G hr i hi hp (fun _ _ _ _ _ h => h) hab
theorem ae_ifS (hc : AT X M ρ c b1) (h1 : b1 = true → AE X M ρ a (aS X.K s1)) (h2 : b1 = false → AE X M ρ b (aS X.K s2)) : AE X M ρ (.IfExp c a b pos) (aS X.K (if b1 = true then s1 else s2)) :=
  ae_if hc (fun h => by rw [if_pos h]; exact h1 h) (fun h => by rw [if_neg (by rw [h]; decide)]; exact h2 h)
theorem ae_ifT (hc : AT X M ρ c b1) {l1 l2 : List PyData} (h1 : b1 = true → AE X M ρ a (D X.K (.tuple l1))) (h2 : b1 = false → AE X M ρ b (D X.K (.tuple l2))) : AE X M ρ (.IfExp c a b pos) (D X.K (.tuple (if b1 = true then l1 else l2))) :=
  ae_if hc (fun h => by rw [if_pos h]; exact h1 h) (fun h => by rw [if_neg (by rw [h]; decide)]; exact h2 h)
theorem at_eq {b2 : Bool} (h : AT X M ρ e b1) (w : b1 = b2) : AT X M ρ e b2 := w ▸ h
theorem ae_dat {d d' : PyData} (h : AE X M ρ e (D X.K d)) (w : d = d') : AE X M ρ e (D X.K d') := w ▸ h
end
theorem d_cl {K : PySem.W.Frag} {H : Hp} {v : V} {d d' : PyData} (h : (D K d).P H v) (e : d = d') : (D K d').P H v := e ▸ h
theorem eqD_str {x y : Str} : eqD (.str x) (.str y) = decide (x = y) := rfl
theorem eqD_int {x y : Int} : eqD (.int x) (.int y) = decide (x = y) := rfl
theorem eqD_bool {x y : Bool} : eqD (.bool x) (.bool y) = decide (x = y) := rfl
theorem scD_oI (o : Option Int) (i : Int) : scD (.int i) (oI o) = true := by cases o <;> rfl
theorem scD_oI' (o : Option Int) (i : Int) : scD (oI o) (.int i) = true := by cases o <;> rfl
theorem scD_oo (o p : Option Int) : scD (oI o) (oI p) = true := by cases o <;> cases p <;> rfl
theorem flat_oI (o : Option Int) : flatD (oI o) = true := by cases o <;> rfl
theorem flat_ints (l : List Int) : (l.map PyData.int).all flatD = true := by simp [flatD]
theorem flat_strs (l : List Str) : (l.map PyData.str).all flatD = true := by simp [flatD]
/-- the list's place for a number that is a place -/
theorem ixN_nat {n k : Nat} (h : k < n) : ixN n (k : Int) = some k := by
  unfold ixN
  rw [if_pos (by omega), if_pos (by omega), Int.toNat_natCast]
theorem atI_nat' {α : Type} {xs : List α} {k : Nat} {v : α} (h : xs[k]? = some v) : atI xs (k : Int) = some v := atI_nat h
theorem atI_zero {α : Type} (x : α) (xs : List α) : atI (x :: xs) 0 = some x := atI_nat (j := 0) rfl
section
variable {P : Program} {w : World} {K : PySem.W.Frag} {mg : Str → Option Value} {base : Heap} {a : Adr}
/-! ### the setting -/
def fsSE : List Str := ["kept", "hands"]
theorem fset_kept {M : Mb} {c : Cfg} (T : TxC K a.SE fsSE) : FldAt K M (aSet K a c) "kept" (aBook a c.own) := fun H v _ h => by
  obtain ⟨s, h1, dx, b, t, h2, h3, h4⟩ := h
  exact ⟨_, _, _, _, _, h1, h2, T.cl, T.na _ (by decide), rfl, _, rfl, h3⟩
theorem fset_hands {M : Mb} {c : Cfg} (T : TxC K a.SE fsSE) : FldAt K M (aSet K a c) "hands" (D K (handsD c)) := fun H v _ h => by
  obtain ⟨s, h1, dx, b, t, h2, h3, h4⟩ := h
  exact ⟨_, _, _, _, _, h1, h2, T.cl, T.na _ (by decide), rfl, h4⟩
theorem set_ins {M : Mb} {c : Cfg} : ∀ H v, M.P H → (aSet K a c).P H v → ∃ p dx fs, v = .ref p ∧ H p = some (.ins a.SE dx fs) ∧ (aSet K a c).P H v := fun H v _ h => by
  obtain ⟨s, h1, dx, b, t, h2, h3, h4⟩ := id h
  exact ⟨_, _, _, h1, h2, h⟩
abbrev s_set (j : Nat) : Stmt := inClass (top 41) j
abbrev spProp (K : PySem.W.Frag) (a : Adr) (g : Cfg → PyData) : Sp := spG (ι := Cfg) (fun _ => True) (fun c => [aSet K a c]) fun c => rA (D K (g c))
theorem sc_set2 : FnScope ["self"] ["self"] (defScope (s_set 2)) := ⟨rfl, rfl, rfl, by decide +kernel, rfl, by decide +kernel, by decide +kernel⟩
theorem ok_set2 {f : Addr} {fd : FuncData} (F : Fun K "readers" "Setting.readers" (s_set 2) f fd) (T : TxC K a.SE fsSE) : FnOk P w K mg base CX0 1 f fd ["self"] (spProp K a fun c => .int (c.nr : Nat)) := by
  refine fn_G F sc_set2 (fun _ => rfl) fun cdv A outer s H E hr i hi => ?_
  exact as_ret (ae_ixT (ae_fld (av 0) (fset_hands T)) ae_int rfl) (fun v H1 m h => ⟨m, h⟩)
theorem sc_set3 : FnScope ["self"] ["self"] (defScope (s_set 3)) := ⟨rfl, rfl, rfl, by decide +kernel, rfl, by decide +kernel, by decide +kernel⟩
theorem ok_set3 {f : Addr} {fd : FuncData} (F : Fun K "takers" "Setting.takers" (s_set 3) f fd) (T : TxC K a.SE fsSE) : FnOk P w K mg base CX0 1 f fd ["self"] (spProp K a fun c => .int (c.nt : Nat)) := by
  refine fn_G F sc_set3 (fun _ => rfl) fun cdv A outer s H E hr i hi => ?_
  exact as_ret (ae_ixT (ae_fld (av 0) (fset_hands T)) ae_int rfl) (fun v H1 m h => ⟨m, h⟩)
theorem sc_set4 : FnScope ["self"] ["self"] (defScope (s_set 4)) := ⟨rfl, rfl, rfl, by decide +kernel, rfl, by decide +kernel, by decide +kernel⟩
theorem ok_set4 {f : Addr} {fd : FuncData} (F : Fun K "steppers" "Setting.steppers" (s_set 4) f fd) (T : TxC K a.SE fsSE) : FnOk P w K mg base CX0 1 f fd ["self"] (spProp K a fun c => .int (c.ns : Nat)) := by
  refine fn_G F sc_set4 (fun _ => rfl) fun cdv A outer s H E hr i hi => ?_
  exact as_ret (ae_ixT (ae_fld (av 0) (fset_hands T)) ae_int rfl) (fun v H1 m h => ⟨m, h⟩)
theorem sc_set5 : FnScope ["self"] ["self"] (defScope (s_set 5)) := ⟨rfl, rfl, rfl, by decide +kernel, rfl, by decide +kernel, by decide +kernel⟩
theorem ok_set5 {f : Addr} {fd : FuncData} (F : Fun K "things" "Setting.things" (s_set 5) f fd) (T : TxC K a.SE fsSE) : FnOk P w K mg base CX0 1 f fd ["self"] (spProp K a fun c => .int (c.nth : Nat)) := by
  refine fn_G F sc_set5 (fun _ => rfl) fun cdv A outer s H E hr i hi => ?_
  exact as_ret (ae_ixT (ae_fld (av 0) (fset_hands T)) ae_int rfl) (fun v H1 m h => ⟨m, h⟩)
/-! ### stores -/
variable {M : Mb} {c : Cfg} {o : EOwn} {s : ES} {bad : Bad} {H0 Hs : Hp} {q : Wad}
theorem fe_rrR (T : TxC K a.EW fsEW) : FldAt K (mK Hs (mEW K a H0 q c o s bad)) (Rf q.p) "reader_rows" (Rf q.lr) := fun H v m h => by
  obtain ⟨lf, vb, h2, _⟩ := m.2.ins
  exact ⟨_, _, _, _, _, h, h2, T.cl, T.na _ (by decide), rfl, rfl⟩
theorem fe_trR (T : TxC K a.EW fsEW) : FldAt K (mK Hs (mEW K a H0 q c o s bad)) (Rf q.p) "taker_rows" (Rf q.lt) := fun H v m h => by
  obtain ⟨lf, vb, h2, _⟩ := m.2.ins
  exact ⟨_, _, _, _, _, h, h2, T.cl, T.na _ (by decide), rfl, rfl⟩
theorem fe_srR (T : TxC K a.EW fsEW) : FldAt K (mK Hs (mEW K a H0 q c o s bad)) (Rf q.p) "stepper_rows" (Rf q.ls) := fun H v m h => by
  obtain ⟨lf, vb, h2, _⟩ := m.2.ins
  exact ⟨_, _, _, _, _, h, h2, T.cl, T.na _ (by decide), rfl, rfl⟩
/-- a list at another place changes nothing of it -/
theorem LAt.upd {H : Hp} {l l' : Addr} {ds : List PyData} {zs ys : List V} (h : LAt K H l ds) (n : l ≠ l') (hl : H l' = some (.lst zs)) : LAt K (upd H l' (.lst ys)) l ds := by
  obtain ⟨vs, h1, h2⟩ := h
  exact ⟨vs, by rw [upd_ne n]; exact h1, h2.mono (Tk.lst hl).tex⟩
theorem LAt.updI {H : Hp} {l p C dx : Addr} {ds : List PyData} {fs : List (Str × V)} {u : HO} (h : LAt K H l ds) (hl : H p = some (.ins C dx fs)) : LAt K (L2.upd H p u) l ds := by
  obtain ⟨vs, h1, h2⟩ := h
  exact ⟨vs, by rw [upd_ne (ne_of h1 hl (by intro z; cases z))]; exact h1, h2.mono (Tk.ins hl).tex⟩
theorem LAt.put {H : Hp} {l : Addr} {ds : List PyData} {zs : List V} {k : Nat} {v : V} {d : PyData} (h : LAt K H l ds) (hl : H l = some (.lst zs)) (hv : Dt K H v d) : LAt K (L2.upd H l (.lst (zs.set k v))) l (ds.set k d) := by
  obtain ⟨vs, h1, h2⟩ := h
  rw [hl] at h1
  cases h1
  exact ⟨_, upd_same, (h2.set k hv).mono (Tk.lst hl).tex⟩
theorem sw_rr {k : Nat} {r : ER} (hk : k < s.rs.length) : ∀ H v, (mEW K a H0 q c o s bad).P H → (D K r.d).P H v → ∃ xs j, H q.lr = some (.lst xs) ∧ ixN xs.length (k : Int) = some j ∧ (mEW K a H0 q c o { s with rs := s.rs.set k r } bad).P (upd H q.lr (.lst (xs.set j v))) := fun H v m hv => by
  obtain ⟨xs, h1, h2⟩ := m.rows
  obtain ⟨lf, vb, g1, g2, g3, g4, g5, g6⟩ := m.ins
  refine ⟨xs, k, h1, ixN_nat (by rw [h2.length, List.length_map]; exact hk), ?_⟩
  refine { m with ex := Ex.mut m.ex m.nr, rows := ?_, taks := m.taks.upd m.rt.symm h1, stps := m.stps.upd m.rs.symm h1, ins := ⟨lf, vb, by rw [upd_ne (ne_of g1 h1 (by intro z; cases z))]; exact g1, by rw [upd_ne g4]; exact g2, g3.mono (Tk.lst h1).tex, g4, g5, g6⟩ }
  have := m.rows.put (k := k) h1 hv
  rw [List.map_set]
  exact this
theorem sw_tr {k : Nat} {r : ET} (hk : k < s.ts.length) : ∀ H v, (mEW K a H0 q c o s bad).P H → (D K r.d).P H v → ∃ xs j, H q.lt = some (.lst xs) ∧ ixN xs.length (k : Int) = some j ∧ (mEW K a H0 q c o { s with ts := s.ts.set k r } bad).P (upd H q.lt (.lst (xs.set j v))) := fun H v m hv => by
  obtain ⟨xs, h1, h2⟩ := m.taks
  obtain ⟨lf, vb, g1, g2, g3, g4, g5, g6⟩ := m.ins
  refine ⟨xs, k, h1, ixN_nat (by rw [h2.length, List.length_map]; exact hk), ?_⟩
  refine { m with ex := Ex.mut m.ex m.nt, taks := ?_, rows := m.rows.upd m.rt h1, stps := m.stps.upd m.ts.symm h1, ins := ⟨lf, vb, by rw [upd_ne (ne_of g1 h1 (by intro z; cases z))]; exact g1, by rw [upd_ne g5]; exact g2, g3.mono (Tk.lst h1).tex, g4, g5, g6⟩ }
  have := m.taks.put (k := k) h1 hv
  rw [List.map_set]
  exact this
theorem sw_sr {k : Nat} {r : EH} (hk : k < s.hs.length) : ∀ H v, (mEW K a H0 q c o s bad).P H → (D K r.d).P H v → ∃ xs j, H q.ls = some (.lst xs) ∧ ixN xs.length (k : Int) = some j ∧ (mEW K a H0 q c o { s with hs := s.hs.set k r } bad).P (upd H q.ls (.lst (xs.set j v))) := fun H v m hv => by
  obtain ⟨xs, h1, h2⟩ := m.stps
  obtain ⟨lf, vb, g1, g2, g3, g4, g5, g6⟩ := m.ins
  refine ⟨xs, k, h1, ixN_nat (by rw [h2.length, List.length_map]; exact hk), ?_⟩
  refine { m with ex := Ex.mut m.ex m.ns, stps := ?_, rows := m.rows.upd m.rs h1, taks := m.taks.upd m.ts h1, ins := ⟨lf, vb, by rw [upd_ne (ne_of g1 h1 (by intro z; cases z))]; exact g1, by rw [upd_ne g6]; exact g2, g3.mono (Tk.lst h1).tex, g4, g5, g6⟩ }
  have := m.stps.put (k := k) h1 hv
  rw [List.map_set]
  exact this
theorem fw_bad (T : TxC K a.EW fsEW) {b' : Bad} : ∀ H v, (mEW K a H0 q c o s bad).P H → (D K (bad0 b')).P H v → ∃ C dx fs, H q.p = some (.ins C dx fs) ∧ Cls K C ∧ NoAttr K C "bad" ∧ fs.length < 1000 ∧ (mEW K a H0 q c o s b').P (upd H q.p (.ins C dx (putF "bad" v fs))) := fun H v m hv => by
  obtain ⟨lf, vb, g1, g2, g3, g4, g5, g6⟩ := m.ins
  refine ⟨_, _, _, g1, T.cl, T.na _ (by decide), by show 9 < 1000; decide, ?_⟩
  exact { m with ex := Ex.mut m.ex m.np, rows := m.rows.updI g1, taks := m.taks.updI g1, stps := m.stps.updI g1, ins := ⟨lf, v, upd_same, by rw [upd_ne (ne_of g2 g1 (by intro z; cases z))]; exact g2, hv.mono (Tk.ins g1).tex, g4, g5, g6⟩ }
theorem fw_ep (T : TxC K a.EW fsEW) {z : Int} : ∀ H v, (mEW K a H0 q c o s bad).P H → (aI K z).P H v → ∃ C dx fs, H q.p = some (.ins C dx fs) ∧ Cls K C ∧ NoAttr K C "epoch" ∧ fs.length < 1000 ∧ (mEW K a H0 q c o { s with ep := z } bad).P (upd H q.p (.ins C dx (putF "epoch" v fs))) := fun H v m hv => by
  obtain ⟨lf, vb, g1, g2, g3, g4, g5, g6⟩ := m.ins
  cases hv
  refine ⟨_, _, _, g1, T.cl, T.na _ (by decide), by show 9 < 1000; decide, ?_⟩
  exact { m with ex := Ex.mut m.ex m.np, rows := m.rows.updI g1, taks := m.taks.updI g1, stps := m.stps.updI g1, ins := ⟨lf, vb, upd_same, by rw [upd_ne (ne_of g2 g1 (by intro z; cases z))]; exact g2, g3.mono (Tk.ins g1).tex, g4, g5, g6⟩ }
/-- self.freed = a list that is none of the rows' -/
theorem fw_fr (T : TxC K a.EW fsEW) {A : Ab} {ns : List Int} (hA : ∀ H v, (mEW K a H0 q c o s bad).P H → A.P H v → ∃ l, v = .ref l ∧ H l = some (.lst (ns.map .int)) ∧ l ≠ q.lr ∧ l ≠ q.lt ∧ l ≠ q.ls) : ∀ H v, (mEW K a H0 q c o s bad).P H → A.P H v → ∃ C dx fs, H q.p = some (.ins C dx fs) ∧ Cls K C ∧ NoAttr K C "freed" ∧ fs.length < 1000 ∧ (mEW K a H0 q c o { s with fr := ns } bad).P (upd H q.p (.ins C dx (putF "freed" v fs))) := fun H v m hv => by
  obtain ⟨lf, vb, g1, g2, g3, g4, g5, g6⟩ := m.ins
  obtain ⟨l, rfl, h1, h2, h3, h4⟩ := hA H v m hv
  refine ⟨_, _, _, g1, T.cl, T.na _ (by decide), by show 9 < 1000; decide, ?_⟩
  exact { m with ex := Ex.mut m.ex m.np, rows := m.rows.updI g1, taks := m.taks.updI g1, stps := m.stps.updI g1, ins := ⟨l, vb, upd_same, by rw [upd_ne (ne_of h1 g1 (by intro z; cases z))]; exact h1, g3.mono (Tk.ins g1).tex, h2, h3, h4⟩ }
theorem aw_spot (T : TxC K a.EW fsEW) : ∀ H, (mEW K a H0 q c o s bad).P H → ∃ C dx fs, H q.p = some (.ins C dx fs) ∧ Cls K C ∧ NoAttr K C "spot" ∧ fs.lookup ("spot" : Str) = some (.int s.spot) ∧ fs.length < 1000 ∧ (mEW K a H0 q c o { s with spot := s.spot + 1 } bad).P (upd H q.p (.ins C dx (putF "spot" (.int (s.spot + 1)) fs))) := fun H m => by
  obtain ⟨lf, vb, g1, g2, g3, g4, g5, g6⟩ := m.ins
  refine ⟨_, _, _, g1, T.cl, T.na _ (by decide), rfl, by show 9 < 1000; decide, ?_⟩
  exact { m with ex := Ex.mut m.ex m.np, rows := m.rows.updI g1, taks := m.taks.updI g1, stps := m.stps.updI g1, ins := ⟨lf, vb, upd_same, by rw [upd_ne (ne_of g2 g1 (by intro z; cases z))]; exact g2, g3.mono (Tk.ins g1).tex, g4, g5, g6⟩ }
/-- a list that is none of the rows' -/
def aFr (q : Wad) (ns : List Int) : Ab := ⟨fun H v => ∃ l, v = .ref l ∧ H l = some (.lst (ns.map .int)) ∧ l ≠ q.lr ∧ l ≠ q.lt ∧ l ≠ q.ls, fun e ⟨l, h1, h2, h3⟩ => ⟨l, h1, e _ _ h2, h3⟩, false, fun z => by cases z⟩
theorem an_fr {X : Cx} {ρ : List Sl} {e : Expr} {ns : List Int} (h : AN X (mK Hs (mEW K a H0 q c o s bad)) ρ e (ns.map .int)) : AE X (mK Hs (mEW K a H0 q c o s bad)) ρ e (aFr q ns) :=
  weakE h fun σ H Q ⟨m, sl, k⟩ => ⟨m, sl, fun v H' ex ⟨p, vs, h1, h2, h3, h4⟩ => k v H' ex ⟨p, h1, by rw [← h4.ints]; exact h3, by
    obtain ⟨_, g, _⟩ := m.2.rows
    exact (ne_of_none g h2).symm, by
    obtain ⟨_, g, _⟩ := m.2.taks
    exact (ne_of_none g h2).symm, by
    obtain ⟨_, g, _⟩ := m.2.stps
    exact (ne_of_none g h2).symm⟩⟩
end
end Ep
set_option maxHeartbeats 4000000
/-! values as they were at a def's start; lists that grow; moves -/
namespace Ep
open PySem PySem.Spec PyProof.Rows L2 Evl
section
variable {X : Cx} {M M' : Mb} {ρ : List Sl} {e : Expr} {A B : Ab} {D : Ends} {sts : List Stmt} {pos : Pos} {f : Str}
theorem as_at (i : Nat) {A : Ab} (hA : ρ[i]? = some (.val A)) (h : ∀ H0 v, M.P H0 → A.P H0 v → AS X (mE H0) (ρ.set i (.val (Vl v))) sts D) : AS X M ρ sts D := ⟨fun pins s σ H D' I ⟨e, m, sl⟩ => by
  obtain ⟨v, h1, h2⟩ := sl.2 i A hA
  have sl' : Slots (ρ.set i (.val (Vl v))) H σ := by
    have q := sl.set (a := Vl v) (v := v) i rfl
    have e2 : σ.set i (some v) = σ := by
      apply List.ext_getElem?
      intro j
      rw [List.getElem?_set]
      split
      · rename_i hj
        subst hj
        rw [h1]
        split
        · rfl
        · rename_i hl
          exact absurd (List.getElem?_eq_some_iff.mp h1).1 hl
      · rfl
    rw [e2] at q
    exact q
  exact (h H v m h2).run pins s σ H D' I ⟨e, Ex.refl H, sl'⟩⟩
/-- from a value as it was at H0 -/
theorem ae_at {v : V} {H0 : Hp} (h : AE X M ρ e (Vl v)) (hM : ∀ H, M.P H → Ex H0 H) (ha : A.P H0 v) : AE X M ρ e A := ae_view h fun H u m e => by
  have e' : u = v := e
  subst e'
  exact A.mono (hM H m) ha
/-- a field as it was at H0 -/
theorem fld_at {K : PySem.W.Frag} {H0 : Hp} {p C dx : Addr} {fs : List (Str × V)} {y : V} (hM : ∀ H, M.P H → Ex H0 H) (h : H0 p = some (.ins C dx fs)) (cl : Cls K C) (na : NoAttr K C f) (hl : fs.lookup f = some y) : FldAt K M (Vl (.ref p)) f (Vl y) := fun H v m e => ⟨p, C, dx, fs, y, e, hM H m _ _ h, cl, na, hl, rfl⟩
end
/-- a list that grows at p -/
def mL (K : PySem.W.Frag) (H0 : Hp) (p : Addr) (ds : List PyData) : Mb := ⟨fun H => Ex H0 H ∧ LAt K H p ds, fun e h => ⟨h.1.trans e, h.2.mono e⟩⟩
theorem mL_of {K : PySem.W.Frag} {H0 H : Hp} {p : Addr} {vs : List V} {ds : List PyData} (h : (mN K H0 p vs ds).P H) : (mL K H0 p ds).P H := ⟨h.1, vs, h.2.1, h.2.2⟩
theorem mL_ext {K : PySem.W.Frag} {H0 H : Hp} {p : Addr} {ds es : List PyData} {zs xs : List V} (hp : H0 p = none) (m : (mL K H0 p ds).P H) (hz : DtL K H zs es) (hx : H p = some (.lst xs)) : (mL K H0 p (ds ++ es)).P (upd H p (.lst (xs ++ zs))) := by
  obtain ⟨h1, vs, h2, h3⟩ := m
  rw [hx] at h2
  cases h2
  exact ⟨Ex.mut h1 hp, _, upd_same, (h3.append hz).mono (Tk.lst hx).tex⟩
/-! ### moves of rows -/
theorem mvs_append {α : Type} (kind : Str) (f : α → List Str) : ∀ (xs ys : List α) (k : Nat), mvs kind f (xs ++ ys) k = mvs kind f xs k ++ mvs kind f ys (k + xs.length)
  | [], ys, k => by simp [mvs]
  | x :: xs, ys, k => by
    simp only [List.cons_append, mvs, mvs_append kind f xs ys (k + 1), List.append_assoc, List.length_cons]
    rw [show k + 1 + xs.length = k + (xs.length + 1) by omega]
theorem mvs_take {α : Type} (kind : Str) (f : α → List Str) {xs : List α} {i : Nat} {x : α} (h : xs[i]? = some x) : mvs kind f (xs.take (i + 1)) = mvs kind f (xs.take i) ++ (f x).map fun d => (kind, i, d) := by
  have e : xs.take (i + 1) = xs.take i ++ [x] := by rw [List.take_add_one, h]; rfl
  have hl : i < xs.length := (List.getElem?_eq_some_iff.mp h).1
  rw [e, mvs_append]
  simp [mvs, Nat.min_eq_left (Nat.le_of_lt hl)]
theorem mvs_mem {α : Type} {kind : Str} {f : α → List Str} {m : Mv} : ∀ {xs : List α} {k : Nat}, m ∈ mvs kind f xs k → ∃ i x, xs[i]? = some x ∧ m.1 = kind ∧ m.2.1 = k + i ∧ m.2.2 ∈ f x
  | [], k, h => by simp [mvs] at h
  | x :: xs, k, h => by
    simp only [mvs, List.mem_append, List.mem_map] at h
    rcases h with ⟨d, hd, rfl⟩ | h
    · exact ⟨0, x, rfl, rfl, rfl, hd⟩
    · obtain ⟨i, y, h1, h2, h3, h4⟩ := mvs_mem h
      exact ⟨i + 1, y, by simpa using h1, h2, by omega, h4⟩
theorem mvs_pre {α : Type} (kind : Str) (f : α → List Str) (xs : List α) (i : Nat) : (mvs kind f (xs.take i)).length ≤ (mvs kind f xs).length := by
  conv => rhs; rw [← List.take_append_drop i xs, mvs_append]
  rw [List.length_append]
  omega
theorem lookup_none {fs : List (Str × V)} {m : Str} {l : List Str} (h : fs.map (·.1) = l) (hm : m ∉ l) : fs.lookup m = none := by
  subst h
  induction fs with
  | nil => rfl
  | cons p fs ih =>
    obtain ⟨k, v⟩ := p
    rw [List.map_cons, List.mem_cons, not_or] at hm
    rw [List.lookup_cons]
    have e : (m == k) = false := beq_eq_false_iff_ne.mpr hm.1
    rw [e]
    exact ih hm.2
section
variable {K : PySem.W.Frag} {a : Adr} {M : Mb} {c : Cfg} {o : EOwn} {s : ES} {bad : Bad} {m : Str}
theorem recv_ew (hm : m ∉ fsEW) : Recv M a.EW m (aEW K a c o s bad) (aEW K a c o s bad) := fun H v _ h => by
  obtain ⟨H0, q, h1, hc⟩ := id h
  obtain ⟨lf, vb, h2, _⟩ := hc.ins
  exact ⟨q.p, q.dx, _, h1, h2, lookup_none (l := fsEW) rfl hm, h⟩
end
/-- a table of the module: texts to tuples of texts -/
def Tab (K : PySem.W.Frag) (w : World) (mg : Str → Option Value) (x : Str) (ks : List Str) (f : Str → List Str) : Prop := ∃ p, mg x = some (.ref p) ∧ ∀ z ∈ ks, ∃ v, KDct K w p z v ∧ ∀ H, Dt K H v (tS' (f z))
theorem ae_tab {X : Cx} {M : Mb} {ρ : List Sl} {e : Expr} {x z : Str} {ks : List Str} {f : Str → List Str} {p pos : Pos} (T : Tab X.K X.w X.mg x ks f) (he : AE X M ρ e (aS X.K z)) (hz : z ∈ ks) (hg : Gl X x := by rfl) (hd : (x == ("__debug__" : Str)) = false := by decide) (hs : PlainIx e := by exact fun _ _ => rfl) :
    AE X M ρ (.Subscript (.Name x p) e pos) (D X.K (tS' (f z))) := by
  obtain ⟨q, hm, h⟩ := T
  obtain ⟨v, h1, h2⟩ := h z hz
  exact ae_ixK (ae_globR hm hg hd) he ⟨v, h1, h2⟩ hs
end Ep
set_option maxHeartbeats 4000000
/-! EpochWorld: what it reads -/
namespace Ep
open PySem PySem.Spec PyProof.Rows L2 Evl
section
variable {P : Program} {w : World} {K : PySem.W.Frag} {mg : Str → Option Value} {base : Heap} {a : Adr}
def rdKeys : List Str := ["got", "anew", "read", "wrote", "told", "inside"]
def tkKeys : List Str := ["read", "wrote", "anew", "took"]
def stKeys : List Str := ["read", "wrote", "anew", "ready", "looking", "passed", "done"]
/-! #### reader_deeds -/
abbrev s_e_rd : Stmt := inClass (top 32) 3
theorem sc_e_rd : FnScope ["self", "reader"] ["self", "reader"] (defScope s_e_rd) := ⟨rfl, rfl, rfl, by decide +kernel, rfl, by decide +kernel, by decide +kernel⟩
abbrev sp_e_rd (K : PySem.W.Frag) (a : Adr) : Sp := spG (ι := Cfg × EOwn × ES × Bad × ER) (fun i => i.2.2.2.2.md = "out" ∨ i.2.2.2.2.md ∈ rdKeys) (fun i => [aEW K a i.1 i.2.1 i.2.2.1 i.2.2.2.1, D K i.2.2.2.2.d]) fun i => rA (D K (tS' (eDeedsR i.2.1 i.2.2.2.2)))
theorem ok_e_rd {f : Addr} {fd : FuncData} (F : Fun K "reader_deeds" "EpochWorld.reader_deeds" s_e_rd f fd) (T : TxC K a.EW fsEW) (Tb : Tab K w mg "READER_DEEDS" rdKeys rdTab) : FnOk P w K mg base CX0 1 f fd ["self", "reader"] (sp_e_rd K a) := by
  refine fn_G F sc_e_rd (fun _ => rfl) fun cdv A outer s H E hr i hi => ?_
  obtain ⟨c, o, st, bad, r⟩ := i
  have hu := hu_of hr
  refine as_if (at_cmpC (ac_eqS (ae_ixT (av 1) ae_int rfl) ae_str)) (fun c1 => ?_) (fun c1 => ?_)
  · refine as_ret (ae_ifT (at_cmpC (ac_eqS (ae_dget hu (ae_fld (av 0) (fe_own T)) (fun _ _ _ h => h) ae_str rfl (fun _ => .str _)) ae_str)) (fun _ => (ae_tup (ad_cons ae_str ad_nil))) (fun _ => (ae_tup (ad_cons ae_str ad_nil)))) (fun v H1 m h => ⟨m, d_cl h ?_⟩)
    simp only [eqD_str, decide_eq_true_eq] at c1
    simp only [eDeedsR, c1, if_true, eqD_str, decide_eq_true_eq, tS']
    split <;> rfl
  · refine as_end ?_
    simp only [eqD_str, decide_eq_false_iff_not] at c1
    refine as_ret (ae_tab Tb (ae_ixT (av 1) ae_int rfl) (hi.resolve_left c1)) (fun v H1 m h => ⟨m, d_cl h ?_⟩)
    simp only [eDeedsR, c1, if_false]
/-! #### taker_deeds -/
abbrev s_e_td : Stmt := inClass (top 32) 4
theorem sc_e_td : FnScope ["self", "taker", "take"] ["self", "taker"] (defScope s_e_td) := ⟨rfl, rfl, rfl, by decide +kernel, rfl, by decide +kernel, by decide +kernel⟩
abbrev sp_e_td (K : PySem.W.Frag) (a : Adr) : Sp := spG (ι := Cfg × EOwn × ES × Bad × ET) (fun i => i.2.2.2.2.md = "idle" ∨ i.2.2.2.2.md = "told" ∨ i.2.2.2.2.md ∈ tkKeys) (fun i => [aEW K a i.1 i.2.1 i.2.2.1 i.2.2.2.1, D K i.2.2.2.2.d]) fun i => rA (D K (tS' (eDeedsT i.2.1 i.1.nth i.2.2.1.spot i.2.2.2.2)))
theorem takeIf_d {spot : Int} {n : Nat} : PyData.tuple (if decide (spot < (n : Int)) = true then [.str "take"] else []) = tS' (takeIf spot n) := by
  unfold takeIf tS'
  simp only [decide_eq_true_eq]
  split <;> rfl
theorem ok_e_td {f : Addr} {fd : FuncData} (F : Fun K "taker_deeds" "EpochWorld.taker_deeds" s_e_td f fd) (T : TxC K a.EW fsEW) (G : GPr P w K mg base 1 a.SE "things" (spProp K a fun c => .int (c.nth : Nat))) (Tb : Tab K w mg "TAKER_DEEDS" tkKeys tkTab) :
    FnOk P w K mg base CX0 3 f fd ["self", "taker"] (sp_e_td K a) := by
  refine fn_G F sc_e_td (fun _ => rfl) fun cdv A outer s H E hr i hi => ?_
  obtain ⟨c, o, st, bad, r⟩ := i
  have hu := hu_of hr
  refine as_asg (i := 2) (ae_dat (ae_ifT (at_cmpC (ac_lt (ae_fld (av 0) (fe_spot T)) (ae_prop (ae_fld (av 0) (fe_set T)) set_ins G hr c trivial rfl))) (fun _ => (ae_tup (ad_cons ae_str ad_nil))) (fun _ => (ae_tup ad_nil))) takeIf_d) ?_ sc_e_td.nd
  have hlen : (takeIf st.spot c.nth).length ≤ 1 := by unfold takeIf; split <;> decide
  refine as_if (at_cmpC (ac_eqS (ae_ixT (av 1) ae_int rfl) ae_str)) (fun c1 => ?_) (fun c1 => ?_)
  · simp only [eqD_str, decide_eq_true_eq] at c1
    refine as_ret (ae_cat (ae_ifT (at_cmpC (ac_eqS (ae_dget hu (ae_fld (av 0) (fe_own T)) (fun _ _ _ h => h) ae_str rfl (fun _ => .str _)) ae_str)) (fun _ => (av 2)) (fun _ => (ae_tup (ad_cons ae_str ad_nil)))) (ae_tup (ad_cons ae_str ad_nil)) ?_) (fun v H1 m h => ⟨m, d_cl h ?_⟩)
    · split <;> simp <;> omega
    · simp only [eDeedsT, c1, if_true, eqD_str, decide_eq_true_eq, tS', List.map_append]
      split <;> rfl
  · simp only [eqD_str, decide_eq_false_iff_not] at c1
    refine as_end ?_
    refine as_ret (ae_ifT (at_cmpC (ac_eqS (ae_ixT (av 1) ae_int rfl) ae_str)) (fun _ => (ae_cat (av 2) (ae_tup (ad_cons ae_str ad_nil)) (by simp; omega))) (fun h2 => (ae_tab Tb (ae_ixT (av 1) ae_int rfl) ?_))) (fun v H1 m h => ⟨m, d_cl h ?_⟩)
    · simp only [eqD_str, decide_eq_false_iff_not] at h2
      exact (hi.resolve_left c1).resolve_left h2
    · simp only [eDeedsT, c1, if_false, eqD_str, decide_eq_true_eq, tS', List.map_append]
      split <;> simp
/-! #### stepper_deeds -/
abbrev s_e_sd : Stmt := inClass (top 32) 5
theorem sc_e_sd : FnScope ["self", "stepper"] ["self", "stepper"] (defScope s_e_sd) := ⟨rfl, rfl, rfl, by decide +kernel, rfl, by decide +kernel, by decide +kernel⟩
abbrev sp_e_sd (K : PySem.W.Frag) (a : Adr) : Sp := spG (ι := Cfg × EOwn × ES × Bad × EH) (fun i => i.2.2.2.2.md = "idle" ∨ i.2.2.2.2.md ∈ stKeys) (fun i => [aEW K a i.1 i.2.1 i.2.2.1 i.2.2.2.1, D K i.2.2.2.2.d]) fun i => rA (D K (tS' (eDeedsH i.2.1 i.2.2.2.2)))
theorem ok_e_sd {f : Addr} {fd : FuncData} (F : Fun K "stepper_deeds" "EpochWorld.stepper_deeds" s_e_sd f fd) (T : TxC K a.EW fsEW) (Tb : Tab K w mg "STEPPER_DEEDS" stKeys stTab) : FnOk P w K mg base CX0 1 f fd ["self", "stepper"] (sp_e_sd K a) := by
  refine fn_G F sc_e_sd (fun _ => rfl) fun cdv A outer s H E hr i hi => ?_
  obtain ⟨c, o, st, bad, r⟩ := i
  have hu := hu_of hr
  refine as_if (at_cmpC (ac_eqS (ae_ixT (av 1) ae_int rfl) ae_str)) (fun c1 => ?_) (fun c1 => ?_)
  · refine as_ret (ae_ifT (at_val (ae_dget hu (ae_fld (av 0) (fe_own T)) (fun _ _ _ h => h) ae_str rfl (fun _ => .bl _))) (fun _ => (ae_tup (ad_cons ae_str ad_nil))) (fun _ => (ae_tup (ad_cons ae_str ad_nil)))) (fun v H1 m h => ⟨m, d_cl h ?_⟩)
    simp only [eqD_str, decide_eq_true_eq] at c1
    simp only [eDeedsH, c1, if_true, tS']
    split <;> rfl
  · refine as_end ?_
    simp only [eqD_str, decide_eq_false_iff_not] at c1
    refine as_ret (ae_tab Tb (ae_ixT (av 1) ae_int rfl) (hi.resolve_left c1)) (fun v H1 m h => ⟨m, d_cl h ?_⟩)
    simp only [eDeedsH, c1, if_false]
/-! #### goes_by -/
abbrev s_e_gb : Stmt := inClass (top 32) 12
theorem sc_e_gb : FnScope ["self", "word", "read"] ["self", "word", "read"] (defScope s_e_gb) := ⟨rfl, rfl, rfl, by decide +kernel, rfl, by decide +kernel, by decide +kernel⟩
abbrev sp_e_gb (K : PySem.W.Frag) (a : Adr) : Sp := spG (ι := Cfg × EOwn × ES × Bad × Option Int × Int) (fun i => 0 < i.2.1.epochs) (fun i => [aEW K a i.1 i.2.1 i.2.2.1 i.2.2.2.1, D K (oI i.2.2.2.2.1), aI K i.2.2.2.2.2]) fun i => rA (aB K (eGoesBy i.2.1 i.2.2.2.2.1 i.2.2.2.2.2))
theorem ok_e_gb {f : Addr} {fd : FuncData} (F : Fun K "goes_by" "EpochWorld.goes_by" s_e_gb f fd) (T : TxC K a.EW fsEW) : FnOk P w K mg base CX0 1 f fd ["self", "word", "read"] (sp_e_gb K a) := by
  refine fn_G F sc_e_gb (fun _ => rfl) fun cdv A outer s H E hr i hi => ?_
  obtain ⟨c, o, st, bad, wd, rd⟩ := i
  have hu := hu_of hr
  refine as_if (at_cmpC (ac_isN (av 1))) (fun c1 => ?_) (fun c1 => ?_)
  · refine as_ret ae_bl (fun v H1 m h => ⟨m, d_cl h ?_⟩)
    simp only [eGoesBy, c1, if_true]
  · refine as_end ?_
    refine as_if (at_cmpC (ac_eqS (ae_dget hu (ae_fld (av 0) (fe_own T)) (fun _ _ _ h => h) ae_str rfl (fun _ => .str _)) ae_str)) (fun c2 => ?_) (fun c2 => ?_)
    · refine as_ret (ae_cmpC (ac_eqS (av 1) (av 2) (scD_oI' _ _))) (fun v H1 m h => ⟨m, d_cl h ?_⟩)
      simp only [eqD_str, decide_eq_true_eq] at c2
      simp only [eGoesBy, c1, c2, if_true]
      simp
    · refine as_end ?_
      refine as_ret (ae_cmpC (ac_neS (av 1) (ae_mod (ae_sub (av 2) ae_int) (ae_dget hu (ae_fld (av 0) (fe_own T)) (fun _ _ _ h => h) ae_str rfl (fun _ => .int _)) hi) (scD_oI' _ _))) (fun v H1 m h => ⟨m, d_cl h ?_⟩)
      simp only [eqD_str, decide_eq_false_iff_not] at c2
      simp only [eGoesBy, c1, c2, if_false]
      simp
/-! #### state -/
abbrev s_e_st : Stmt := inClass (top 32) 1
theorem sc_e_st : FnScope ["self"] ["self"] (defScope s_e_st) := ⟨rfl, rfl, rfl, by decide +kernel, rfl, by decide +kernel, by decide +kernel⟩
abbrev sp_e_st (K : PySem.W.Frag) (a : Adr) : Sp := spG (ι := Cfg × EOwn × ES × Bad) (fun _ => True) (fun i => [aEW K a i.1 i.2.1 i.2.2.1 i.2.2.2]) fun i => rA (D K (outS .E (i.2.2.1, i.2.2.2)).d)
theorem ok_e_st {f : Addr} {fd : FuncData} (F : Fun K "state" "EpochWorld.state" s_e_st f fd) (T : TxC K a.EW fsEW) (bt : mg "tuple" = none) : FnOk P w K mg base CX0 1 f fd ["self"] (sp_e_st K a) := by
  refine fn_G F sc_e_st (fun _ => rfl) fun cdv A outer s H E hr i hi => ?_
  obtain ⟨c, o, st, bad⟩ := i
  refine as_if (at_cmpC (ac_notN (ae_fld (av 0) (fe_bad T)))) (fun c1 => ?_) (fun c1 => ?_)
  · refine as_ret (ae_fld (av 0) (fe_bad T)) (fun v H1 m h => ⟨m, d_cl h ?_⟩)
    cases bad with
    | none => simp [bad0, eqD] at c1
    | some b => rfl
  · refine as_end ?_
    refine as_ret (ae_tup (ad_cons (ae_fld (av 0) (fe_ep T)) (ad_cons (ae_fld (av 0) (fe_spot T)) (ad_cons (ae_tuple bt (ae_fld (av 0) (fe_rr T))) (ad_cons (ae_tuple bt (ae_fld (av 0) (fe_tr T))) (ad_cons (ae_tuple bt (ae_fld (av 0) (fe_sr T))) (ad_cons (ae_tuple bt (ae_fld (av 0) (fe_fr T))) ad_nil))))))) (fun v H1 m h => ⟨m, d_cl h ?_⟩)
    cases bad with
    | none => rfl
    | some b => simp [bad0, badD, eqD] at c1
end
end Ep
set_option maxHeartbeats 4000000
/-! EpochWorld: put, words, looks, moves -/
namespace Ep
open PySem PySem.Spec PyProof.Rows L2 Evl
theorem cutD_to {ds : List PyData} {n : Nat} (h : n ≤ ds.length) : cutD ds none (some (n : Int)) = ds.take n := by
  unfold cutD
  rw [HT.sIx_none, HT.sIx_nat, Nat.min_eq_left h]
  simp
theorem cutD_from {ds : List PyData} {n : Nat} (h : n ≤ ds.length) : cutD ds (some (n : Int)) none = ds.drop n := by
  unfold cutD
  rw [HT.sIx_none, HT.sIx_nat, Nat.min_eq_left h]
  rw [List.take_of_length_le]
  simp
section
variable {P : Program} {w : World} {K : PySem.W.Frag} {mg : Str → Option Value} {base : Heap} {a : Adr}
/-! #### put -/
abbrev s_e_put : Stmt := inClass (top 32) 10
theorem sc_e_put : FnScope ["self", "bags", "at", "thing"] ["self", "bags", "at", "thing"] (defScope s_e_put) := ⟨rfl, rfl, rfl, by decide +kernel, rfl, by decide +kernel, by decide +kernel⟩
abbrev sp_e_put (K : PySem.W.Frag) (a : Adr) : Sp := spG (ι := Cfg × EOwn × ES × Bad × List (List Int) × Nat × Int) (fun i => i.2.2.2.2.2.1 < i.2.2.2.2.1.length ∧ i.2.2.2.2.1.length ≤ 6 ∧ (i.2.2.2.2.1.flatten).length < 60) (fun i => [aEW K a i.1 i.2.1 i.2.2.1 i.2.2.2.1, D K (bagsD i.2.2.2.2.1), aI K (i.2.2.2.2.2.1 : Nat), aI K i.2.2.2.2.2.2]) fun i => rA (D K (bagsD (ePut i.2.2.2.2.1 i.2.2.2.2.2.1 i.2.2.2.2.2.2)))
theorem bag_len {bags : List (List Int)} {k : Nat} {b : List Int} (h : bags[k]? = some b) : b.length ≤ bags.flatten.length := by
  have hm : b ∈ bags := List.mem_of_getElem? h
  obtain ⟨s, t, rfl⟩ := List.append_of_mem hm
  simp
  omega
theorem atI_bags {bags : List (List Int)} {k : Nat} (h : k < bags.length) : atI (bags.map tI) (k : Int) = some (tI (bags[k])) := atI_nat (by rw [List.getElem?_map, List.getElem?_eq_getElem h]; rfl)
theorem ok_e_put {f : Addr} {fd : FuncData} (F : Fun K "put" "EpochWorld.put" s_e_put f fd) (bs : mg "sorted" = none) (bi : mg "int" = none) (bt : mg "tuple" = none) : FnOk P w K mg base CX0 1 f fd ["self", "bags", "at", "thing"] (sp_e_put K a) := by
  refine fn_G F sc_e_put (fun _ => rfl) fun cdv A outer s H E hr i hi => ?_
  obtain ⟨c, o, st, bad, bags, k, th⟩ := i
  have h1 : k < bags.length := hi.1
  have h2 : bags.length ≤ 6 := hi.2.1
  have h3 : bags.flatten.length < 60 := hi.2.2
  have hb := bag_len (List.getElem?_eq_getElem h1)
  refine as_ret (ae_cat (ds := ((bags.map tI).take k) ++ [tI (srt (bags[k] ++ [th]))]) (es := (bags.map tI).drop (k + 1))
    (ae_cat (ds := (bags.map tI).take k) (es := [tI (srt (bags[k] ++ [th]))]) (ae_dat (ae_slT (av 1) ao_none (ao_some (av 2))) (congrArg PyData.tuple (cutD_to (by rw [List.length_map]; omega))))
      (ae_tup (ad_cons (ae_tuple bt (ae_sorted (ns := bags[k] ++ [th]) bs bi (ae_dat (ae_cat (ae_ixT (av 1) (av 2) (atI_bags h1)) (ae_tup (ad_cons (av 3) ad_nil)) ?l1) (by simp [tI])) sqA_tup ?l2)) ad_nil)) ?l3)
    (ae_dat (ae_slT (av 1) (ao_some (ae_add (av 2) ae_int)) ao_none) ?l5) ?l4) (fun v H1 m h => ⟨m, d_cl h ?_⟩)
  case l1 => simp; omega
  case l2 => simp; omega
  case l3 => simp; omega
  case l4 => simp; omega
  case l5 =>
    refine congrArg PyData.tuple (cutD_from (n := k + 1) ?_)
    rw [List.length_map]
    exact h1
  · simp [bagsD, ePut, List.getElem?_eq_getElem h1, List.map_take, List.map_drop]
/-! #### words -/
abbrev s_e_w : Stmt := inClass (top 32) 2
theorem sc_e_w : FnScope ["self", "hand"] ["self"] (defScope s_e_w) := ⟨rfl, rfl, rfl, by decide +kernel, rfl, by decide +kernel, by decide +kernel⟩
abbrev sp_e_w (K : PySem.W.Frag) (a : Adr) : Sp := spG (ι := Cfg × EOwn × ES × Bad) (fun i => i.2.2.1.rs.length + i.2.2.1.ts.length + i.2.2.1.hs.length ≤ 100) (fun i => [aEW K a i.1 i.2.1 i.2.2.1 i.2.2.2]) fun i => rA (LD K ((eWords i.2.2.1).map oI))
def item (n : Nat) : PyData → PyData
  | .tuple ds => (ds[n]?).getD .none
  | _ => .none
theorem ok_e_w {f : Addr} {fd : FuncData} (F : Fun K "words" "EpochWorld.words" s_e_w f fd) (T : TxC K a.EW fsEW) : FnOk P w K mg base CX0 1 f fd ["self"] (sp_e_w K a) := by
  refine fn_G F sc_e_w (fun _ => rfl) fun cdv A outer s H E hr i hi => ?_
  obtain ⟨c, o, st, bad⟩ := i
  have hl : st.rs.length + st.ts.length + st.hs.length ≤ 100 := hi
  refine as_ret (an_ae (an_lc (j := 1) [("hand", 1)] (st.rs.map ER.d ++ st.ts.map ET.d ++ st.hs.map EH.d) (fun _ => true) (item 2) (pi_list (ae_catL (ae_catL (ae_fld (av 0) (fe_rr T)) (ae_fld (av 0) (fe_tr T)) ?l1) (ae_fld (av 0) (fe_sr T)) ?l2)) wi_lst ?l3 sc_e_w.nd (blkOk_by (N := ["self", "hand"]) (sc := defScope s_e_w) (by decide +kernel)) (by decide)
    (fun _ _ _ _ _ => pg_name (i := 1) sc_e_w.nd rfl (Or.inl rfl)) (fun _ _ _ _ _ d _ => ats_nil) (fun _ _ _ _ _ d hd _ => ?_))) (fun v H1 m h => ⟨m, ?_⟩)
  case l1 => simp; omega
  case l2 => simp; omega
  case l3 => simp; omega
  · rw [List.mem_append, List.mem_append, List.mem_map, List.mem_map, List.mem_map] at hd
    rcases hd with (⟨r, _, rfl⟩ | ⟨r, _, rfl⟩) | ⟨r, _, rfl⟩
    · exact ae_ixT (av 1) ae_int rfl
    · exact ae_ixT (av 1) ae_int rfl
    · exact ae_ixT (av 1) ae_int rfl
  · have e : ((st.rs.map ER.d ++ st.ts.map ET.d ++ st.hs.map EH.d).filter fun _ => true).map (item 2) = (eWords st).map oI := by
      rw [List.filter_eq_self.mpr (fun _ _ => rfl)]
      simp only [eWords, List.map_append, List.map_map]
      rfl
    rw [e] at h
    exact h
/-! #### looks -/
abbrev s_e_lk : Stmt := inClass (top 32) 13
theorem sc_e_lk : FnScope ["self", "stepper", "mode", "read", "word", "at"] ["self", "stepper"] (defScope s_e_lk) := ⟨rfl, rfl, rfl, by decide +kernel, rfl, by decide +kernel, by decide +kernel⟩
abbrev sp_e_lk (K : PySem.W.Frag) (a : Adr) : Sp := spG (ι := Cfg × EOwn × ES × Bad × EH) (fun i => 0 < i.2.1.epochs ∧ i.2.2.1.rs.length + i.2.2.1.ts.length + i.2.2.1.hs.length ≤ 100 ∧ 0 ≤ i.2.2.2.2.at_ ∧ i.2.2.2.2.at_ < ((eWords i.2.2.1).length : Int) ∧ i.2.2.2.2.rd ≠ none) (fun i => [aEW K a i.1 i.2.1 i.2.2.1 i.2.2.2.1, D K i.2.2.2.2.d]) fun i => rA (D K (eLooks i.2.1 i.2.2.1 i.2.2.2.2).d)
theorem not_fs : ("words" : Str) ∉ fsEW ∧ ("goes_by" : Str) ∉ fsEW ∧ ("put" : Str) ∉ fsEW ∧ ("sees" : Str) ∉ fsEW ∧ ("steps" : Str) ∉ fsEW ∧ ("looks" : Str) ∉ fsEW ∧ ("reader_deeds" : Str) ∉ fsEW ∧ ("taker_deeds" : Str) ∉ fsEW ∧ ("stepper_deeds" : Str) ∉ fsEW ∧ ("reader_does" : Str) ∉ fsEW ∧ ("taker_does" : Str) ∉ fsEW ∧ ("stepper_does" : Str) ∉ fsEW ∧ ("moves" : Str) ∉ fsEW ∧ ("state" : Str) ∉ fsEW ∧ ("do" : Str) ∉ fsEW := by decide +kernel
theorem ok_e_lk {f : Addr} {fd : FuncData} (F : Fun K "looks" "EpochWorld.looks" s_e_lk f fd) (T : TxC K a.EW fsEW) (bl : mg "len" = none) (Gw : GMt P w K mg base 1 a.EW "words" (sp_e_w K a)) (Gg : GMt P w K mg base 1 a.EW "goes_by" (sp_e_gb K a)) : FnOk P w K mg base CX0 2 f fd ["self", "stepper"] (sp_e_lk K a) := by
  refine fn_G F sc_e_lk (fun _ => rfl) fun cdv A outer s H E hr i hi => ?_
  obtain ⟨c, o, st, bad, ⟨md, rd0, wd, at_⟩⟩ := i
  obtain ⟨h1, h2, h3, h4, h5⟩ := hi
  have hu := hu_of hr
  cases rd0 with
  | none => exact absurd rfl h5
  | some rd =>
    obtain ⟨k, rfl⟩ := Int.eq_ofNat_of_zero_le h3
    have hk : k < (eWords st).length := by
      have : ((k : Nat) : Int) < ((eWords st).length : Int) := h4
      omega
    have hw : atI ((eWords st).map oI) (k : Int) = some (oI (eWords st)[k]) := atI_nat (by rw [List.getElem?_map, List.getElem?_eq_getElem hk]; rfl)
    have hg : (eWords st)[((k : Nat) : Int).toNat]?.getD none = (eWords st)[k] := by rw [Int.toNat_natCast, List.getElem?_eq_getElem hk]; rfl
    refine as_tgt (am_of (av 1)) (ag_tup (ags_cons (ag_name (i := 2) sc_e_lk.nd) (ags_cons (ag_name (i := 3) sc_e_lk.nd) (ags_cons (ag_name (i := 4) sc_e_lk.nd) (ags_cons (ag_name (i := 5) sc_e_lk.nd) ags_nil))))) ?_
    refine as_if (at_not (at_val (ae_meth (av 0) (recv_ew not_fs.2.1) Gg hr (c, o, st, bad, (eWords st)[k], rd) h1 rfl (aa_cons (ae_ixL (ae_meth0 (av 0) (recv_ew not_fs.1) Gw hr (c, o, st, bad) h2 rfl) (av 5) hw) (aa_cons (av 3) aa_nil))))) (fun c1 => ?_) (fun c1 => ?_)
    · refine as_ret (ae_tup (ad_cons (ae_ifS (at_val (ae_dget hu (ae_fld (av 0) (fe_own T)) (fun _ _ _ h => h) ae_str rfl (fun _ => .bl _))) (fun _ => ae_str) (fun _ => ae_str)) (ad_cons ae_non (ad_cons (av 4) (ad_cons ae_int ad_nil))))) (fun v H1 m h => ⟨m, d_cl h ?_⟩)
      simp only [eLooks, hg, Option.getD_some, c1, if_true]
      rfl
    · refine as_end ?_
      refine as_if (at_cmpC (ac_eqS (ae_add (av 5) ae_int) (ae_len bl (ae_meth0 (av 0) (recv_ew not_fs.1) Gw hr (c, o, st, bad) h2 rfl) sqA_lst))) (fun c2 => ?_) (fun c2 => ?_)
      · refine as_ret (ae_tup (ad_cons ae_str (ad_cons (av 3) (ad_cons (av 4) (ad_cons ae_int ad_nil))))) (fun v H1 m h => ⟨m, d_cl h ?_⟩)
        simp only [eqD_int, decide_eq_true_eq, List.length_map] at c2
        simp only [eLooks, hg, Option.getD_some, c1, c2, if_true]
        rfl
      · refine as_end ?_
        refine as_ret (ae_tup (ad_cons ae_str (ad_cons (av 3) (ad_cons (av 4) (ad_cons (ae_add (av 5) ae_int) ad_nil))))) (fun v H1 m h => ⟨m, d_cl h ?_⟩)
        simp only [eqD_int, decide_eq_false_iff_not, List.length_map] at c2
        simp only [eLooks, hg, Option.getD_some, c1, c2, if_false]
        rfl
end
end Ep
set_option maxHeartbeats 4000000
/-! EpochWorld: moves -/
namespace Ep
open PySem PySem.Spec PyProof.Rows L2 Evl
section
variable {X : Cx} {M : Mb} {D : Ends} {rest : List Stmt}
/-- one loop of moves: for k, x in enumerate(rows): found.extend([(kind, k, deed) for deed in deeds(x)]) -/
theorem as_rows {α : Type} {enc : α → PyData} {f : α → List Str} {kind : Str} {rows : List α} {H00 : Hp} {p l : Addr} {acc : List Mv} {ρ : List Sl} {ρ1 : Nat → PyData → List Sl} {elts : List Expr} {kk : Nat} {tpos pos pos' pos2 apos bpos : Pos} {ep : Pos} {ea fo be : Expr}
    (hm : X.mg "enumerate" = none) (hp : H00 p = none) (hl : LAt X.K H00 l (rows.map enc)) (hn : acc.length + (mvs kind f rows).length ≤ 1000)
    (hi : AE X (mL X.K H00 p (acc.map mvD)) ρ ea (Vl (.ref l)))
    (hg : ∀ M d i, AG X M ρ (.Tuple elts kk tpos) (Ep.D X.K (.tuple [.int (i : Nat), d])) M (ρ1 i d))
    (hf : ∀ M i d, AE X M (ρ1 i d) fo (Rf p))
    (hb : ∀ M i r, (∀ H, M.P H → Ex H00 H) → rows[i]? = some r → AE X M (ρ1 i (enc r)) be (LD X.K ((f r).map fun d => mvD (kind, i, d))))
    (hk : ∀ i d, SlW (keepT (ρ1 i d)) ρ)
    (hd : AS X (mL X.K H00 p ((acc ++ mvs kind f rows).map mvD)) ρ rest D)
    (hgl : Gl X "enumerate" := by rfl) (hst : starEach [ea] X.env = [(false, eval ea X.env)] := by rfl)
    (hp' : PassesOwn (model X.prog X.w) X.A X.env X.xe := by exact PassesOwn.never) (hc : X.calm = true := by rfl) (hfs : ∀ x, foldedSetIterable (.Call (.Name "enumerate" ep) [ea] [] pos') X.env x = pure x := by intro _; rfl)
    (hbase : attributeBase fo "extend" X.env (eval fo X.env) = eval fo X.env := by rfl)
    (hfew : ((backTo bpos (starEach [be] X.env)).all (fun x => !x.1) && (backToKw bpos (keywordEach [] X.env)).all (fun x => x.1.isSome)
      && decide ([be].length + ([] : List Keyword).length + (if ([] : List Keyword).isEmpty then 0 else 1) < 30)) = true := by rfl)
    (hline : (apos.endLine == bpos.line) = true := by rfl) (hs2 : starEach [be] X.env = (false, eval be X.env) :: starEach [] X.env := by rfl) (hplain : (backTo bpos (starEach [] X.env)).any (·.1) = false := by rfl) (hsw : swapsWith (.Call (.Attribute fo "extend" apos) [be] [] bpos) none pos2.line X.env = pure false := by rfl) :
    AS X (mL X.K H00 p (acc.map mvD)) ρ (.For (.Tuple elts kk tpos) (.Call (.Name "enumerate" ep) [ea] [] pos') [.Expr (.Call (.Attribute fo "extend" apos) [be] [] bpos) pos2] [] pos :: rest) D := by
  obtain ⟨vs, hl1, hl2⟩ := hl
  have hlen : vs.length = (rows.map enc).length := hl2.length
  refine as_forE (items := rows.map enc) hm hi (fun _ _ _ i => mL X.K H00 p ((acc ++ mvs kind f (rows.take i)).map mvD)) ρ ρ1 ?_ ?_ (SlW.refl ρ) hg ?_ ?_ hgl hst hp' hc hfs
  · rintro H0 H1 v ⟨m, ex, r⟩
    rw [List.take_zero]
    show (mL X.K H00 p ((acc ++ []).map mvD)).P H1
    rw [List.append_nil]
    exact (mL X.K H00 p _).mono ex m
  · rintro H0 H1 v ⟨m, ex, r⟩
    exact ⟨l, vs, r, hlen, fun i H m => ⟨.of (m.1 _ _ hl1), hl2.mono (.of m.1)⟩⟩
  · rintro H0 H1 v hL i d hd
    rw [List.getElem?_map] at hd
    cases hr : rows[i]? with
    | none => rw [hr] at hd; cases hd
    | some r =>
      rw [hr] at hd
      cases hd
      have hpre := mvs_pre kind f rows (i + 1)
      rw [mvs_take kind f hr, List.length_append] at hpre
      refine as_exprM (am_extend (M' := mL X.K H00 p ((acc ++ mvs kind f (rows.take (i + 1))).map mvD)) (hf _ i _) (hb _ i r (fun H m => m.1) hr) (fun H m => ⟨_, m.2.choose_spec.1⟩) (fun H zs xs m hz hx => ?_) hbase hfew hline hs2 hplain) (as_lp (fun H m => m) (hk i _)) hsw
      obtain ⟨ws, g1, g2⟩ := m.2
      rw [hx] at g1
      cases g1
      have gl := g2.length
      refine ⟨?_, ?_⟩
      · rw [gl]
        simp only [List.length_map, List.length_append] at hpre ⊢
        omega
      · have e : (acc ++ mvs kind f (rows.take (i + 1))).map mvD = (acc ++ mvs kind f (rows.take i)).map mvD ++ (f r).map fun d => mvD (kind, i, d) := by
          rw [mvs_take kind f hr]
          simp [List.map_append, List.map_map, Function.comp_def]
        rw [e]
        exact mL_ext hp m hz hx
  · rintro H0 H1 v hL
    rw [List.length_map]
    rw [List.take_length]
    exact hd
end
section
variable {P : Program} {w : World} {K : PySem.W.Frag} {mg : Str → Option Value} {base : Heap} {a : Adr}
abbrev s_e_mv : Stmt := inClass (top 32) 6
abbrev n_e_mv : List Str := ["self", "found", "k", "reader", "deed", "taker", "stepper"]
theorem sc_e_mv : FnScope n_e_mv ["self"] (defScope s_e_mv) := ⟨rfl, rfl, rfl, by decide +kernel, rfl, by decide +kernel, by decide +kernel⟩
def WfE (s : ES) : Prop := (∀ r ∈ s.rs, r.md = "out" ∨ r.md ∈ rdKeys) ∧ (∀ r ∈ s.ts, r.md = "idle" ∨ r.md = "told" ∨ r.md ∈ tkKeys) ∧ ∀ r ∈ s.hs, r.md = "idle" ∨ r.md ∈ stKeys
abbrev sp_e_mv (K : PySem.W.Frag) (a : Adr) : Sp := spG (ι := Cfg × EOwn × ES × Bad) (fun i => WfE i.2.2.1 ∧ (eMoves i.2.1 i.1.nth i.2.2.1).length ≤ 1000) (fun i => [aEW K a i.1 i.2.1 i.2.2.1 i.2.2.2]) fun i => rA (LD K ((eMoves i.2.1 i.1.nth i.2.2.1).map mvD))
theorem strs_len (l : List Str) : (l.map PyData.str).length = l.length := List.length_map ..
theorem mv_ff (l : List Str) (kind : Str) (i : Nat) : ((l.map PyData.str).filter fun _ => true).map (fun d => PyData.tuple [.str kind, .int (i : Nat), d]) = l.map fun d => mvD (kind, i, d) := by
  rw [List.filter_eq_self.mpr (fun _ _ => rfl), List.map_map]
  rfl
theorem ok_e_mv {f : Addr} {fd : FuncData} (F : Fun K "moves" "EpochWorld.moves" s_e_mv f fd) (T : TxC K a.EW fsEW) (be : mg "enumerate" = none) (Gr : GMt P w K mg base 3 a.EW "reader_deeds" (sp_e_rd K a)) (Gt : GMt P w K mg base 3 a.EW "taker_deeds" (sp_e_td K a)) (Gs : GMt P w K mg base 3 a.EW "stepper_deeds" (sp_e_sd K a)) :
    FnOk P w K mg base CX0 4 f fd ["self"] (sp_e_mv K a) := by
  refine fn_G F sc_e_mv (fun _ => rfl) fun cdv A outer s H E hr i hi => ?_
  obtain ⟨c, o, st, bad⟩ := i
  have hw : WfE st := hi.1
  have hn : (eMoves o c.nth st).length ≤ 1000 := hi.2
  have hnl : (mvs "reader" (eDeedsR o) st.rs).length + (mvs "taker" (eDeedsT o c.nth st.spot) st.ts).length + (mvs "stepper" (eDeedsH o) st.hs).length ≤ 1000 := by
    unfold eMoves at hn
    rw [List.length_append, List.length_append] at hn
    exact hn
  refine as_at 0 rfl fun H00 v m0 hA => ?_
  obtain ⟨H0, q, rfl, core⟩ := id hA
  obtain ⟨lf, vb, hins, _⟩ := core.ins
  refine as_asgN (i := 1) (an_lst ad_nil) (fun H1 p vs m1 hp => ?_) sc_e_mv.nd
  have hp0 : H00 p = none := fresh_back m1 hp
  refine as_preM (M' := mL K H00 p (([] : List Mv).map mvD)) ?_ (fun H2 m2 => ⟨m1.trans m2.1, vs, m2.2.1, m2.2.2⟩)
  refine as_rows (enc := ER.d) (f := eDeedsR o) (kind := "reader") (rows := st.rs) (l := q.lr) (acc := []) (ρ1 := fun i d => [.val (Vl (.ref q.p)), .val (Rf p), .val (D K (.int (i : Nat))), .val (D K d), .any, .any, .any]) be hp0 core.rows (by simp; omega)
    (ae_fld (av 0) (fld_at (fun H m => m.1) hins T.cl (T.na _ (by decide)) rfl))
    (fun M d i => ag_tup (ags_cons (ag_name (i := 2) sc_e_mv.nd) (ags_cons (ag_name (i := 3) sc_e_mv.nd) ags_nil))) (fun M i d => av 1) (fun M i r hM hi => ?rr) (fun i d => .same (.same (.any (.any (.same (.same (.same .nil))))))) ?_
  case rr =>
    have hmem : r ∈ st.rs := List.mem_of_getElem? hi
    have hlen : (eDeedsR o r).length ≤ 1000 := by
      have := mvs_pre "reader" (eDeedsR o) st.rs (i + 1)
      rw [mvs_take _ _ hi, List.length_append, List.length_map] at this
      omega
    refine ae_eq (an_ae (an_lc (j := 4) [("deed", 4)] ((eDeedsR o r).map .str) (fun _ => true) (fun d => .tuple [.str "reader", .int (i : Nat), d])
      (pi_tup (ae_meth (Z := D K (.tuple ((eDeedsR o r).map .str))) (ae_at (A := aEW K a c o st bad) (av 0) hM hA) (recv_ew not_fs.2.2.2.2.2.2.1) Gr hr (c, o, st, bad, r) (hw.1 r hmem) rfl (aa_cons (av 3) aa_nil))) wi_tup (by rw [strs_len]; exact hlen) sc_e_mv.nd (blkOk_by (N := n_e_mv) (sc := defScope s_e_mv) (by decide +kernel)) (by decide)
      (fun _ _ _ _ _ => pg_name (i := 4) sc_e_mv.nd rfl (Or.inl rfl)) (fun _ _ _ _ _ d _ => ats_nil) (fun _ _ _ _ _ d hd _ => ae_tup (ad_cons ae_str (ad_cons (av 2) (ad_cons (av 4) ad_nil)))))) (congrArg (LD K) (mv_ff _ _ _))
  rw [List.nil_append]
  refine as_rows (enc := ET.d) (f := eDeedsT o c.nth st.spot) (kind := "taker") (rows := st.ts) (l := q.lt) (acc := mvs "reader" (eDeedsR o) st.rs) (ρ1 := fun i d => [.val (Vl (.ref q.p)), .val (Rf p), .val (D K (.int (i : Nat))), .any, .any, .val (D K d), .any]) be hp0 core.taks (by omega)
    (ae_fld (av 0) (fld_at (fun H m => m.1) hins T.cl (T.na _ (by decide)) rfl))
    (fun M d i => ag_tup (ags_cons (ag_name (i := 2) sc_e_mv.nd) (ags_cons (ag_name (i := 5) sc_e_mv.nd) ags_nil))) (fun M i d => av 1) (fun M i r hM hi => ?rt) (fun i d => .same (.same (.any (.same (.same (.any (.same .nil))))))) ?_
  case rt =>
    have hmem : r ∈ st.ts := List.mem_of_getElem? hi
    have hlen : (eDeedsT o c.nth st.spot r).length ≤ 1000 := by
      have := mvs_pre "taker" (eDeedsT o c.nth st.spot) st.ts (i + 1)
      rw [mvs_take _ _ hi, List.length_append, List.length_map] at this
      omega
    refine ae_eq (an_ae (an_lc (j := 4) [("deed", 4)] ((eDeedsT o c.nth st.spot r).map .str) (fun _ => true) (fun d => .tuple [.str "taker", .int (i : Nat), d])
      (pi_tup (ae_meth (Z := D K (.tuple ((eDeedsT o c.nth st.spot r).map .str))) (ae_at (A := aEW K a c o st bad) (av 0) hM hA) (recv_ew not_fs.2.2.2.2.2.2.2.1) Gt hr (c, o, st, bad, r) (hw.2.1 r hmem) rfl (aa_cons (av 5) aa_nil))) wi_tup (by rw [strs_len]; exact hlen) sc_e_mv.nd (blkOk_by (N := n_e_mv) (sc := defScope s_e_mv) (by decide +kernel)) (by decide)
      (fun _ _ _ _ _ => pg_name (i := 4) sc_e_mv.nd rfl (Or.inl rfl)) (fun _ _ _ _ _ d _ => ats_nil) (fun _ _ _ _ _ d hd _ => ae_tup (ad_cons ae_str (ad_cons (av 2) (ad_cons (av 4) ad_nil)))))) (congrArg (LD K) (mv_ff _ _ _))
  refine as_rows (enc := EH.d) (f := eDeedsH o) (kind := "stepper") (rows := st.hs) (l := q.ls) (acc := mvs "reader" (eDeedsR o) st.rs ++ mvs "taker" (eDeedsT o c.nth st.spot) st.ts) (ρ1 := fun i d => [.val (Vl (.ref q.p)), .val (Rf p), .val (D K (.int (i : Nat))), .any, .any, .any, .val (D K d)]) be hp0 core.stps (by rw [List.length_append]; omega)
    (ae_fld (av 0) (fld_at (fun H m => m.1) hins T.cl (T.na _ (by decide)) rfl))
    (fun M d i => ag_tup (ags_cons (ag_name (i := 2) sc_e_mv.nd) (ags_cons (ag_name (i := 6) sc_e_mv.nd) ags_nil))) (fun M i d => av 1) (fun M i r hM hi => ?rs) (fun i d => .same (.same (.any (.same (.same (.same (.any .nil))))))) ?_
  case rs =>
    have hmem : r ∈ st.hs := List.mem_of_getElem? hi
    have hlen : (eDeedsH o r).length ≤ 1000 := by
      have := mvs_pre "stepper" (eDeedsH o) st.hs (i + 1)
      rw [mvs_take _ _ hi, List.length_append, List.length_map] at this
      omega
    refine ae_eq (an_ae (an_lc (j := 4) [("deed", 4)] ((eDeedsH o r).map .str) (fun _ => true) (fun d => .tuple [.str "stepper", .int (i : Nat), d])
      (pi_tup (ae_meth (Z := D K (.tuple ((eDeedsH o r).map .str))) (ae_at (A := aEW K a c o st bad) (av 0) hM hA) (recv_ew not_fs.2.2.2.2.2.2.2.2.1) Gs hr (c, o, st, bad, r) (hw.2.2 r hmem) rfl (aa_cons (av 6) aa_nil))) wi_tup (by rw [strs_len]; exact hlen) sc_e_mv.nd (blkOk_by (N := n_e_mv) (sc := defScope s_e_mv) (by decide +kernel)) (by decide)
      (fun _ _ _ _ _ => pg_name (i := 4) sc_e_mv.nd rfl (Or.inl rfl)) (fun _ _ _ _ _ d _ => ats_nil) (fun _ _ _ _ _ d hd _ => ae_tup (ad_cons ae_str (ad_cons (av 2) (ad_cons (av 4) ad_nil)))))) (congrArg (LD K) (mv_ff _ _ _))
  exact as_ret (av 1) (fun v H1 m h => ⟨m0.trans m.1, by
    obtain ⟨vs, g1, g2⟩ := m.2
    exact ⟨p, vs, h, g1, g2⟩⟩)
end
end Ep
set_option maxHeartbeats 4000000
/-! EpochWorld: what it does -/
namespace Ep
open PySem PySem.Spec PyProof.Rows L2 Evl
section
variable {P : Program} {w : World} {K : PySem.W.Frag} {mg : Str → Option Value} {base : Heap} {a : Adr}
/-- a world, its place, its switches -/
structure EIx where
  (H0 : Hp) (q : Wad) (c : Cfg) (o : EOwn) (s : ES)
abbrev EIx.m (K : PySem.W.Frag) (a : Adr) (i : EIx) (s : ES) (b : Bad) : Mb := mEW K a i.H0 i.q i.c i.o s b
theorem eAt_lt {o : EOwn} {ep : Int} (h : 0 < o.epochs) : ((ep - o.behind) % o.epochs) = ((eAt o ep : Nat) : Int) ∧ ((eAt o ep : Nat) : Int) < o.epochs := by
  have h1 := Int.emod_nonneg (ep - o.behind) (b := o.epochs) (by omega)
  have h2 := Int.emod_lt_of_pos (ep - o.behind) h
  unfold eAt
  omega
theorem cut_to {bags : List (List Int)} {n : Nat} (h : n ≤ bags.length) : cutD (bags.map tI) none (some (n : Int)) = (bags.map tI).take n := cutD_to (by rw [List.length_map]; exact h)
theorem cut_from {bags : List (List Int)} {n : Nat} (h : n ≤ bags.length) : cutD (bags.map tI) (some (n : Int)) none = (bags.map tI).drop n := cutD_from (by rw [List.length_map]; exact h)
/-! #### sees -/
abbrev s_e_see : Stmt := inClass (top 32) 9
theorem sc_e_see : FnScope ["self", "seen", "bags", "at"] ["self", "seen", "bags"] (defScope s_e_see) := ⟨rfl, rfl, rfl, by decide +kernel, rfl, by decide +kernel, by decide +kernel⟩
abbrev sp_e_see (K : PySem.W.Frag) (a : Adr) : Sp := spK (ι := EIx × Int × List (List Int)) (fun i => 0 < i.1.o.epochs ∧ (i.2.2.length : Int) = i.1.o.epochs ∧ i.2.2.length ≤ 6 ∧ i.1.s.fr.length + i.2.2.flatten.length < 60) (fun i => [Rf i.1.q.p, aI K i.2.1, D K (bagsD i.2.2)])
  (fun i => i.1.m K a i.1.s none) (fun i => i.1.m K a { i.1.s with fr := (eSees i.1.o i.1.s i.2.1 i.2.2).1 } none) (fun i => D K (.tuple [.int (eSees i.1.o i.1.s i.2.1 i.2.2).2.1, bagsD (eSees i.1.o i.1.s i.2.1 i.2.2).2.2]))
theorem ok_e_see {f : Addr} {fd : FuncData} (F : Fun K "sees" "EpochWorld.sees" s_e_see f fd) (T : TxC K a.EW fsEW) (bs : mg "sorted" = none) (bi : mg "int" = none) (bl : mg "list" = none) : FnOk P w K mg base CX0 1 f fd ["self", "seen", "bags"] (sp_e_see K a) := by
  refine fn_K F sc_e_see (fun _ => rfl) fun cdv A outer st0 H E hr i hi => ?_
  obtain ⟨⟨H0, q, c, o, s⟩, seen, bags⟩ := i
  have h1 : 0 < o.epochs := hi.1
  have h2 : (bags.length : Int) = o.epochs := hi.2.1
  have h3 : bags.length ≤ 6 := hi.2.2.1
  have h4 : s.fr.length + bags.flatten.length < 60 := hi.2.2.2
  have hu := hu_of hr
  obtain ⟨ha, hb⟩ := eAt_lt (o := o) (ep := s.ep) h1
  have hk : eAt o s.ep < bags.length := by omega
  have hbl := bag_len (List.getElem?_eq_getElem hk)
  refine as_if (at_cmpC (ac_eqS (av 1) (ae_fld (ae_self (av 0)) (fe_ep T)))) (fun c1 => ?_) (fun c1 => ?_)
  · simp only [eqD_int, decide_eq_true_eq] at c1
    have e : eSees o s seen bags = (s.fr, seen, bags) := by simp [eSees, c1]
    refine as_retM (am_of (ae_tup (ad_cons (av 1) (ad_cons (av 2) ad_nil)))) (fun v H m h => ?_)
    show (mK _ (mEW K a H0 q c o { s with fr := (eSees o s seen bags).1 } none)).P H ∧ (D K (.tuple [.int (eSees o s seen bags).2.1, bagsD (eSees o s seen bags).2.2])).P H v
    rw [e]
    exact ⟨m, h⟩
  · simp only [eqD_int, decide_eq_false_iff_not] at c1
    have e : eSees o s seen bags = (srt (s.fr ++ bags[eAt o s.ep]), s.ep, bags.take (eAt o s.ep) ++ [[]] ++ bags.drop (eAt o s.ep + 1)) := by simp [eSees, c1, List.getElem?_eq_getElem hk]
    refine as_end ?_
    refine as_asg (i := 3) (ae_dat (d' := .int ((eAt o s.ep : Nat) : Int)) (ae_mod (ae_sub (ae_fld (ae_self (av 0)) (fe_ep T)) (ae_dget hu (ae_fld (ae_self (av 0)) (fe_own T)) (fun _ _ _ h => h) ae_str rfl (fun _ => .int _))) (ae_dget hu (ae_fld (ae_self (av 0)) (fe_own T)) (fun _ _ _ h => h) ae_str rfl (fun _ => .int _)) h1) (congrArg PyData.int ha)) ?_ sc_e_see.nd
    refine as_tgt (am_of (an_fr (an_sorted (ns := s.fr ++ bags[eAt o s.ep]) bs bi (ae_eq (ae_catL (ae_fld (ae_self (av 0)) (fe_fr T)) (ae_list (ds := (bags[eAt o s.ep]).map .int) bl (ae_ixT (av 2) (av 3) (atI_bags hk)) sqA_tup) (by simp; omega)) (congrArg (LD K) (List.map_append ..).symm)) sqA_lst (by simp; omega))))
      (kg_fld (av 0) (fw_fr T fun _ _ _ h => h)) ?_
    refine as_retM (am_of (ae_tup (ad_cons (ae_fld (ae_self (av 0)) (fe_ep T)) (ad_cons (ae_cat (ds := (bags.map tI).take (eAt o s.ep) ++ [tI []]) (es := (bags.map tI).drop (eAt o s.ep + 1)) (ae_cat (ds := (bags.map tI).take (eAt o s.ep)) (es := [tI []]) (ae_dat (ae_slT (av 2) ao_none (ao_some (av 3))) (congrArg PyData.tuple (cut_to (Nat.le_of_lt hk)))) (ae_tup (ad_cons (ae_tup ad_nil) ad_nil)) (by simp; omega))
      (ae_dat (ae_slT (av 2) (ao_some (ae_add (av 3) ae_int)) ao_none) (congrArg PyData.tuple (cut_from (n := eAt o s.ep + 1) hk))) (by simp; omega)) ad_nil)))) (fun v H m h => ?_)
    show (mK _ (mEW K a H0 q c o { s with fr := (eSees o s seen bags).1 } none)).P H ∧ (D K (.tuple [.int (eSees o s seen bags).2.1, bagsD (eSees o s seen bags).2.2])).P H v
    rw [e]
    refine ⟨m, d_cl h ?_⟩
    simp [bagsD, List.map_take, List.map_drop, tI]
/-! #### steps -/
abbrev s_e_stp : Stmt := inClass (top 32) 14
theorem sc_e_stp : FnScope ["self", "read"] ["self", "read"] (defScope s_e_stp) := ⟨rfl, rfl, rfl, by decide +kernel, rfl, by decide +kernel, by decide +kernel⟩
abbrev sp_e_stp (K : PySem.W.Frag) (a : Adr) : Sp := spK (ι := EIx × Int) (fun i => 0 < i.1.o.epochs) (fun i => [Rf i.1.q.p, aI K i.2]) (fun i => i.1.m K a i.1.s none) (fun i => i.1.m K a { i.1.s with ep := eSteps i.1.o i.1.s.ep i.2 } none) (fun _ => aN K)
theorem ok_e_stp {f : Addr} {fd : FuncData} (F : Fun K "steps" "EpochWorld.steps" s_e_stp f fd) (T : TxC K a.EW fsEW) : FnOk P w K mg base CX0 1 f fd ["self", "read"] (sp_e_stp K a) := by
  refine fn_K F sc_e_stp (fun _ => rfl) fun cdv A outer st0 H E hr i hi => ?_
  obtain ⟨⟨H0, q, c, o, s⟩, rd⟩ := i
  have h1 : 0 < o.epochs := hi
  have hu := hu_of hr
  refine as_if (at_cmpC (ac_eqS (ae_dget hu (ae_fld (ae_self (av 0)) (fe_own T)) (fun _ _ _ h => h) ae_str rfl (fun _ => .str _)) ae_str)) (fun c1 => ?_) (fun c1 => ?_)
  · simp only [eqD_str, decide_eq_true_eq] at c1
    refine as_tgt (am_of (av 1)) (kg_fld (av 0) (fw_ep T)) ?_
    refine as_end ?_
    refine as_if (aw_or (at_cmpC (ac_neS (ae_dget hu (ae_fld (ae_self (av 0)) (fe_own T)) (fun _ _ _ h => h) ae_str rfl (fun _ => .str _)) ae_str)) (fun _ => aw_or1 (at_cmpC (ac_eqS (ae_fld (ae_self (av 0)) (fe_ep T)) (av 1))))).pt (fun c2 => ?_) (fun c2 => ?_)
    · refine as_tgt (am_of (ae_mod (ae_add (ae_fld (ae_self (av 0)) (fe_ep T)) ae_int) (ae_dget hu (ae_fld (ae_self (av 0)) (fe_own T)) (fun _ _ _ h => h) ae_str rfl (fun _ => .int _)) h1)) (kg_fld (av 0) (fw_ep T)) ?_
      refine as_end (as_done fun H m => ?_)
      have e : eSteps o s.ep rd = (rd + 1) % o.epochs := by simp [eSteps, c1]
      show (mK _ (mEW K a H0 q c o { s with ep := eSteps o s.ep rd } none)).P H
      rw [e]
      exact m
    · simp [eqD] at c2
  · simp only [eqD_str, decide_eq_false_iff_not] at c1
    refine as_end ?_
    refine as_if (aw_or (at_cmpC (ac_neS (ae_dget hu (ae_fld (ae_self (av 0)) (fe_own T)) (fun _ _ _ h => h) ae_str rfl (fun _ => .str _)) ae_str)) (fun _ => aw_or1 (at_cmpC (ac_eqS (ae_fld (ae_self (av 0)) (fe_ep T)) (av 1))))).pt (fun c2 => ?_) (fun c2 => ?_)
    · refine as_tgt (am_of (ae_mod (ae_add (ae_fld (ae_self (av 0)) (fe_ep T)) ae_int) (ae_dget hu (ae_fld (ae_self (av 0)) (fe_own T)) (fun _ _ _ h => h) ae_str rfl (fun _ => .int _)) h1)) (kg_fld (av 0) (fw_ep T)) ?_
      refine as_end (as_done fun H m => ?_)
      simp only [eqD_str, eqD_int, Bool.or_eq_true, Bool.not_eq_true', decide_eq_false_iff_not, decide_eq_true_eq] at c2
      have e : eSteps o s.ep rd = (s.ep + 1) % o.epochs := by simp [eSteps, c1, c2]
      show (mK _ (mEW K a H0 q c o { s with ep := eSteps o s.ep rd } none)).P H
      rw [e]
      exact m
    · refine as_end (as_done fun H m => ?_)
      simp only [eqD_str, eqD_int, Bool.or_eq_false_iff, Bool.not_eq_false', decide_eq_false_iff_not, decide_eq_true_eq] at c2
      have e : eSteps o s.ep rd = s.ep := by
        unfold eSteps
        rw [if_neg c1, if_neg (by
          rintro (h | h)
          · exact h c2.1
          · exact c2.2 h)]
      show (mK _ (mEW K a H0 q c o { s with ep := eSteps o s.ep rd } none)).P H
      rw [e]
      exact m
/-! #### reader_does -/
abbrev s_e_rdo : Stmt := inClass (top 32) 8
abbrev n_e_rdo : List Str := ["self", "k", "deed", "mode", "read", "word", "thing", "told"]
theorem sc_e_rdo : FnScope n_e_rdo ["self", "k", "deed"] (defScope s_e_rdo) := ⟨rfl, rfl, rfl, by decide +kernel, rfl, by decide +kernel, by decide +kernel⟩
abbrev sp_e_rdo (K : PySem.W.Frag) (a : Adr) : Sp := spK (ι := EIx × Nat × Str × ER) (fun i => i.1.s.rs[i.2.1]? = some i.2.2.2) (fun i => [Rf i.1.q.p, aI K (i.2.1 : Nat), aS K i.2.2.1]) (fun i => i.1.m K a i.1.s none)
  (fun i => i.1.m K a (eReader i.1.o i.1.s i.2.1 i.2.2.1 i.2.2.2).1 (eReader i.1.o i.1.s i.2.1 i.2.2.1 i.2.2.2).2) (fun _ => aN K)
theorem atI_map {α : Type} {f : α → PyData} {l : List α} {k : Nat} {r : α} (h : l[k]? = some r) : atI (l.map f) (k : Int) = some (f r) := atI_nat (by rw [List.getElem?_map, h]; rfl)
theorem ok_e_rdo {f : Addr} {fd : FuncData} (F : Fun K "reader_does" "EpochWorld.reader_does" s_e_rdo f fd) (T : TxC K a.EW fsEW) : FnOk P w K mg base CX0 1 f fd ["self", "k", "deed"] (sp_e_rdo K a) := by
  refine fn_K F sc_e_rdo (fun _ => rfl) fun cdv A outer st0 H E hr i hi => ?_
  obtain ⟨⟨H0, q, c, o, s⟩, k, deed, r⟩ := i
  have h1 : s.rs[k]? = some r := hi
  have hk : k < s.rs.length := (List.getElem?_eq_some_iff.mp h1).1
  have hu := hu_of hr
  have fin : ∀ {s' : ES} {b' : Bad}, eReader o s k deed r = (s', b') → ∀ H1, (mK H (mEW K a H0 q c o s' b')).P H1 → (mK H (mEW K a H0 q c o (eReader o s k deed r).1 (eReader o s k deed r).2)).P H1 := fun e H1 m => by
    rw [e]
    exact m
  refine as_tgt (am_of (ae_ixL (ae_fld (ae_self (av 0)) (fe_rr T)) (av 1) (atI_map h1))) (ag_tup (ags_cons (ag_name (i := 3) sc_e_rdo.nd) (ags_cons (ag_name (i := 4) sc_e_rdo.nd) (ags_cons (ag_name (i := 5) sc_e_rdo.nd) (ags_cons (ag_name (i := 6) sc_e_rdo.nd) ags_nil))))) ?_
  refine as_asg (i := 7) (ae_dat (d' := .str (if o.fetch = "behind" then "told" else "inside")) (ae_ifS (at_cmpC (ac_eqS (ae_dget hu (ae_fld (ae_self (av 0)) (fe_own T)) (fun _ _ _ h => h) ae_str rfl (fun _ => .str _)) ae_str)) (fun _ => ae_str) (fun _ => ae_str)) (by simp only [eqD_str, decide_eq_true_eq])) ?_ sc_e_rdo.nd
  refine as_if (at_cmpC (ac_eqS (av 2) ae_str)) (fun c1 => ?_) (fun c1 => ?_)
  · simp only [eqD_str, decide_eq_true_eq] at c1
    refine as_tgt (am_of (ae_dat (d' := ER.d ⟨"read", some s.ep, r.wd, r.th⟩) (ae_tup (ad_cons ae_str (ad_cons (ae_fld (ae_self (av 0)) (fe_ep T)) (ad_cons (av 5) (ad_cons (av 6) ad_nil))))) rfl)) (kg_sub (ae_fld (av 0) (fe_rrR T)) (av 1) (sw_rr hk)) ?_
    exact as_end (as_done (fin (by simp only [eReader, if_pos c1])))
  simp only [eqD_str, decide_eq_false_iff_not] at c1
  refine as_if (at_cmpC (ac_eqS (av 2) ae_str)) (fun c2 => ?_) (fun c2 => ?_)
  · simp only [eqD_str, decide_eq_true_eq] at c2
    refine as_tgt (am_of (ae_dat (d' := ER.d ⟨if o.check then "wrote" else (if o.fetch = "behind" then "told" else "inside"), none, r.rd, r.th⟩) (ae_tup (ad_cons (ae_ifS (at_val (ae_dget hu (ae_fld (ae_self (av 0)) (fe_own T)) (fun _ _ _ h => h) ae_str rfl (fun _ => .bl _))) (fun _ => ae_str) (fun _ => (av 7))) (ad_cons ae_non (ad_cons (av 4) (ad_cons (av 6) ad_nil))))) rfl)) (kg_sub (ae_fld (av 0) (fe_rrR T)) (av 1) (sw_rr hk)) ?_
    exact as_end (as_end (as_done (fin (by simp only [eReader, if_neg c1, if_pos c2]))))
  simp only [eqD_str, decide_eq_false_iff_not] at c2
  refine as_if (at_cmpC (ac_eqS (av 2) ae_str)) (fun c3 => ?_) (fun c3 => ?_)
  · simp only [eqD_str, decide_eq_true_eq] at c3
    refine as_tgt (am_of (ae_dat (d' := ER.d ⟨if eqD (.int s.ep) (oI r.wd) then (if o.fetch = "behind" then "told" else "inside") else "anew", none, r.wd, r.th⟩) (ae_tup (ad_cons (ae_ifS (at_cmpC (ac_eqS (ae_fld (ae_self (av 0)) (fe_ep T)) (av 5) (scD_oI _ _))) (fun _ => (av 7)) (fun _ => ae_str)) (ad_cons ae_non (ad_cons (av 5) (ad_cons (av 6) ad_nil))))) rfl)) (kg_sub (ae_fld (av 0) (fe_rrR T)) (av 1) (sw_rr hk)) ?_
    exact as_end (as_end (as_end (as_done (fin (by simp only [eReader, if_neg c1, if_neg c2, if_pos c3])))))
  simp only [eqD_str, decide_eq_false_iff_not] at c3
  refine as_if (at_cmpC (ac_eqS (av 2) ae_str)) (fun c4 => ?_) (fun c4 => ?_)
  · simp only [eqD_str, decide_eq_true_eq] at c4
    refine as_tgt (am_of (ae_dat (d' := ER.d ⟨if o.fetch = "ahead" then "got" else "inside", none, r.wd, some s.spot⟩) (ae_tup (ad_cons (ae_ifS (at_cmpC (ac_eqS (ae_dget hu (ae_fld (ae_self (av 0)) (fe_own T)) (fun _ _ _ h => h) ae_str rfl (fun _ => .str _)) ae_str)) (fun _ => ae_str) (fun _ => ae_str)) (ad_cons ae_non (ad_cons (av 5) (ad_cons (ae_fld (ae_self (av 0)) (fe_spot T)) ad_nil))))) (by simp only [ER.d, eqD_str, decide_eq_true_eq]; rfl))) (kg_sub (ae_fld (av 0) (fe_rrR T)) (av 1) (sw_rr hk)) ?_
    exact as_end (as_end (as_end (as_end (as_done (fin (by simp only [eReader, if_neg c1, if_neg c2, if_neg c3, if_pos c4]))))))
  simp only [eqD_str, decide_eq_false_iff_not] at c4
  refine as_if (at_cmpC (ac_eqS (av 2) ae_str)) (fun c5 => ?_) (fun c5 => ?_)
  · simp only [eqD_str, decide_eq_true_eq] at c5
    refine as_tgt (am_of (ae_dat (d' := ER.d ⟨"out", none, none, none⟩) (ae_tup (ad_cons ae_str (ad_cons ae_non (ad_cons ae_non (ad_cons ae_non ad_nil))))) rfl)) (kg_sub (ae_fld (av 0) (fe_rrR T)) (av 1) (sw_rr hk)) ?_
    exact as_end (as_end (as_end (as_end (as_end (as_done (fin (by simp only [eReader, if_neg c1, if_neg c2, if_neg c3, if_neg c4, if_pos c5])))))))
  simp only [eqD_str, decide_eq_false_iff_not] at c5
  refine as_if (at_cmpC (ac_in (av 6) (ae_fld (ae_self (av 0)) (fe_fr T)) sqA_lst (flat_oI _) (flat_ints _))) (fun c6 => ?_) (fun c6 => ?_)
  · refine as_tgt (am_of (ae_dat (d' := bad0 (some (k, r.th))) (ae_tup (ad_cons ae_str (ad_cons (av 1) (ad_cons (av 6) ad_nil)))) rfl)) (kg_fld (av 0) (fw_bad T)) ?_
    exact as_end (as_end (as_end (as_end (as_end (as_end (as_done (fin (by simp only [eReader, if_neg c1, if_neg c2, if_neg c3, if_neg c4, if_neg c5, if_pos c6]))))))))
  · exact as_end (as_end (as_end (as_end (as_end (as_end (as_done (fin (by simp only [eReader, if_neg c1, if_neg c2, if_neg c3, if_neg c4, if_neg c5, c6, if_false]; simp))))))))
end
end Ep
set_option maxHeartbeats 4000000
/-! EpochWorld: taker_does, stepper_does, do -/
namespace Ep
open PySem PySem.Spec PyProof.Rows L2 Evl
section
variable {P : Program} {w : World} {K : PySem.W.Frag} {mg : Str → Option Value} {base : Heap} {a : Adr}
theorem recv_self {H0 Hs : Hp} {q : Wad} {c : Cfg} {o : EOwn} {s : ES} {bad : Bad} {m : Str} (hm : m ∉ fsEW) : Recv (mK Hs (mEW K a H0 q c o s bad)) a.EW m (Rf q.p) (Rf q.p) := fun H v m' h => by
  obtain ⟨lf, vb, h2, _⟩ := m'.2.ins
  exact ⟨q.p, q.dx, _, h, h2, lookup_none (l := fsEW) rfl hm, h⟩
theorem flat_take_drop {bags : List (List Int)} (k : Nat) : (bags.take k ++ [[]] ++ bags.drop (k + 1)).flatten.length ≤ bags.flatten.length := by
  have h1 : (bags.take k).flatten.length + (bags.drop k).flatten.length = bags.flatten.length := by
    conv => rhs; rw [← List.take_append_drop k bags]
    rw [List.flatten_append, List.length_append]
  have h2 : (bags.drop (k + 1)).flatten.length ≤ (bags.drop k).flatten.length := by
    cases h : bags.drop k with
    | nil =>
      have : bags.length ≤ k := List.drop_eq_nil_iff.mp h
      rw [List.drop_eq_nil_iff.mpr (by omega)]
      simp
    | cons b l =>
      have : bags.drop (k + 1) = l := by
        rw [← List.drop_drop, h]
        rfl
      rw [this]
      simp
  simp only [List.flatten_append, List.length_append, List.flatten_cons, List.flatten_nil, List.length_nil, List.append_nil]
  omega
theorem eSees_len {o : EOwn} {s : ES} {seen : Int} {bags : List (List Int)} (h : eAt o s.ep < bags.length) : (eSees o s seen bags).2.2.length = bags.length ∧ (eSees o s seen bags).2.2.flatten.length ≤ bags.flatten.length := by
  unfold eSees
  split
  · exact ⟨rfl, Nat.le_refl _⟩
  · refine ⟨?_, flat_take_drop _⟩
    simp
    omega
theorem eSeen_len {o : EOwn} {s : ES} {deed : Str} {r : ET} (h : eAt o s.ep < r.bags.length) : (eSeen o s deed r).2.2.length = r.bags.length ∧ (eSeen o s deed r).2.2.flatten.length ≤ r.bags.flatten.length := by
  unfold eSeen
  split
  · exact eSees_len h
  · exact ⟨rfl, Nat.le_refl _⟩
/-! #### taker_does -/
abbrev s_e_tdo : Stmt := inClass (top 32) 11
abbrev n_e_tdo : List Str := ["self", "k", "deed", "mode", "read", "word", "out", "seen", "bags", "at"]
theorem sc_e_tdo : FnScope n_e_tdo ["self", "k", "deed"] (defScope s_e_tdo) := ⟨rfl, rfl, rfl, by decide +kernel, rfl, by decide +kernel, by decide +kernel⟩
structure TkOk (o : EOwn) (s : ES) (deed : Str) (r : ET) : Prop where
  pos : 0 < o.epochs
  len : (r.bags.length : Int) = o.epochs
  le : r.bags.length ≤ 6
  few : s.fr.length + r.bags.flatten.length < 59
  out : deed = "mark" → r.out ≠ none
  ep : 0 ≤ s.ep ∧ s.ep < o.epochs
  wd : deed = "mark" → o.mark ≠ "fresh" → ∃ x : Int, r.wd = some x ∧ 0 ≤ x ∧ x < o.epochs
abbrev sp_e_tdo (K : PySem.W.Frag) (a : Adr) : Sp := spK (ι := EIx × Nat × Str × ET) (fun i => i.1.s.ts[i.2.1]? = some i.2.2.2 ∧ TkOk i.1.o i.1.s i.2.2.1 i.2.2.2) (fun i => [Rf i.1.q.p, aI K (i.2.1 : Nat), aS K i.2.2.1]) (fun i => i.1.m K a i.1.s none)
  (fun i => i.1.m K a (eTaker i.1.o i.1.s i.2.1 i.2.2.1 i.2.2.2) none) (fun _ => aN K)
theorem ok_e_tdo {f : Addr} {fd : FuncData} (F : Fun K "taker_does" "EpochWorld.taker_does" s_e_tdo f fd) (T : TxC K a.EW fsEW) (Gs : GMt P w K mg base 1 a.EW "sees" (sp_e_see K a)) (Gp : GMt P w K mg base 1 a.EW "put" (sp_e_put K a)) : FnOk P w K mg base CX0 2 f fd ["self", "k", "deed"] (sp_e_tdo K a) := by
  refine fn_K F sc_e_tdo (fun _ => rfl) fun cdv A outer st0 H E hr i hi => ?_
  obtain ⟨⟨H0, q, c, o, s⟩, k, deed, r⟩ := i
  have h1 : s.ts[k]? = some r := hi.1
  have ok : TkOk o s deed r := hi.2
  have hk : k < s.ts.length := (List.getElem?_eq_some_iff.mp h1).1
  have hu := hu_of hr
  obtain ⟨hat, hat2⟩ := eAt_lt (o := o) (ep := s.ep) ok.pos
  have hlb : eAt o s.ep < r.bags.length := by
    have := ok.len
    omega
  obtain ⟨l1, l2⟩ := eSeen_len (deed := deed) hlb
  have fin : ∀ {s' : ES}, eTaker o s k deed r = s' → ∀ H1, (mK H (mEW K a H0 q c o s' none)).P H1 → (mK H (mEW K a H0 q c o (eTaker o s k deed r) none)).P H1 := fun e H1 m => by
    rw [e]
    exact m
  have nd := sc_e_tdo.nd
  refine as_tgt (am_of (ae_ixL (ae_fld (ae_self (av 0)) (fe_tr T)) (av 1) (atI_map h1))) (ag_tup (ags_cons (ag_name (i := 3) nd) (ags_cons (ag_name (i := 4) nd) (ags_cons (ag_name (i := 5) nd) (ags_cons (ag_name (i := 6) nd) (ags_cons (ag_name (i := 7) nd) (ags_cons (ag_name (i := 8) nd) ags_nil))))))) ?_
  have rest : ∀ (Q : List Int × Int × List (List Int)), eSeen o s deed r = Q → AS (cxOf CX0 P w K mg base n_e_tdo "EpochWorld.taker_does" (defScope s_e_tdo) f cdv A outer st0 H E).nox (mK H (mEW K a H0 q c o { s with fr := Q.1 } none))
      [.val (Rf q.p), .val (aI K (k : Nat)), .val (aS K deed), .val (aS K r.md), .val (D K (oI r.rd)), .val (D K (oI r.wd)), .val (D K (oI r.out)), .val (aI K Q.2.1), .val (D K (bagsD Q.2.2)), .any] ((defBody s_e_tdo).drop 2)
      (rtC (mK H (mEW K a H0 q c o (eTaker o s k deed r) none)) (aN K)) := by
    intro Q hQ
    rw [hQ] at l1 l2
    have hk' : k < ({ s with fr := Q.1 } : ES).ts.length := hk
    refine as_if (at_cmpC (ac_eqS (av 2) ae_str)) (fun c1 => ?_) (fun c1 => ?_)
    · simp only [eqD_str, decide_eq_true_eq] at c1
      refine as_par (i := 3) (j := 4) (aa_cons ae_str (aa_cons (ae_fld (ae_self (av 0)) (fe_ep T)) aa_nil)) ?_ nd
      refine as_end ?_
      refine as_tgt (am_of (ae_dat (d' := ET.d ⟨"read", some s.ep, r.wd, r.out, Q.2.1, Q.2.2⟩) (ae_tup (ad_cons (av 3) (ad_cons (av 4) (ad_cons (av 5) (ad_cons (av 6) (ad_cons (av 7) (ad_cons (av 8) ad_nil))))))) rfl)) (kg_sub (ae_fld (av 0) (fe_trR T)) (av 1) (sw_tr hk')) ?_
      exact as_done (fin (by simp only [eTaker, hQ, if_pos c1]))
    simp only [eqD_str, decide_eq_false_iff_not] at c1
    refine as_if (at_cmpC (ac_eqS (av 2) ae_str)) (fun c2 => ?_) (fun c2 => ?_)
    · simp only [eqD_str, decide_eq_true_eq] at c2
      refine as_par3 (i := 3) (j := 4) (l := 5) (aa_cons (ae_ifS (at_val (ae_dget hu (ae_fld (ae_self (av 0)) (fe_own T)) (fun _ _ _ h => h) ae_str rfl (fun _ => .bl _))) (fun _ => ae_str) (fun _ => ae_str)) (aa_cons ae_non (aa_cons (av 4) aa_nil))) ?_ nd
      refine as_end (as_end ?_)
      refine as_tgt (am_of (ae_dat (d' := ET.d ⟨if o.check then "wrote" else "told", none, r.rd, r.out, Q.2.1, Q.2.2⟩) (ae_tup (ad_cons (av 3) (ad_cons (av 4) (ad_cons (av 5) (ad_cons (av 6) (ad_cons (av 7) (ad_cons (av 8) ad_nil))))))) rfl)) (kg_sub (ae_fld (av 0) (fe_trR T)) (av 1) (sw_tr hk')) ?_
      exact as_done (fin (by simp only [eTaker, hQ, if_neg c1, if_pos c2]))
    simp only [eqD_str, decide_eq_false_iff_not] at c2
    refine as_if (at_cmpC (ac_eqS (av 2) ae_str)) (fun c3 => ?_) (fun c3 => ?_)
    · simp only [eqD_str, decide_eq_true_eq] at c3
      refine as_asg (i := 3) (ae_ifS (at_cmpC (ac_eqS (ae_fld (ae_self (av 0)) (fe_ep T)) (av 5) (scD_oI _ _))) (fun _ => ae_str) (fun _ => ae_str)) ?_ nd
      refine as_end (as_end (as_end ?_))
      refine as_tgt (am_of (ae_dat (d' := ET.d ⟨if eqD (.int s.ep) (oI r.wd) then "told" else "anew", r.rd, r.wd, r.out, Q.2.1, Q.2.2⟩) (ae_tup (ad_cons (av 3) (ad_cons (av 4) (ad_cons (av 5) (ad_cons (av 6) (ad_cons (av 7) (ad_cons (av 8) ad_nil))))))) rfl)) (kg_sub (ae_fld (av 0) (fe_trR T)) (av 1) (sw_tr hk')) ?_
      exact as_done (fin (by simp only [eTaker, hQ, if_neg c1, if_neg c2, if_pos c3]))
    simp only [eqD_str, decide_eq_false_iff_not] at c3
    refine as_if (at_cmpC (ac_eqS (av 2) ae_str)) (fun c4 => ?_) (fun c4 => ?_)
    · simp only [eqD_str, decide_eq_true_eq] at c4
      refine as_par (i := 3) (j := 6) (aa_cons ae_str (aa_cons (ae_fld (ae_self (av 0)) (fe_spot T)) aa_nil)) ?_ nd
      refine ks_fldaug (av 0) ae_int (aw_spot T) ?_
      refine as_end (as_end (as_end (as_end ?_)))
      refine as_tgt (am_of (ae_dat (d' := ET.d ⟨"took", r.rd, r.wd, some s.spot, Q.2.1, Q.2.2⟩) (ae_tup (ad_cons (av 3) (ad_cons (av 4) (ad_cons (av 5) (ad_cons (av 6) (ad_cons (av 7) (ad_cons (av 8) ad_nil))))))) rfl)) (kg_sub (ae_fld (av 0) (fe_trR T)) (av 1) (sw_tr hk')) ?_
      exact as_done (fin (by simp only [eTaker, hQ, if_neg c1, if_neg c2, if_neg c3, if_pos c4]))
    simp only [eqD_str, decide_eq_false_iff_not] at c4
    refine as_if (at_cmpC (ac_eqS (av 2) ae_str)) (fun c5 => ?_) (fun c5 => ?_)
    · simp only [eqD_str, decide_eq_true_eq] at c5
      have ho := ok.out c5
      cases hout : r.out with
      | none => exact absurd hout ho
      | some th =>
        obtain ⟨n, hn, hn2, hn3⟩ : ∃ n : Nat, (if o.mark = "fresh" then PyData.int s.ep else oI r.wd) = .int (n : Int) ∧ n < Q.2.2.length ∧ (if o.mark = "fresh" then s.ep else r.wd.getD 0).toNat = n := by
          have hl := ok.len
          by_cases hf : o.mark = "fresh"
          · obtain ⟨e1, e2⟩ := ok.ep
            obtain ⟨n, hn⟩ := Int.eq_ofNat_of_zero_le e1
            refine ⟨n, by rw [if_pos hf, hn], by omega, by rw [if_pos hf, hn, Int.toNat_natCast]⟩
          · obtain ⟨x, e0, e1, e2⟩ := ok.wd c5 hf
            obtain ⟨n, hn⟩ := Int.eq_ofNat_of_zero_le e1
            refine ⟨n, by rw [if_neg hf, e0, hn]; rfl, by omega, by rw [if_neg hf, e0]; show x.toNat = n; rw [hn, Int.toNat_natCast]⟩
        refine as_asg (i := 9) (ae_dat (d' := .int (n : Int)) (ae_ifD (at_cmpC (ac_eqS (ae_dget hu (ae_fld (ae_self (av 0)) (fe_own T)) (fun _ _ _ h => h) ae_str rfl (fun _ => .str _)) ae_str)) (fun _ => (ae_fld (ae_self (av 0)) (fe_ep T))) (fun _ => (av 5))) (by simp only [eqD_str, decide_eq_true_eq]; exact hn)) ?_ nd
        have l3 : Q.2.2.length ≤ 6 := by rw [l1]; exact ok.le
        have l4 := ok.few
        refine as_tgt (am_of (ae_tup (ad_cons ae_str (ad_cons ae_non (ad_cons ae_non (ad_cons (ae_meth (ae_self (av 0)) (recv_ew not_fs.2.2.1) Gp hr (c, o, { s with fr := Q.1 }, none, Q.2.2, n, th) ⟨hn2, l3, by show Q.2.2.flatten.length < 60; omega⟩ rfl (aa_cons (av 8) (aa_cons (av 9) (aa_cons (av 6) aa_nil)))) ad_nil))))))
          (ag_tup (ags_cons (ag_name (i := 3) nd) (ags_cons (ag_name (i := 5) nd) (ags_cons (ag_name (i := 6) nd) (ags_cons (ag_name (i := 8) nd) ags_nil))))) ?_
        refine as_end (as_end (as_end (as_end (as_end ?_))))
        refine as_tgt (am_of (ae_dat (d' := ET.d ⟨"idle", r.rd, none, none, Q.2.1, ePut Q.2.2 n th⟩) (ae_tup (ad_cons (av 3) (ad_cons (av 4) (ad_cons (av 5) (ad_cons (av 6) (ad_cons (av 7) (ad_cons (av 8) ad_nil))))))) rfl)) (kg_sub (ae_fld (av 0) (fe_trR T)) (av 1) (sw_tr hk')) ?_
        exact as_done (fin (by simp only [eTaker, hQ, if_neg c1, if_neg c2, if_neg c3, if_neg c4, if_pos c5, hn3, hout, Option.getD_some]))
    simp only [eqD_str, decide_eq_false_iff_not] at c5
    refine as_if (at_cmpC (ac_eqS (av 2) ae_str)) (fun c6 => ?_) (fun c6 => ?_)
    · simp only [eqD_str, decide_eq_true_eq] at c6
      refine as_tgt (am_of (ae_tup (ad_cons ae_str (ad_cons ae_non ad_nil)))) (ag_tup (ags_cons (ag_name (i := 3) nd) (ags_cons (ag_name (i := 5) nd) ags_nil))) ?_
      refine as_end (as_end (as_end (as_end (as_end (as_end ?_)))))
      refine as_tgt (am_of (ae_dat (d' := ET.d ⟨"idle", r.rd, none, r.out, Q.2.1, Q.2.2⟩) (ae_tup (ad_cons (av 3) (ad_cons (av 4) (ad_cons (av 5) (ad_cons (av 6) (ad_cons (av 7) (ad_cons (av 8) ad_nil))))))) rfl)) (kg_sub (ae_fld (av 0) (fe_trR T)) (av 1) (sw_tr hk')) ?_
      exact as_done (fin (by simp only [eTaker, hQ, if_neg c1, if_neg c2, if_neg c3, if_neg c4, if_neg c5, if_pos c6]))
    · simp only [eqD_str, decide_eq_false_iff_not] at c6
      refine as_end (as_end (as_end (as_end (as_end (as_end ?_)))))
      refine as_tgt (am_of (ae_dat (d' := ET.d ⟨r.md, r.rd, r.wd, r.out, Q.2.1, Q.2.2⟩) (ae_tup (ad_cons (av 3) (ad_cons (av 4) (ad_cons (av 5) (ad_cons (av 6) (ad_cons (av 7) (ad_cons (av 8) ad_nil))))))) rfl)) (kg_sub (ae_fld (av 0) (fe_trR T)) (av 1) (sw_tr hk')) ?_
      exact as_done (fin (by simp only [eTaker, hQ, if_neg c1, if_neg c2, if_neg c3, if_neg c4, if_neg c5, if_neg c6]))
  refine as_if (aw_or (at_cmpC (ac_in (ds := [.str "see", .str "tell", .str "check"]) (av 2) (ae_tup (ad_cons ae_str (ad_cons ae_str (ad_cons ae_str ad_nil)))) sqA_tup rfl rfl)) (fun _ => aw_or1 (aw_and (at_cmpC (ac_eqS (av 2) ae_str)) (fun _ => aw_and1 (at_cmpC (ac_eqS (ae_dget hu (ae_fld (ae_self (av 0)) (fe_own T)) (fun _ _ _ h => h) ae_str rfl (fun _ => .str _)) ae_str)))).pt)).pt (fun c0 => ?_) (fun c0 => ?_)
  · have e : eSeen o s deed r = eSees o s r.seen r.bags := by
      unfold eSeen
      rw [if_pos]
      simp [inD, eqF, eqD] at c0
      rcases c0 with (h | h | h) | h
      · exact .inl h.symm
      · exact .inr (.inl h.symm)
      · exact .inr (.inr (.inl h.symm))
      · exact .inr (.inr (.inr h))
    have l4 := ok.few
    refine as_tgt (km_meth (M' := mEW K a H0 q c o { s with fr := (eSees o s r.seen r.bags).1 } none) (B := D K (.tuple [.int (eSees o s r.seen r.bags).2.1, bagsD (eSees o s r.seen r.bags).2.2])) (av 0) (recv_self not_fs.2.2.2.1) Gs hr (aa_cons (av 7) (aa_cons (av 8) aa_nil)) (fun H1 v vs m hv hvs => ⟨(⟨H0, q, c, o, s⟩, r.seen, r.bags), ⟨ok.pos, ok.len, ok.le, by show s.fr.length + r.bags.flatten.length < 60; omega⟩, m, .cons hv hvs, fun v' H2 m2 r2 => ⟨m2, r2⟩⟩))
      (ag_tup (ags_cons (ag_name (i := 7) nd) (ags_cons (ag_name (i := 8) nd) ags_nil))) ?_
    exact as_end (rest _ e)
  · have e : eSeen o s deed r = (s.fr, r.seen, r.bags) := by
      unfold eSeen
      rw [if_neg]
      simp [inD, eqF, eqD] at c0
      rintro (h | h | h | h)
      · exact c0.1.1 h.symm
      · exact c0.1.2.1 h.symm
      · exact c0.1.2.2 h.symm
      · exact c0.2 h.1 h.2
    exact as_end (rest _ e)
end
end Ep
set_option maxHeartbeats 4000000
/-! EpochWorld: stepper_does, do -/
namespace Ep
open PySem PySem.Spec PyProof.Rows L2 Evl
section
variable {P : Program} {w : World} {K : PySem.W.Frag} {mg : Str → Option Value} {base : Heap} {a : Adr}
/-! #### stepper_does -/
abbrev s_e_sdo : Stmt := inClass (top 32) 15
abbrev n_e_sdo : List Str := ["self", "k", "deed", "mode", "read", "word", "at"]
theorem sc_e_sdo : FnScope n_e_sdo ["self", "k", "deed"] (defScope s_e_sdo) := ⟨rfl, rfl, rfl, by decide +kernel, rfl, by decide +kernel, by decide +kernel⟩
structure StOk (o : EOwn) (s : ES) (deed : Str) (r : EH) : Prop where
  pos : 0 < o.epochs
  len : s.rs.length + s.ts.length + s.hs.length ≤ 100
  look : deed = "look" → 0 ≤ r.at_ ∧ r.at_ < ((eWords s).length : Int) ∧ r.rd ≠ none
  step : deed = "step" → r.rd ≠ none
abbrev sp_e_sdo (K : PySem.W.Frag) (a : Adr) : Sp := spK (ι := EIx × Nat × Str × EH) (fun i => i.1.s.hs[i.2.1]? = some i.2.2.2 ∧ StOk i.1.o i.1.s i.2.2.1 i.2.2.2) (fun i => [Rf i.1.q.p, aI K (i.2.1 : Nat), aS K i.2.2.1]) (fun i => i.1.m K a i.1.s none)
  (fun i => i.1.m K a (eStepper i.1.o i.1.s i.2.1 i.2.2.1 i.2.2.2) none) (fun _ => aN K)
theorem ok_e_sdo {f : Addr} {fd : FuncData} (F : Fun K "stepper_does" "EpochWorld.stepper_does" s_e_sdo f fd) (T : TxC K a.EW fsEW) (Gs : GMt P w K mg base 2 a.EW "steps" (sp_e_stp K a)) (Gl : GMt P w K mg base 2 a.EW "looks" (sp_e_lk K a)) : FnOk P w K mg base CX0 3 f fd ["self", "k", "deed"] (sp_e_sdo K a) := by
  refine fn_K F sc_e_sdo (fun _ => rfl) fun cdv A outer st0 H E hr i hi => ?_
  obtain ⟨⟨H0, q, c, o, s⟩, k, deed, r⟩ := i
  have h1 : s.hs[k]? = some r := hi.1
  have ok : StOk o s deed r := hi.2
  have hk : k < s.hs.length := (List.getElem?_eq_some_iff.mp h1).1
  have hu := hu_of hr
  have nd := sc_e_sdo.nd
  have fin : ∀ {s' : ES}, eStepper o s k deed r = s' → ∀ H1, (mK H (mEW K a H0 q c o s' none)).P H1 → (mK H (mEW K a H0 q c o (eStepper o s k deed r) none)).P H1 := fun e H1 m => by
    rw [e]
    exact m
  refine as_tgt (am_of (ae_ixL (ae_fld (ae_self (av 0)) (fe_sr T)) (av 1) (atI_map h1))) (ag_tup (ags_cons (ag_name (i := 3) nd) (ags_cons (ag_name (i := 4) nd) (ags_cons (ag_name (i := 5) nd) (ags_cons (ag_name (i := 6) nd) ags_nil))))) ?_
  refine as_if (at_cmpC (ac_eqS (av 2) ae_str)) (fun c1 => ?_) (fun c1 => ?_)
  · simp only [eqD_str, decide_eq_true_eq] at c1
    refine as_tgt (am_of (ae_dat (d' := EH.d ⟨"read", some s.ep, r.wd, 0⟩) (ae_tup (ad_cons ae_str (ad_cons (ae_fld (ae_self (av 0)) (fe_ep T)) (ad_cons (av 5) (ad_cons ae_int ad_nil))))) rfl)) (kg_sub (ae_fld (av 0) (fe_srR T)) (av 1) (sw_sr hk)) ?_
    exact as_end (as_done (fin (by simp only [eStepper, if_pos c1])))
  simp only [eqD_str, decide_eq_false_iff_not] at c1
  refine as_if (at_cmpC (ac_eqS (av 2) ae_str)) (fun c2 => ?_) (fun c2 => ?_)
  · simp only [eqD_str, decide_eq_true_eq] at c2
    refine as_tgt (am_of (ae_dat (d' := EH.d ⟨if o.check then "wrote" else "ready", none, r.rd, 0⟩) (ae_tup (ad_cons (ae_ifS (at_val (ae_dget hu (ae_fld (ae_self (av 0)) (fe_own T)) (fun _ _ _ h => h) ae_str rfl (fun _ => .bl _))) (fun _ => ae_str) (fun _ => ae_str)) (ad_cons ae_non (ad_cons (av 4) (ad_cons ae_int ad_nil))))) rfl)) (kg_sub (ae_fld (av 0) (fe_srR T)) (av 1) (sw_sr hk)) ?_
    exact as_end (as_end (as_done (fin (by simp only [eStepper, if_neg c1, if_pos c2]))))
  simp only [eqD_str, decide_eq_false_iff_not] at c2
  refine as_if (at_cmpC (ac_eqS (av 2) ae_str)) (fun c3 => ?_) (fun c3 => ?_)
  · simp only [eqD_str, decide_eq_true_eq] at c3
    refine as_tgt (am_of (ae_dat (d' := EH.d ⟨if eqD (.int s.ep) (oI r.wd) then "ready" else "anew", none, r.wd, 0⟩) (ae_tup (ad_cons (ae_ifS (at_cmpC (ac_eqS (ae_fld (ae_self (av 0)) (fe_ep T)) (av 5) (scD_oI _ _))) (fun _ => ae_str) (fun _ => ae_str)) (ad_cons ae_non (ad_cons (av 5) (ad_cons ae_int ad_nil))))) rfl)) (kg_sub (ae_fld (av 0) (fe_srR T)) (av 1) (sw_sr hk)) ?_
    exact as_end (as_end (as_end (as_done (fin (by simp only [eStepper, if_neg c1, if_neg c2, if_pos c3])))))
  simp only [eqD_str, decide_eq_false_iff_not] at c3
  refine as_if (at_cmpC (ac_eqS (av 2) ae_str)) (fun c4 => ?_) (fun c4 => ?_)
  · simp only [eqD_str, decide_eq_true_eq] at c4
    refine as_tgt (am_of (ae_dat (d' := EH.d ⟨"looking", some s.ep, r.wd, 0⟩) (ae_tup (ad_cons ae_str (ad_cons (ae_fld (ae_self (av 0)) (fe_ep T)) (ad_cons (av 5) (ad_cons ae_int ad_nil))))) rfl)) (kg_sub (ae_fld (av 0) (fe_srR T)) (av 1) (sw_sr hk)) ?_
    exact as_end (as_end (as_end (as_end (as_done (fin (by simp only [eStepper, if_neg c1, if_neg c2, if_neg c3, if_pos c4]))))))
  simp only [eqD_str, decide_eq_false_iff_not] at c4
  refine as_if (at_cmpC (ac_eqS (av 2) ae_str)) (fun c5 => ?_) (fun c5 => ?_)
  · simp only [eqD_str, decide_eq_true_eq] at c5
    refine as_tgt (am_of (ae_meth (ae_self (av 0)) (recv_ew not_fs.2.2.2.2.2.1) Gl hr (c, o, s, none, r) ⟨ok.pos, ok.len, ok.look c5⟩ rfl (aa_cons (ae_ixL (ae_fld (ae_self (av 0)) (fe_sr T)) (av 1) (atI_map h1)) aa_nil))) (kg_sub (ae_fld (av 0) (fe_srR T)) (av 1) (sw_sr hk)) ?_
    exact as_end (as_end (as_end (as_end (as_end (as_done (fin (by simp only [eStepper, if_neg c1, if_neg c2, if_neg c3, if_neg c4, if_pos c5])))))))
  simp only [eqD_str, decide_eq_false_iff_not] at c5
  refine as_if (at_cmpC (ac_eqS (av 2) ae_str)) (fun c6 => ?_) (fun c6 => ?_)
  · simp only [eqD_str, decide_eq_true_eq] at c6
    have hrd := ok.step c6
    cases hrd' : r.rd with
    | none => exact absurd hrd' hrd
    | some x =>
      refine as_exprM (km_meth (M' := mEW K a H0 q c o { s with ep := eSteps o s.ep x } none) (B := aN K) (av 0) (recv_self not_fs.2.2.2.2.1) Gs hr (aa_cons (av 4) aa_nil) (fun H1 v vs m hv hvs => ⟨(⟨H0, q, c, o, s⟩, x), ok.pos, m, .cons hv hvs, fun v' H2 m2 r2 => ⟨m2, r2⟩⟩)) ?_
      have hk' : k < ({ s with ep := eSteps o s.ep x } : ES).hs.length := hk
      refine as_tgt (am_of (ae_dat (d' := EH.d ⟨if o.told then "done" else "idle", none, r.wd, 0⟩) (ae_tup (ad_cons (ae_ifS (at_val (ae_dget hu (ae_fld (ae_self (av 0)) (fe_own T)) (fun _ _ _ h => h) ae_str rfl (fun _ => .bl _))) (fun _ => ae_str) (fun _ => ae_str)) (ad_cons ae_non (ad_cons (av 5) (ad_cons ae_int ad_nil))))) rfl)) (kg_sub (ae_fld (av 0) (fe_srR T)) (av 1) (sw_sr hk')) ?_
      exact as_end (as_end (as_end (as_end (as_end (as_end (as_done (fin (by simp only [eStepper, if_neg c1, if_neg c2, if_neg c3, if_neg c4, if_neg c5, if_pos c6, hrd', Option.getD_some]))))))))
  · simp only [eqD_str, decide_eq_false_iff_not] at c6
    refine as_tgt (am_of (ae_dat (d' := EH.d ⟨"idle", none, none, 0⟩) (ae_tup (ad_cons ae_str (ad_cons ae_non (ad_cons ae_non (ad_cons ae_int ad_nil))))) rfl)) (kg_sub (ae_fld (av 0) (fe_srR T)) (av 1) (sw_sr hk)) ?_
    exact as_end (as_end (as_end (as_end (as_end (as_end (as_done (fin (by simp only [eStepper, if_neg c1, if_neg c2, if_neg c3, if_neg c4, if_neg c5, if_neg c6]))))))))
/-! #### do -/
abbrev s_e_do : Stmt := inClass (top 32) 7
abbrev n_e_do : List Str := ["self", "move", "kind", "k", "deed"]
theorem sc_e_do : FnScope n_e_do ["self", "move"] (defScope s_e_do) := ⟨rfl, rfl, rfl, by decide +kernel, rfl, by decide +kernel, by decide +kernel⟩
structure EDoOk (o : EOwn) (s : ES) (m : Mv) : Prop where
  rd : m.1 = "reader" → ∃ r, s.rs[m.2.1]? = some r
  tk : m.1 = "taker" → ∃ r, s.ts[m.2.1]? = some r ∧ TkOk o s m.2.2 r
  st : m.1 ≠ "reader" → m.1 ≠ "taker" → ∃ r, s.hs[m.2.1]? = some r ∧ StOk o s m.2.2 r
abbrev sp_e_do (K : PySem.W.Frag) (a : Adr) : Sp := spK (ι := EIx × Mv) (fun i => EDoOk i.1.o i.1.s i.2) (fun i => [Rf i.1.q.p, D K (mvD i.2)]) (fun i => i.1.m K a i.1.s none) (fun i => i.1.m K a (eDo i.1.o i.1.s i.2).1 (eDo i.1.o i.1.s i.2).2) (fun _ => aN K)
theorem ok_e_do {f : Addr} {fd : FuncData} (F : Fun K "do" "EpochWorld.do" s_e_do f fd) (Gr : GMt P w K mg base 3 a.EW "reader_does" (sp_e_rdo K a)) (Gt : GMt P w K mg base 3 a.EW "taker_does" (sp_e_tdo K a)) (Gs : GMt P w K mg base 3 a.EW "stepper_does" (sp_e_sdo K a)) : FnOk P w K mg base CX0 4 f fd ["self", "move"] (sp_e_do K a) := by
  refine fn_K F sc_e_do (fun _ => rfl) fun cdv A outer st0 H E hr i hi => ?_
  obtain ⟨⟨H0, q, c, o, s⟩, kd, k, deed⟩ := i
  have ok : EDoOk o s (kd, k, deed) := hi
  have nd := sc_e_do.nd
  refine as_tgt (am_of (av 1)) (ag_tup (ags_cons (ag_name (i := 2) nd) (ags_cons (ag_name (i := 3) nd) (ags_cons (ag_name (i := 4) nd) ags_nil)))) ?_
  refine as_if (at_cmpC (ac_eqS (av 2) ae_str)) (fun c1 => ?_) (fun c1 => ?_)
  · simp only [eqD_str, decide_eq_true_eq] at c1
    obtain ⟨r, h1⟩ := ok.rd c1
    have h1 : s.rs[k]? = some r := h1
    have e : eDo o s (kd, k, deed) = eReader o s k deed r := by
      unfold eDo
      rw [if_pos c1]
      show (match s.rs[k]? with | some r => eReader o s k deed r | none => (s, none)) = _
      rw [h1]
    refine as_exprM (km_meth (M' := mEW K a H0 q c o (eReader o s k deed r).1 (eReader o s k deed r).2) (B := aN K) (av 0) (recv_self not_fs.2.2.2.2.2.2.2.2.2.1) Gr hr (aa_cons (av 3) (aa_cons (av 4) aa_nil)) (fun H1 v vs m hv hvs => ⟨(⟨H0, q, c, o, s⟩, k, deed, r), h1, m, .cons hv hvs, fun v' H2 m2 r2 => ⟨m2, r2⟩⟩)) ?_
    refine as_end (as_done fun H1 m => ?_)
    show (mK H (mEW K a H0 q c o (eDo o s (kd, k, deed)).1 (eDo o s (kd, k, deed)).2)).P H1
    rw [e]
    exact m
  simp only [eqD_str, decide_eq_false_iff_not] at c1
  refine as_if (at_cmpC (ac_eqS (av 2) ae_str)) (fun c2 => ?_) (fun c2 => ?_)
  · simp only [eqD_str, decide_eq_true_eq] at c2
    obtain ⟨r, h1, tk⟩ := ok.tk c2
    have h1 : s.ts[k]? = some r := h1
    have e : eDo o s (kd, k, deed) = (eTaker o s k deed r, none) := by
      unfold eDo
      rw [if_neg c1, if_pos c2]
      show (match s.ts[k]? with | some r => (eTaker o s k deed r, none) | none => (s, none)) = _
      rw [h1]
    refine as_exprM (km_meth (M' := mEW K a H0 q c o (eTaker o s k deed r) none) (B := aN K) (av 0) (recv_self not_fs.2.2.2.2.2.2.2.2.2.2.1) Gt hr (aa_cons (av 3) (aa_cons (av 4) aa_nil)) (fun H1 v vs m hv hvs => ⟨(⟨H0, q, c, o, s⟩, k, deed, r), ⟨h1, tk⟩, m, .cons hv hvs, fun v' H2 m2 r2 => ⟨m2, r2⟩⟩)) ?_
    refine as_end (as_end (as_done fun H1 m => ?_))
    show (mK H (mEW K a H0 q c o (eDo o s (kd, k, deed)).1 (eDo o s (kd, k, deed)).2)).P H1
    rw [e]
    exact m
  · simp only [eqD_str, decide_eq_false_iff_not] at c2
    obtain ⟨r, h1, so⟩ := ok.st c1 c2
    have h1 : s.hs[k]? = some r := h1
    have e : eDo o s (kd, k, deed) = (eStepper o s k deed r, none) := by
      unfold eDo
      rw [if_neg c1, if_neg c2]
      show (match s.hs[k]? with | some r => (eStepper o s k deed r, none) | none => (s, none)) = _
      rw [h1]
    refine as_exprM (km_meth (M' := mEW K a H0 q c o (eStepper o s k deed r) none) (B := aN K) (av 0) (recv_self not_fs.2.2.2.2.2.2.2.2.2.2.2.1) Gs hr (aa_cons (av 3) (aa_cons (av 4) aa_nil)) (fun H1 v vs m hv hvs => ⟨(⟨H0, q, c, o, s⟩, k, deed, r), ⟨h1, so⟩, m, .cons hv hvs, fun v' H2 m2 r2 => ⟨m2, r2⟩⟩)) ?_
    refine as_end (as_end (as_done fun H1 m => ?_))
    show (mK H (mEW K a H0 q c o (eDo o s (kd, k, deed)).1 (eDo o s (kd, k, deed)).2)).P H1
    rw [e]
    exact m
end
end Ep
set_option maxHeartbeats 4000000
/-! instances in the making; EpochWorld.__init__ -/
namespace Ep
open PySem PySem.Spec PyProof.Rows L2 Evl
section
variable {X : Cx} {M M2 : Mb} {ρ ρ2 : List Sl} {e o tg : Expr} {R : RR} {A : Ab} {rest : List Stmt} {D : Ends} {pos pos' : Pos} {f : Str} {Hb : Hp} {p C dx : Addr} {fs : List (Str × V)}
theorem as_ini (hp : Hb p = some (.ins C dx fs)) (cl : Cls X.K C) (na : NoAttr X.K C f) (hl : fs.length < 1000) (ho : AE X (mE Hb) ρ o (Rf p)) (ha : AR X (mE Hb) ρ e R)
    (k : ∀ H0 H1 v, Ex Hb H0 → Ex H0 H1 → R H0 H1 v → AS X (mE (upd H1 p (.ins C dx (putF f v fs)))) (keepT ρ) rest D) (hs : swapsWith e (some (.Attribute o f pos')) pos.line X.env = pure false := by rfl) : AS X (mE Hb) ρ (.Assign [.Attribute o f pos'] e pos :: rest) D :=
  pss_then (ps_fld ho ha hs) (pss_e1 (D := D)) fun σ H m sl => ⟨m, sl, fun v H1 e1 r => ⟨m.trans e1, sl.mono e1, fun x H2 e2 hx => by
    have h2 : H2 p = some (.ins C dx fs) := e2 _ _ (e1 _ _ (m _ _ hp))
    refine ⟨p, C, dx, fs, hx, h2, cl, na, hl, rfl, mE (upd H1 p (.ins C dx (putF f v fs))), keepT ρ, k H H1 v m e1 r, ?_, (sl.mono (e1.trans e2)).keep (Tk.ins h2)⟩
    intro q u hq
    by_cases hqp : q = p
    · subst hqp
      rw [upd_same] at hq ⊢
      exact hq
    · rw [upd_ne hqp] at hq ⊢
      exact e2 _ _ hq⟩⟩
theorem ag_ini {i : Int} (hp : Hb p = some (.ins C dx fs)) (cl : Cls X.K C) (na : NoAttr X.K C f) (hl : fs.length < 1000) (ho : AE X (mE Hb) ρ o (Rf p))
    (ha : ∀ v, assign (.Attribute o f pos) X.env v = (do
      let ov ← holding [v] (eval o X.env)
      standAt pos.atName
      holding [v, ov] (setAttr ov f v)
      release [v, ov] []) := by intro _; rfl) : AG X (mE Hb) ρ (.Attribute o f pos) (aI X.K i) (mE (upd Hb p (.ins C dx (putF f (.int i) fs)))) (keepT ρ) :=
  ag_fld ho (fun H v m av => by
    cases av
    refine ⟨C, dx, fs, m _ _ hp, cl, na, hl, ?_⟩
    intro q u hq
    by_cases hqp : q = p
    · subst hqp
      rw [upd_same] at hq ⊢
      exact hq
    · rw [upd_ne hqp] at hq ⊢
      exact m _ _ hq) ha
end
/-- what a new instance's store keeps -/
theorem ex_ini {H0 H1 : Hp} {p : Addr} {o : HO} (e : Ex H0 H1) (h : H0 p = none) : Ex H0 (upd H1 p o) := e.mut h
theorem at_ini {H1 : Hp} {p l : Addr} {o u : HO} (h : H1 l = some u) (n : l ≠ p) : upd H1 p o l = some u := by
  rw [upd_ne n]
  exact h
/-- a new instance, its fields so far -/
def mNew (H0 : Hp) (p C dx : Addr) (fs : List (Str × V)) : Mb := ⟨fun H => Ex H0 H ∧ H p = some (.ins C dx fs), fun e h => ⟨h.1.trans e, e _ _ h.2⟩⟩
section
variable {P : Program} {w : World} {K : PySem.W.Frag} {mg : Str → Option Value} {base : Heap} {a : Adr}
abbrev s_e_in : Stmt := inClass (top 32) 0
abbrev n_e_in : List Str := ["self", "setting", "state", "readers", "takers", "steppers", "freed"]
theorem sc_e_in : FnScope n_e_in ["self", "setting", "state"] (defScope s_e_in) := ⟨rfl, rfl, rfl, by decide +kernel, rfl, by decide +kernel, by decide +kernel⟩
structure EIn where
  (H0 : Hp) (p dx : Addr) (c : Cfg) (o : EOwn) (s : ES)
def mEany (K : PySem.W.Frag) (a : Adr) (H0 : Hp) (p : Addr) (c : Cfg) (o : EOwn) (s : ES) : Mb := ⟨fun H => ∃ q : Wad, q.p = p ∧ ECore K a H0 q c o s none H, fun e ⟨q, h1, h2⟩ => ⟨q, h1, h2.mono e⟩⟩
abbrev sp_e_in (K : PySem.W.Frag) (a : Adr) : Sp := spC (ι := EIn) (fun i => i.H0 i.p = none ∧ i.c.own = .E i.o) (fun i => [Rf i.p, At i.H0 (aSet K a i.c), At i.H0 (D K i.s.d)]) (fun i => mNew i.H0 i.p a.EW i.dx []) (fun i => mEany K a i.H0 i.p i.c i.o i.s) (fun _ => aN K)
theorem fset_own {M : Mb} {c : Cfg} {bk : Own} (T : TxC K (bk.cls a) ["own", "order"]) : FldAt K M (aBook a bk) "own" (aOwn bk) := fun H v _ h => by
  obtain ⟨b, h1, dx, d, l, h2, h3⟩ := h
  exact ⟨_, _, _, _, _, h1, h2, T.cl, T.na _ (by decide), rfl, d, rfl, h3⟩
theorem rn_new {ds : List PyData} {H0 H1 : Hp} {v : V} (h : rN K ds H0 H1 v) : ∃ l, v = .ref l ∧ H0 l = none ∧ LAt K H1 l ds := by
  obtain ⟨l, vs, h1, h2, h3, h4⟩ := h
  exact ⟨l, h1, h2, vs, h3, h4⟩
theorem ok_e_in {f : Addr} {fd : FuncData} (F : Fun K "__init__" "EpochWorld.__init__" s_e_in f fd) (T : TxC K a.EW fsEW) (TS : TxC K a.SE fsSE) (TB : TxC K a.EB ["own", "order"]) (bl : mg "list" = none) : FnOk P w K mg base CX0 1 f fd ["self", "setting", "state"] (sp_e_in K a) := by
  refine fn_C F sc_e_in (fun _ => rfl) fun cdv A outer st0 H E hr i hi => ?_
  obtain ⟨H0, p, dx, c, o, s⟩ := i
  have hp0 : H0 p = none := hi.1
  have hown : c.own = .E o := hi.2
  have nd := sc_e_in.nd
  refine as_at 1 (A := At H0 (aSet K a c)) rfl fun Hb vS m hS => ?_
  refine as_at 2 (A := At H0 (D K s.d)) rfl fun Hb2 vT m2 hT => ?_
  have hS : (aSet K a c).P H0 vS := hS
  have hT : (D K s.d).P H0 vT := hT
  have b1 : Ex H0 Hb2 := m.1.trans m2
  have b2 : Hb2 p = some (.ins a.EW dx []) := m2 _ _ m.2
  obtain ⟨sS, rfl, hset⟩ := id hS
  obtain ⟨dxs, bk, th, g1, ⟨dxb, d, ol, g2, g3⟩, g4⟩ := id hset
  rw [hown] at g2 g3
  -- setting
  refine as_ini b2 T.cl (T.na _ (by decide)) (by decide) (av 0) (av 1) fun G0 G1 v1 e1 e2 r1 => ?_
  cases (show v1 = _ from r1)
  have c1 : Ex H0 (upd G1 p (.ins a.EW dx (putF "setting" (.ref sS) []))) := ex_ini (b1.trans (e1.trans e2)) hp0
  -- own
  refine as_ini upd_same T.cl (T.na _ (by decide)) (by show 1 < 1000; decide) (av 0) (ae_fld (ae_fld (av 1) (fld_at (fun H2 m2 => c1.trans m2) g1 TS.cl (TS.na _ (by decide)) rfl)) (fld_at (fun H2 m2 => c1.trans m2) g2 TB.cl (TB.na _ (by decide)) rfl)) fun G2 G3 v2 e3 e4 r2 => ?_
  cases (show v2 = _ from r2)
  have c2 := ex_ini (o := .ins a.EW dx (putF "own" (.ref d) (putF "setting" (.ref sS) []))) (c1.trans (e3.trans e4)) hp0
  -- the state's parts
  refine as_tgt (am_of (ae_at (A := D K s.d) (av 2) (fun H2 m2 => c2.trans m2) hT)) (ag_tup (ags_cons (ag_ini upd_same T.cl (T.na _ (by decide)) (by show 2 < 1000; decide) (av 0)) (ags_cons (ag_ini upd_same T.cl (T.na _ (by decide)) (by show 3 < 1000; decide) (av 0)) (ags_cons (ag_name (i := 3) nd) (ags_cons (ag_name (i := 4) nd) (ags_cons (ag_name (i := 5) nd) (ags_cons (ag_name (i := 6) nd) ags_nil))))))) ?_
  have c3 := ex_ini (o := .ins a.EW dx (putF "epoch" (.int s.ep) (putF "own" (.ref d) (putF "setting" (.ref sS) [])))) c2 hp0
  have c4 := ex_ini (o := .ins a.EW dx (putF "spot" (.int s.spot) (putF "epoch" (.int s.ep) (putF "own" (.ref d) (putF "setting" (.ref sS) []))))) c3 hp0
  -- the rows
  refine as_ini upd_same T.cl (T.na _ (by decide)) (by show 4 < 1000; decide) (av 0) (an_list (ds := s.rs.map ER.d) bl (av 3) sqA_tup) fun G4 G5 v5 e5 e6 r5 => ?_
  obtain ⟨lr, rfl, n1, L1⟩ := rn_new r5
  have p5 := e6 _ _ (e5 _ _ (upd_same (H := upd (upd G3 p _) p _)))
  have k1 : lr ≠ p := fun z => by
    have q := e5 _ _ (upd_same (H := upd (upd G3 p _) p _))
    rw [← z, n1] at q
    cases q
  have z1 : H0 lr = none := fresh_back (c4.trans e5) n1
  have c5 := ex_ini (o := .ins a.EW dx (putF "reader_rows" (.ref lr) (putF "spot" (.int s.spot) (putF "epoch" (.int s.ep) (putF "own" (.ref d) (putF "setting" (.ref sS) [])))))) (c4.trans (e5.trans e6)) hp0
  have L1 := L1.updI (u := .ins a.EW dx (putF "reader_rows" (.ref lr) (putF "spot" (.int s.spot) (putF "epoch" (.int s.ep) (putF "own" (.ref d) (putF "setting" (.ref sS) [])))))) p5
  refine as_ini upd_same T.cl (T.na _ (by decide)) (by show 5 < 1000; decide) (av 0) (an_list (ds := s.ts.map ET.d) bl (av 4) sqA_tup) fun G6 G7 v7 e7 e8 r7 => ?_
  obtain ⟨lt, rfl, n2, L2⟩ := rn_new r7
  have p7 := e8 _ _ (e7 _ _ (upd_same (H := G5)))
  have z2 : H0 lt = none := fresh_back (c5.trans e7) n2
  have k2 : lr ≠ lt := fun z => by
    obtain ⟨_, q, _⟩ := L1.mono e7
    rw [z, n2] at q
    cases q
  have c6 := ex_ini (o := .ins a.EW dx (putF "taker_rows" (.ref lt) (putF "reader_rows" (.ref lr) (putF "spot" (.int s.spot) (putF "epoch" (.int s.ep) (putF "own" (.ref d) (putF "setting" (.ref sS) []))))))) (c5.trans (e7.trans e8)) hp0
  have L1 := (L1.mono (e7.trans e8)).updI (u := .ins a.EW dx (putF "taker_rows" (.ref lt) (putF "reader_rows" (.ref lr) (putF "spot" (.int s.spot) (putF "epoch" (.int s.ep) (putF "own" (.ref d) (putF "setting" (.ref sS) []))))))) p7
  have L2 := L2.updI (u := .ins a.EW dx (putF "taker_rows" (.ref lt) (putF "reader_rows" (.ref lr) (putF "spot" (.int s.spot) (putF "epoch" (.int s.ep) (putF "own" (.ref d) (putF "setting" (.ref sS) []))))))) p7
  refine as_ini upd_same T.cl (T.na _ (by decide)) (by show 6 < 1000; decide) (av 0) (an_list (ds := s.hs.map EH.d) bl (av 5) sqA_tup) fun G8 G9 v9 e9 e10 r9 => ?_
  obtain ⟨ls, rfl, n3, L3⟩ := rn_new r9
  have p9 := e10 _ _ (e9 _ _ (upd_same (H := G7)))
  have z3 : H0 ls = none := fresh_back (c6.trans e9) n3
  have k3 : lr ≠ ls := fun z => by
    obtain ⟨_, q, _⟩ := L1.mono e9
    rw [z, n3] at q
    cases q
  have k4 : lt ≠ ls := fun z => by
    obtain ⟨_, q, _⟩ := L2.mono e9
    rw [z, n3] at q
    cases q
  have c7 := ex_ini (o := .ins a.EW dx (putF "stepper_rows" (.ref ls) (putF "taker_rows" (.ref lt) (putF "reader_rows" (.ref lr) (putF "spot" (.int s.spot) (putF "epoch" (.int s.ep) (putF "own" (.ref d) (putF "setting" (.ref sS) [])))))))) (c6.trans (e9.trans e10)) hp0
  have L1 := (L1.mono (e9.trans e10)).updI (u := .ins a.EW dx (putF "stepper_rows" (.ref ls) (putF "taker_rows" (.ref lt) (putF "reader_rows" (.ref lr) (putF "spot" (.int s.spot) (putF "epoch" (.int s.ep) (putF "own" (.ref d) (putF "setting" (.ref sS) [])))))))) p9
  have L2 := (L2.mono (e9.trans e10)).updI (u := .ins a.EW dx (putF "stepper_rows" (.ref ls) (putF "taker_rows" (.ref lt) (putF "reader_rows" (.ref lr) (putF "spot" (.int s.spot) (putF "epoch" (.int s.ep) (putF "own" (.ref d) (putF "setting" (.ref sS) [])))))))) p9
  have L3 := L3.updI (u := .ins a.EW dx (putF "stepper_rows" (.ref ls) (putF "taker_rows" (.ref lt) (putF "reader_rows" (.ref lr) (putF "spot" (.int s.spot) (putF "epoch" (.int s.ep) (putF "own" (.ref d) (putF "setting" (.ref sS) [])))))))) p9
  refine as_ini upd_same T.cl (T.na _ (by decide)) (by show 7 < 1000; decide) (av 0) (an_list (ds := s.fr.map .int) bl (av 6) sqA_tup) fun G10 G11 v11 e11 e12 r11 => ?_
  obtain ⟨lf, rfl, n4, L4⟩ := rn_new r11
  have p11 := e12 _ _ (e11 _ _ (upd_same (H := G9)))
  have k5 : lf ≠ lr := fun z => by
    obtain ⟨_, q, _⟩ := L1.mono e11
    rw [← z, n4] at q
    cases q
  have k6 : lf ≠ lt := fun z => by
    obtain ⟨_, q, _⟩ := L2.mono e11
    rw [← z, n4] at q
    cases q
  have k7 : lf ≠ ls := fun z => by
    obtain ⟨_, q, _⟩ := L3.mono e11
    rw [← z, n4] at q
    cases q
  have c8 := ex_ini (o := .ins a.EW dx (putF "freed" (.ref lf) (putF "stepper_rows" (.ref ls) (putF "taker_rows" (.ref lt) (putF "reader_rows" (.ref lr) (putF "spot" (.int s.spot) (putF "epoch" (.int s.ep) (putF "own" (.ref d) (putF "setting" (.ref sS) []))))))))) (c7.trans (e11.trans e12)) hp0
  have L1 := (L1.mono (e11.trans e12)).updI (u := .ins a.EW dx (putF "freed" (.ref lf) (putF "stepper_rows" (.ref ls) (putF "taker_rows" (.ref lt) (putF "reader_rows" (.ref lr) (putF "spot" (.int s.spot) (putF "epoch" (.int s.ep) (putF "own" (.ref d) (putF "setting" (.ref sS) []))))))))) p11
  have L2 := (L2.mono (e11.trans e12)).updI (u := .ins a.EW dx (putF "freed" (.ref lf) (putF "stepper_rows" (.ref ls) (putF "taker_rows" (.ref lt) (putF "reader_rows" (.ref lr) (putF "spot" (.int s.spot) (putF "epoch" (.int s.ep) (putF "own" (.ref d) (putF "setting" (.ref sS) []))))))))) p11
  have L3 := (L3.mono (e11.trans e12)).updI (u := .ins a.EW dx (putF "freed" (.ref lf) (putF "stepper_rows" (.ref ls) (putF "taker_rows" (.ref lt) (putF "reader_rows" (.ref lr) (putF "spot" (.int s.spot) (putF "epoch" (.int s.ep) (putF "own" (.ref d) (putF "setting" (.ref sS) []))))))))) p11
  have L4 := L4.updI (u := .ins a.EW dx (putF "freed" (.ref lf) (putF "stepper_rows" (.ref ls) (putF "taker_rows" (.ref lt) (putF "reader_rows" (.ref lr) (putF "spot" (.int s.spot) (putF "epoch" (.int s.ep) (putF "own" (.ref d) (putF "setting" (.ref sS) []))))))))) p11
  refine as_ini upd_same T.cl (T.na _ (by decide)) (by show 8 < 1000; decide) (av 0) (ae_view (B := Vl .non) ae_non fun _ v _ h => by cases h; rfl) fun G12 G13 v13 e13 e14 r13 => ?_
  cases (show v13 = _ from r13)
  have p13 := e14 _ _ (e13 _ _ (upd_same (H := G11)))
  refine as_done fun H m => ?_
  have L1 := ((L1.mono (e13.trans e14)).updI p13).mono m
  have L2 := ((L2.mono (e13.trans e14)).updI p13).mono m
  have L3 := ((L3.mono (e13.trans e14)).updI p13).mono m
  have L4 := ((L4.mono (e13.trans e14)).updI p13).mono m
  obtain ⟨vf, f1, f2⟩ := L4
  exact ⟨⟨p, dx, sS, d, lr, lt, ls⟩, rfl, { ex := (ex_ini (c8.trans (e13.trans e14)) hp0).trans m, own := hown, set := hset, dic := g3, np := hp0, nr := z1, nt := z2, ns := z3, rt := k2, rs := k3, ts := k4, rows := L1, taks := L2, stps := L3, ins := ⟨lf, .non, m _ _ upd_same, by rw [← f2.ints]; exact f1, .non, k5, k6, k7⟩ }⟩
end
end Ep
set_option maxHeartbeats 4000000
/-! worlds of two kinds of rows: LookWorld, StillWorld -/
namespace Ep
open PySem PySem.Spec PyProof.Rows L2 Evl
structure TCore (K : PySem.W.Frag) (a : Adr) (C : Addr) (H0 : Hp) (q : Wad) (c : Cfg) (spot : Int) (rs ts : List PyData) (fr : List Int) (bad : Bad) (H : Hp) : Prop where
  ex : Ex H0 H
  set : IsSet K a H0 q.s c
  dic : H0 q.d = some (.dK (kvsO c.own))
  np : H0 q.p = none
  nr : H0 q.lr = none
  nt : H0 q.lt = none
  rt : q.lr ≠ q.lt
  rows : LAt K H q.lr rs
  taks : LAt K H q.lt ts
  ins : ∃ lf vb, H q.p = some (.ins C q.dx [("setting", .ref q.s), ("own", .ref q.d), ("spot", .int spot), ("reader_rows", .ref q.lr), ("taker_rows", .ref q.lt), ("freed", .ref lf), ("bad", vb)]) ∧
    H lf = some (.lst (fr.map .int)) ∧ Dt K H vb (bad0 bad) ∧ lf ≠ q.lr ∧ lf ≠ q.lt
variable {K : PySem.W.Frag} {a : Adr} {C : Addr} {H0 Hs : Hp} {q : Wad} {c : Cfg} {spot : Int} {rs ts : List PyData} {fr : List Int} {bad : Bad} {M : Mb} {X : Cx} {ρ : List Sl} {e : Expr}
theorem TCore.mono {H H' : Hp} (e : Ex H H') (h : TCore K a C H0 q c spot rs ts fr bad H) : TCore K a C H0 q c spot rs ts fr bad H' := by
  obtain ⟨lf, vb, h1, h2, h3, h4⟩ := h.ins
  exact { h with ex := h.ex.trans e, rows := h.rows.mono e, taks := h.taks.mono e, ins := ⟨lf, vb, e _ _ h1, e _ _ h2, h3.mono (.of e), h4⟩ }
def mTW (K : PySem.W.Frag) (a : Adr) (C : Addr) (H0 : Hp) (q : Wad) (c : Cfg) (spot : Int) (rs ts : List PyData) (fr : List Int) (bad : Bad) : Mb := ⟨TCore K a C H0 q c spot rs ts fr bad, fun e h => h.mono e⟩
def aTW (K : PySem.W.Frag) (a : Adr) (C : Addr) (c : Cfg) (spot : Int) (rs ts : List PyData) (fr : List Int) (bad : Bad) : Ab := ⟨fun H v => ∃ (H0 : Hp) (q : Wad), v = V.ref q.p ∧ TCore K a C H0 q c spot rs ts fr bad H, fun e h => by
  obtain ⟨H0, q, h1, h2⟩ := h
  exact ⟨H0, q, h1, h2.mono e⟩, false, fun z => by cases z⟩
def fsTW : List Str := ["setting", "own", "spot", "reader_rows", "taker_rows", "freed", "bad"]
theorem at_self (h : AE X (mK Hs (mTW K a C H0 q c spot rs ts fr bad)) ρ e (Rf q.p)) : AE X (mK Hs (mTW K a C H0 q c spot rs ts fr bad)) ρ e (aTW K a C c spot rs ts fr bad) := ae_view h fun H v m e => ⟨H0, q, e, m.2⟩
theorem ft_own (T : TxC K C fsTW) : FldAt K M (aTW K a C c spot rs ts fr bad) "own" (aOwn c.own) := fun H v _ h => by
  obtain ⟨H0, q, h1, h⟩ := h
  obtain ⟨lf, vb, h2, _⟩ := h.ins
  exact ⟨_, _, _, _, _, h1, h2, T.cl, T.na _ (by decide), rfl, _, rfl, h.ex _ _ h.dic⟩
theorem ft_set (T : TxC K C fsTW) : FldAt K M (aTW K a C c spot rs ts fr bad) "setting" (aSet K a c) := fun H v _ h => by
  obtain ⟨H0, q, h1, h⟩ := h
  obtain ⟨lf, vb, h2, _⟩ := h.ins
  exact ⟨_, _, _, _, _, h1, h2, T.cl, T.na _ (by decide), rfl, _, rfl, h.set.mono h.ex⟩
theorem ft_spot (T : TxC K C fsTW) : FldAt K M (aTW K a C c spot rs ts fr bad) "spot" (aI K spot) := fun H v _ h => by
  obtain ⟨H0, q, h1, h⟩ := h
  obtain ⟨lf, vb, h2, _⟩ := h.ins
  exact ⟨_, _, _, _, _, h1, h2, T.cl, T.na _ (by decide), rfl, .int _⟩
theorem ft_rr (T : TxC K C fsTW) : FldAt K M (aTW K a C c spot rs ts fr bad) "reader_rows" (LD K rs) := fun H v _ h => by
  obtain ⟨H0, q, h1, h⟩ := h
  obtain ⟨lf, vb, h2, _⟩ := h.ins
  obtain ⟨vs, h3, h4⟩ := h.rows
  exact ⟨_, _, _, _, _, h1, h2, T.cl, T.na _ (by decide), rfl, _, vs, rfl, h3, h4⟩
theorem ft_tr (T : TxC K C fsTW) : FldAt K M (aTW K a C c spot rs ts fr bad) "taker_rows" (LD K ts) := fun H v _ h => by
  obtain ⟨H0, q, h1, h⟩ := h
  obtain ⟨lf, vb, h2, _⟩ := h.ins
  obtain ⟨vs, h3, h4⟩ := h.taks
  exact ⟨_, _, _, _, _, h1, h2, T.cl, T.na _ (by decide), rfl, _, vs, rfl, h3, h4⟩
theorem ft_fr (T : TxC K C fsTW) : FldAt K M (aTW K a C c spot rs ts fr bad) "freed" (LD K (fr.map .int)) := fun H v _ h => by
  obtain ⟨H0, q, h1, h⟩ := h
  obtain ⟨lf, vb, h2, h3, _⟩ := h.ins
  exact ⟨_, _, _, _, _, h1, h2, T.cl, T.na _ (by decide), rfl, _, _, rfl, h3, DtL.ofInts⟩
theorem ft_bad (T : TxC K C fsTW) : FldAt K M (aTW K a C c spot rs ts fr bad) "bad" (D K (bad0 bad)) := fun H v _ h => by
  obtain ⟨H0, q, h1, h⟩ := h
  obtain ⟨lf, vb, h2, _, h3, _⟩ := h.ins
  exact ⟨_, _, _, _, _, h1, h2, T.cl, T.na _ (by decide), rfl, h3⟩
theorem ft_rrR (T : TxC K C fsTW) : FldAt K (mK Hs (mTW K a C H0 q c spot rs ts fr bad)) (Rf q.p) "reader_rows" (Rf q.lr) := fun H v m h => by
  obtain ⟨lf, vb, h2, _⟩ := m.2.ins
  exact ⟨_, _, _, _, _, h, h2, T.cl, T.na _ (by decide), rfl, rfl⟩
theorem ft_trR (T : TxC K C fsTW) : FldAt K (mK Hs (mTW K a C H0 q c spot rs ts fr bad)) (Rf q.p) "taker_rows" (Rf q.lt) := fun H v m h => by
  obtain ⟨lf, vb, h2, _⟩ := m.2.ins
  exact ⟨_, _, _, _, _, h, h2, T.cl, T.na _ (by decide), rfl, rfl⟩
theorem recv_tw {m : Str} (hm : m ∉ fsTW) : Recv M C m (aTW K a C c spot rs ts fr bad) (aTW K a C c spot rs ts fr bad) := fun H v _ h => by
  obtain ⟨H0, q, h1, hc⟩ := id h
  obtain ⟨lf, vb, h2, _⟩ := hc.ins
  exact ⟨q.p, q.dx, _, h1, h2, lookup_none (l := fsTW) rfl hm, h⟩
theorem recv_tself {m : Str} (hm : m ∉ fsTW) : Recv (mK Hs (mTW K a C H0 q c spot rs ts fr bad)) C m (Rf q.p) (Rf q.p) := fun H v m' h => by
  obtain ⟨lf, vb, h2, _⟩ := m'.2.ins
  exact ⟨q.p, q.dx, _, h, h2, lookup_none (l := fsTW) rfl hm, h⟩
theorem not_ft : ("words" : Str) ∉ fsTW ∧ ("use" : Str) ∉ fsTW ∧ ("noted" : Str) ∉ fsTW ∧ ("looked" : Str) ∉ fsTW ∧ ("reader_deeds" : Str) ∉ fsTW ∧ ("taker_deeds" : Str) ∉ fsTW ∧ ("reader_does" : Str) ∉ fsTW ∧ ("taker_does" : Str) ∉ fsTW ∧ ("moves" : Str) ∉ fsTW ∧ ("state" : Str) ∉ fsTW ∧ ("do" : Str) ∉ fsTW := by decide +kernel
theorem st_rr {k : Nat} {d : PyData} (hk : k < rs.length) : ∀ H v, (mTW K a C H0 q c spot rs ts fr bad).P H → (D K d).P H v → ∃ xs j, H q.lr = some (.lst xs) ∧ ixN xs.length (k : Int) = some j ∧ (mTW K a C H0 q c spot (rs.set k d) ts fr bad).P (upd H q.lr (.lst (xs.set j v))) := fun H v m hv => by
  obtain ⟨xs, h1, h2⟩ := m.rows
  obtain ⟨lf, vb, g1, g2, g3, g4, g5⟩ := m.ins
  refine ⟨xs, k, h1, ixN_nat (by rw [h2.length]; exact hk), ?_⟩
  exact { m with ex := Ex.mut m.ex m.nr, rows := m.rows.put (k := k) h1 hv, taks := m.taks.upd m.rt.symm h1, ins := ⟨lf, vb, by rw [upd_ne (ne_of g1 h1 (by intro z; cases z))]; exact g1, by rw [upd_ne g4]; exact g2, g3.mono (Tk.lst h1).tex, g4, g5⟩ }
theorem st_tr {k : Nat} {d : PyData} (hk : k < ts.length) : ∀ H v, (mTW K a C H0 q c spot rs ts fr bad).P H → (D K d).P H v → ∃ xs j, H q.lt = some (.lst xs) ∧ ixN xs.length (k : Int) = some j ∧ (mTW K a C H0 q c spot rs (ts.set k d) fr bad).P (upd H q.lt (.lst (xs.set j v))) := fun H v m hv => by
  obtain ⟨xs, h1, h2⟩ := m.taks
  obtain ⟨lf, vb, g1, g2, g3, g4, g5⟩ := m.ins
  refine ⟨xs, k, h1, ixN_nat (by rw [h2.length]; exact hk), ?_⟩
  exact { m with ex := Ex.mut m.ex m.nt, taks := m.taks.put (k := k) h1 hv, rows := m.rows.upd m.rt h1, ins := ⟨lf, vb, by rw [upd_ne (ne_of g1 h1 (by intro z; cases z))]; exact g1, by rw [upd_ne g5]; exact g2, g3.mono (Tk.lst h1).tex, g4, g5⟩ }
theorem wt_bad (T : TxC K C fsTW) {b' : Bad} : ∀ H v, (mTW K a C H0 q c spot rs ts fr bad).P H → (D K (bad0 b')).P H v → ∃ C' dx fs, H q.p = some (.ins C' dx fs) ∧ Cls K C' ∧ NoAttr K C' "bad" ∧ fs.length < 1000 ∧ (mTW K a C H0 q c spot rs ts fr b').P (upd H q.p (.ins C' dx (putF "bad" v fs))) := fun H v m hv => by
  obtain ⟨lf, vb, g1, g2, g3, g4, g5⟩ := m.ins
  refine ⟨_, _, _, g1, T.cl, T.na _ (by decide), by show 7 < 1000; decide, ?_⟩
  exact { m with ex := Ex.mut m.ex m.np, rows := m.rows.updI g1, taks := m.taks.updI g1, ins := ⟨lf, v, upd_same, by rw [upd_ne (ne_of g2 g1 (by intro z; cases z))]; exact g2, hv.mono (Tk.ins g1).tex, g4, g5⟩ }
theorem wt_fr (T : TxC K C fsTW) {A : Ab} {ns : List Int} (hA : ∀ H v, (mTW K a C H0 q c spot rs ts fr bad).P H → A.P H v → ∃ l, v = .ref l ∧ H l = some (.lst (ns.map .int)) ∧ l ≠ q.lr ∧ l ≠ q.lt) : ∀ H v, (mTW K a C H0 q c spot rs ts fr bad).P H → A.P H v → ∃ C' dx fs, H q.p = some (.ins C' dx fs) ∧ Cls K C' ∧ NoAttr K C' "freed" ∧ fs.length < 1000 ∧ (mTW K a C H0 q c spot rs ts ns bad).P (upd H q.p (.ins C' dx (putF "freed" v fs))) := fun H v m hv => by
  obtain ⟨lf, vb, g1, g2, g3, g4, g5⟩ := m.ins
  obtain ⟨l, rfl, h1, h2, h3⟩ := hA H v m hv
  refine ⟨_, _, _, g1, T.cl, T.na _ (by decide), by show 7 < 1000; decide, ?_⟩
  exact { m with ex := Ex.mut m.ex m.np, rows := m.rows.updI g1, taks := m.taks.updI g1, ins := ⟨l, vb, upd_same, by rw [upd_ne (ne_of h1 g1 (by intro z; cases z))]; exact h1, g3.mono (Tk.ins g1).tex, h2, h3⟩ }
theorem at_spot (T : TxC K C fsTW) : ∀ H, (mTW K a C H0 q c spot rs ts fr bad).P H → ∃ C' dx fs, H q.p = some (.ins C' dx fs) ∧ Cls K C' ∧ NoAttr K C' "spot" ∧ fs.lookup ("spot" : Str) = some (.int spot) ∧ fs.length < 1000 ∧ (mTW K a C H0 q c (spot + 1) rs ts fr bad).P (upd H q.p (.ins C' dx (putF "spot" (.int (spot + 1)) fs))) := fun H m => by
  obtain ⟨lf, vb, g1, g2, g3, g4, g5⟩ := m.ins
  refine ⟨_, _, _, g1, T.cl, T.na _ (by decide), rfl, by show 7 < 1000; decide, ?_⟩
  exact { m with ex := Ex.mut m.ex m.np, rows := m.rows.updI g1, taks := m.taks.updI g1, ins := ⟨lf, vb, upd_same, by rw [upd_ne (ne_of g2 g1 (by intro z; cases z))]; exact g2, g3.mono (Tk.ins g1).tex, g4, g5⟩ }
def aFt (q : Wad) (ns : List Int) : Ab := ⟨fun H v => ∃ l, v = .ref l ∧ H l = some (.lst (ns.map .int)) ∧ l ≠ q.lr ∧ l ≠ q.lt, fun e ⟨l, h1, h2, h3⟩ => ⟨l, h1, e _ _ h2, h3⟩, false, fun z => by cases z⟩
theorem an_ft {ns : List Int} (h : AN X (mK Hs (mTW K a C H0 q c spot rs ts fr bad)) ρ e (ns.map .int)) : AE X (mK Hs (mTW K a C H0 q c spot rs ts fr bad)) ρ e (aFt q ns) :=
  weakE h fun σ H Q ⟨m, sl, k⟩ => ⟨m, sl, fun v H' ex ⟨p, vs, h1, h2, h3, h4⟩ => k v H' ex ⟨p, h1, by rw [← h4.ints]; exact h3, by
    obtain ⟨_, g, _⟩ := m.2.rows
    exact (ne_of_none g h2).symm, by
    obtain ⟨_, g, _⟩ := m.2.taks
    exact (ne_of_none g h2).symm⟩⟩
def mTany (K : PySem.W.Frag) (a : Adr) (C : Addr) (H0 : Hp) (p : Addr) (c : Cfg) (spot : Int) (rs ts : List PyData) (fr : List Int) : Mb := ⟨fun H => ∃ q : Wad, q.p = p ∧ TCore K a C H0 q c spot rs ts fr none H, fun e ⟨q, h1, h2⟩ => ⟨q, h1, h2.mono e⟩⟩
/-- the row's data at its place -/
theorem atI_of {l : List PyData} {k : Nat} {d : PyData} (h : l[k]? = some d) : atI l (k : Int) = some d := atI_nat h
end Ep
set_option maxHeartbeats 4000000
/-! data that is compared -/
namespace Ep
open PySem PySem.Spec PyProof.Rows L2 Evl
theorem lay_ints : ∀ l : List Int, PyData.canLayAll0 (l.map .int) = true
  | [] => by simp [PyData.canLayAll0]
  | x :: l => by simp [PyData.canLayAll0, PyData.canLay0, lay_ints l]
theorem depth_ints : ∀ l : List Int, PyData.depthAll (l.map .int) ≤ 1
  | [] => by simp [PyData.depthAll]
  | x :: l => by
    have h := depth_ints l
    simp only [List.map_cons, PyData.depthAll, PyData.depth]
    omega
theorem sh_of {d : PyData} (h : d.canLay0 = true) (h2 : d.depth ≤ 64) : SeqAt.shaped d = true := by
  show (d.canLay0 && decide (d.depth ≤ 64)) = true
  rw [Bool.and_eq_true]
  exact ⟨h, decide_eq_true h2⟩
theorem sh_tI (l : List Int) : SeqAt.shaped (tI l) = true := sh_of (by simp only [tI, PyData.canLay0]; exact lay_ints l) (by have := depth_ints l; simp only [tI, PyData.depth]; omega)
theorem sh_lI (l : List Int) : SeqAt.shaped (.list (l.map .int)) = true := sh_of (by simp only [PyData.canLay0]; exact lay_ints l) (by have := depth_ints l; simp only [PyData.depth]; omega)
theorem eqv_ints : ∀ l m : List Int, PyData.eqvAll (l.map .int) (m.map .int) = decide (l = m)
  | [], [] => by simp [PyData.eqvAll]
  | x :: l, [] => by simp [PyData.eqvAll]
  | [], y :: m => by simp [PyData.eqvAll]
  | x :: l, y :: m => by
    simp only [List.map_cons, PyData.eqvAll, PyData.eqv, eqv_ints l m]
    by_cases h1 : x = y
    · subst h1
      simp
    · simp [h1]
theorem eqv_lI (l m : List Int) : PyData.eqv (.list (l.map .int)) (.list (m.map .int)) = decide (l = m) := by simp only [PyData.eqv, eqv_ints]
theorem eqv_tI0 (l : List Int) : PyData.eqv (tI l) (.tuple []) = decide (l = []) := by
  have := eqv_ints l []
  simp only [tI, PyData.eqv]
  exact this
theorem eqv_oo (x y : Option Int) : PyData.eqv (.tuple [oI x, oI y]) (.tuple [.none, .none]) = decide (x = none ∧ y = none) := by
  cases x <;> cases y <;> simp [oI, PyData.eqv, PyData.eqvAll]
theorem sh_oo (x y : Option Int) : SeqAt.shaped (.tuple [oI x, oI y]) = true := by cases x <;> cases y <;> rfl
theorem inD_some (x : Int) (l : List Int) : inD (.int x) (l.map .int) = decide (x ∈ l) := by
  induction l with
  | nil => rfl
  | cons y l ih =>
    show (eqF (.int y) (.int x) || inD (.int x) (l.map .int)) = _
    rw [ih]
    by_cases h : y = x
    · subst h
      simp [eqF]
    · have h' : ¬ x = y := fun z => h z.symm
      simp [eqF, h, h']
theorem inD_none (l : List Int) : inD .none (l.map .int) = false := by
  induction l with
  | nil => rfl
  | cons y l ih =>
    show (eqF (.int y) .none || inD .none (l.map .int)) = _
    rw [ih]
    rfl
theorem inD_str (x : Str) (l : List Str) : inD (.str x) (l.map .str) = decide (x ∈ l) := by
  induction l with
  | nil => rfl
  | cons y l ih =>
    show (eqF (.str y) (.str x) || inD (.str x) (l.map .str)) = _
    rw [ih]
    by_cases h : y = x
    · subst h
      simp [eqF]
    · have h' : ¬ x = y := fun z => h z.symm
      simp [eqF, h, h']
section
variable {X : Cx} {M : Mb} {ρ : List Sl} {it elt : Expr} {pos : Pos}
/-- [y for x in .. for y in a tuple of x] -/
theorem an_lc2T {wi : TI} {Y : Nat → Hp → V → Hp → Prop} {j j1 : Nat} {y y1 : Str} {py py1 : Pos} {it1 : Expr} {scope : Scope} (own : List (Str × Nat)) (items : List PyData) (sub : PyData → List PyData)
    (hi : PI X (.Name y py) it wi) (hwi : ∀ σ H, M.P H → Slots ρ H σ → ∀ Rr : It → Hp → Prop, (∀ H1 J (G : Hp → Prop), Ex H H1 → Walk J items.length G Y → (∀ H2, Ex H1 H2 → G H2) → (∀ i x H2 H3, Ex H1 H2 → Y i H2 x H3 → ∃ d, items[i]? = some d ∧ Ex H2 H3 ∧ Dt X.K H3 x d) → Rr J H1) → wi σ H Rr)
    (he1 : ∀ (s : Shared) (H : Hp) (C : Addr) (cl : List (Str × Addr)) (fp : List Addr) d, d ∈ items → AE (X.blk s H scope (compEnvC scope cl C X.env) fp) M ((wipeS ρ (own.map (·.2))).set j (.val (D X.K d))) it1 (D X.K (.tuple (sub d))))
    (hlen : (items.flatMap sub).length ≤ 1000) (hN : X.N.Nodup) (ok : BlkOk X.N X.env.scope scope own) (hj : j ∈ own.map (·.2)) (hj1 : j1 ∈ own.map (·.2)) (hjj : j ≠ j1)
    (hg : ∀ (s : Shared) (H : Hp) (C : Addr) (cl : List (Str × Addr)) (fp : List Addr), PG (X.blk s H scope (compEnvC scope cl C X.env) fp) (.Name y py) (gName j))
    (hg1 : ∀ (s : Shared) (H : Hp) (C : Addr) (cl : List (Str × Addr)) (fp : List Addr), PG (X.blk s H scope (compEnvC scope cl C X.env) fp) (.Name y1 py1) (gName j1))
    (he : ∀ (s : Shared) (H : Hp) (C : Addr) (cl : List (Str × Addr)) (fp : List Addr) d d', d ∈ items → d' ∈ sub d → AE (X.blk s H scope (compEnvC scope cl C X.env) fp) M (((wipeS ρ (own.map (·.2))).set j (.val (D X.K d))).set j1 (.val (D X.K d'))) elt (D X.K d'))
    (hc : X.calm = true := by rfl) (hs : ∀ x, foldedSetIterable it X.env x = pure x := by intro _; rfl) (hs1 : ∀ env x, foldedSetIterable it1 env x = pure x := by intro _ _; rfl) : AN X M ρ (.ListComp elt [⟨.Name y py, it, [], 0⟩, ⟨.Name y1 py1, it1, [], 0⟩] scope pos) (items.flatMap sub) :=
  an_lc2 (wi1 := iTup X.K fun σ H Q => ∃ d, d ∈ items ∧ tA M ((wipeS ρ (own.map (·.2))).set j (.val (D X.K d))) (D X.K (.tuple (sub d))) σ H Q) own items sub hi hwi
    (fun s H C cl fp => pi_tup (X := X.blk s H scope (compEnvC scope cl C X.env) fp) ⟨fun pins s' σ H' Q I ⟨d, hd, h⟩ => (he1 s H C cl fp d hd).run pins s' σ H' Q I h⟩)
    (fun d hd σ H m sl Rr h => ⟨d, hd, wi1_tup σ H m sl Rr h⟩) hlen hN ok hj hj1 hjj hg hg1 he hc hs hs1
/-- .. in a new list made of x -/
theorem an_lc2N {wi : TI} {Y : Nat → Hp → V → Hp → Prop} {j j1 : Nat} {y y1 : Str} {py py1 : Pos} {it1 : Expr} {scope : Scope} (own : List (Str × Nat)) (items : List PyData) (sub : PyData → List PyData)
    (hi : PI X (.Name y py) it wi) (hwi : ∀ σ H, M.P H → Slots ρ H σ → ∀ Rr : It → Hp → Prop, (∀ H1 J (G : Hp → Prop), Ex H H1 → Walk J items.length G Y → (∀ H2, Ex H1 H2 → G H2) → (∀ i x H2 H3, Ex H1 H2 → Y i H2 x H3 → ∃ d, items[i]? = some d ∧ Ex H2 H3 ∧ Dt X.K H3 x d) → Rr J H1) → wi σ H Rr)
    (he1 : ∀ (s : Shared) (H : Hp) (C : Addr) (cl : List (Str × Addr)) (fp : List Addr) d, d ∈ items → AN (X.blk s H scope (compEnvC scope cl C X.env) fp) M ((wipeS ρ (own.map (·.2))).set j (.val (D X.K d))) it1 (sub d))
    (hlen : (items.flatMap sub).length ≤ 1000) (hN : X.N.Nodup) (ok : BlkOk X.N X.env.scope scope own) (hj : j ∈ own.map (·.2)) (hj1 : j1 ∈ own.map (·.2)) (hjj : j ≠ j1)
    (hg : ∀ (s : Shared) (H : Hp) (C : Addr) (cl : List (Str × Addr)) (fp : List Addr), PG (X.blk s H scope (compEnvC scope cl C X.env) fp) (.Name y py) (gName j))
    (hg1 : ∀ (s : Shared) (H : Hp) (C : Addr) (cl : List (Str × Addr)) (fp : List Addr), PG (X.blk s H scope (compEnvC scope cl C X.env) fp) (.Name y1 py1) (gName j1))
    (he : ∀ (s : Shared) (H : Hp) (C : Addr) (cl : List (Str × Addr)) (fp : List Addr) d d', d ∈ items → d' ∈ sub d → AE (X.blk s H scope (compEnvC scope cl C X.env) fp) M (((wipeS ρ (own.map (·.2))).set j (.val (D X.K d))).set j1 (.val (D X.K d'))) elt (D X.K d'))
    (hc : X.calm = true := by rfl) (hs : ∀ x, foldedSetIterable it X.env x = pure x := by intro _; rfl) (hs1 : ∀ env x, foldedSetIterable it1 env x = pure x := by intro _ _; rfl) : AN X M ρ (.ListComp elt [⟨.Name y py, it, [], 0⟩, ⟨.Name y1 py1, it1, [], 0⟩] scope pos) (items.flatMap sub) :=
  an_lc2 (wi1 := iList X.K fun σ H Q => ∃ d, d ∈ items ∧ tR M ((wipeS ρ (own.map (·.2))).set j (.val (D X.K d))) (rN X.K (sub d)) σ H Q) own items sub hi hwi
    (fun s H C cl fp => pi_list (X := X.blk s H scope (compEnvC scope cl C X.env) fp) ⟨fun pins s' σ H' Q I ⟨d, hd, h⟩ => (he1 s H C cl fp d hd).run pins s' σ H' Q I h⟩)
    (fun d hd σ H m sl Rr h => ⟨d, hd, wi1_new σ H m sl Rr h⟩) hlen hN ok hj hj1 hjj hg hg1 he hc hs hs1
end
theorem hu64 {A : Around} {k : Nat} (hr : Room k A) : A.units + 64 < cLine := hr.units
end Ep
set_option maxHeartbeats 4000000
/-! LookWorld: what it reads -/
namespace Ep
open PySem PySem.Spec PyProof.Rows L2 Evl
abbrev N4 := Nat × Nat × Nat × Nat
def cL (o : LOwn) (n : N4) : Cfg := ⟨.L o, n.1, n.2.1, n.2.2.1, n.2.2.2⟩
def cS (o : SOwn) (n : N4) : Cfg := ⟨.S o, n.1, n.2.1, n.2.2.1, n.2.2.2⟩
abbrev aLW (K : PySem.W.Frag) (a : Adr) (o : LOwn) (n : N4) (s : LS) (bad : Bad) : Ab := aTW K a a.LW (cL o n) s.spot (s.rs.map LR.d) (s.ts.map LT.d) s.fr bad
abbrev mLW (K : PySem.W.Frag) (a : Adr) (H0 : Hp) (q : Wad) (o : LOwn) (n : N4) (s : LS) (bad : Bad) : Mb := mTW K a a.LW H0 q (cL o n) s.spot (s.rs.map LR.d) (s.ts.map LT.d) s.fr bad
section
variable {P : Program} {w : World} {K : PySem.W.Frag} {mg : Str → Option Value} {base : Heap} {a : Adr}
/-! #### state -/
abbrev s_l_st : Stmt := inClass (top 35) 1
theorem sc_l_st : FnScope ["self"] ["self"] (defScope s_l_st) := ⟨rfl, rfl, rfl, by decide +kernel, rfl, by decide +kernel, by decide +kernel⟩
abbrev sp_l_st (K : PySem.W.Frag) (a : Adr) : Sp := spG (ι := LOwn × N4 × LS × Bad) (fun _ => True) (fun i => [aLW K a i.1 i.2.1 i.2.2.1 i.2.2.2]) fun i => rA (D K (outS .L (i.2.2.1, i.2.2.2)).d)
theorem ok_l_st {f : Addr} {fd : FuncData} (F : Fun K "state" "LookWorld.state" s_l_st f fd) (T : TxC K a.LW fsTW) (bt : mg "tuple" = none) : FnOk P w K mg base CX0 1 f fd ["self"] (sp_l_st K a) := by
  refine fn_G F sc_l_st (fun _ => rfl) fun cdv A outer s H E hr i hi => ?_
  obtain ⟨o, n, st, bad⟩ := i
  refine as_if (at_cmpC (ac_notN (ae_fld (av 0) (ft_bad T)))) (fun c1 => ?_) (fun c1 => ?_)
  · refine as_ret (ae_fld (av 0) (ft_bad T)) (fun v H1 m h => ⟨m, d_cl h ?_⟩)
    cases bad with
    | none => simp [bad0, eqD] at c1
    | some b => rfl
  · refine as_end ?_
    refine as_ret (ae_tup (ad_cons (ae_fld (av 0) (ft_spot T)) (ad_cons (ae_tuple bt (ae_fld (av 0) (ft_rr T))) (ad_cons (ae_tuple bt (ae_fld (av 0) (ft_tr T))) (ad_cons (ae_tuple bt (ae_fld (av 0) (ft_fr T))) ad_nil))))) (fun v H1 m h => ⟨m, d_cl h ?_⟩)
    cases bad with
    | none => rfl
    | some b => simp [bad0, badD, eqD] at c1
/-! #### words -/
abbrev s_l_w : Stmt := inClass (top 35) 2
abbrev n_l_w : List Str := ["self", "reader", "word"]
theorem sc_l_w : FnScope n_l_w ["self"] (defScope s_l_w) := ⟨rfl, rfl, rfl, by decide +kernel, rfl, by decide +kernel, by decide +kernel⟩
abbrev sp_l_w (K : PySem.W.Frag) (a : Adr) : Sp := spG (ι := LOwn × N4 × LS × Bad) (fun i => i.2.2.1.rs.length ≤ 100) (fun i => [aLW K a i.1 i.2.1 i.2.2.1 i.2.2.2]) fun i => rA (LD K ((lWords i.1 i.2.2.1).map oI))
def from3 : PyData → List PyData
  | .tuple ds => ds.drop 3
  | _ => []
theorem ok_l_w {f : Addr} {fd : FuncData} (F : Fun K "words" "LookWorld.words" s_l_w f fd) (T : TxC K a.LW fsTW) : FnOk P w K mg base CX0 1 f fd ["self"] (sp_l_w K a) := by
  refine fn_G F sc_l_w (fun _ => rfl) fun cdv A outer s H E hr i hi => ?_
  obtain ⟨o, n, st, bad⟩ := i
  have hl : st.rs.length ≤ 100 := hi
  have hu := hu_of hr
  refine as_if (at_cmpC (ac_eqS (ae_dget hu (ae_fld (av 0) (ft_own T)) (fun _ _ _ h => h) ae_str rfl (fun _ => .str _)) ae_str)) (fun c1 => ?_) (fun c1 => ?_)
  · simp only [eqD_str, decide_eq_true_eq] at c1
    refine as_ret (an_ae (an_lc (j := 1) [("reader", 1)] (st.rs.map LR.d) (fun _ => true) (item 3) (pi_list (ae_fld (av 0) (ft_rr T))) wi_lst (by rw [List.length_map]; omega) sc_l_w.nd (blkOk_by (N := n_l_w) (sc := defScope s_l_w) (by decide +kernel)) (by decide)
      (fun _ _ _ _ _ => pg_name (i := 1) sc_l_w.nd rfl (Or.inl rfl)) (fun _ _ _ _ _ d _ => ats_nil) (fun _ _ _ _ _ d hd _ => ?_))) (fun v H1 m h => ⟨m, ?_⟩)
    · obtain ⟨r, _, rfl⟩ := List.mem_map.mp hd
      exact ae_ixT (av 1) ae_int rfl
    · have e : ((st.rs.map LR.d).filter fun _ => true).map (item 3) = (lWords o st).map oI := by
        rw [List.filter_eq_self.mpr (fun _ _ => rfl)]
        simp only [lWords, if_pos c1, List.map_map]
        rfl
      rw [e] at h
      exact h
  · simp only [eqD_str, decide_eq_false_iff_not] at c1
    refine as_end ?_
    have hsub : (st.rs.map LR.d).flatMap from3 = (lWords o st).map oI := by
      simp only [lWords, if_neg c1, List.flatMap_map, List.map_flatMap]
      rfl
    have hlen : ((st.rs.map LR.d).flatMap from3).length ≤ 1000 := by
      have : ∀ l : List LR, ((l.map LR.d).flatMap from3).length = 2 * l.length := by
        intro l
        induction l with
        | nil => rfl
        | cons x l ih =>
          rw [List.map_cons, List.flatMap_cons, List.length_append, ih]
          show 2 + 2 * l.length = 2 * (l.length + 1)
          omega
      rw [this]
      omega
    refine as_ret (an_ae (an_lc2T (j := 1) (j1 := 2) [("reader", 1), ("word", 2)] (st.rs.map LR.d) from3 (pi_list (ae_fld (av 0) (ft_rr T))) wi_lst
      (fun _ _ _ _ _ d hd => ?he) hlen sc_l_w.nd (blkOk_by (N := n_l_w) (sc := defScope s_l_w) (by decide +kernel)) (by decide) (by decide) (by decide)
      (fun _ _ _ _ _ => pg_name (i := 1) sc_l_w.nd rfl (Or.inl rfl)) (fun _ _ _ _ _ => pg_name (i := 2) sc_l_w.nd rfl (Or.inl rfl)) (fun _ _ _ _ _ d d' hd hd' => av 2))) (fun v H1 m h => ⟨m, ?_⟩)
    case he =>
      obtain ⟨r, _, rfl⟩ := List.mem_map.mp hd
      exact ae_dat (ae_slT (av 1) (ao_some ae_int) ao_none) rfl
    · rw [hsub] at h
      exact h
/-! #### reader_deeds -/
abbrev s_l_rd : Stmt := inClass (top 35) 3
theorem sc_l_rd : FnScope ["self", "reader", "mode"] ["self", "reader"] (defScope s_l_rd) := ⟨rfl, rfl, rfl, by decide +kernel, rfl, by decide +kernel, by decide +kernel⟩
abbrev sp_l_rd (K : PySem.W.Frag) (a : Adr) : Sp := spG (ι := LOwn × N4 × LS × Bad × LR) (fun _ => True) (fun i => [aLW K a i.1 i.2.1 i.2.2.1 i.2.2.2.1, D K i.2.2.2.2.d]) fun i => rA (D K (tS' (lDeedsR i.1 i.2.2.2.2)))
theorem D_dp {M : Mb} {d : PyData} : ∀ H v, M.P H → (D K d).P H v → Dp K H v d := fun _ _ _ h => Dt.dp h
theorem ok_l_rd {f : Addr} {fd : FuncData} (F : Fun K "reader_deeds" "LookWorld.reader_deeds" s_l_rd f fd) (T : TxC K a.LW fsTW) : FnOk P w K mg base CX0 1 f fd ["self", "reader"] (sp_l_rd K a) := by
  refine fn_G F sc_l_rd (fun _ => rfl) fun cdv A outer s H E hr i hi => ?_
  obtain ⟨o, n, st, bad, r⟩ := i
  have hu := hu_of hr
  refine as_asg (i := 2) (ae_ixT (av 1) ae_int rfl) ?_ sc_l_rd.nd
  refine as_if (at_cmpC (ac_eqS (av 2) ae_str)) (fun c1 => ?_) (fun c1 => ?_)
  · simp only [eqD_str, decide_eq_true_eq] at c1
    refine as_ret (ae_ifT (at_cmpC (ac_eqDp hr.units (ae_dat (d' := .tuple [oI r.wd, oI r.ot]) (ae_slT (av 1) (ao_some ae_int) ao_none) rfl) (ae_tup (ad_cons ae_non (ad_cons ae_non ad_nil))) D_dp D_dp (sh_oo _ _) rfl)) (fun _ => (ae_tup (ad_cons ae_str ad_nil))) (fun _ => (ae_tup (ad_cons ae_str (ad_cons ae_str ad_nil))))) (fun v H1 m h => ⟨m, d_cl h ?_⟩)
    simp only [lDeedsR, if_pos c1, eqv_oo, decide_eq_true_eq, tS']
    split <;> rfl
  · simp only [eqD_str, decide_eq_false_iff_not] at c1
    refine as_end ?_
    refine as_if (at_cmpC (ac_eqS (av 2) ae_str)) (fun c2 => ?_) (fun c2 => ?_)
    · simp only [eqD_str, decide_eq_true_eq] at c2
      refine as_ret (ae_ifT (at_cmpC (ac_eqS (ae_dget hu (ae_fld (av 0) (ft_own T)) (fun _ _ _ h => h) ae_str rfl (fun _ => .str _)) ae_str)) (fun _ => (ae_tup (ad_cons ae_str (ad_cons ae_str ad_nil)))) (fun _ => (ae_tup (ad_cons ae_str (ad_cons ae_str (ad_cons ae_str ad_nil)))))) (fun v H1 m h => ⟨m, d_cl h ?_⟩)
      simp only [lDeedsR, if_neg c1, if_pos c2, eqD_str, decide_eq_true_eq, tS']
      split <;> rfl
    · simp only [eqD_str, decide_eq_false_iff_not] at c2
      refine as_end ?_
      refine as_if (at_cmpC (ac_eqS (av 2) ae_str)) (fun c3 => ?_) (fun c3 => ?_)
      · simp only [eqD_str, decide_eq_true_eq] at c3
        refine as_ret (ae_tup (ad_cons ae_str (ad_cons ae_str (ad_cons ae_str ad_nil)))) (fun v H1 m h => ⟨m, d_cl h ?_⟩)
        simp only [lDeedsR, if_neg c1, if_neg c2, if_pos c3, tS']
        rfl
      · simp only [eqD_str, decide_eq_false_iff_not] at c3
        refine as_end ?_
        refine as_ret (ae_ifT (at_cmpC (ac_in (ds := [.str "got", .str "next"]) (av 2) (ae_tup (ad_cons ae_str (ad_cons ae_str ad_nil))) sqA_tup rfl rfl)) (fun _ => (ae_tup (ad_cons ae_str ad_nil))) (fun _ => (ae_tup (ad_cons ae_str ad_nil)))) (fun v H1 m h => ⟨m, d_cl h ?_⟩)
        have e : (inD (.str r.md) [.str "got", .str "next"] = true) ↔ (r.md = "got" ∨ r.md = "next") := by
          have := inD_str r.md ["got", "next"]
          simp only [List.map_cons, List.map_nil] at this
          rw [this]
          simp
        simp only [lDeedsR, if_neg c1, if_neg c2, if_neg c3, tS', e]
        split <;> rfl
/-! #### taker_deeds -/
abbrev s_l_td : Stmt := inClass (top 35) 4
theorem sc_l_td : FnScope ["self", "taker", "mode", "at", "found", "bag", "take"] ["self", "taker"] (defScope s_l_td) := ⟨rfl, rfl, rfl, by decide +kernel, rfl, by decide +kernel, by decide +kernel⟩
abbrev sp_l_td (K : PySem.W.Frag) (a : Adr) : Sp := spG (ι := LOwn × N4 × LS × Bad × LT) (fun _ => True) (fun i => [aLW K a i.1 i.2.1 i.2.2.1 i.2.2.2.1, D K i.2.2.2.2.d]) fun i => rA (D K (tS' (lDeedsT i.1 i.2.1.2.2.2 i.2.2.1.spot i.2.2.2.2)))
theorem ok_l_td {f : Addr} {fd : FuncData} (F : Fun K "taker_deeds" "LookWorld.taker_deeds" s_l_td f fd) (T : TxC K a.LW fsTW) (G : GPr P w K mg base 1 a.SE "things" (spProp K a fun c => .int (c.nth : Nat))) : FnOk P w K mg base CX0 3 f fd ["self", "taker"] (sp_l_td K a) := by
  refine fn_G F sc_l_td (fun _ => rfl) fun cdv A outer s H E hr i hi => ?_
  obtain ⟨o, n, st, bad, r⟩ := i
  have hu := hu_of hr
  have nd := sc_l_td.nd
  have hlen : (takeIf st.spot (cL o n).nth).length ≤ 1 := by unfold takeIf; split <;> decide
  refine as_tgt (am_of (av 1)) (ag_tup (ags_cons (ag_name (i := 2) nd) (ags_cons (ag_name (i := 3) nd) (ags_cons (ag_name (i := 4) nd) (ags_cons (ag_name (i := 5) nd) ags_nil))))) ?_
  refine as_asg (i := 6) (ae_dat (ae_ifT (at_cmpC (ac_lt (ae_fld (av 0) (ft_spot T)) (ae_prop (ae_fld (av 0) (ft_set T)) set_ins G hr (cL o n) trivial rfl))) (fun _ => (ae_tup (ad_cons ae_str ad_nil))) (fun _ => (ae_tup ad_nil))) takeIf_d) ?_ nd
  refine as_if (at_cmpC (ac_eqS (av 2) ae_str)) (fun c1 => ?_) (fun c1 => ?_)
  · simp only [eqD_str, decide_eq_true_eq] at c1
    refine as_ret (ae_tup (ad_cons ae_str ad_nil)) (fun v H1 m h => ⟨m, d_cl h ?_⟩)
    simp only [lDeedsT, if_pos c1]
    rfl
  · simp only [eqD_str, decide_eq_false_iff_not] at c1
    refine as_end ?_
    refine as_if (at_cmpC (ac_eqS (ae_dget hu (ae_fld (av 0) (ft_own T)) (fun _ _ _ h => h) ae_str rfl (fun _ => .str _)) ae_str)) (fun c2 => ?_) (fun c2 => ?_)
    · simp only [eqD_str, decide_eq_true_eq] at c2
      refine as_if (at_cmpC (ac_eqS (av 2) ae_str)) (fun c3 => ?_) (fun c3 => ?_)
      · simp only [eqD_str, decide_eq_true_eq] at c3
        refine as_ret (ae_tup (ad_cons ae_str ad_nil)) (fun v H1 m h => ⟨m, d_cl h ?_⟩)
        simp only [lDeedsT, if_neg c1, if_pos c2, if_pos c3]
        rfl
      · simp only [eqD_str, decide_eq_false_iff_not] at c3
        refine as_end ?_
        refine as_ret (ae_cat (av 6) (ae_ifT (at_cmpC (ac_neDp hr.units (av 5) (ae_tup ad_nil) D_dp D_dp (sh_tI _) rfl)) (fun _ => (ae_tup (ad_cons ae_str ad_nil))) (fun _ => (ae_tup ad_nil))) ?_) (fun v H1 m h => ⟨m, d_cl h ?_⟩)
        · split <;> simp <;> omega
        · simp only [lDeedsT, if_neg c1, if_pos c2, if_neg c3, tS', List.map_append, eqv_tI0, Bool.not_eq_true', decide_eq_false_iff_not, ne_eq]
          congr 2
          split <;> rfl
    · simp only [eqD_str, decide_eq_false_iff_not] at c2
      refine as_end ?_
      refine as_if (at_cmpC (ac_eqS (av 2) ae_str)) (fun c4 => ?_) (fun c4 => ?_)
      · simp only [eqD_str, decide_eq_true_eq] at c4
        refine as_ret (ae_tup (ad_cons ae_str ad_nil)) (fun v H1 m h => ⟨m, d_cl h ?_⟩)
        simp only [lDeedsT, if_neg c1, if_neg c2, if_pos c4]
        rfl
      · simp only [eqD_str, decide_eq_false_iff_not] at c4
        refine as_end ?_
        refine as_if (at_cmpC (ac_eqS (av 2) ae_str)) (fun c5 => ?_) (fun c5 => ?_)
        · simp only [eqD_str, decide_eq_true_eq] at c5
          refine as_ret (ae_tup (ad_cons ae_str ad_nil)) (fun v H1 m h => ⟨m, d_cl h ?_⟩)
          simp only [lDeedsT, if_neg c1, if_neg c2, if_neg c4, if_pos c5]
          rfl
        · simp only [eqD_str, decide_eq_false_iff_not] at c5
          refine as_end ?_
          refine as_ret (ae_cat (av 6) (ae_ifT (at_cmpC (ac_neDp hr.units (av 5) (ae_tup ad_nil) D_dp D_dp (sh_tI _) rfl)) (fun _ => (ae_tup (ad_cons ae_str ad_nil))) (fun _ => (ae_tup ad_nil))) ?_) (fun v H1 m h => ⟨m, d_cl h ?_⟩)
          · split <;> simp <;> omega
          · simp only [lDeedsT, if_neg c1, if_neg c2, if_neg c4, if_neg c5, tS', List.map_append, eqv_tI0, Bool.not_eq_true', decide_eq_false_iff_not, ne_eq]
            congr 2
            split <;> rfl
end
end Ep
set_option maxHeartbeats 4000000
/-! LookWorld: moves, what it does -/
namespace Ep
open PySem PySem.Spec PyProof.Rows L2 Evl
section
variable {P : Program} {w : World} {K : PySem.W.Frag} {mg : Str → Option Value} {base : Heap} {a : Adr}
abbrev s_l_mv : Stmt := inClass (top 35) 5
abbrev n_l_mv : List Str := ["self", "found", "k", "reader", "deed", "taker"]
theorem sc_l_mv : FnScope n_l_mv ["self"] (defScope s_l_mv) := ⟨rfl, rfl, rfl, by decide +kernel, rfl, by decide +kernel, by decide +kernel⟩
abbrev sp_l_mv (K : PySem.W.Frag) (a : Adr) : Sp := spG (ι := LOwn × N4 × LS × Bad) (fun i => (lMoves i.1 i.2.1.2.2.2 i.2.2.1).length ≤ 1000) (fun i => [aLW K a i.1 i.2.1 i.2.2.1 i.2.2.2]) fun i => rA (LD K ((lMoves i.1 i.2.1.2.2.2 i.2.2.1).map mvD))
theorem ok_l_mv {f : Addr} {fd : FuncData} (F : Fun K "moves" "LookWorld.moves" s_l_mv f fd) (T : TxC K a.LW fsTW) (be : mg "enumerate" = none) (Gr : GMt P w K mg base 3 a.LW "reader_deeds" (sp_l_rd K a)) (Gt : GMt P w K mg base 3 a.LW "taker_deeds" (sp_l_td K a)) :
    FnOk P w K mg base CX0 4 f fd ["self"] (sp_l_mv K a) := by
  refine fn_G F sc_l_mv (fun _ => rfl) fun cdv A outer s H E hr i hi => ?_
  obtain ⟨o, n, st, bad⟩ := i
  have hn : (lMoves o n.2.2.2 st).length ≤ 1000 := hi
  have hnl : (mvs "reader" (lDeedsR o) st.rs).length + (mvs "taker" (lDeedsT o n.2.2.2 st.spot) st.ts).length ≤ 1000 := by
    unfold lMoves at hn
    rw [List.length_append] at hn
    exact hn
  refine as_at 0 rfl fun H00 v m0 hA => ?_
  obtain ⟨H0, q, rfl, core⟩ := id hA
  obtain ⟨lf, vb, hins, _⟩ := core.ins
  refine as_asgN (i := 1) (an_lst ad_nil) (fun H1 p vs m1 hp => ?_) sc_l_mv.nd
  have hp0 : H00 p = none := fresh_back m1 hp
  refine as_preM (M' := mL K H00 p (([] : List Mv).map mvD)) ?_ (fun H2 m2 => ⟨m1.trans m2.1, vs, m2.2.1, m2.2.2⟩)
  refine as_rows (enc := LR.d) (f := lDeedsR o) (kind := "reader") (rows := st.rs) (l := q.lr) (acc := []) (ρ1 := fun i d => [.val (Vl (.ref q.p)), .val (Rf p), .val (D K (.int (i : Nat))), .val (D K d), .any, .any]) be hp0 core.rows (by simp; omega)
    (ae_fld (av 0) (fld_at (fun H m => m.1) hins T.cl (T.na _ (by decide)) rfl))
    (fun M d i => ag_tup (ags_cons (ag_name (i := 2) sc_l_mv.nd) (ags_cons (ag_name (i := 3) sc_l_mv.nd) ags_nil))) (fun M i d => av 1) (fun M i r hM hi => ?rr) (fun i d => .same (.same (.any (.any (.same (.same .nil)))))) ?_
  case rr =>
    have hlen : (lDeedsR o r).length ≤ 1000 := by
      have := mvs_pre "reader" (lDeedsR o) st.rs (i + 1)
      rw [mvs_take _ _ hi, List.length_append, List.length_map] at this
      omega
    refine ae_eq (an_ae (an_lc (j := 4) [("deed", 4)] ((lDeedsR o r).map .str) (fun _ => true) (fun d => .tuple [.str "reader", .int (i : Nat), d])
      (pi_tup (ae_meth (Z := D K (.tuple ((lDeedsR o r).map .str))) (ae_at (A := aLW K a o n st bad) (av 0) hM hA) (recv_tw not_ft.2.2.2.2.1) Gr hr (o, n, st, bad, r) trivial rfl (aa_cons (av 3) aa_nil))) wi_tup (by rw [strs_len]; exact hlen) sc_l_mv.nd (blkOk_by (N := n_l_mv) (sc := defScope s_l_mv) (by decide +kernel)) (by decide)
      (fun _ _ _ _ _ => pg_name (i := 4) sc_l_mv.nd rfl (Or.inl rfl)) (fun _ _ _ _ _ d _ => ats_nil) (fun _ _ _ _ _ d hd _ => ae_tup (ad_cons ae_str (ad_cons (av 2) (ad_cons (av 4) ad_nil)))))) (congrArg (LD K) (mv_ff _ _ _))
  rw [List.nil_append]
  refine as_rows (enc := LT.d) (f := lDeedsT o n.2.2.2 st.spot) (kind := "taker") (rows := st.ts) (l := q.lt) (acc := mvs "reader" (lDeedsR o) st.rs) (ρ1 := fun i d => [.val (Vl (.ref q.p)), .val (Rf p), .val (D K (.int (i : Nat))), .any, .any, .val (D K d)]) be hp0 core.taks (by omega)
    (ae_fld (av 0) (fld_at (fun H m => m.1) hins T.cl (T.na _ (by decide)) rfl))
    (fun M d i => ag_tup (ags_cons (ag_name (i := 2) sc_l_mv.nd) (ags_cons (ag_name (i := 5) sc_l_mv.nd) ags_nil))) (fun M i d => av 1) (fun M i r hM hi => ?rt) (fun i d => .same (.same (.any (.same (.same (.any .nil)))))) ?_
  case rt =>
    have hlen : (lDeedsT o n.2.2.2 st.spot r).length ≤ 1000 := by
      have := mvs_pre "taker" (lDeedsT o n.2.2.2 st.spot) st.ts (i + 1)
      rw [mvs_take _ _ hi, List.length_append, List.length_map] at this
      omega
    refine ae_eq (an_ae (an_lc (j := 4) [("deed", 4)] ((lDeedsT o n.2.2.2 st.spot r).map .str) (fun _ => true) (fun d => .tuple [.str "taker", .int (i : Nat), d])
      (pi_tup (ae_meth (Z := D K (.tuple ((lDeedsT o n.2.2.2 st.spot r).map .str))) (ae_at (A := aLW K a o n st bad) (av 0) hM hA) (recv_tw not_ft.2.2.2.2.2.1) Gt hr (o, n, st, bad, r) trivial rfl (aa_cons (av 5) aa_nil))) wi_tup (by rw [strs_len]; exact hlen) sc_l_mv.nd (blkOk_by (N := n_l_mv) (sc := defScope s_l_mv) (by decide +kernel)) (by decide)
      (fun _ _ _ _ _ => pg_name (i := 4) sc_l_mv.nd rfl (Or.inl rfl)) (fun _ _ _ _ _ d _ => ats_nil) (fun _ _ _ _ _ d hd _ => ae_tup (ad_cons ae_str (ad_cons (av 2) (ad_cons (av 4) ad_nil)))))) (congrArg (LD K) (mv_ff _ _ _))
  exact as_ret (av 1) (fun v H1 m h => ⟨m0.trans m.1, by
    obtain ⟨vs, g1, g2⟩ := m.2
    exact ⟨p, vs, h, g1, g2⟩⟩)
/-! #### use -/
structure LIx where
  (H0 : Hp) (q : Wad) (o : LOwn) (n : N4) (s : LS)
abbrev LIx.m (K : PySem.W.Frag) (a : Adr) (i : LIx) (s : LS) (b : Bad) : Mb := mLW K a i.H0 i.q i.o i.n s b
abbrev s_l_us : Stmt := inClass (top 35) 7
theorem sc_l_us : FnScope ["self", "k", "thing"] ["self", "k", "thing"] (defScope s_l_us) := ⟨rfl, rfl, rfl, by decide +kernel, rfl, by decide +kernel, by decide +kernel⟩
abbrev sp_l_us (K : PySem.W.Frag) (a : Adr) : Sp := spK (ι := LIx × Nat × Option Int) (fun _ => True) (fun i => [Rf i.1.q.p, aI K (i.2.1 : Nat), D K (oI i.2.2)]) (fun i => i.1.m K a i.1.s none) (fun i => i.1.m K a i.1.s (if inD (oI i.2.2) (i.1.s.fr.map .int) then some (i.2.1, i.2.2) else none)) (fun _ => aN K)
theorem ok_l_us {f : Addr} {fd : FuncData} (F : Fun K "use" "LookWorld.use" s_l_us f fd) (T : TxC K a.LW fsTW) : FnOk P w K mg base CX0 1 f fd ["self", "k", "thing"] (sp_l_us K a) := by
  refine fn_K F sc_l_us (fun _ => rfl) fun cdv A outer st0 H E hr i hi => ?_
  obtain ⟨⟨H0, q, o, n, s⟩, k, th⟩ := i
  refine as_if (at_cmpC (ac_in (av 2) (ae_fld (at_self (av 0)) (ft_fr T)) sqA_lst (flat_oI _) (flat_ints _))) (fun c1 => ?_) (fun c1 => ?_)
  · refine as_tgt (am_of (ae_dat (d' := bad0 (some (k, th))) (ae_tup (ad_cons ae_str (ad_cons (av 1) (ad_cons (av 2) ad_nil)))) rfl)) (kg_fld (av 0) (wt_bad T)) ?_
    refine as_end (as_done fun H1 m => ?_)
    show (mK H (mLW K a H0 q o n s (if inD (oI th) (s.fr.map .int) = true then some (k, th) else none))).P H1
    rw [if_pos c1]
    exact m
  · refine as_end (as_done fun H1 m => ?_)
    show (mK H (mLW K a H0 q o n s (if inD (oI th) (s.fr.map .int) = true then some (k, th) else none))).P H1
    rw [if_neg (by rw [c1]; decide)]
    exact m
/-! #### reader_does -/
abbrev s_l_rdo : Stmt := inClass (top 35) 8
abbrev n_l_rdo : List Str := ["self", "k", "deed", "mode", "first", "second", "word", "other", "good"]
theorem sc_l_rdo : FnScope n_l_rdo ["self", "k", "deed"] (defScope s_l_rdo) := ⟨rfl, rfl, rfl, by decide +kernel, rfl, by decide +kernel, by decide +kernel⟩
abbrev sp_l_rdo (K : PySem.W.Frag) (a : Adr) : Sp := spK (ι := LIx × Nat × Str × LR) (fun i => i.1.s.rs[i.2.1]? = some i.2.2.2 ∧ (i.2.2.1 = "next" → i.2.2.2.a ≠ none)) (fun i => [Rf i.1.q.p, aI K (i.2.1 : Nat), aS K i.2.2.1]) (fun i => i.1.m K a i.1.s none)
  (fun i => i.1.m K a (lReader i.1.o i.1.s i.2.1 i.2.2.1 i.2.2.2).1 (lReader i.1.o i.1.s i.2.1 i.2.2.1 i.2.2.2).2) (fun _ => aN K)
theorem sl_rr {H0 : Hp} {q : Wad} {o : LOwn} {n : N4} {s : LS} {bad : Bad} {k : Nat} {r : LR} (hk : k < s.rs.length) : ∀ H v, (mLW K a H0 q o n s bad).P H → (D K r.d).P H v → ∃ xs j, H q.lr = some (.lst xs) ∧ ixN xs.length (k : Int) = some j ∧ (mLW K a H0 q o n { s with rs := s.rs.set k r } bad).P (upd H q.lr (.lst (xs.set j v))) := fun H v m hv => by
  obtain ⟨xs, j, h1, h2, h3⟩ := st_rr (by rw [List.length_map]; exact hk) H v m hv
  refine ⟨xs, j, h1, h2, ?_⟩
  show (mTW K a a.LW H0 q (cL o n) s.spot ((s.rs.set k r).map LR.d) (s.ts.map LT.d) s.fr bad).P _
  rw [List.map_set]
  exact h3
theorem sl_tr {H0 : Hp} {q : Wad} {o : LOwn} {n : N4} {s : LS} {bad : Bad} {k : Nat} {r : LT} (hk : k < s.ts.length) : ∀ H v, (mLW K a H0 q o n s bad).P H → (D K r.d).P H v → ∃ xs j, H q.lt = some (.lst xs) ∧ ixN xs.length (k : Int) = some j ∧ (mLW K a H0 q o n { s with ts := s.ts.set k r } bad).P (upd H q.lt (.lst (xs.set j v))) := fun H v m hv => by
  obtain ⟨xs, j, h1, h2, h3⟩ := st_tr (by rw [List.length_map]; exact hk) H v m hv
  refine ⟨xs, j, h1, h2, ?_⟩
  show (mTW K a a.LW H0 q (cL o n) s.spot (s.rs.map LR.d) ((s.ts.set k r).map LT.d) s.fr bad).P _
  rw [List.map_set]
  exact h3
theorem ok_l_rdo {f : Addr} {fd : FuncData} (F : Fun K "reader_does" "LookWorld.reader_does" s_l_rdo f fd) (T : TxC K a.LW fsTW) (Gu : GMt P w K mg base 1 a.LW "use" (sp_l_us K a)) : FnOk P w K mg base CX0 2 f fd ["self", "k", "deed"] (sp_l_rdo K a) := by
  refine fn_K F sc_l_rdo (fun _ => rfl) fun cdv A outer st0 H E hr i hi => ?_
  obtain ⟨⟨H0, q, o, n, s⟩, k, deed, r⟩ := i
  have h1 : s.rs[k]? = some r := hi.1
  have hnx : deed = "next" → r.a ≠ none := hi.2
  have hk : k < s.rs.length := (List.getElem?_eq_some_iff.mp h1).1
  have hu := hu_of hr
  have nd := sc_l_rdo.nd
  have fin : ∀ {s' : LS} {b' : Bad}, lReader o s k deed r = (s', b') → ∀ H1, (mK H (mLW K a H0 q o n s' b')).P H1 → (mK H (mLW K a H0 q o n (lReader o s k deed r).1 (lReader o s k deed r).2)).P H1 := fun e H1 m => by
    rw [e]
    exact m
  refine as_tgt (am_of (ae_ixL (ae_fld (at_self (av 0)) (ft_rr T)) (av 1) (atI_map h1))) (ag_tup (ags_cons (ag_name (i := 3) nd) (ags_cons (ag_name (i := 4) nd) (ags_cons (ag_name (i := 5) nd) (ags_cons (ag_name (i := 6) nd) (ags_cons (ag_name (i := 7) nd) ags_nil)))))) ?_
  refine as_if (at_cmpC (ac_eqS (av 2) ae_str)) (fun c1 => ?_) (fun c1 => ?_)
  · simp only [eqD_str, decide_eq_true_eq] at c1
    refine as_tgt (am_of (ae_dat (d' := LR.d ⟨"got", some s.spot, none, r.wd, r.ot⟩) (ae_tup (ad_cons ae_str (ad_cons (ae_fld (at_self (av 0)) (ft_spot T)) (ad_cons ae_non (ad_cons (av 6) (ad_cons (av 7) ad_nil)))))) rfl)) (kg_sub (ae_fld (av 0) (ft_rrR T)) (av 1) (sl_rr hk)) ?_
    exact as_end (as_done (fin (by simp only [lReader, if_pos c1])))
  simp only [eqD_str, decide_eq_false_iff_not] at c1
  refine as_if (aw_and (at_cmpC (ac_eqS (av 2) ae_str)) (fun _ => (aw_and1 (at_cmpC (ac_eqS (av 3) ae_str))))).pt (fun c2 => ?_) (fun c2 => ?_)
  · simp only [eqD_str, Bool.and_eq_true, decide_eq_true_eq] at c2
    refine as_tgt (am_of (ae_dat (d' := LR.d ⟨if o.check then "wrote" else "inside", r.a, none, r.a, r.ot⟩) (ae_tup (ad_cons (ae_ifS (at_val (ae_dget hu (ae_fld (at_self (av 0)) (ft_own T)) (fun _ _ _ h => h) ae_str rfl (fun _ => .bl _))) (fun _ => ae_str) (fun _ => ae_str)) (ad_cons (av 4) (ad_cons ae_non (ad_cons (av 4) (ad_cons (av 7) ad_nil)))))) rfl)) (kg_sub (ae_fld (av 0) (ft_rrR T)) (av 1) (sl_rr hk)) ?_
    exact as_end (as_end (as_done (fin (by simp only [lReader, if_neg c1, if_pos c2]))))
  simp only [eqD_str, Bool.and_eq_false_iff, decide_eq_false_iff_not, ← Classical.not_and_iff_not_or_not] at c2
  refine as_if (at_cmpC (ac_eqS (av 2) ae_str)) (fun c3 => ?_) (fun c3 => ?_)
  · simp only [eqD_str, decide_eq_true_eq] at c3
    refine as_tgt (am_of (ae_dat (d' := LR.d ⟨"linked", r.a, r.b, r.wd, r.b⟩) (ae_tup (ad_cons ae_str (ad_cons (av 4) (ad_cons (av 5) (ad_cons (av 6) (ad_cons (av 5) ad_nil)))))) rfl)) (kg_sub (ae_fld (av 0) (ft_rrR T)) (av 1) (sl_rr hk)) ?_
    exact as_end (as_end (as_end (as_done (fin (by simp only [lReader, if_neg c1, if_neg c2, if_pos c3])))))
  simp only [eqD_str, decide_eq_false_iff_not] at c3
  refine as_if (aw_and (at_cmpC (ac_eqS (av 2) ae_str)) (fun _ => (aw_and1 (at_cmpC (ac_eqS (av 3) ae_str))))).pt (fun c4 => ?_) (fun c4 => ?_)
  · simp only [eqD_str, Bool.and_eq_true, decide_eq_true_eq] at c4
    refine as_asg (i := 8) (ae_cmpC (ac_eqS (ae_fld (at_self (av 0)) (ft_spot T)) (av 4) (scD_oI _ _))) ?_ nd
    refine as_tgt (am_of (ae_dat (d' := LR.d (if eqD (.int s.spot) (oI r.a) then ⟨"inside", r.a, none, r.wd, r.ot⟩ else ⟨"out", none, none, r.wd, r.ot⟩)) (ae_ifT (at_val (av 8)) (fun _ => (ae_tup (ad_cons ae_str (ad_cons (av 4) (ad_cons ae_non (ad_cons (av 6) (ad_cons (av 7) ad_nil))))))) (fun _ => (ae_tup (ad_cons ae_str (ad_cons ae_non (ad_cons ae_non (ad_cons (av 6) (ad_cons (av 7) ad_nil)))))))) (by split <;> rfl))) (kg_sub (ae_fld (av 0) (ft_rrR T)) (av 1) (sl_rr hk)) ?_
    exact as_end (as_end (as_end (as_end (as_done (fin (by simp only [lReader, if_neg c1, if_neg c2, if_neg c3, if_pos c4]))))))
  simp only [eqD_str, Bool.and_eq_false_iff, decide_eq_false_iff_not, ← Classical.not_and_iff_not_or_not] at c4
  refine as_if (at_cmpC (ac_eqS (av 2) ae_str)) (fun c5 => ?_) (fun c5 => ?_)
  · simp only [eqD_str, decide_eq_true_eq] at c5
    refine as_asg (i := 8) (ae_or (ae_cmpC (ac_eqS (ae_dget hu (ae_fld (at_self (av 0)) (ft_own T)) (fun _ _ _ h => h) ae_str rfl (fun _ => .str _)) ae_str)) (fun _ => (ae_one (ae_cmpC (ac_eqS (ae_fld (at_self (av 0)) (ft_spot T)) (av 4) (scD_oI _ _)))))) ?_ nd
    refine as_tgt (am_of (ae_dat (d' := LR.d (if o.chain = "next" ∨ eqD (.int s.spot) (oI r.a) = true then ⟨"pair", r.a, r.b, r.wd, r.ot⟩ else ⟨"inside", r.a, none, r.wd, r.ot⟩)) (ae_ifT (at_val (av 8)) (fun _ => (ae_tup (ad_cons ae_str (ad_cons (av 4) (ad_cons (av 5) (ad_cons (av 6) (ad_cons (av 7) ad_nil))))))) (fun _ => (ae_tup (ad_cons ae_str (ad_cons (av 4) (ad_cons ae_non (ad_cons (av 6) (ad_cons (av 7) ad_nil)))))))) (by simp only [eqD_str, Bool.or_eq_true, decide_eq_true_eq]; split <;> rfl))) (kg_sub (ae_fld (av 0) (ft_rrR T)) (av 1) (sl_rr hk)) ?_
    exact as_end (as_end (as_end (as_end (as_end (as_done (fin (by simp only [lReader, if_neg c1, if_neg c2, if_neg c3, if_neg c4, if_pos c5])))))))
  simp only [eqD_str, decide_eq_false_iff_not] at c5
  refine as_if (at_cmpC (ac_eqS (av 2) ae_str)) (fun c6 => ?_) (fun c6 => ?_)
  · simp only [eqD_str, decide_eq_true_eq] at c6
    obtain ⟨md, ra, rb, wd, ot⟩ := r
    cases ra with
    | none => exact absurd rfl (hnx c6)
    | some x =>
      refine as_tgt (am_of (ae_dat (d' := LR.d ⟨"next", some x, some (x + 1), wd, ot⟩) (ae_tup (ad_cons ae_str (ad_cons (av 4) (ad_cons (ae_add (av 4) ae_int) (ad_cons (av 6) (ad_cons (av 7) ad_nil)))))) rfl)) (kg_sub (ae_fld (av 0) (ft_rrR T)) (av 1) (sl_rr hk)) ?_
      exact as_end (as_end (as_end (as_end (as_end (as_end (as_done (fin (by simp only [lReader, if_neg c1, if_neg c2, if_neg c3, if_neg c4, if_neg c5, if_pos c6, Option.getD_some]))))))))
  simp only [eqD_str, decide_eq_false_iff_not] at c6
  refine as_if (at_cmpC (ac_eqS (av 2) ae_str)) (fun c7 => ?_) (fun c7 => ?_)
  · simp only [eqD_str, decide_eq_true_eq] at c7
    refine as_tgt (am_of (ae_dat (d' := LR.d ⟨"out", none, none, none, none⟩) (ae_tup (ad_cons ae_str (ad_cons ae_non (ad_cons ae_non (ad_cons ae_non (ad_cons ae_non ad_nil)))))) rfl)) (kg_sub (ae_fld (av 0) (ft_rrR T)) (av 1) (sl_rr hk)) ?_
    exact as_end (as_end (as_end (as_end (as_end (as_end (as_end (as_done (fin (by simp only [lReader, if_neg c1, if_neg c2, if_neg c3, if_neg c4, if_neg c5, if_neg c6, if_pos c7])))))))))
  · simp only [eqD_str, decide_eq_false_iff_not] at c7
    refine as_exprM (km_meth (M' := mLW K a H0 q o n s (if inD (oI (if deed = "use" then r.a else r.b)) (s.fr.map .int) then some (k, if deed = "use" then r.a else r.b) else none)) (B := aN K) (av 0) (recv_tself not_ft.2.1) Gu hr (aa_cons (av 1) (aa_cons (ae_dat (d' := oI (if deed = "use" then r.a else r.b)) (ae_ifD (at_cmpC (ac_eqS (av 2) ae_str)) (fun _ => (av 4)) (fun _ => (av 5))) (by simp only [eqD_str, decide_eq_true_eq]; split <;> rfl)) aa_nil)) (fun H1 v vs m hv hvs => ⟨(⟨H0, q, o, n, s⟩, k, if deed = "use" then r.a else r.b), trivial, m, .cons hv hvs, fun v' H2 m2 r2 => ⟨m2, r2⟩⟩)) ?_
    refine as_end (as_end (as_end (as_end (as_end (as_end (as_end (as_done fun H1 m => ?_)))))))
    have e : lReader o s k deed r = (s, if inD (oI (if deed = "use" then r.a else r.b)) (s.fr.map .int) then some (k, if deed = "use" then r.a else r.b) else none) := by
      simp only [lReader, if_neg c1, if_neg c2, if_neg c3, if_neg c4, if_neg c5, if_neg c6, if_neg c7]
      split <;> split <;> rfl
    exact fin e H1 m
end
end Ep
set_option maxHeartbeats 4000000
/-! LookWorld: taker_does, do, __init__ -/
namespace Ep
open PySem PySem.Spec PyProof.Rows L2 Evl
section
variable {P : Program} {w : World} {K : PySem.W.Frag} {mg : Str → Option Value} {base : Heap} {a : Adr}
abbrev s_l_tdo : Stmt := inClass (top 35) 9
abbrev n_l_tdo : List Str := ["self", "k", "deed", "mode", "at", "found", "bag", "word", "thing"]
theorem sc_l_tdo : FnScope n_l_tdo ["self", "k", "deed"] (defScope s_l_tdo) := ⟨rfl, rfl, rfl, by decide +kernel, rfl, by decide +kernel, by decide +kernel⟩
structure LTkOk (o : LOwn) (s : LS) (deed : Str) (r : LT) : Prop where
  few : s.rs.length ≤ 100
  bag : s.fr.length + r.bag.length < 60
  found : r.found.length < 60
  look : deed = "look" → 0 ≤ r.at_ ∧ r.at_ < ((lWords o s).length : Int)
abbrev sp_l_tdo (K : PySem.W.Frag) (a : Adr) : Sp := spK (ι := LIx × Nat × Str × LT) (fun i => i.1.s.ts[i.2.1]? = some i.2.2.2 ∧ LTkOk i.1.o i.1.s i.2.2.1 i.2.2.2) (fun i => [Rf i.1.q.p, aI K (i.2.1 : Nat), aS K i.2.2.1]) (fun i => i.1.m K a i.1.s none)
  (fun i => i.1.m K a (lTaker i.1.o i.1.s i.2.1 i.2.2.1 i.2.2.2) none) (fun _ => aN K)
theorem filt_ints (l : List Int) (p : Int → Bool) (cf : PyData → Bool) (h : ∀ x, cf (.int x) = p x) : ((l.map PyData.int).filter cf).map (fun d => d) = (l.filter p).map .int := by
  rw [List.map_id']
  induction l with
  | nil => rfl
  | cons x l ih =>
    rw [List.map_cons, List.filter_cons, List.filter_cons, h x, ih]
    split <;> rfl
theorem ok_l_tdo {f : Addr} {fd : FuncData} (F : Fun K "taker_does" "LookWorld.taker_does" s_l_tdo f fd) (T : TxC K a.LW fsTW) (Gw : GMt P w K mg base 1 a.LW "words" (sp_l_w K a)) (bs : mg "sorted" = none) (bi : mg "int" = none) (bt : mg "tuple" = none) (bl : mg "len" = none) : FnOk P w K mg base CX0 2 f fd ["self", "k", "deed"] (sp_l_tdo K a) := by
  refine fn_K F sc_l_tdo (fun _ => rfl) fun cdv A outer st0 H E hr i hi => ?_
  obtain ⟨⟨H0, q, o, n, s⟩, k, deed, r⟩ := i
  have h1 : s.ts[k]? = some r := hi.1
  have ok : LTkOk o s deed r := hi.2
  have hk : k < s.ts.length := (List.getElem?_eq_some_iff.mp h1).1
  have hu := hu_of hr
  have nd := sc_l_tdo.nd
  have hbag := ok.bag
  have hfound := ok.found
  have fin : ∀ {s' : LS}, lTaker o s k deed r = s' → ∀ H1, (mK H (mLW K a H0 q o n s' none)).P H1 → (mK H (mLW K a H0 q o n (lTaker o s k deed r) none)).P H1 := fun e H1 m => by
    rw [e]
    exact m
  refine as_tgt (am_of (ae_ixL (ae_fld (at_self (av 0)) (ft_tr T)) (av 1) (atI_map h1))) (ag_tup (ags_cons (ag_name (i := 3) nd) (ags_cons (ag_name (i := 4) nd) (ags_cons (ag_name (i := 5) nd) (ags_cons (ag_name (i := 6) nd) ags_nil))))) ?_
  refine as_if (at_cmpC (ac_eqS (av 2) ae_str)) (fun c1 => ?_) (fun c1 => ?_)
  · simp only [eqD_str, decide_eq_true_eq] at c1
    refine as_asg (i := 6) (ae_dat (d' := tI (r.bag ++ [s.spot])) (ae_cat (av 6) (ae_tup (ad_cons (ae_fld (at_self (av 0)) (ft_spot T)) ad_nil)) (by simp; omega)) (by simp [tI])) ?_ nd
    refine ks_fldaug (av 0) ae_int (at_spot T) ?_
    refine as_asg (i := 3) (ae_dat (d' := .str (if o.look = "behind" then "idle" else "took")) (ae_ifS (at_cmpC (ac_eqS (ae_dget hu (ae_fld (at_self (av 0)) (ft_own T)) (fun _ _ _ h => h) ae_str rfl (fun _ => .str _)) ae_str)) (fun _ => ae_str) (fun _ => ae_str)) (by simp only [eqD_str, decide_eq_true_eq])) ?_ nd
    refine as_end ?_
    refine as_tgt (am_of (ae_dat (d' := LT.d ⟨if o.look = "behind" then "idle" else "took", r.at_, r.found, r.bag ++ [s.spot]⟩) (ae_tup (ad_cons (av 3) (ad_cons (av 4) (ad_cons (av 5) (ad_cons (av 6) ad_nil))))) rfl)) (kg_sub (ae_fld (av 0) (ft_trR T)) (av 1) (sl_tr (s := { s with spot := s.spot + 1 }) hk)) ?_
    exact as_done (fin (by simp only [lTaker, if_pos c1]))
  simp only [eqD_str, decide_eq_false_iff_not] at c1
  refine as_if (at_cmpC (ac_eqS (av 2) ae_str)) (fun c2 => ?_) (fun c2 => ?_)
  · simp only [eqD_str, decide_eq_true_eq] at c2
    refine as_tgt (am_of (ae_tup (ad_cons ae_str (ad_cons ae_int (ad_cons (ae_tup ad_nil) ad_nil))))) (ag_tup (ags_cons (ag_name (i := 3) nd) (ags_cons (ag_name (i := 4) nd) (ags_cons (ag_name (i := 5) nd) ags_nil)))) ?_
    refine as_end (as_end ?_)
    refine as_tgt (am_of (ae_dat (d' := LT.d ⟨"looking", 0, [], r.bag⟩) (ae_tup (ad_cons (av 3) (ad_cons (av 4) (ad_cons (av 5) (ad_cons (av 6) ad_nil))))) rfl)) (kg_sub (ae_fld (av 0) (ft_trR T)) (av 1) (sl_tr hk)) ?_
    exact as_done (fin (by simp only [lTaker, if_neg c1, if_pos c2]))
  simp only [eqD_str, decide_eq_false_iff_not] at c2
  refine as_if (at_cmpC (ac_eqS (av 2) ae_str)) (fun c3 => ?_) (fun c3 => ?_)
  · simp only [eqD_str, decide_eq_true_eq] at c3
    obtain ⟨l0, l1⟩ := ok.look c3
    obtain ⟨j, hj⟩ := Int.eq_ofNat_of_zero_le l0
    have hjl : j < (lWords o s).length := by omega
    have hw : atI ((lWords o s).map oI) r.at_ = some (oI (lWords o s)[j]) := by
      rw [hj]
      exact atI_nat (by rw [List.getElem?_map, List.getElem?_eq_getElem hjl]; rfl)
    have hg : (lWords o s)[r.at_.toNat]?.getD none = (lWords o s)[j] := by
      rw [hj, Int.toNat_natCast, List.getElem?_eq_getElem hjl]
      rfl
    refine as_asg (i := 7) (ae_ixL (ae_meth0 (at_self (av 0)) (recv_tw not_ft.1) Gw hr (o, n, s, none) ok.few rfl) (av 4) hw) ?_ nd
    refine as_asg (i := 5) (A := D K (tI (lFound (lWords o s)[j] r.found))) (ae_if (aw_or (at_cmpC (ac_isN (av 7))) (fun _ => (aw_or1 (at_cmpC (ac_in (av 7) (av 5) sqA_tup (flat_oI _) (flat_ints _)))))).pt (fun h => ae_dat (av 5) ?f1) (fun h => ?f2)) ?_ nd
    case f1 =>
      cases hx : (lWords o s)[j] with
      | none => rfl
      | some x =>
        rw [hx] at h
        simp only [oI, eqD, inD_some, Bool.false_or, decide_eq_true_eq] at h
        simp only [lFound, if_pos h]
    case f2 =>
      cases hx : (lWords o s)[j] with
      | none =>
        rw [hx] at h
        simp [oI, eqD] at h
      | some x =>
        rw [hx] at h
        simp only [oI, eqD, inD_some, Bool.false_or, decide_eq_false_iff_not] at h
        have e : lFound (some x) r.found = srt (r.found ++ [x]) := by simp only [lFound, if_neg h]
        rw [e]
        exact ae_tuple bt (ae_sorted (ns := r.found ++ [x]) bs bi (ae_dat (d' := tI (r.found ++ [x])) (ae_cat (av 5) (ae_tup (ad_cons (ae_dat (d' := .int x) (av 7) rfl) ad_nil)) (by simp; omega)) (by simp [tI])) sqA_tup (by simp; omega))
    refine as_asg (i := 4) (ae_add (av 4) ae_int) ?_ nd
    refine as_if (at_cmpC (ac_eqS (av 4) (ae_len bl (ae_meth0 (at_self (av 0)) (recv_tw not_ft.1) Gw hr (o, n, s, none) ok.few rfl) sqA_lst))) (fun c4 => ?_) (fun c4 => ?_)
    · simp only [eqD_int, decide_eq_true_eq, List.length_map] at c4
      refine as_tgt (am_of (ae_tup (ad_cons ae_str (ad_cons ae_int ad_nil)))) (ag_tup (ags_cons (ag_name (i := 3) nd) (ags_cons (ag_name (i := 4) nd) ags_nil))) ?_
      refine as_end (as_end (as_end (as_end ?_)))
      refine as_tgt (am_of (ae_dat (d' := LT.d ⟨"looked", 0, lFound (lWords o s)[j] r.found, r.bag⟩) (ae_tup (ad_cons (av 3) (ad_cons (av 4) (ad_cons (av 5) (ad_cons (av 6) ad_nil))))) rfl)) (kg_sub (ae_fld (av 0) (ft_trR T)) (av 1) (sl_tr hk)) ?_
      exact as_done (fin (by simp only [lTaker, if_neg c1, if_neg c2, if_pos c3, hg, if_pos c4]))
    · simp only [eqD_int, decide_eq_false_iff_not, List.length_map] at c4
      refine as_end (as_end (as_end (as_end ?_)))
      refine as_tgt (am_of (ae_dat (d' := LT.d ⟨r.md, r.at_ + 1, lFound (lWords o s)[j] r.found, r.bag⟩) (ae_tup (ad_cons (av 3) (ad_cons (av 4) (ad_cons (av 5) (ad_cons (av 6) ad_nil))))) rfl)) (kg_sub (ae_fld (av 0) (ft_trR T)) (av 1) (sl_tr hk)) ?_
      exact as_done (fin (by simp only [lTaker, if_neg c1, if_neg c2, if_pos c3, hg, if_neg c4]))
  simp only [eqD_str, decide_eq_false_iff_not] at c3
  have lf1 : (r.bag.filter fun x => !decide (x ∈ r.found)).length ≤ r.bag.length := List.length_filter_le ..
  refine as_tgt (am_of (an_ft (an_sorted (ns := s.fr ++ r.bag.filter fun x => !decide (x ∈ r.found)) bs bi (ae_eq (ae_catL (ae_fld (at_self (av 0)) (ft_fr T)) (ae_eq (an_ae (an_lc (j := 8) [("thing", 8)] (r.bag.map .int) (fun d => !inD d (r.found.map .int)) (fun d => d) (pi_tup (av 6)) wi_tup (by rw [List.length_map]; omega) nd (blkOk_by (N := n_l_tdo) (sc := defScope s_l_tdo) (by decide +kernel)) (by decide)
      (fun _ _ _ _ _ => pg_name (i := 8) nd rfl (Or.inl rfl)) (fun _ _ _ _ _ d hd => ats_one (at_cmpC (ac_notIn (av 8) (av 5) sqA_tup (by obtain ⟨x, _, rfl⟩ := List.mem_map.mp hd; rfl) (flat_ints _)))) (fun _ _ _ _ _ d hd _ => av 8))) (congrArg (LD K) (filt_ints r.bag (fun x => !decide (x ∈ r.found)) _ fun x => by rw [inD_some]))) (by simp only [List.length_map]; omega)) (congrArg (LD K) (List.map_append ..).symm)) sqA_lst (by rw [List.length_append]; omega))))
    (kg_fld (av 0) (wt_fr T fun _ _ _ h => h)) ?_
  refine as_tgt (am_of (ae_tup (ad_cons ae_str (ad_cons (ae_tup ad_nil) (ad_cons (ae_tuple (ds := (r.bag.filter fun x => decide (x ∈ r.found)).map .int) bt (ae_eq (an_ae (an_lc (j := 8) [("thing", 8)] (r.bag.map .int) (fun d => inD d (r.found.map .int)) (fun d => d) (pi_tup (av 6)) wi_tup (by rw [List.length_map]; omega) nd (blkOk_by (N := n_l_tdo) (sc := defScope s_l_tdo) (by decide +kernel)) (by decide)
      (fun _ _ _ _ _ => pg_name (i := 8) nd rfl (Or.inl rfl)) (fun _ _ _ _ _ d hd => ats_one (at_cmpC (ac_in (av 8) (av 5) sqA_tup (by obtain ⟨x, _, rfl⟩ := List.mem_map.mp hd; rfl) (flat_ints _)))) (fun _ _ _ _ _ d hd _ => av 8))) (congrArg (LD K) (filt_ints r.bag (fun x => decide (x ∈ r.found)) _ fun x => by rw [inD_some])))) ad_nil))))) (ag_tup (ags_cons (ag_name (i := 3) nd) (ags_cons (ag_name (i := 5) nd) (ags_cons (ag_name (i := 6) nd) ags_nil)))) ?_
  refine as_end (as_end (as_end ?_))
  refine as_tgt (am_of (ae_dat (d' := LT.d ⟨"idle", r.at_, [], r.bag.filter fun x => decide (x ∈ r.found)⟩) (ae_tup (ad_cons (av 3) (ad_cons (av 4) (ad_cons (av 5) (ad_cons (av 6) ad_nil))))) rfl)) (kg_sub (ae_fld (av 0) (ft_trR T)) (av 1) (sl_tr (s := { s with fr := srt (s.fr ++ r.bag.filter fun x => !decide (x ∈ r.found)) }) hk)) ?_
  exact as_done (fin (by simp only [lTaker, if_neg c1, if_neg c2, if_neg c3]))
/-! #### do -/
abbrev s_l_do : Stmt := inClass (top 35) 6
abbrev n_l_do : List Str := ["self", "move", "kind", "k", "deed"]
theorem sc_l_do : FnScope n_l_do ["self", "move"] (defScope s_l_do) := ⟨rfl, rfl, rfl, by decide +kernel, rfl, by decide +kernel, by decide +kernel⟩
structure LDoOk (o : LOwn) (s : LS) (m : Mv) : Prop where
  rd : m.1 = "reader" → ∃ r, s.rs[m.2.1]? = some r ∧ (m.2.2 = "next" → r.a ≠ none)
  tk : m.1 ≠ "reader" → ∃ r, s.ts[m.2.1]? = some r ∧ LTkOk o s m.2.2 r
abbrev sp_l_do (K : PySem.W.Frag) (a : Adr) : Sp := spK (ι := LIx × Mv) (fun i => LDoOk i.1.o i.1.s i.2) (fun i => [Rf i.1.q.p, D K (mvD i.2)]) (fun i => i.1.m K a i.1.s none) (fun i => i.1.m K a (lDo i.1.o i.1.s i.2).1 (lDo i.1.o i.1.s i.2).2) (fun _ => aN K)
theorem ok_l_do {f : Addr} {fd : FuncData} (F : Fun K "do" "LookWorld.do" s_l_do f fd) (Gr : GMt P w K mg base 2 a.LW "reader_does" (sp_l_rdo K a)) (Gt : GMt P w K mg base 2 a.LW "taker_does" (sp_l_tdo K a)) : FnOk P w K mg base CX0 3 f fd ["self", "move"] (sp_l_do K a) := by
  refine fn_K F sc_l_do (fun _ => rfl) fun cdv A outer st0 H E hr i hi => ?_
  obtain ⟨⟨H0, q, o, n, s⟩, kd, k, deed⟩ := i
  have ok : LDoOk o s (kd, k, deed) := hi
  have nd := sc_l_do.nd
  refine as_tgt (am_of (av 1)) (ag_tup (ags_cons (ag_name (i := 2) nd) (ags_cons (ag_name (i := 3) nd) (ags_cons (ag_name (i := 4) nd) ags_nil)))) ?_
  refine as_if (at_cmpC (ac_eqS (av 2) ae_str)) (fun c1 => ?_) (fun c1 => ?_)
  · simp only [eqD_str, decide_eq_true_eq] at c1
    obtain ⟨r, h1, h2⟩ := ok.rd c1
    have h1 : s.rs[k]? = some r := h1
    have e : lDo o s (kd, k, deed) = lReader o s k deed r := by
      unfold lDo
      rw [if_pos c1]
      show (match s.rs[k]? with | some r => lReader o s k deed r | none => (s, none)) = _
      rw [h1]
    refine as_exprM (km_meth (M' := mLW K a H0 q o n (lReader o s k deed r).1 (lReader o s k deed r).2) (B := aN K) (av 0) (recv_tself not_ft.2.2.2.2.2.2.1) Gr hr (aa_cons (av 3) (aa_cons (av 4) aa_nil)) (fun H1 v vs m hv hvs => ⟨(⟨H0, q, o, n, s⟩, k, deed, r), ⟨h1, h2⟩, m, .cons hv hvs, fun v' H2 m2 r2 => ⟨m2, r2⟩⟩)) ?_
    refine as_end (as_done fun H1 m => ?_)
    show (mK H (mLW K a H0 q o n (lDo o s (kd, k, deed)).1 (lDo o s (kd, k, deed)).2)).P H1
    rw [e]
    exact m
  · simp only [eqD_str, decide_eq_false_iff_not] at c1
    obtain ⟨r, h1, tk⟩ := ok.tk c1
    have h1 : s.ts[k]? = some r := h1
    have e : lDo o s (kd, k, deed) = (lTaker o s k deed r, none) := by
      unfold lDo
      rw [if_neg c1]
      show (match s.ts[k]? with | some r => (lTaker o s k deed r, none) | none => (s, none)) = _
      rw [h1]
    refine as_exprM (km_meth (M' := mLW K a H0 q o n (lTaker o s k deed r) none) (B := aN K) (av 0) (recv_tself not_ft.2.2.2.2.2.2.2.1) Gt hr (aa_cons (av 3) (aa_cons (av 4) aa_nil)) (fun H1 v vs m hv hvs => ⟨(⟨H0, q, o, n, s⟩, k, deed, r), ⟨h1, tk⟩, m, .cons hv hvs, fun v' H2 m2 r2 => ⟨m2, r2⟩⟩)) ?_
    refine as_end (as_done fun H1 m => ?_)
    show (mK H (mLW K a H0 q o n (lDo o s (kd, k, deed)).1 (lDo o s (kd, k, deed)).2)).P H1
    rw [e]
    exact m
end
end Ep
set_option maxHeartbeats 4000000
/-! LookWorld, StillWorld: __init__ (printed by tools/init2.py) -/
namespace Ep
open PySem PySem.Spec PyProof.Rows L2 Evl
section
variable {P : Program} {w : World} {K : PySem.W.Frag} {mg : Str → Option Value} {base : Heap} {a : Adr}
/-! #### l: __init__ -/
abbrev s_l_in : Stmt := inClass (top 35) 0
abbrev n_l_in : List Str := ["self", "setting", "state", "readers", "takers", "freed"]
theorem sc_l_in : FnScope n_l_in ["self", "setting", "state"] (defScope s_l_in) := ⟨rfl, rfl, rfl, by decide +kernel, rfl, by decide +kernel, by decide +kernel⟩
structure LSIn where
  (H0 : Hp) (p dx : Addr) (o : LOwn) (n : N4) (s : LS)
abbrev sp_l_in (K : PySem.W.Frag) (a : Adr) : Sp := spC (ι := LSIn) (fun i => i.H0 i.p = none) (fun i => [Rf i.p, At i.H0 (aSet K a (cL i.o i.n)), At i.H0 (D K i.s.d)]) (fun i => mNew i.H0 i.p a.LW i.dx []) (fun i => mTany K a a.LW i.H0 i.p (cL i.o i.n) i.s.spot (i.s.rs.map LR.d) (i.s.ts.map LT.d) i.s.fr) (fun _ => aN K)
theorem ok_l_in {f : Addr} {fd : FuncData} (F : Fun K "__init__" "LookWorld.__init__" s_l_in f fd) (T : TxC K a.LW fsTW) (TS : TxC K a.SE fsSE) (TB : TxC K a.LB ["own", "order"]) (bl : mg "list" = none) : FnOk P w K mg base CX0 1 f fd ["self", "setting", "state"] (sp_l_in K a) := by
  refine fn_C F sc_l_in (fun _ => rfl) fun cdv A outer st0 H E hr i hi => ?_
  obtain ⟨H0, p, dx, o, n, s⟩ := i
  have hp0 : H0 p = none := hi
  have nd := sc_l_in.nd
  refine as_at 1 (A := At H0 (aSet K a (cL o n))) rfl fun Hb vS m hS => ?_
  refine as_at 2 (A := At H0 (D K s.d)) rfl fun Hb2 vT m2 hT => ?_
  have hS : (aSet K a (cL o n)).P H0 vS := hS
  have hT : (D K s.d).P H0 vT := hT
  have b1 : Ex H0 Hb2 := m.1.trans m2
  have b2 : Hb2 p = some (.ins a.LW dx []) := m2 _ _ m.2
  obtain ⟨sS, rfl, hset⟩ := id hS
  obtain ⟨dxs, bk, th, g1, ⟨dxb, d, ol, g2, g3⟩, g4⟩ := id hset
  refine as_ini b2 T.cl (T.na _ (by decide)) (by decide) (av 0) (av 1) fun G0 G1 v1 e1 e2 r1 => ?_
  cases (show v1 = _ from r1)
  have c1 : Ex H0 (upd G1 p (.ins a.LW dx (putF "setting" (.ref sS) []))) := ex_ini (b1.trans (e1.trans e2)) hp0
  refine as_ini upd_same T.cl (T.na _ (by decide)) (by show 1 < 1000; decide) (av 0) (ae_fld (ae_fld (av 1) (fld_at (fun H2 m2 => c1.trans m2) g1 TS.cl (TS.na _ (by decide)) rfl)) (fld_at (fun H2 m2 => c1.trans m2) g2 TB.cl (TB.na _ (by decide)) rfl)) fun G2 G3 v2 e3 e4 r2 => ?_
  cases (show v2 = _ from r2)
  have c2 := ex_ini (o := .ins a.LW dx (putF "own" (.ref d) (putF "setting" (.ref sS) []))) (c1.trans (e3.trans e4)) hp0
  refine as_tgt (am_of (ae_at (A := D K s.d) (av 2) (fun H2 m2 => c2.trans m2) hT)) (ag_tup (ags_cons (ag_ini upd_same T.cl (T.na _ (by decide)) (by show 2 < 1000; decide) (av 0)) (ags_cons (ag_name (i := 3) nd) (ags_cons (ag_name (i := 4) nd) (ags_cons (ag_name (i := 5) nd) ags_nil))))) ?_
  have c4 := ex_ini (o := .ins a.LW dx (putF "spot" (.int s.spot) (putF "own" (.ref d) (putF "setting" (.ref sS) [])))) c2 hp0
  refine as_ini upd_same T.cl (T.na _ (by decide)) (by show 3 < 1000; decide) (av 0) (an_list (ds := s.rs.map LR.d) bl (av 3) sqA_tup) fun G4 G5 v5 e5 e6 r5 => ?_
  obtain ⟨lr, rfl, n1, L1⟩ := rn_new r5
  have p5 := e6 _ _ (e5 _ _ (upd_same (H := upd G3 p _)))
  have z1 : H0 lr = none := fresh_back (c4.trans e5) n1
  have c5 := ex_ini (o := .ins a.LW dx (putF "reader_rows" (.ref lr) (putF "spot" (.int s.spot) (putF "own" (.ref d) (putF "setting" (.ref sS) []))))) (c4.trans (e5.trans e6)) hp0
  have L1 := L1.updI (u := .ins a.LW dx (putF "reader_rows" (.ref lr) (putF "spot" (.int s.spot) (putF "own" (.ref d) (putF "setting" (.ref sS) []))))) p5
  refine as_ini upd_same T.cl (T.na _ (by decide)) (by show 4 < 1000; decide) (av 0) (an_list (ds := s.ts.map LT.d) bl (av 4) sqA_tup) fun G6 G7 v7 e7 e8 r7 => ?_
  obtain ⟨lt, rfl, n2, L2⟩ := rn_new r7
  have p7 := e8 _ _ (e7 _ _ (upd_same (H := G5)))
  have z2 : H0 lt = none := fresh_back (c5.trans e7) n2
  have k2 : lr ≠ lt := fun z => by
    obtain ⟨_, q, _⟩ := L1.mono e7
    rw [z, n2] at q
    cases q
  have c6 := ex_ini (o := .ins a.LW dx (putF "taker_rows" (.ref lt) (putF "reader_rows" (.ref lr) (putF "spot" (.int s.spot) (putF "own" (.ref d) (putF "setting" (.ref sS) [])))))) (c5.trans (e7.trans e8)) hp0
  have L1 := (L1.mono (e7.trans e8)).updI (u := .ins a.LW dx (putF "taker_rows" (.ref lt) (putF "reader_rows" (.ref lr) (putF "spot" (.int s.spot) (putF "own" (.ref d) (putF "setting" (.ref sS) [])))))) p7
  have L2 := L2.updI (u := .ins a.LW dx (putF "taker_rows" (.ref lt) (putF "reader_rows" (.ref lr) (putF "spot" (.int s.spot) (putF "own" (.ref d) (putF "setting" (.ref sS) [])))))) p7
  refine as_ini upd_same T.cl (T.na _ (by decide)) (by show 5 < 1000; decide) (av 0) (an_list (ds := s.fr.map .int) bl (av 5) sqA_tup) fun G10 G11 v11 e11 e12 r11 => ?_
  obtain ⟨lf, rfl, n4, L4⟩ := rn_new r11
  have p11 := e12 _ _ (e11 _ _ (upd_same (H := G7)))
  have k5 : lf ≠ lr := fun z => by
    obtain ⟨_, q, _⟩ := L1.mono e11
    rw [← z, n4] at q
    cases q
  have k6 : lf ≠ lt := fun z => by
    obtain ⟨_, q, _⟩ := L2.mono e11
    rw [← z, n4] at q
    cases q
  have c8 := ex_ini (o := .ins a.LW dx (putF "freed" (.ref lf) (putF "taker_rows" (.ref lt) (putF "reader_rows" (.ref lr) (putF "spot" (.int s.spot) (putF "own" (.ref d) (putF "setting" (.ref sS) []))))))) (c6.trans (e11.trans e12)) hp0
  have L1 := (L1.mono (e11.trans e12)).updI (u := .ins a.LW dx (putF "freed" (.ref lf) (putF "taker_rows" (.ref lt) (putF "reader_rows" (.ref lr) (putF "spot" (.int s.spot) (putF "own" (.ref d) (putF "setting" (.ref sS) []))))))) p11
  have L2 := (L2.mono (e11.trans e12)).updI (u := .ins a.LW dx (putF "freed" (.ref lf) (putF "taker_rows" (.ref lt) (putF "reader_rows" (.ref lr) (putF "spot" (.int s.spot) (putF "own" (.ref d) (putF "setting" (.ref sS) []))))))) p11
  have L4 := L4.updI (u := .ins a.LW dx (putF "freed" (.ref lf) (putF "taker_rows" (.ref lt) (putF "reader_rows" (.ref lr) (putF "spot" (.int s.spot) (putF "own" (.ref d) (putF "setting" (.ref sS) []))))))) p11
  refine as_ini upd_same T.cl (T.na _ (by decide)) (by show 6 < 1000; decide) (av 0) (ae_view (B := Vl .non) ae_non fun _ v _ h => by cases h; rfl) fun G12 G13 v13 e13 e14 r13 => ?_
  cases (show v13 = _ from r13)
  have p13 := e14 _ _ (e13 _ _ (upd_same (H := G11)))
  refine as_done fun H m => ?_
  have L1 := ((L1.mono (e13.trans e14)).updI p13).mono m
  have L2 := ((L2.mono (e13.trans e14)).updI p13).mono m
  have L4 := ((L4.mono (e13.trans e14)).updI p13).mono m
  obtain ⟨vf, f1, f2⟩ := L4
  exact ⟨⟨p, dx, sS, d, lr, lt, 0⟩, rfl, { ex := (ex_ini (c8.trans (e13.trans e14)) hp0).trans m, set := hset, dic := g3, np := hp0, nr := z1, nt := z2, rt := k2, rows := L1, taks := L2, ins := ⟨lf, .non, m _ _ upd_same, by rw [← f2.ints]; exact f1, .non, k5, k6⟩ }⟩

/-! #### s: __init__ -/
abbrev s_s_in : Stmt := inClass (top 45) 0
abbrev n_s_in : List Str := ["self", "setting", "state", "readers", "takers", "freed"]
theorem sc_s_in : FnScope n_s_in ["self", "setting", "state"] (defScope s_s_in) := ⟨rfl, rfl, rfl, by decide +kernel, rfl, by decide +kernel, by decide +kernel⟩
structure SSIn where
  (H0 : Hp) (p dx : Addr) (o : SOwn) (n : N4) (s : SS)
abbrev sp_s_in (K : PySem.W.Frag) (a : Adr) : Sp := spC (ι := SSIn) (fun i => i.H0 i.p = none) (fun i => [Rf i.p, At i.H0 (aSet K a (cS i.o i.n)), At i.H0 (D K i.s.d)]) (fun i => mNew i.H0 i.p a.SW i.dx []) (fun i => mTany K a a.SW i.H0 i.p (cS i.o i.n) i.s.spot (i.s.rs.map SR.d) (i.s.ts.map ST.d) i.s.fr) (fun _ => aN K)
theorem ok_s_in {f : Addr} {fd : FuncData} (F : Fun K "__init__" "StillWorld.__init__" s_s_in f fd) (T : TxC K a.SW fsTW) (TS : TxC K a.SE fsSE) (TB : TxC K a.SB ["own", "order"]) (bl : mg "list" = none) : FnOk P w K mg base CX0 1 f fd ["self", "setting", "state"] (sp_s_in K a) := by
  refine fn_C F sc_s_in (fun _ => rfl) fun cdv A outer st0 H E hr i hi => ?_
  obtain ⟨H0, p, dx, o, n, s⟩ := i
  have hp0 : H0 p = none := hi
  have nd := sc_s_in.nd
  refine as_at 1 (A := At H0 (aSet K a (cS o n))) rfl fun Hb vS m hS => ?_
  refine as_at 2 (A := At H0 (D K s.d)) rfl fun Hb2 vT m2 hT => ?_
  have hS : (aSet K a (cS o n)).P H0 vS := hS
  have hT : (D K s.d).P H0 vT := hT
  have b1 : Ex H0 Hb2 := m.1.trans m2
  have b2 : Hb2 p = some (.ins a.SW dx []) := m2 _ _ m.2
  obtain ⟨sS, rfl, hset⟩ := id hS
  obtain ⟨dxs, bk, th, g1, ⟨dxb, d, ol, g2, g3⟩, g4⟩ := id hset
  refine as_ini b2 T.cl (T.na _ (by decide)) (by decide) (av 0) (av 1) fun G0 G1 v1 e1 e2 r1 => ?_
  cases (show v1 = _ from r1)
  have c1 : Ex H0 (upd G1 p (.ins a.SW dx (putF "setting" (.ref sS) []))) := ex_ini (b1.trans (e1.trans e2)) hp0
  refine as_ini upd_same T.cl (T.na _ (by decide)) (by show 1 < 1000; decide) (av 0) (ae_fld (ae_fld (av 1) (fld_at (fun H2 m2 => c1.trans m2) g1 TS.cl (TS.na _ (by decide)) rfl)) (fld_at (fun H2 m2 => c1.trans m2) g2 TB.cl (TB.na _ (by decide)) rfl)) fun G2 G3 v2 e3 e4 r2 => ?_
  cases (show v2 = _ from r2)
  have c2 := ex_ini (o := .ins a.SW dx (putF "own" (.ref d) (putF "setting" (.ref sS) []))) (c1.trans (e3.trans e4)) hp0
  refine as_tgt (am_of (ae_at (A := D K s.d) (av 2) (fun H2 m2 => c2.trans m2) hT)) (ag_tup (ags_cons (ag_ini upd_same T.cl (T.na _ (by decide)) (by show 2 < 1000; decide) (av 0)) (ags_cons (ag_name (i := 3) nd) (ags_cons (ag_name (i := 4) nd) (ags_cons (ag_name (i := 5) nd) ags_nil))))) ?_
  have c4 := ex_ini (o := .ins a.SW dx (putF "spot" (.int s.spot) (putF "own" (.ref d) (putF "setting" (.ref sS) [])))) c2 hp0
  refine as_ini upd_same T.cl (T.na _ (by decide)) (by show 3 < 1000; decide) (av 0) (an_list (ds := s.rs.map SR.d) bl (av 3) sqA_tup) fun G4 G5 v5 e5 e6 r5 => ?_
  obtain ⟨lr, rfl, n1, L1⟩ := rn_new r5
  have p5 := e6 _ _ (e5 _ _ (upd_same (H := upd G3 p _)))
  have z1 : H0 lr = none := fresh_back (c4.trans e5) n1
  have c5 := ex_ini (o := .ins a.SW dx (putF "reader_rows" (.ref lr) (putF "spot" (.int s.spot) (putF "own" (.ref d) (putF "setting" (.ref sS) []))))) (c4.trans (e5.trans e6)) hp0
  have L1 := L1.updI (u := .ins a.SW dx (putF "reader_rows" (.ref lr) (putF "spot" (.int s.spot) (putF "own" (.ref d) (putF "setting" (.ref sS) []))))) p5
  refine as_ini upd_same T.cl (T.na _ (by decide)) (by show 4 < 1000; decide) (av 0) (an_list (ds := s.ts.map ST.d) bl (av 4) sqA_tup) fun G6 G7 v7 e7 e8 r7 => ?_
  obtain ⟨lt, rfl, n2, L2⟩ := rn_new r7
  have p7 := e8 _ _ (e7 _ _ (upd_same (H := G5)))
  have z2 : H0 lt = none := fresh_back (c5.trans e7) n2
  have k2 : lr ≠ lt := fun z => by
    obtain ⟨_, q, _⟩ := L1.mono e7
    rw [z, n2] at q
    cases q
  have c6 := ex_ini (o := .ins a.SW dx (putF "taker_rows" (.ref lt) (putF "reader_rows" (.ref lr) (putF "spot" (.int s.spot) (putF "own" (.ref d) (putF "setting" (.ref sS) [])))))) (c5.trans (e7.trans e8)) hp0
  have L1 := (L1.mono (e7.trans e8)).updI (u := .ins a.SW dx (putF "taker_rows" (.ref lt) (putF "reader_rows" (.ref lr) (putF "spot" (.int s.spot) (putF "own" (.ref d) (putF "setting" (.ref sS) [])))))) p7
  have L2 := L2.updI (u := .ins a.SW dx (putF "taker_rows" (.ref lt) (putF "reader_rows" (.ref lr) (putF "spot" (.int s.spot) (putF "own" (.ref d) (putF "setting" (.ref sS) [])))))) p7
  refine as_ini upd_same T.cl (T.na _ (by decide)) (by show 5 < 1000; decide) (av 0) (an_list (ds := s.fr.map .int) bl (av 5) sqA_tup) fun G10 G11 v11 e11 e12 r11 => ?_
  obtain ⟨lf, rfl, n4, L4⟩ := rn_new r11
  have p11 := e12 _ _ (e11 _ _ (upd_same (H := G7)))
  have k5 : lf ≠ lr := fun z => by
    obtain ⟨_, q, _⟩ := L1.mono e11
    rw [← z, n4] at q
    cases q
  have k6 : lf ≠ lt := fun z => by
    obtain ⟨_, q, _⟩ := L2.mono e11
    rw [← z, n4] at q
    cases q
  have c8 := ex_ini (o := .ins a.SW dx (putF "freed" (.ref lf) (putF "taker_rows" (.ref lt) (putF "reader_rows" (.ref lr) (putF "spot" (.int s.spot) (putF "own" (.ref d) (putF "setting" (.ref sS) []))))))) (c6.trans (e11.trans e12)) hp0
  have L1 := (L1.mono (e11.trans e12)).updI (u := .ins a.SW dx (putF "freed" (.ref lf) (putF "taker_rows" (.ref lt) (putF "reader_rows" (.ref lr) (putF "spot" (.int s.spot) (putF "own" (.ref d) (putF "setting" (.ref sS) []))))))) p11
  have L2 := (L2.mono (e11.trans e12)).updI (u := .ins a.SW dx (putF "freed" (.ref lf) (putF "taker_rows" (.ref lt) (putF "reader_rows" (.ref lr) (putF "spot" (.int s.spot) (putF "own" (.ref d) (putF "setting" (.ref sS) []))))))) p11
  have L4 := L4.updI (u := .ins a.SW dx (putF "freed" (.ref lf) (putF "taker_rows" (.ref lt) (putF "reader_rows" (.ref lr) (putF "spot" (.int s.spot) (putF "own" (.ref d) (putF "setting" (.ref sS) []))))))) p11
  refine as_ini upd_same T.cl (T.na _ (by decide)) (by show 6 < 1000; decide) (av 0) (ae_view (B := Vl .non) ae_non fun _ v _ h => by cases h; rfl) fun G12 G13 v13 e13 e14 r13 => ?_
  cases (show v13 = _ from r13)
  have p13 := e14 _ _ (e13 _ _ (upd_same (H := G11)))
  refine as_done fun H m => ?_
  have L1 := ((L1.mono (e13.trans e14)).updI p13).mono m
  have L2 := ((L2.mono (e13.trans e14)).updI p13).mono m
  have L4 := ((L4.mono (e13.trans e14)).updI p13).mono m
  obtain ⟨vf, f1, f2⟩ := L4
  exact ⟨⟨p, dx, sS, d, lr, lt, 0⟩, rfl, { ex := (ex_ini (c8.trans (e13.trans e14)) hp0).trans m, set := hset, dic := g3, np := hp0, nr := z1, nt := z2, rt := k2, rows := L1, taks := L2, ins := ⟨lf, .non, m _ _ upd_same, by rw [← f2.ints]; exact f1, .non, k5, k6⟩ }⟩

end
end Ep
set_option maxHeartbeats 4000000
/-! written dicts with texts as keys -/
namespace Ep
open PySem PySem.Spec PyProof.Rows L2 Evl
inductive KvA : List (Str × Ab) → Hp → List (Key × V) → Prop
  | nil {H : Hp} : KvA [] H []
  | cons {k : Str} {A : Ab} {kas : List (Str × Ab)} {H : Hp} {v : V} {kvs : List (Key × V)} : A.P H v → KvA kas H kvs → KvA ((k, A) :: kas) H ((.inr k, v) :: kvs)
theorem KvA.mono {H H' : Hp} (e : Ex H H') : ∀ {kas : List (Str × Ab)} {kvs : List (Key × V)}, KvA kas H kvs → KvA kas H' kvs
  | _, _, .nil => .nil
  | (_, A) :: _, _, .cons h r => .cons (A.mono e h) (KvA.mono e r)
theorem KvA.keys {H : Hp} : ∀ {kas : List (Str × Ab)} {kvs : List (Key × V)}, KvA kas H kvs → kvs.map (·.1) = kas.map fun ka => .inr ka.1
  | _, _, .nil => rfl
  | _, _, .cons h r => by rw [List.map_cons, List.map_cons, KvA.keys r]
theorem KvA.length {H : Hp} {kas : List (Str × Ab)} {kvs : List (Key × V)} (h : KvA kas H kvs) : kvs.length = kas.length := by
  have := congrArg List.length h.keys
  simpa using this
theorem KvA.get {H : Hp} {z : Str} {A : Ab} : ∀ {kas : List (Str × Ab)} {kvs : List (Key × V)}, KvA kas H kvs → kas.lookup z = some A → ∃ v, valV kvs (Sum.inr z) = some v ∧ A.P H v
  | _, _, .nil, e => by cases e
  | (k, B) :: kas, _, .cons (v := v) (kvs := kvs) h r, e => by
    rw [List.lookup_cons] at e
    by_cases hz : z = k
    · subst hz
      rw [beq_self_eq_true] at e
      cases e
      exact ⟨v, valV_pos rfl, h⟩
    · have hb : (z == k) = false := beq_eq_false_iff_ne.mpr hz
      rw [hb] at e
      obtain ⟨u, h1, h2⟩ := KvA.get r e
      refine ⟨u, ?_, h2⟩
      have hk : ¬ (Sum.inr k : Key) = Sum.inr z := fun q => hz (Sum.inr.inj q).symm
      simp only [valV, List.find?_cons] at h1 ⊢
      rw [decide_eq_false hk]
      exact h1
theorem KvA.none {H : Hp} {z : Str} : ∀ {kas : List (Str × Ab)} {kvs : List (Key × V)}, KvA kas H kvs → kas.lookup z = .none → valV kvs (Sum.inr z) = .none
  | _, _, .nil, e => rfl
  | (k, B) :: kas, _, .cons (v := v) (kvs := kvs) h r, e => by
    rw [List.lookup_cons] at e
    by_cases hz : z = k
    · subst hz
      rw [beq_self_eq_true] at e
      cases e
    · have hb : (z == k) = false := beq_eq_false_iff_ne.mpr hz
      rw [hb] at e
      have h1 := KvA.none r e
      have hk : ¬ (Sum.inr k : Key) = Sum.inr z := fun q => hz (Sum.inr.inj q).symm
      simp only [valV, List.find?_cons] at h1 ⊢
      rw [decide_eq_false hk]
      exact h1
theorem mergeK_new : ∀ (more kvs : List (Key × V)), ((kvs ++ more).map (·.1)).Nodup → mergeK kvs more = kvs ++ more
  | [], kvs, _ => by simp [mergeK]
  | p :: more, kvs, hn => by
    have hno : valV kvs p.1 = .none := by
      cases e : valV kvs p.1 with
      | none => rfl
      | some v =>
        have hm : p.1 ∈ kvs.map (·.1) := by
          simp only [valV, Option.map_eq_some_iff] at e
          obtain ⟨q, h1, _⟩ := e
          have h2 := List.mem_of_find?_eq_some h1
          have h3 := List.find?_some h1
          rw [← of_decide_eq_true h3]
          exact List.mem_map.mpr ⟨q, h2, rfl⟩
        rw [List.map_append, List.map_cons, List.nodup_append] at hn
        exact absurd rfl (hn.2.2 _ hm _ (List.mem_cons_self ..))
    show mergeK (putK kvs p.1 p.2) more = _
    rw [putK_new _ hno, mergeK_new more (kvs ++ [(p.1, p.2)]) (by simpa using hn)]
    simp
/-- a new dict -/
def rDK (kas : List (Str × Ab)) : RR := fun H H' v => ∃ p kvs, v = .ref p ∧ H p = .none ∧ H' p = some (.dK kvs) ∧ KvA kas H' kvs
def aDK (kas : List (Str × Ab)) : Ab := ⟨fun H v => ∃ p kvs, v = .ref p ∧ H p = some (.dK kvs) ∧ KvA kas H kvs, fun e ⟨p, kvs, h1, h2, h3⟩ => ⟨p, kvs, h1, e _ _ h2, h3.mono e⟩, false, fun z => by cases z⟩
section
variable {X : Cx} {M : Mb} {ρ : List Sl} {e a b k v : Expr} {A B : Ab} {pos : Pos} {ks : List (Option Expr)} {vs : List Expr} {kas : List (Str × Ab)} {z : Str}
def trsA (X : Cx) (M : Mb) (ρ : List Sl) (kas : List (Str × Ab)) : List (TE × TE) := kas.map fun ka => (tA M ρ (aS X.K ka.1), tA M ρ ka.2)
abbrev APs (X : Cx) (M : Mb) (ρ : List Sl) (pos : Pos) (ks : List (Option Expr)) (vs : List Expr) (kas : List (Str × Ab)) : Prop := PPs X pos ks vs (trsA X M ρ kas)
theorem aps_nil : APs X M ρ pos [] [] [] := pps_nil
theorem aps_cons (hk : AE X M ρ k (aS X.K z)) (hv : AE X M ρ v A) (hr : APs X M ρ pos ks vs kas) : APs X M ρ pos (some k :: ks) (v :: vs) ((z, A) :: kas) := pps_cons hk hv hr
theorem pairs_go {σ : L2.St} : ∀ (kas : List (Str × Ab)) (H : Hp) (Q : List (V × V) → Hp → Prop), M.P H → Slots ρ H σ → (∀ ps H' kvs, Ex H H' → KvA kas H' kvs → ps = kvs.map (fun kv => (kV kv.1, kv.2)) → Q ps H') → tPairs (trsA X M ρ kas) σ H Q
  | [], H, Q, m, sl, q => q [] H [] (Ex.refl H) .nil rfl
  | (z, A) :: kas, H, Q, m, sl, q => ⟨m, sl, fun x H1 e1 hx => ⟨M.mono e1 m, sl.mono e1, fun y H2 e2 hy => pairs_go kas H2 _ (M.mono (e1.trans e2) m) (sl.mono (e1.trans e2)) fun ps H3 kvs e3 hk hp => by
    cases hx
    exact q _ H3 ((.inr z, y) :: kvs) ((e1.trans e2).trans e3) (.cons (A.mono e3 hy) hk) (by rw [hp]; rfl)⟩⟩
/-- it stands where a dict changes -/
def DkS (A : Ab) : Prop := ∀ (H : Hp) (v : V) (p : Addr) (kvs kvs' : List (Key × V)), H p = some (.dK kvs') → A.P H v → A.P (upd H p (.dK kvs)) v
theorem dks_D {K : PySem.W.Frag} {d : PyData} : DkS (D K d) := fun H v p kvs kvs' h q => q.mono (Tk.dK h).tex
theorem dks_LD {K : PySem.W.Frag} {ds : List PyData} : DkS (LD K ds) := fun H v p kvs kvs' h ⟨l, vs, h1, h2, h3⟩ => ⟨l, vs, h1, by rw [upd_ne (ne_of h2 h (by intro z; cases z))]; exact h2, h3.mono (Tk.dK h).tex⟩
theorem KvA.dk {H : Hp} {p : Addr} {ws ws' : List (Key × V)} (h : H p = some (.dK ws')) : ∀ {kas : List (Str × Ab)} {kvs : List (Key × V)}, (∀ ka ∈ kas, DkS ka.2) → KvA kas H kvs → KvA kas (upd H p (.dK ws)) kvs
  | _, _, _, .nil => .nil
  | (k, A) :: kas, _, hs, .cons q r => .cons (hs _ (List.mem_cons_self ..) H _ p ws ws' h q) (KvA.dk h (fun ka hk => hs ka (List.mem_cons_of_mem _ hk)) r)
theorem ar_disp (h : APs X M ρ pos ks vs kas) (hn : (kas.map (·.1)).Nodup) (h15 : kas.length ≤ 15) (hs : ∀ ka ∈ kas, DkS ka.2) (hall : ks.all (·.isSome) = true := by rfl) (hl : ks.length = vs.length := by rfl) (h0 : ks ≠ [] := by intro z; cases z) (h15' : ks.length ≤ 15 := by decide) : AR X M ρ (.Dict ks vs pos) (rDK kas) :=
  weakE (pe_disp h hall hl h0 h15') fun σ H Q ⟨m, sl, q⟩ => fun p hp => by
    have e0 : Ex H (upd H p (.dK [])) := Ex.new hp
    refine pairs_go kas _ _ (M.mono e0 m) (sl.mono e0) fun ps H' kvs e1 hk hps => ⟨e1 _ _ upd_same, kvs, hps, by rw [hk.length]; exact h15, ?_⟩
    have hnd : (([] ++ kvs : List (Key × V)).map fun kv => kv.1).Nodup := by
      rw [List.nil_append, hk.keys]
      have e2 : (kas.map fun ka => (Sum.inr ka.1 : Key)) = (kas.map (·.1)).map Sum.inr := by rw [List.map_map]; rfl
      rw [e2]
      exact List.Pairwise.map _ (fun a b hab q => hab (Sum.inr.inj q)) hn
    rw [mergeK_new kvs [] hnd, List.nil_append]
    refine q _ _ ?_ ⟨p, kvs, rfl, hp, upd_same, hk.dk (e1 _ _ upd_same) hs⟩
    intro a o ha
    rw [upd_ne (ne_of_none ha hp)]
    exact e1 _ _ (e0 _ _ ha)
theorem ae_disp (h : APs X M ρ pos ks vs kas) (hn : (kas.map (·.1)).Nodup) (h15 : kas.length ≤ 15) (hs : ∀ ka ∈ kas, DkS ka.2) (hall : ks.all (·.isSome) = true := by rfl) (hl : ks.length = vs.length := by rfl) (h0 : ks ≠ [] := by intro z; cases z) (h15' : ks.length ≤ 15 := by decide) : AE X M ρ (.Dict ks vs pos) (aDK kas) :=
  weakE (ar_disp h hn h15 hs hall hl h0 h15') fun σ H Q ⟨m, sl, q⟩ => ⟨m, sl, fun v H' ex ⟨p, kvs, h1, _, h2, h3⟩ => q v H' ex ⟨p, kvs, h1, h2, h3⟩⟩
/-- d[k] of it -/
theorem ae_dkget {i : Expr} (hu : X.A.units + 1 < cLine) (ha : AE X M ρ a (aDK kas)) (hb : AE X M ρ i (aS X.K z)) (hz : kas.lookup z = some B) (hs : NoSl i := by exact fun _ _ => rfl) : AE X M ρ (.Subscript a i pos) B :=
  weakE (pe_dget hu ha hb hs) fun σ H Q ⟨m, sl, q⟩ => ⟨m, sl, fun v H1 e1 a1 => ⟨M.mono e1 m, sl.mono e1, fun u H2 e2 a2 => by
    obtain ⟨p, kvs, h1, h2, h3⟩ := (aDK kas).mono e2 a1
    obtain ⟨y, g1, g2⟩ := h3.get hz
    cases a2
    exact ⟨p, y, h1, g1 ▸ DGet.k (k := Sum.inr z) h2, q y H2 (e1.trans e2) g2⟩⟩⟩
end
end Ep
set_option maxHeartbeats 4000000
/-! StillWorld: what it reads -/
namespace Ep
open PySem PySem.Spec PyProof.Rows L2 Evl
abbrev aSW (K : PySem.W.Frag) (a : Adr) (o : SOwn) (n : N4) (s : SS) (bad : Bad) : Ab := aTW K a a.SW (cS o n) s.spot (s.rs.map SR.d) (s.ts.map ST.d) s.fr bad
abbrev mSW (K : PySem.W.Frag) (a : Adr) (H0 : Hp) (q : Wad) (o : SOwn) (n : N4) (s : SS) (bad : Bad) : Mb := mTW K a a.SW H0 q (cS o n) s.spot (s.rs.map SR.d) (s.ts.map ST.d) s.fr bad
section
variable {P : Program} {w : World} {K : PySem.W.Frag} {mg : Str → Option Value} {base : Heap} {a : Adr}
/-! #### state -/
abbrev s_s_st : Stmt := inClass (top 45) 1
theorem sc_s_st : FnScope ["self"] ["self"] (defScope s_s_st) := ⟨rfl, rfl, rfl, by decide +kernel, rfl, by decide +kernel, by decide +kernel⟩
abbrev sp_s_st (K : PySem.W.Frag) (a : Adr) : Sp := spG (ι := SOwn × N4 × SS × Bad) (fun _ => True) (fun i => [aSW K a i.1 i.2.1 i.2.2.1 i.2.2.2]) fun i => rA (D K (outS .S (i.2.2.1, i.2.2.2)).d)
theorem ok_s_st {f : Addr} {fd : FuncData} (F : Fun K "state" "StillWorld.state" s_s_st f fd) (T : TxC K a.SW fsTW) (bt : mg "tuple" = none) : FnOk P w K mg base CX0 1 f fd ["self"] (sp_s_st K a) := by
  refine fn_G F sc_s_st (fun _ => rfl) fun cdv A outer s H E hr i hi => ?_
  obtain ⟨o, n, st, bad⟩ := i
  refine as_if (at_cmpC (ac_notN (ae_fld (av 0) (ft_bad T)))) (fun c1 => ?_) (fun c1 => ?_)
  · refine as_ret (ae_fld (av 0) (ft_bad T)) (fun v H1 m h => ⟨m, d_cl h ?_⟩)
    cases bad with
    | none => simp [bad0, eqD] at c1
    | some b => rfl
  · refine as_end ?_
    refine as_ret (ae_tup (ad_cons (ae_fld (av 0) (ft_spot T)) (ad_cons (ae_tuple bt (ae_fld (av 0) (ft_rr T))) (ad_cons (ae_tuple bt (ae_fld (av 0) (ft_tr T))) (ad_cons (ae_tuple bt (ae_fld (av 0) (ft_fr T))) ad_nil))))) (fun v H1 m h => ⟨m, d_cl h ?_⟩)
    cases bad with
    | none => rfl
    | some b => simp [bad0, badD, eqD] at c1
/-! #### reader_deeds -/
abbrev s_s_rd : Stmt := inClass (top 45) 3
theorem sc_s_rd : FnScope ["self", "reader", "mode", "count", "flag", "thing", "sleep", "still", "rest"] ["self", "reader"] (defScope s_s_rd) := ⟨rfl, rfl, rfl, by decide +kernel, rfl, by decide +kernel, by decide +kernel⟩
abbrev sp_s_rd (K : PySem.W.Frag) (a : Adr) : Sp := spG (ι := SOwn × N4 × SS × Bad × SR) (fun _ => True) (fun i => [aSW K a i.1 i.2.1 i.2.2.1 i.2.2.2.1, D K i.2.2.2.2.d]) fun i => rA (D K (tS' (sDeedsR i.1 i.2.2.2.2)))
theorem ok_s_rd {f : Addr} {fd : FuncData} (F : Fun K "reader_deeds" "StillWorld.reader_deeds" s_s_rd f fd) (T : TxC K a.SW fsTW) : FnOk P w K mg base CX0 1 f fd ["self", "reader"] (sp_s_rd K a) := by
  refine fn_G F sc_s_rd (fun _ => rfl) fun cdv A outer s H E hr i hi => ?_
  obtain ⟨o, n, st, bad, r⟩ := i
  have hu := hu_of hr
  have nd := sc_s_rd.nd
  refine as_tgt (am_of (av 1)) (ag_tup (ags_cons (ag_name (i := 2) nd) (ags_cons (ag_name (i := 3) nd) (ags_cons (ag_name (i := 4) nd) (ags_cons (ag_name (i := 5) nd) ags_nil))))) ?_
  refine as_asg (i := 6) (A := aS K o.sleep) (ae_dget hu (ae_fld (av 0) (ft_own T)) (fun _ _ _ h => h) ae_str rfl (fun _ => .str _)) ?_ nd
  refine as_if (at_cmpC (ac_eqS (av 2) ae_str)) (fun c1 => ?_) (fun c1 => ?_)
  · simp only [eqD_str, decide_eq_true_eq] at c1
    refine as_asg (i := 7) (ae_dat (d' := tS' (if o.still = "anywhere" ∧ r.fl = false then (["still"] : List Str) else [])) (ae_ifT (aw_and (at_cmpC (ac_eqS (ae_dget hu (ae_fld (av 0) (ft_own T)) (fun _ _ _ h => h) ae_str rfl (fun _ => .str _)) ae_str)) (fun _ => (aw_and1 (at_not (at_val (av 4)))))).pt (fun _ => (ae_tup (ad_cons ae_str ad_nil))) (fun _ => (ae_tup ad_nil))) (by simp only [eqD_str, Bool.and_eq_true, decide_eq_true_eq, Bool.not_eq_true', tS']; split <;> rfl)) ?_ nd
    refine as_asg (i := 8) (ae_dat (d' := tS' (if r.fl then (["wake"] : List Str) else if o.sleep = "inside" then ["sleep"] else [])) (ae_ifT (at_val (av 4)) (fun _ => (ae_tup (ad_cons ae_str ad_nil))) (fun _ => (ae_ifT (at_cmpC (ac_eqS (av 6) ae_str)) (fun _ => (ae_tup (ad_cons ae_str ad_nil))) (fun _ => (ae_tup ad_nil))))) (by simp only [eqD_str, decide_eq_true_eq, tS']; split <;> first | rfl | (split <;> rfl))) ?_ nd
    have l7 : (if o.still = "anywhere" ∧ r.fl = false then (["still"] : List Str) else []).length ≤ 1 := by split <;> decide
    have l8 : (if r.fl then (["wake"] : List Str) else if o.sleep = "inside" then ["sleep"] else []).length ≤ 1 := by split <;> first | decide | (split <;> decide)
    refine as_ret (ae_cat (ae_cat (ae_tup (ad_cons ae_str (ad_cons ae_str ad_nil))) (av 7) (by simp only [List.length_map, List.length_cons, List.length_nil]; omega)) (av 8) (by simp only [List.length_map, List.length_append, List.length_cons, List.length_nil]; omega)) (fun v H1 m h => ⟨m, d_cl h ?_⟩)
    simp only [sDeedsR, if_pos c1, tS', List.map_append]
    rfl
  · simp only [eqD_str, decide_eq_false_iff_not] at c1
    refine as_end ?_
    refine as_if (at_val (av 4)) (fun c2 => ?_) (fun c2 => ?_)
    · refine as_ret (ae_ifT (at_cmpC (ac_eqS (av 6) ae_str)) (fun _ => (ae_tup (ad_cons ae_str (ad_cons ae_str ad_nil)))) (fun _ => (ae_tup (ad_cons ae_str ad_nil)))) (fun v H1 m h => ⟨m, d_cl h ?_⟩)
      simp only [sDeedsR, if_neg c1, if_pos c2, eqD_str, decide_eq_true_eq, tS']
      split <;> rfl
    · refine as_end ?_
      refine as_ret (ae_ifT (at_cmpC (ac_eqS (av 6) ae_str)) (fun _ => (ae_tup (ad_cons ae_str (ad_cons ae_str ad_nil)))) (fun _ => (ae_tup (ad_cons ae_str (ad_cons ae_str (ad_cons ae_str ad_nil)))))) (fun v H1 m h => ⟨m, d_cl h ?_⟩)
      have c2' : ¬ r.fl = true := by rw [c2]; decide
      simp only [sDeedsR, if_neg c1, if_neg c2', eqD_str, decide_eq_true_eq, tS']
      split <;> rfl
/-! #### taker_deeds -/
abbrev s_s_td : Stmt := inClass (top 45) 4
theorem sc_s_td : FnScope ["self", "taker", "mode", "take"] ["self", "taker"] (defScope s_s_td) := ⟨rfl, rfl, rfl, by decide +kernel, rfl, by decide +kernel, by decide +kernel⟩
abbrev sp_s_td (K : PySem.W.Frag) (a : Adr) : Sp := spG (ι := SOwn × N4 × SS × Bad × ST) (fun i => i.2.2.2.2.md ∈ (["idle", "noted", "noting", "waiting", "passed"] : List Str)) (fun i => [aSW K a i.1 i.2.1 i.2.2.1 i.2.2.2.1, D K i.2.2.2.2.d]) fun i => rA (D K (tS' (sDeedsT i.1 i.2.1.2.2.2 i.2.2.1.spot i.2.2.2.2)))
theorem ok_s_td {f : Addr} {fd : FuncData} (F : Fun K "taker_deeds" "StillWorld.taker_deeds" s_s_td f fd) (T : TxC K a.SW fsTW) (G : GPr P w K mg base 1 a.SE "things" (spProp K a fun c => .int (c.nth : Nat))) : FnOk P w K mg base CX0 3 f fd ["self", "taker"] (sp_s_td K a) := by
  refine fn_G F sc_s_td (fun _ => rfl) fun cdv A outer s H E hr i hi => ?_
  obtain ⟨o, n, st, bad, r⟩ := i
  have hmd : r.md ∈ (["idle", "noted", "noting", "waiting", "passed"] : List Str) := hi
  have hu := hu_of hr
  have nd := sc_s_td.nd
  refine as_asg (i := 2) (ae_ixT (av 1) ae_int rfl) ?_ nd
  refine as_asg (i := 3) (ae_dat (ae_ifT (at_cmpC (ac_lt (ae_fld (av 0) (ft_spot T)) (ae_prop (ae_fld (av 0) (ft_set T)) set_ins G hr (cS o n) trivial rfl))) (fun _ => (ae_tup (ad_cons ae_str ad_nil))) (fun _ => (ae_tup ad_nil))) takeIf_d) ?_ nd
  refine as_if (at_cmpC (ac_eqS (av 2) ae_str)) (fun c1 => ?_) (fun c1 => ?_)
  · simp only [eqD_str, decide_eq_true_eq] at c1
    refine as_ret (ae_ifT (at_cmpC (ac_eqS (ae_dget hu (ae_fld (av 0) (ft_own T)) (fun _ _ _ h => h) ae_str rfl (fun _ => .str _)) ae_str)) (fun _ => (av 3)) (fun _ => (ae_tup (ad_cons ae_str ad_nil)))) (fun v H1 m h => ⟨m, d_cl h ?_⟩)
    simp only [sDeedsT, if_pos c1, eqD_str, decide_eq_true_eq, tS']
    split <;> rfl
  · simp only [eqD_str, decide_eq_false_iff_not] at c1
    refine as_end ?_
    refine as_if (at_cmpC (ac_eqS (av 2) ae_str)) (fun c2 => ?_) (fun c2 => ?_)
    · simp only [eqD_str, decide_eq_true_eq] at c2
      refine as_ret (av 3) (fun v H1 m h => ⟨m, d_cl h ?_⟩)
      simp only [sDeedsT, if_neg c1, if_pos c2]
      rfl
    · simp only [eqD_str, decide_eq_false_iff_not] at c2
      refine as_end ?_
      refine as_ret (A := D K (tS' (if r.md = "noting" then ["note"] else if r.md = "waiting" then ["look"] else ["free"]))) (ae_dkget hu (ae_disp (kas := [("noting", D K (tS' ["note"])), ("waiting", D K (tS' ["look"])), ("passed", D K (tS' ["free"]))]) (aps_cons ae_str (ae_tup (ad_cons ae_str ad_nil)) (aps_cons ae_str (ae_tup (ad_cons ae_str ad_nil)) (aps_cons ae_str (ae_tup (ad_cons ae_str ad_nil)) aps_nil))) (by show (["noting", "waiting", "passed"] : List Str).Nodup; decide +kernel) (by show 3 ≤ 15; decide) ?hs) (av 2) ?hz) (fun v H1 m h => ⟨m, d_cl h ?_⟩)
      case hs =>
        intro ka hk
        simp only [List.mem_cons, List.not_mem_nil, or_false] at hk
        rcases hk with rfl | rfl | rfl <;> exact dks_D
      case hz =>
        simp only [List.mem_cons, List.not_mem_nil, or_false] at hmd
        rcases hmd with h | h | h | h | h
        · exact absurd h c1
        · exact absurd h c2
        · rw [h]
          rfl
        · rw [h]
          rfl
        · rw [h]
          rfl
      · simp only [sDeedsT, if_neg c1, if_neg c2]
/-! #### noted -/
abbrev s_s_nt : Stmt := inClass (top 45) 8
theorem sc_s_nt : FnScope ["self", "at", "noted"] ["self", "at", "noted"] (defScope s_s_nt) := ⟨rfl, rfl, rfl, by decide +kernel, rfl, by decide +kernel, by decide +kernel⟩
abbrev sp_s_nt (K : PySem.W.Frag) (a : Adr) : Sp := spG (ι := SOwn × N4 × SS × Bad × Nat × List Int) (fun i => i.2.2.2.2.1 < i.2.2.1.rs.length ∧ i.2.2.2.2.2.length ≤ 100) (fun i => [aSW K a i.1 i.2.1 i.2.2.1 i.2.2.2.1, aI K (i.2.2.2.2.1 : Nat), D K (tI i.2.2.2.2.2)]) fun i => rA (D K (.tuple [.str (sNoted i.1 i.2.2.1 i.2.2.2.2.1 i.2.2.2.2.2).1, .int (sNoted i.1 i.2.2.1 i.2.2.2.2.1 i.2.2.2.2.2).2.1, tI (sNoted i.1 i.2.2.1 i.2.2.2.2.1 i.2.2.2.2.2).2.2]))
theorem ok_s_nt {f : Addr} {fd : FuncData} (F : Fun K "noted" "StillWorld.noted" s_s_nt f fd) (T : TxC K a.SW fsTW) (bl : mg "len" = none) : FnOk P w K mg base CX0 1 f fd ["self", "at", "noted"] (sp_s_nt K a) := by
  refine fn_G F sc_s_nt (fun _ => rfl) fun cdv A outer s H E hr i hi => ?_
  obtain ⟨o, n, st, bad, k, nl⟩ := i
  have hk : k < st.rs.length := hi.1
  have hl : nl.length ≤ 100 := hi.2
  have hu := hu_of hr
  have nd := sc_s_nt.nd
  refine as_asg (i := 2) (ae_dat (d' := tI (nl ++ [(st.rs[k]).ct])) (ae_cat (av 2) (ae_tup (ad_cons (ae_ixT (d := .int (st.rs[k]).ct) (ae_ixL (ds := st.rs.map SR.d) (d := (st.rs[k]).d) (ae_fld (av 0) (ft_rr T)) (av 1) (atI_map (List.getElem?_eq_getElem hk))) ae_int rfl) ad_nil)) (by simp; omega)) (by simp [tI])) ?_ nd
  have eg : ((st.rs[((k : Nat) : Int).toNat]?).map (·.ct)).getD 0 = (st.rs[k]).ct := by rw [Int.toNat_natCast, List.getElem?_eq_getElem hk]; rfl
  refine as_if (at_cmpC (ac_lt (ae_add (av 1) ae_int) (ae_len bl (ae_fld (av 0) (ft_rr T)) sqA_lst))) (fun c1 => ?_) (fun c1 => ?_)
  · simp only [decide_eq_true_eq, List.length_map] at c1
    refine as_ret (ae_tup (ad_cons ae_str (ad_cons (ae_add (av 1) ae_int) (ad_cons (av 2) ad_nil)))) (fun v H1 m h => ⟨m, d_cl h ?_⟩)
    simp only [sNoted, if_pos c1, eg]
  · simp only [decide_eq_false_iff_not, List.length_map] at c1
    refine as_end ?_
    refine as_ret (ae_tup (ad_cons (ae_ifS (at_cmpC (ac_eqS (ae_dget hu (ae_fld (av 0) (ft_own T)) (fun _ _ _ h => h) ae_str rfl (fun _ => .str _)) ae_str)) (fun _ => ae_str) (fun _ => ae_str)) (ad_cons ae_int (ad_cons (av 2) ad_nil)))) (fun v H1 m h => ⟨m, d_cl h ?_⟩)
    simp only [sNoted, if_neg c1, eg, eqD_str, decide_eq_true_eq]
/-! #### looked -/
abbrev s_s_lk : Stmt := inClass (top 45) 9
theorem sc_s_lk : FnScope ["self", "at", "noted", "mode", "count", "flag", "thing"] ["self", "at", "noted"] (defScope s_s_lk) := ⟨rfl, rfl, rfl, by decide +kernel, rfl, by decide +kernel, by decide +kernel⟩
abbrev sp_s_lk (K : PySem.W.Frag) (a : Adr) : Sp := spG (ι := SOwn × N4 × SS × Bad × Nat × List Int × SR) (fun i => i.2.2.1.rs[i.2.2.2.2.1]? = some i.2.2.2.2.2.2 ∧ i.2.2.2.2.1 < i.2.2.2.2.2.1.length) (fun i => [aSW K a i.1 i.2.1 i.2.2.1 i.2.2.2.1, aI K (i.2.2.2.2.1 : Nat), D K (tI i.2.2.2.2.2.1)]) fun i => rA (D K (.tuple [.str (sLooked i.2.2.1 i.2.2.2.2.1 i.2.2.2.2.2.1 i.2.2.2.2.2.2).1, .int (sLooked i.2.2.1 i.2.2.2.2.1 i.2.2.2.2.2.1 i.2.2.2.2.2.2).2]))
theorem ok_s_lk {f : Addr} {fd : FuncData} (F : Fun K "looked" "StillWorld.looked" s_s_lk f fd) (T : TxC K a.SW fsTW) (bl : mg "len" = none) : FnOk P w K mg base CX0 1 f fd ["self", "at", "noted"] (sp_s_lk K a) := by
  refine fn_G F sc_s_lk (fun _ => rfl) fun cdv A outer s H E hr i hi => ?_
  obtain ⟨o, n, st, bad, k, nl, r⟩ := i
  have hk : st.rs[k]? = some r := hi.1
  have hl : k < nl.length := hi.2
  have nd := sc_s_lk.nd
  have eg : (nl[((k : Nat) : Int).toNat]?).getD 0 = nl[k] := by rw [Int.toNat_natCast, List.getElem?_eq_getElem hl]; rfl
  refine as_tgt (am_of (ae_ixL (ds := st.rs.map SR.d) (d := r.d) (ae_fld (av 0) (ft_rr T)) (av 1) (atI_map hk))) (ag_tup (ags_cons (ag_name (i := 3) nd) (ags_cons (ag_name (i := 4) nd) (ags_cons (ag_name (i := 5) nd) (ags_cons (ag_name (i := 6) nd) ags_nil))))) ?_
  refine as_if (aw_and (at_cmpC (ac_eqS (av 4) (ae_ixT (d := .int nl[k]) (av 2) (av 1) (atI_map (List.getElem?_eq_getElem hl))))) (fun _ => (aw_and1 (at_not (at_val (av 5)))))).pt (fun c1 => ?_) (fun c1 => ?_)
  · simp only [eqD_int, Bool.and_eq_true, decide_eq_true_eq, Bool.not_eq_true'] at c1
    refine as_ret (ae_tup (ad_cons ae_str (ad_cons (av 1) ad_nil))) (fun v H1 m h => ⟨m, d_cl h ?_⟩)
    simp only [sLooked, eg, if_pos c1]
  · simp only [eqD_int, Bool.and_eq_false_iff, decide_eq_false_iff_not, Bool.not_eq_false'] at c1
    have c1' : ¬ (r.ct = nl[k] ∧ r.fl = false) := by
      rintro ⟨x1, x2⟩
      rcases c1 with c1 | c1
      · exact c1 x1
      · rw [c1] at x2
        cases x2
    refine as_end ?_
    refine as_ret (ae_ifT (at_cmpC (ac_lt (ae_add (av 1) ae_int) (ae_len bl (ae_fld (av 0) (ft_rr T)) sqA_lst))) (fun _ => (ae_tup (ad_cons ae_str (ad_cons (ae_add (av 1) ae_int) ad_nil)))) (fun _ => (ae_tup (ad_cons ae_str (ad_cons ae_int ad_nil))))) (fun v H1 m h => ⟨m, d_cl h ?_⟩)
    simp only [sLooked, eg, if_neg c1', decide_eq_true_eq, List.length_map]
    split <;> rfl
end
end Ep
set_option maxHeartbeats 4000000
/-! StillWorld: moves, what it does -/
namespace Ep
open PySem PySem.Spec PyProof.Rows L2 Evl
section
variable {P : Program} {w : World} {K : PySem.W.Frag} {mg : Str → Option Value} {base : Heap} {a : Adr}
abbrev s_s_mv : Stmt := inClass (top 45) 5
abbrev n_s_mv : List Str := ["self", "found", "k", "reader", "deed", "taker"]
theorem sc_s_mv : FnScope n_s_mv ["self"] (defScope s_s_mv) := ⟨rfl, rfl, rfl, by decide +kernel, rfl, by decide +kernel, by decide +kernel⟩
abbrev stMds : List Str := ["idle", "noted", "noting", "waiting", "passed"]
abbrev sp_s_mv (K : PySem.W.Frag) (a : Adr) : Sp := spG (ι := SOwn × N4 × SS × Bad) (fun i => (∀ r ∈ i.2.2.1.ts, r.md ∈ stMds) ∧ (sMoves i.1 i.2.1.2.2.2 i.2.2.1).length ≤ 1000) (fun i => [aSW K a i.1 i.2.1 i.2.2.1 i.2.2.2]) fun i => rA (LD K ((sMoves i.1 i.2.1.2.2.2 i.2.2.1).map mvD))
theorem ok_s_mv {f : Addr} {fd : FuncData} (F : Fun K "moves" "StillWorld.moves" s_s_mv f fd) (T : TxC K a.SW fsTW) (be : mg "enumerate" = none) (Gr : GMt P w K mg base 3 a.SW "reader_deeds" (sp_s_rd K a)) (Gt : GMt P w K mg base 3 a.SW "taker_deeds" (sp_s_td K a)) :
    FnOk P w K mg base CX0 4 f fd ["self"] (sp_s_mv K a) := by
  refine fn_G F sc_s_mv (fun _ => rfl) fun cdv A outer s H E hr i hi => ?_
  obtain ⟨o, n, st, bad⟩ := i
  have hmd : ∀ r ∈ st.ts, r.md ∈ stMds := hi.1
  have hn : (sMoves o n.2.2.2 st).length ≤ 1000 := hi.2
  have hnl : (mvs "reader" (sDeedsR o) st.rs).length + (mvs "taker" (sDeedsT o n.2.2.2 st.spot) st.ts).length ≤ 1000 := by
    unfold sMoves at hn
    rw [List.length_append] at hn
    exact hn
  refine as_at 0 rfl fun H00 v m0 hA => ?_
  obtain ⟨H0, q, rfl, core⟩ := id hA
  obtain ⟨lf, vb, hins, _⟩ := core.ins
  refine as_asgN (i := 1) (an_lst ad_nil) (fun H1 p vs m1 hp => ?_) sc_s_mv.nd
  have hp0 : H00 p = none := fresh_back m1 hp
  refine as_preM (M' := mL K H00 p (([] : List Mv).map mvD)) ?_ (fun H2 m2 => ⟨m1.trans m2.1, vs, m2.2.1, m2.2.2⟩)
  refine as_rows (enc := SR.d) (f := sDeedsR o) (kind := "reader") (rows := st.rs) (l := q.lr) (acc := []) (ρ1 := fun i d => [.val (Vl (.ref q.p)), .val (Rf p), .val (D K (.int (i : Nat))), .val (D K d), .any, .any]) be hp0 core.rows (by simp; omega)
    (ae_fld (av 0) (fld_at (fun H m => m.1) hins T.cl (T.na _ (by decide)) rfl))
    (fun M d i => ag_tup (ags_cons (ag_name (i := 2) sc_s_mv.nd) (ags_cons (ag_name (i := 3) sc_s_mv.nd) ags_nil))) (fun M i d => av 1) (fun M i r hM hi => ?rr) (fun i d => .same (.same (.any (.any (.same (.same .nil)))))) ?_
  case rr =>
    have hlen : (sDeedsR o r).length ≤ 1000 := by
      have := mvs_pre "reader" (sDeedsR o) st.rs (i + 1)
      rw [mvs_take _ _ hi, List.length_append, List.length_map] at this
      omega
    refine ae_eq (an_ae (an_lc (j := 4) [("deed", 4)] ((sDeedsR o r).map .str) (fun _ => true) (fun d => .tuple [.str "reader", .int (i : Nat), d])
      (pi_tup (ae_meth (Z := D K (.tuple ((sDeedsR o r).map .str))) (ae_at (A := aSW K a o n st bad) (av 0) hM hA) (recv_tw not_ft.2.2.2.2.1) Gr hr (o, n, st, bad, r) trivial rfl (aa_cons (av 3) aa_nil))) wi_tup (by rw [strs_len]; exact hlen) sc_s_mv.nd (blkOk_by (N := n_s_mv) (sc := defScope s_s_mv) (by decide +kernel)) (by decide)
      (fun _ _ _ _ _ => pg_name (i := 4) sc_s_mv.nd rfl (Or.inl rfl)) (fun _ _ _ _ _ d _ => ats_nil) (fun _ _ _ _ _ d hd _ => ae_tup (ad_cons ae_str (ad_cons (av 2) (ad_cons (av 4) ad_nil)))))) (congrArg (LD K) (mv_ff _ _ _))
  rw [List.nil_append]
  refine as_rows (enc := ST.d) (f := sDeedsT o n.2.2.2 st.spot) (kind := "taker") (rows := st.ts) (l := q.lt) (acc := mvs "reader" (sDeedsR o) st.rs) (ρ1 := fun i d => [.val (Vl (.ref q.p)), .val (Rf p), .val (D K (.int (i : Nat))), .any, .any, .val (D K d)]) be hp0 core.taks (by omega)
    (ae_fld (av 0) (fld_at (fun H m => m.1) hins T.cl (T.na _ (by decide)) rfl))
    (fun M d i => ag_tup (ags_cons (ag_name (i := 2) sc_s_mv.nd) (ags_cons (ag_name (i := 5) sc_s_mv.nd) ags_nil))) (fun M i d => av 1) (fun M i r hM hi => ?rt) (fun i d => .same (.same (.any (.same (.same (.any .nil)))))) ?_
  case rt =>
    have hmem : r ∈ st.ts := List.mem_of_getElem? hi
    have hlen : (sDeedsT o n.2.2.2 st.spot r).length ≤ 1000 := by
      have := mvs_pre "taker" (sDeedsT o n.2.2.2 st.spot) st.ts (i + 1)
      rw [mvs_take _ _ hi, List.length_append, List.length_map] at this
      omega
    refine ae_eq (an_ae (an_lc (j := 4) [("deed", 4)] ((sDeedsT o n.2.2.2 st.spot r).map .str) (fun _ => true) (fun d => .tuple [.str "taker", .int (i : Nat), d])
      (pi_tup (ae_meth (Z := D K (.tuple ((sDeedsT o n.2.2.2 st.spot r).map .str))) (ae_at (A := aSW K a o n st bad) (av 0) hM hA) (recv_tw not_ft.2.2.2.2.2.1) Gt hr (o, n, st, bad, r) (hmd r hmem) rfl (aa_cons (av 5) aa_nil))) wi_tup (by rw [strs_len]; exact hlen) sc_s_mv.nd (blkOk_by (N := n_s_mv) (sc := defScope s_s_mv) (by decide +kernel)) (by decide)
      (fun _ _ _ _ _ => pg_name (i := 4) sc_s_mv.nd rfl (Or.inl rfl)) (fun _ _ _ _ _ d _ => ats_nil) (fun _ _ _ _ _ d hd _ => ae_tup (ad_cons ae_str (ad_cons (av 2) (ad_cons (av 4) ad_nil)))))) (congrArg (LD K) (mv_ff _ _ _))
  exact as_ret (av 1) (fun v H1 m h => ⟨m0.trans m.1, by
    obtain ⟨vs, g1, g2⟩ := m.2
    exact ⟨p, vs, h, g1, g2⟩⟩)
structure SIx where
  (H0 : Hp) (q : Wad) (o : SOwn) (n : N4) (s : SS)
abbrev SIx.m (K : PySem.W.Frag) (a : Adr) (i : SIx) (s : SS) (b : Bad) : Mb := mSW K a i.H0 i.q i.o i.n s b
theorem ss_rr {H0 : Hp} {q : Wad} {o : SOwn} {n : N4} {s : SS} {bad : Bad} {k : Nat} {r : SR} (hk : k < s.rs.length) : ∀ H v, (mSW K a H0 q o n s bad).P H → (D K r.d).P H v → ∃ xs j, H q.lr = some (.lst xs) ∧ ixN xs.length (k : Int) = some j ∧ (mSW K a H0 q o n { s with rs := s.rs.set k r } bad).P (upd H q.lr (.lst (xs.set j v))) := fun H v m hv => by
  obtain ⟨xs, j, h1, h2, h3⟩ := st_rr (by rw [List.length_map]; exact hk) H v m hv
  refine ⟨xs, j, h1, h2, ?_⟩
  show (mTW K a a.SW H0 q (cS o n) s.spot ((s.rs.set k r).map SR.d) (s.ts.map ST.d) s.fr bad).P _
  rw [List.map_set]
  exact h3
theorem ss_tr {H0 : Hp} {q : Wad} {o : SOwn} {n : N4} {s : SS} {bad : Bad} {k : Nat} {r : ST} (hk : k < s.ts.length) : ∀ H v, (mSW K a H0 q o n s bad).P H → (D K r.d).P H v → ∃ xs j, H q.lt = some (.lst xs) ∧ ixN xs.length (k : Int) = some j ∧ (mSW K a H0 q o n { s with ts := s.ts.set k r } bad).P (upd H q.lt (.lst (xs.set j v))) := fun H v m hv => by
  obtain ⟨xs, j, h1, h2, h3⟩ := st_tr (by rw [List.length_map]; exact hk) H v m hv
  refine ⟨xs, j, h1, h2, ?_⟩
  show (mTW K a a.SW H0 q (cS o n) s.spot (s.rs.map SR.d) ((s.ts.set k r).map ST.d) s.fr bad).P _
  rw [List.map_set]
  exact h3
/-! #### reader_does -/
abbrev s_s_rdo : Stmt := inClass (top 45) 7
abbrev n_s_rdo : List Str := ["self", "k", "deed", "mode", "count", "flag", "thing"]
theorem sc_s_rdo : FnScope n_s_rdo ["self", "k", "deed"] (defScope s_s_rdo) := ⟨rfl, rfl, rfl, by decide +kernel, rfl, by decide +kernel, by decide +kernel⟩
abbrev sp_s_rdo (K : PySem.W.Frag) (a : Adr) : Sp := spK (ι := SIx × Nat × Str × SR) (fun i => i.1.s.rs[i.2.1]? = some i.2.2.2 ∧ 0 < i.1.o.counts) (fun i => [Rf i.1.q.p, aI K (i.2.1 : Nat), aS K i.2.2.1]) (fun i => i.1.m K a i.1.s none)
  (fun i => i.1.m K a (sReader i.1.o i.1.s i.2.1 i.2.2.1 i.2.2.2).1 (sReader i.1.o i.1.s i.2.1 i.2.2.1 i.2.2.2).2) (fun _ => aN K)
theorem ok_s_rdo {f : Addr} {fd : FuncData} (F : Fun K "reader_does" "StillWorld.reader_does" s_s_rdo f fd) (T : TxC K a.SW fsTW) : FnOk P w K mg base CX0 1 f fd ["self", "k", "deed"] (sp_s_rdo K a) := by
  refine fn_K F sc_s_rdo (fun _ => rfl) fun cdv A outer st0 H E hr i hi => ?_
  obtain ⟨⟨H0, q, o, n, s⟩, k, deed, r⟩ := i
  have h1 : s.rs[k]? = some r := hi.1
  have hct : 0 < o.counts := hi.2
  have hk : k < s.rs.length := (List.getElem?_eq_some_iff.mp h1).1
  have hu := hu_of hr
  have nd := sc_s_rdo.nd
  have fin : ∀ {s' : SS} {b' : Bad}, sReader o s k deed r = (s', b') → ∀ H1, (mK H (mSW K a H0 q o n s' b')).P H1 → (mK H (mSW K a H0 q o n (sReader o s k deed r).1 (sReader o s k deed r).2)).P H1 := fun e H1 m => by
    rw [e]
    exact m
  refine as_tgt (am_of (ae_ixL (ae_fld (at_self (av 0)) (ft_rr T)) (av 1) (atI_map h1))) (ag_tup (ags_cons (ag_name (i := 3) nd) (ags_cons (ag_name (i := 4) nd) (ags_cons (ag_name (i := 5) nd) (ags_cons (ag_name (i := 6) nd) ags_nil))))) ?_
  refine as_if (at_cmpC (ac_eqS (av 2) ae_str)) (fun c1 => ?_) (fun c1 => ?_)
  · simp only [eqD_str, decide_eq_true_eq] at c1
    refine as_tgt (am_of (ae_dat (d' := SR.d ⟨"inside", r.ct, r.fl, some s.spot⟩) (ae_tup (ad_cons ae_str (ad_cons (av 4) (ad_cons (av 5) (ad_cons (ae_fld (at_self (av 0)) (ft_spot T)) ad_nil))))) rfl)) (kg_sub (ae_fld (av 0) (ft_rrR T)) (av 1) (ss_rr hk)) ?_
    exact as_end (as_done (fin (by simp only [sReader, if_pos c1])))
  simp only [eqD_str, decide_eq_false_iff_not] at c1
  refine as_if (at_cmpC (ac_eqS (av 2) ae_str)) (fun c2 => ?_) (fun c2 => ?_)
  · simp only [eqD_str, decide_eq_true_eq] at c2
    refine as_tgt (am_of (ae_dat (d' := SR.d ⟨"out", r.ct, r.fl, none⟩) (ae_tup (ad_cons ae_str (ad_cons (av 4) (ad_cons (av 5) (ad_cons ae_non ad_nil))))) rfl)) (kg_sub (ae_fld (av 0) (ft_rrR T)) (av 1) (ss_rr hk)) ?_
    exact as_end (as_end (as_done (fin (by simp only [sReader, if_neg c1, if_pos c2]))))
  simp only [eqD_str, decide_eq_false_iff_not] at c2
  refine as_if (at_cmpC (ac_eqS (av 2) ae_str)) (fun c3 => ?_) (fun c3 => ?_)
  · simp only [eqD_str, decide_eq_true_eq] at c3
    refine as_tgt (am_of (ae_dat (d' := SR.d ⟨r.md, (r.ct + 1) % o.counts, r.fl, r.th⟩) (ae_tup (ad_cons (av 3) (ad_cons (ae_mod (ae_add (av 4) ae_int) (ae_dget hu (ae_fld (at_self (av 0)) (ft_own T)) (fun _ _ _ h => h) ae_str rfl (fun _ => .int _)) hct) (ad_cons (av 5) (ad_cons (av 6) ad_nil))))) rfl)) (kg_sub (ae_fld (av 0) (ft_rrR T)) (av 1) (ss_rr hk)) ?_
    exact as_end (as_end (as_end (as_done (fin (by simp only [sReader, if_neg c1, if_neg c2, if_pos c3])))))
  simp only [eqD_str, decide_eq_false_iff_not] at c3
  have hin : inD (.str deed) [.str "sleep", .str "wake"] = decide (deed = "sleep" ∨ deed = "wake") := by
    have := inD_str deed ["sleep", "wake"]
    simp only [List.map_cons, List.map_nil] at this
    rw [this]
    simp
  refine as_if (at_cmpC (ac_in (ds := [.str "sleep", .str "wake"]) (av 2) (ae_tup (ad_cons ae_str (ad_cons ae_str ad_nil))) sqA_tup rfl rfl)) (fun c4 => ?_) (fun c4 => ?_)
  · rw [hin, decide_eq_true_eq] at c4
    refine as_tgt (am_of (ae_dat (d' := SR.d ⟨r.md, r.ct, decide (deed = "sleep"), r.th⟩) (ae_tup (ad_cons (av 3) (ad_cons (av 4) (ad_cons (ae_cmpC (ac_eqS (av 2) ae_str)) (ad_cons (av 6) ad_nil))))) rfl)) (kg_sub (ae_fld (av 0) (ft_rrR T)) (av 1) (ss_rr hk)) ?_
    exact as_end (as_end (as_end (as_end (as_done (fin (by simp only [sReader, if_neg c1, if_neg c2, if_neg c3, if_pos c4]))))))
  rw [hin, decide_eq_false_iff_not] at c4
  refine as_if (at_cmpC (ac_in (av 6) (ae_fld (at_self (av 0)) (ft_fr T)) sqA_lst (flat_oI _) (flat_ints _))) (fun c5 => ?_) (fun c5 => ?_)
  · refine as_tgt (am_of (ae_dat (d' := bad0 (some (k, r.th))) (ae_tup (ad_cons ae_str (ad_cons (av 1) (ad_cons (av 6) ad_nil)))) rfl)) (kg_fld (av 0) (wt_bad T)) ?_
    exact as_end (as_end (as_end (as_end (as_end (as_done (fin (by simp only [sReader, if_neg c1, if_neg c2, if_neg c3, if_neg c4, if_pos c5])))))))
  · have c5' : ¬ inD (oI r.th) (s.fr.map .int) = true := by rw [c5]; decide
    exact as_end (as_end (as_end (as_end (as_end (as_done (fin (by simp only [sReader, if_neg c1, if_neg c2, if_neg c3, if_neg c4, if_neg c5'])))))))
/-! #### taker_does -/
abbrev s_s_tdo : Stmt := inClass (top 45) 10
abbrev n_s_tdo : List Str := ["self", "k", "deed", "mode", "at", "noted", "out"]
theorem sc_s_tdo : FnScope n_s_tdo ["self", "k", "deed"] (defScope s_s_tdo) := ⟨rfl, rfl, rfl, by decide +kernel, rfl, by decide +kernel, by decide +kernel⟩
structure STkOk (s : SS) (deed : Str) (r : ST) : Prop where
  few : s.fr.length < 60
  nfew : r.noted.length ≤ 100
  note : deed = "note" → 0 ≤ r.at_ ∧ r.at_ < (s.rs.length : Int)
  look : deed = "look" → 0 ≤ r.at_ ∧ r.at_ < (s.rs.length : Int) ∧ r.at_ < (r.noted.length : Int)
  free : deed ≠ "take" → deed ≠ "note" → deed ≠ "look" → r.out ≠ none
abbrev sp_s_tdo (K : PySem.W.Frag) (a : Adr) : Sp := spK (ι := SIx × Nat × Str × ST) (fun i => i.1.s.ts[i.2.1]? = some i.2.2.2 ∧ STkOk i.1.s i.2.2.1 i.2.2.2) (fun i => [Rf i.1.q.p, aI K (i.2.1 : Nat), aS K i.2.2.1]) (fun i => i.1.m K a i.1.s none)
  (fun i => i.1.m K a (sTaker i.1.o i.1.s i.2.1 i.2.2.1 i.2.2.2) none) (fun _ => aN K)
theorem ok_s_tdo {f : Addr} {fd : FuncData} (F : Fun K "taker_does" "StillWorld.taker_does" s_s_tdo f fd) (T : TxC K a.SW fsTW) (Gn : GMt P w K mg base 1 a.SW "noted" (sp_s_nt K a)) (Gl : GMt P w K mg base 1 a.SW "looked" (sp_s_lk K a)) (bs : mg "sorted" = none) (bi : mg "int" = none) : FnOk P w K mg base CX0 2 f fd ["self", "k", "deed"] (sp_s_tdo K a) := by
  refine fn_K F sc_s_tdo (fun _ => rfl) fun cdv A outer st0 H E hr i hi => ?_
  obtain ⟨⟨H0, q, o, n, s⟩, k, deed, r⟩ := i
  have h1 : s.ts[k]? = some r := hi.1
  have ok : STkOk s deed r := hi.2
  have hk : k < s.ts.length := (List.getElem?_eq_some_iff.mp h1).1
  have hu := hu_of hr
  have nd := sc_s_tdo.nd
  have hfew := ok.few
  have fin : ∀ {s' : SS}, sTaker o s k deed r = s' → ∀ H1, (mK H (mSW K a H0 q o n s' none)).P H1 → (mK H (mSW K a H0 q o n (sTaker o s k deed r) none)).P H1 := fun e H1 m => by
    rw [e]
    exact m
  refine as_tgt (am_of (ae_ixL (ae_fld (at_self (av 0)) (ft_tr T)) (av 1) (atI_map h1))) (ag_tup (ags_cons (ag_name (i := 3) nd) (ags_cons (ag_name (i := 4) nd) (ags_cons (ag_name (i := 5) nd) (ags_cons (ag_name (i := 6) nd) ags_nil))))) ?_
  refine as_if (at_cmpC (ac_eqS (av 2) ae_str)) (fun c1 => ?_) (fun c1 => ?_)
  · simp only [eqD_str, decide_eq_true_eq] at c1
    refine as_asg (i := 6) (ae_fld (at_self (av 0)) (ft_spot T)) ?_ nd
    refine ks_fldaug (av 0) ae_int (at_spot T) ?_
    refine as_par (i := 3) (j := 4) (aa_cons (ae_dat (d' := .str (if o.read = "behind" then "noting" else "waiting")) (ae_ifS (at_cmpC (ac_eqS (ae_dget hu (ae_fld (at_self (av 0)) (ft_own T)) (fun _ _ _ h => h) ae_str rfl (fun _ => .str _)) ae_str)) (fun _ => ae_str) (fun _ => ae_str)) (by simp only [eqD_str, decide_eq_true_eq])) (aa_cons ae_int aa_nil)) ?_ nd
    refine as_end ?_
    refine as_tgt (am_of (ae_dat (d' := ST.d ⟨if o.read = "behind" then "noting" else "waiting", 0, r.noted, some s.spot⟩) (ae_tup (ad_cons (av 3) (ad_cons (av 4) (ad_cons (av 5) (ad_cons (av 6) ad_nil))))) rfl)) (kg_sub (ae_fld (av 0) (ft_trR T)) (av 1) (ss_tr (s := { s with spot := s.spot + 1 }) hk)) ?_
    exact as_done (fin (by simp only [sTaker, if_pos c1]))
  simp only [eqD_str, decide_eq_false_iff_not] at c1
  refine as_if (at_cmpC (ac_eqS (av 2) ae_str)) (fun c2 => ?_) (fun c2 => ?_)
  · simp only [eqD_str, decide_eq_true_eq] at c2
    obtain ⟨l0, l1⟩ := ok.note c2
    obtain ⟨j, hj⟩ := Int.eq_ofNat_of_zero_le l0
    have hjl : j < s.rs.length := by omega
    have ea : D K (PyData.int r.at_) = aI K (j : Nat) := by rw [hj]
    refine as_tgt (am_of (ae_meth (at_self (av 0)) (recv_tw not_ft.2.2.1) Gn hr (o, n, s, none, j, r.noted) ⟨hjl, ok.nfew⟩ rfl (aa_cons (ae_dat (d' := .int (j : Nat)) (av 4) (congrArg PyData.int hj)) (aa_cons (av 5) aa_nil)))) (ag_tup (ags_cons (ag_name (i := 3) nd) (ags_cons (ag_name (i := 4) nd) (ags_cons (ag_name (i := 5) nd) ags_nil)))) ?_
    refine as_end (as_end ?_)
    refine as_tgt (am_of (ae_dat (d' := ST.d ⟨(sNoted o s j r.noted).1, (sNoted o s j r.noted).2.1, (sNoted o s j r.noted).2.2, r.out⟩) (ae_tup (ad_cons (av 3) (ad_cons (av 4) (ad_cons (av 5) (ad_cons (av 6) ad_nil))))) rfl)) (kg_sub (ae_fld (av 0) (ft_trR T)) (av 1) (ss_tr hk)) ?_
    exact as_done (fin (by simp only [sTaker, if_neg c1, if_pos c2]; rw [hj]))
  simp only [eqD_str, decide_eq_false_iff_not] at c2
  refine as_if (at_cmpC (ac_eqS (av 2) ae_str)) (fun c3 => ?_) (fun c3 => ?_)
  · simp only [eqD_str, decide_eq_true_eq] at c3
    obtain ⟨l0, l1, l2⟩ := ok.look c3
    obtain ⟨j, hj⟩ := Int.eq_ofNat_of_zero_le l0
    have hjl : j < s.rs.length := by omega
    have hjn : j < r.noted.length := by omega
    refine as_tgt (am_of (ae_meth (at_self (av 0)) (recv_tw not_ft.2.2.2.1) Gl hr (o, n, s, none, j, r.noted, s.rs[j]) ⟨List.getElem?_eq_getElem hjl, hjn⟩ rfl (aa_cons (ae_dat (d' := .int (j : Nat)) (av 4) (congrArg PyData.int hj)) (aa_cons (av 5) aa_nil)))) (ag_tup (ags_cons (ag_name (i := 3) nd) (ags_cons (ag_name (i := 4) nd) ags_nil))) ?_
    refine as_end (as_end (as_end ?_))
    refine as_tgt (am_of (ae_dat (d' := ST.d ⟨(sLooked s j r.noted s.rs[j]).1, (sLooked s j r.noted s.rs[j]).2, r.noted, r.out⟩) (ae_tup (ad_cons (av 3) (ad_cons (av 4) (ad_cons (av 5) (ad_cons (av 6) ad_nil))))) rfl)) (kg_sub (ae_fld (av 0) (ft_trR T)) (av 1) (ss_tr hk)) ?_
    exact as_done (fin (by
      simp only [sTaker, if_neg c1, if_neg c2, if_pos c3]
      rw [hj, Int.toNat_natCast, List.getElem?_eq_getElem hjl]))
  simp only [eqD_str, decide_eq_false_iff_not] at c3
  have hof := ok.free c1 c2 c3
  obtain ⟨md, at_, nl, out⟩ := r
  cases out with
  | none => exact absurd rfl hof
  | some x =>
    refine as_tgt (am_of (an_ft (an_sorted (ns := s.fr ++ [x]) bs bi (ae_eq (ae_catL (es := [PyData.int x]) (ae_fld (at_self (av 0)) (ft_fr T)) (ae_lst (ad_cons (av 6) ad_nil)) (by simp; omega)) (congrArg (LD K) (List.map_append (f := PyData.int) (l₁ := s.fr) (l₂ := [x])).symm)) sqA_lst (by simp; omega)))) (kg_fld (av 0) (wt_fr T fun _ _ _ h => h)) ?_
    refine as_tgt (am_of (ae_tup (ad_cons ae_str (ad_cons (ae_tup ad_nil) (ad_cons ae_non ad_nil))))) (ag_tup (ags_cons (ag_name (i := 3) nd) (ags_cons (ag_name (i := 5) nd) (ags_cons (ag_name (i := 6) nd) ags_nil)))) ?_
    refine as_end (as_end (as_end ?_))
    refine as_tgt (am_of (ae_dat (d' := ST.d ⟨"idle", at_, [], none⟩) (ae_tup (ad_cons (av 3) (ad_cons (av 4) (ad_cons (av 5) (ad_cons (av 6) ad_nil))))) rfl)) (kg_sub (ae_fld (av 0) (ft_trR T)) (av 1) (ss_tr (s := { s with fr := srt (s.fr ++ [x]) }) hk)) ?_
    exact as_done (fin (by simp only [sTaker, if_neg c1, if_neg c2, if_neg c3, Option.getD_some]))
/-! #### do -/
abbrev s_s_do : Stmt := inClass (top 45) 6
abbrev n_s_do : List Str := ["self", "move", "kind", "k", "deed"]
theorem sc_s_do : FnScope n_s_do ["self", "move"] (defScope s_s_do) := ⟨rfl, rfl, rfl, by decide +kernel, rfl, by decide +kernel, by decide +kernel⟩
structure SDoOk (o : SOwn) (s : SS) (m : Mv) : Prop where
  rd : m.1 = "reader" → (∃ r, s.rs[m.2.1]? = some r) ∧ 0 < o.counts
  tk : m.1 ≠ "reader" → ∃ r, s.ts[m.2.1]? = some r ∧ STkOk s m.2.2 r
abbrev sp_s_do (K : PySem.W.Frag) (a : Adr) : Sp := spK (ι := SIx × Mv) (fun i => SDoOk i.1.o i.1.s i.2) (fun i => [Rf i.1.q.p, D K (mvD i.2)]) (fun i => i.1.m K a i.1.s none) (fun i => i.1.m K a (sDo i.1.o i.1.s i.2).1 (sDo i.1.o i.1.s i.2).2) (fun _ => aN K)
theorem ok_s_do {f : Addr} {fd : FuncData} (F : Fun K "do" "StillWorld.do" s_s_do f fd) (Gr : GMt P w K mg base 2 a.SW "reader_does" (sp_s_rdo K a)) (Gt : GMt P w K mg base 2 a.SW "taker_does" (sp_s_tdo K a)) : FnOk P w K mg base CX0 3 f fd ["self", "move"] (sp_s_do K a) := by
  refine fn_K F sc_s_do (fun _ => rfl) fun cdv A outer st0 H E hr i hi => ?_
  obtain ⟨⟨H0, q, o, n, s⟩, kd, k, deed⟩ := i
  have ok : SDoOk o s (kd, k, deed) := hi
  have nd := sc_s_do.nd
  refine as_tgt (am_of (av 1)) (ag_tup (ags_cons (ag_name (i := 2) nd) (ags_cons (ag_name (i := 3) nd) (ags_cons (ag_name (i := 4) nd) ags_nil)))) ?_
  refine as_if (at_cmpC (ac_eqS (av 2) ae_str)) (fun c1 => ?_) (fun c1 => ?_)
  · simp only [eqD_str, decide_eq_true_eq] at c1
    obtain ⟨⟨r, h1⟩, h2⟩ := ok.rd c1
    have h1 : s.rs[k]? = some r := h1
    have e : sDo o s (kd, k, deed) = sReader o s k deed r := by
      unfold sDo
      rw [if_pos c1]
      show (match s.rs[k]? with | some r => sReader o s k deed r | none => (s, none)) = _
      rw [h1]
    refine as_exprM (km_meth (M' := mSW K a H0 q o n (sReader o s k deed r).1 (sReader o s k deed r).2) (B := aN K) (av 0) (recv_tself not_ft.2.2.2.2.2.2.1) Gr hr (aa_cons (av 3) (aa_cons (av 4) aa_nil)) (fun H1 v vs m hv hvs => ⟨(⟨H0, q, o, n, s⟩, k, deed, r), ⟨h1, h2⟩, m, .cons hv hvs, fun v' H2 m2 r2 => ⟨m2, r2⟩⟩)) ?_
    refine as_end (as_done fun H1 m => ?_)
    show (mK H (mSW K a H0 q o n (sDo o s (kd, k, deed)).1 (sDo o s (kd, k, deed)).2)).P H1
    rw [e]
    exact m
  · simp only [eqD_str, decide_eq_false_iff_not] at c1
    obtain ⟨r, h1, tk⟩ := ok.tk c1
    have h1 : s.ts[k]? = some r := h1
    have e : sDo o s (kd, k, deed) = (sTaker o s k deed r, none) := by
      unfold sDo
      rw [if_neg c1]
      show (match s.ts[k]? with | some r => (sTaker o s k deed r, none) | none => (s, none)) = _
      rw [h1]
    refine as_exprM (km_meth (M' := mSW K a H0 q o n (sTaker o s k deed r) none) (B := aN K) (av 0) (recv_tself not_ft.2.2.2.2.2.2.2.1) Gt hr (aa_cons (av 3) (aa_cons (av 4) aa_nil)) (fun H1 v vs m hv hvs => ⟨(⟨H0, q, o, n, s⟩, k, deed, r), ⟨h1, tk⟩, m, .cons hv hvs, fun v' H2 m2 r2 => ⟨m2, r2⟩⟩)) ?_
    refine as_end (as_done fun H1 m => ?_)
    show (mK H (mSW K a H0 q o n (sDo o s (kd, k, deed)).1 (sDo o s (kd, k, deed)).2)).P H1
    rw [e]
    exact m
end
end Ep
set_option maxHeartbeats 4000000
/-! numbers and switches: is_whole, is_number, is_same, values_at, is_value -/
namespace Ep
open PySem PySem.Spec PyProof.Rows L2 Evl
section
variable {X : Cx} {M : Mb} {ρ : List Sl} {a b c : Expr} {i j l : Int} {pos p pos' : Pos}
def rgD (a b : Int) : List PyData := (List.range (b - a).toNat).map fun i : Nat => PyData.int (a + i)
theorem rgV_d {K : PySem.W.Frag} {H : Hp} (a b : Int) : DtL K H (rgV a b) (rgD a b) := DtL.map _ fun i _ => .int _
theorem ae_tupRg {pt : Pos} (hm : X.mg "tuple" = none) (hr : X.mg "range" = none) (ha : AE X M ρ a (aI X.K i)) (hb : AE X M ρ b (aI X.K j)) (h0 : 0 ≤ i ∧ i ≤ 1000) (h1 : 0 ≤ j ∧ j ≤ 1000) (hc : X.calm = true := by rfl) (hg : Gl X "tuple" := by rfl) (hg2 : Gl X "range" := by rfl)
    (na1 : starEach [a, b] X.env = (false, eval a X.env) :: starEach [b] X.env := by rfl) (na2 : starEach [b] X.env = (false, eval b X.env) :: starEach [] X.env := by rfl) (hp : (backTo pos' (starEach [b] X.env)).any (·.1) = false := by rfl) (na : starEach [Expr.Call (.Name "range" p) [a, b] [] pos'] X.env = (false, eval (.Call (.Name "range" p) [a, b] [] pos') X.env) :: starEach [] X.env := by rfl) :
    AE X M ρ (.Call (.Name "tuple" pt) [.Call (.Name "range" p) [a, b] [] pos'] [] pos) (D X.K (.tuple (rgD i j))) :=
  weakE (pe_tupRg hc hg hm (prg_2 hg2 hr ha hb na1 na2 hp) na) fun σ H Q ⟨m, sl, q⟩ => ⟨m, sl, fun x H1 e1 hx => ⟨M.mono e1 m, sl.mono e1, fun y H2 e2 hy => by
    cases hx
    cases hy
    refine ⟨i, j, rfl, rfl, ⟨by omega, by omega, by omega, by omega, by omega⟩, fun t ht => q _ _ ((e1.trans e2).trans (Ex.new ht)) (.tup (st_of upd_same) (rgV_d _ _))⟩⟩⟩
theorem ae_leLe (ha : AE X M ρ a (aI X.K i)) (hb : AE X M ρ b (aI X.K j)) (hc : AE X M ρ c (aI X.K l)) (hm : lastMarks [.LtE, .LtE] [b, c] = false := by with_unfolding_all rfl) : AE X M ρ (.Compare a [.LtE, .LtE] [b, c] pos) (aB X.K (decide (i ≤ j) && decide (j ≤ l))) :=
  weakE (pe_chain op_le op_le ha hb hc hm) fun σ H Q ⟨m, sl, q⟩ => ⟨m, sl, fun x H1 e1 hx => ⟨M.mono e1 m, sl.mono e1, fun y H2 e2 hy => by
    cases hx
    cases hy
    refine ⟨i, j, rfl, rfl, decide (i ≤ j), rfl, ?_⟩
    by_cases h : i ≤ j
    · rw [if_pos (decide_eq_true h)]
      refine ⟨M.mono (e1.trans e2) m, sl.mono (e1.trans e2), fun z H3 e3 hz => ?_⟩
      cases hz
      refine ⟨j, l, rfl, rfl, q _ H3 ((e1.trans e2).trans e3) ?_⟩
      rw [decide_eq_true h, Bool.true_and]
      exact .bl _
    · rw [if_neg (by rw [decide_eq_false h]; decide)]
      refine q _ H2 (e1.trans e2) ?_
      rw [decide_eq_false h, Bool.false_and]
      exact .bl _⟩⟩
end
/-- scalars of three kinds -/
def sc3 : PyData → Bool
  | .bool _ => true | .int _ => true | .str _ => true | _ => false
def sameD : PyData → PyData → Bool
  | .bool x, .bool y => decide (x = y)
  | .str x, .str y => decide (x = y)
  | .int x, .int y => decide (x = y)
  | _, _ => false
def wholeD : PyData → Bool
  | .int _ => true | _ => false
theorem tyA_D {K : PySem.W.Frag} {M : Mb} {d : PyData} (h : sc3 d = true) : TyA K M (D K d) (.type (tyN d)) := fun H v _ hv => by
  cases hv with
  | bl b => exact .base (.bl b)
  | int i => exact .base (.int i)
  | str x => exact .base (.str x)
  | non => cases h
  | tup _ _ => cases h
theorem kb_bb : kitB "bool" "bool" = some true := by decide +kernel
theorem kb_bi : kitB "bool" "int" = some true := by decide +kernel
theorem kb_bs : kitB "bool" "str" = some false := by decide +kernel
theorem kb_ib : kitB "int" "bool" = some false := by decide +kernel
theorem kb_ii : kitB "int" "int" = some true := by decide +kernel
theorem kb_is : kitB "int" "str" = some false := by decide +kernel
theorem kb_sb : kitB "str" "bool" = some false := by decide +kernel
theorem kb_si : kitB "str" "int" = some false := by decide +kernel
theorem kb_ss : kitB "str" "str" = some true := by decide +kernel
section
variable {P : Program} {w : World} {K : PySem.W.Frag} {mg : Str → Option Value} {base : Heap} {a : Adr}
/-! #### is_whole -/
abbrev s_wh : Stmt := top 11
theorem sc_wh : FnScope ["value"] ["value"] (defScope s_wh) := ⟨rfl, rfl, rfl, by decide +kernel, rfl, by decide +kernel, by decide +kernel⟩
abbrev sp_wh (K : PySem.W.Frag) : Sp := spG (ι := PyData) (fun d => sc3 d = true) (fun d => [D K d]) fun d => rA (aB K (wholeD d))
theorem ok_wh {f : Addr} {fd : FuncData} (F : Fun K "is_whole" "is_whole" s_wh f fd) (bi : mg "isinstance" = none) (bn : mg "int" = none) (bb : mg "bool" = none) : FnOk P w K mg base CX0 1 f fd ["value"] (sp_wh K) := by
  refine fn_G F sc_wh (fun _ => rfl) fun cdv A outer s H E hr d hd => ?_
  have h1 := tyA_D (K := K) (M := mE H) hd
  cases d with
  | bool b => exact as_ret (ae_and (ae_isi bi (av 0) h1 (pe_bltn (v := .ty "int") (by rfl) bn (by decide +kernel) rfl) (.ty "int") (kit_ty kb_bi)) (fun _ => (ae_one (ae_not (ae_isi bi (av 0) h1 (pe_bltn (v := .ty "bool") (by rfl) bb (by decide +kernel) rfl) (.ty "bool") (kit_ty kb_bb)))))) (fun v H1 m h => ⟨m, d_cl h rfl⟩)
  | int b => exact as_ret (ae_and (ae_isi bi (av 0) h1 (pe_bltn (v := .ty "int") (by rfl) bn (by decide +kernel) rfl) (.ty "int") (kit_ty kb_ii)) (fun _ => (ae_one (ae_not (ae_isi bi (av 0) h1 (pe_bltn (v := .ty "bool") (by rfl) bb (by decide +kernel) rfl) (.ty "bool") (kit_ty kb_ib)))))) (fun v H1 m h => ⟨m, d_cl h rfl⟩)
  | str b => exact as_ret (ae_and (ae_isi bi (av 0) h1 (pe_bltn (v := .ty "int") (by rfl) bn (by decide +kernel) rfl) (.ty "int") (kit_ty kb_si)) (fun _ => (ae_one (ae_not (ae_isi bi (av 0) h1 (pe_bltn (v := .ty "bool") (by rfl) bb (by decide +kernel) rfl) (.ty "bool") (kit_ty kb_sb)))))) (fun v H1 m h => ⟨m, d_cl h rfl⟩)
  | none => cases hd
  | list _ => cases hd
  | tuple _ => cases hd
  | dict _ => cases hd
/-! #### is_number -/
abbrev s_nu : Stmt := top 10
theorem sc_nu : FnScope ["value", "low", "high"] ["value", "low", "high"] (defScope s_nu) := ⟨rfl, rfl, rfl, by decide +kernel, rfl, by decide +kernel, by decide +kernel⟩
abbrev sp_nu (K : PySem.W.Frag) : Sp := spG (ι := Int × Int × Int) (fun _ => True) (fun d => [aI K d.1, aI K d.2.1, aI K d.2.2]) fun d => rA (aB K (decide (d.2.1 ≤ d.1) && decide (d.1 ≤ d.2.2)))
theorem ok_nu {f : Addr} {fd : FuncData} (F : Fun K "is_number" "is_number" s_nu f fd) (G : GFn P w K mg base 1 "is_whole" (sp_wh K)) : FnOk P w K mg base CX0 2 f fd ["value", "low", "high"] (sp_nu K) := by
  refine fn_G F sc_nu (fun _ => rfl) fun cdv A outer s H E hr d hd => ?_
  exact as_ret (ae_and (ae_call G hr (.int d.1) rfl (aa_cons (av 0) aa_nil)) (fun _ => (ae_one (ae_leLe (av 1) (av 0) (av 2))))) (fun v H1 m h => ⟨m, d_cl h rfl⟩)
/-! #### is_same -/
abbrev s_sm : Stmt := top 18
theorem sc_sm : FnScope ["value", "one"] ["value", "one"] (defScope s_sm) := ⟨rfl, rfl, rfl, by decide +kernel, rfl, by decide +kernel, by decide +kernel⟩
abbrev sp_sm (K : PySem.W.Frag) : Sp := spG (ι := PyData × PyData) (fun d => sc3 d.1 = true ∧ sc3 d.2 = true) (fun d => [D K d.1, D K d.2]) fun d => rA (aB K (sameD d.1 d.2))
theorem ok_sm {f : Addr} {fd : FuncData} (F : Fun K "is_same" "is_same" s_sm f fd) (G : GFn P w K mg base 1 "is_whole" (sp_wh K)) (bi : mg "isinstance" = none) (bs : mg "str" = none) (bb : mg "bool" = none) : FnOk P w K mg base CX0 2 f fd ["value", "one"] (sp_sm K) := by
  refine fn_G F sc_sm (fun _ => rfl) fun cdv A outer s H E hr d hd => ?_
  obtain ⟨x, y⟩ := d
  have hx : sc3 x = true := hd.1
  have hy : sc3 y = true := hd.2
  have h1 := tyA_D (K := K) (M := mE H) hx
  have h2 := tyA_D (K := K) (M := mE H) hy
  cases y with
  | bool b =>
    refine as_if (at_val (ae_isi bi (av 1) h2 (pe_bltn (v := .ty "bool") (by rfl) bb (by decide +kernel) rfl) (.ty "bool") (kit_ty kb_bb))) (fun c1 => ?_) (fun c1 => by cases c1)
    cases x with
    | bool z => exact as_ret (ae_and (ae_isi bi (av 0) h1 (pe_bltn (v := .ty "bool") (by rfl) bb (by decide +kernel) rfl) (.ty "bool") (kit_ty kb_bb)) (fun _ => (ae_one (ae_cmpC (ac_eqS (av 0) (av 1)))))) (fun v H1 m h => ⟨m, d_cl h rfl⟩)
    | int z => exact as_ret (ae_and (b2 := true) (ae_isi bi (av 0) h1 (pe_bltn (v := .ty "bool") (by rfl) bb (by decide +kernel) rfl) (.ty "bool") (kit_ty kb_ib)) (fun z => by cases z)) (fun v H1 m h => ⟨m, d_cl h rfl⟩)
    | str z => exact as_ret (ae_and (b2 := true) (ae_isi bi (av 0) h1 (pe_bltn (v := .ty "bool") (by rfl) bb (by decide +kernel) rfl) (.ty "bool") (kit_ty kb_sb)) (fun z => by cases z)) (fun v H1 m h => ⟨m, d_cl h rfl⟩)
    | none => cases hx
    | list _ => cases hx
    | tuple _ => cases hx
    | dict _ => cases hx
  | str b =>
    refine as_if (at_val (ae_isi bi (av 1) h2 (pe_bltn (v := .ty "bool") (by rfl) bb (by decide +kernel) rfl) (.ty "bool") (kit_ty kb_sb))) (fun c1 => by cases c1) (fun c1 => ?_)
    refine as_end ?_
    refine as_if (at_val (ae_isi bi (av 1) h2 (pe_bltn (v := .ty "str") (by rfl) bs (by decide +kernel) rfl) (.ty "str") (kit_ty kb_ss))) (fun c1 => ?_) (fun c1 => by cases c1)
    cases x with
    | str z => exact as_ret (ae_and (ae_isi bi (av 0) h1 (pe_bltn (v := .ty "str") (by rfl) bs (by decide +kernel) rfl) (.ty "str") (kit_ty kb_ss)) (fun _ => (ae_one (ae_cmpC (ac_eqS (av 0) (av 1)))))) (fun v H1 m h => ⟨m, d_cl h rfl⟩)
    | int z => exact as_ret (ae_and (b2 := true) (ae_isi bi (av 0) h1 (pe_bltn (v := .ty "str") (by rfl) bs (by decide +kernel) rfl) (.ty "str") (kit_ty kb_is)) (fun z => by cases z)) (fun v H1 m h => ⟨m, d_cl h rfl⟩)
    | bool z => exact as_ret (ae_and (b2 := true) (ae_isi bi (av 0) h1 (pe_bltn (v := .ty "str") (by rfl) bs (by decide +kernel) rfl) (.ty "str") (kit_ty kb_bs)) (fun z => by cases z)) (fun v H1 m h => ⟨m, d_cl h rfl⟩)
    | none => cases hx
    | list _ => cases hx
    | tuple _ => cases hx
    | dict _ => cases hx
  | int b =>
    refine as_if (at_val (ae_isi bi (av 1) h2 (pe_bltn (v := .ty "bool") (by rfl) bb (by decide +kernel) rfl) (.ty "bool") (kit_ty kb_ib))) (fun c1 => by cases c1) (fun c1 => ?_)
    refine as_end ?_
    refine as_if (at_val (ae_isi bi (av 1) h2 (pe_bltn (v := .ty "str") (by rfl) bs (by decide +kernel) rfl) (.ty "str") (kit_ty kb_is))) (fun c1 => by cases c1) (fun c1 => ?_)
    refine as_end ?_
    cases x with
    | int z => exact as_ret (ae_and (ae_call G hr (.int z) rfl (aa_cons (av 0) aa_nil)) (fun _ => (ae_one (ae_cmpC (ac_eqS (av 0) (av 1)))))) (fun v H1 m h => ⟨m, d_cl h rfl⟩)
    | str z => exact as_ret (ae_and (b2 := true) (ae_call G hr (.str z) rfl (aa_cons (av 0) aa_nil)) (fun z => by cases z)) (fun v H1 m h => ⟨m, d_cl h rfl⟩)
    | bool z => exact as_ret (ae_and (b2 := true) (ae_call G hr (.bool z) rfl (aa_cons (av 0) aa_nil)) (fun z => by cases z)) (fun v H1 m h => ⟨m, d_cl h rfl⟩)
    | none => cases hx
    | list _ => cases hx
    | tuple _ => cases hx
    | dict _ => cases hx
  | none => cases hy
  | list _ => cases hy
  | tuple _ => cases hy
  | dict _ => cases hy
end
end Ep
set_option maxHeartbeats 4000000
/-! the switches' values: values_at, is_value -/
namespace Ep
open PySem PySem.Spec PyProof.Rows L2 Evl
def wordsE : List Str := ["epochs", "behind", "check", "fetch", "mark", "test", "step", "told"]
def wordsL : List Str := ["check", "look", "chain"]
def wordsS : List Str := ["counts", "still", "read", "sleep"]
def Own.words : Own → List Str
  | .E _ => wordsE | .L _ => wordsL | .S _ => wordsS
/-- a switch's value -/
def Own.get : Own → Str → PyData
  | .E o, w => if w = "epochs" then .int o.epochs else if w = "behind" then .int o.behind else if w = "check" then .bool o.check else if w = "fetch" then .str o.fetch else if w = "mark" then .str o.mark else if w = "test" then .str o.test else if w = "step" then .str o.step else .bool o.told
  | .L o, w => if w = "check" then .bool o.check else if w = "look" then .str o.look else .str o.chain
  | .S o, w => if w = "counts" then .int o.counts else if w = "still" then .str o.still else if w = "read" then .str o.read else .str o.sleep
def ordKeys : List Str := ["check", "fetch", "mark", "test", "step", "told", "look", "chain", "still", "read", "sleep"]
def ordTab (w : Str) : List PyData :=
  if w = "check" then [.bool false, .bool true] else if w = "fetch" then [.str "ahead", .str "behind"] else if w = "mark" then [.str "own", .str "fresh"] else if w = "test" then [.str "last", .str "equal"] else if w = "step" then [.str "add", .str "set", .str "still"]
  else if w = "told" then [.bool false, .bool true] else if w = "look" then [.str "ahead", .str "behind"] else if w = "chain" then [.str "next", .str "both", .str "none"] else if w = "still" then [.str "anywhere", .str "outside"] else if w = "read" then [.str "ahead", .str "behind"]
  else [.str "inside", .str "late", .str "outside", .str "none"]
def Own.ep : Own → Int
  | .E o => o.epochs | _ => 0
/-- the values a switch may have -/
def valsAt (o : Own) (w : Str) : List PyData := if w = "epochs" then rgD 2 7 else if w = "behind" then rgD 1 (o.ep + 1) else if w = "counts" then rgD 1 5 else ordTab w
/-- every switch has one of its values -/
def OkOwn (o : Own) : Prop := ∀ w ∈ o.words, o.get w ∈ valsAt o w
def TabD (K : PySem.W.Frag) (w : World) (mg : Str → Option Value) (x : Str) (ks : List Str) (f : Str → List PyData) : Prop := ∃ p, mg x = some (.ref p) ∧ ∀ z ∈ ks, ∃ v, KDct K w p z v ∧ ∀ H, Dt K H v (.tuple (f z))
theorem ae_tabD {X : Cx} {M : Mb} {ρ : List Sl} {e : Expr} {x z : Str} {ks : List Str} {f : Str → List PyData} {p pos : Pos} (T : TabD X.K X.w X.mg x ks f) (he : AE X M ρ e (aS X.K z)) (hz : z ∈ ks) (hg : Gl X x := by rfl) (hd : (x == ("__debug__" : Str)) = false := by decide) (hs : PlainIx e := by exact fun _ _ => rfl) :
    AE X M ρ (.Subscript (.Name x p) e pos) (D X.K (.tuple (f z))) := by
  obtain ⟨q, hm, h⟩ := T
  obtain ⟨v, h1, h2⟩ := h z hz
  exact ae_ixK (ae_globR hm hg hd) he ⟨v, h1, h2⟩ hs
theorem own_get {K : PySem.W.Frag} {o : Own} {w : Str} (h : w ∈ o.words) : ∃ y, valV (kvsO o) (Sum.inr w) = some y ∧ ∀ H, Dt K H y (o.get w) := by
  cases o with
  | E o =>
    simp only [Own.words, wordsE, List.mem_cons, List.not_mem_nil, or_false] at h
    rcases h with rfl | rfl | rfl | rfl | rfl | rfl | rfl | rfl
    · exact ⟨_, rfl, fun H => .int _⟩
    · exact ⟨_, rfl, fun H => .int _⟩
    · exact ⟨_, rfl, fun H => .bl _⟩
    · exact ⟨_, rfl, fun H => .str _⟩
    · exact ⟨_, rfl, fun H => .str _⟩
    · exact ⟨_, rfl, fun H => .str _⟩
    · exact ⟨_, rfl, fun H => .str _⟩
    · exact ⟨_, rfl, fun H => .bl _⟩
  | L o =>
    simp only [Own.words, wordsL, List.mem_cons, List.not_mem_nil, or_false] at h
    rcases h with rfl | rfl | rfl
    · exact ⟨_, rfl, fun H => .bl _⟩
    · exact ⟨_, rfl, fun H => .str _⟩
    · exact ⟨_, rfl, fun H => .str _⟩
  | S o =>
    simp only [Own.words, wordsS, List.mem_cons, List.not_mem_nil, or_false] at h
    rcases h with rfl | rfl | rfl | rfl
    · exact ⟨_, rfl, fun H => .int _⟩
    · exact ⟨_, rfl, fun H => .str _⟩
    · exact ⟨_, rfl, fun H => .str _⟩
    · exact ⟨_, rfl, fun H => .str _⟩
theorem get_sc (o : Own) (w : Str) : sc3 (o.get w) = true := by
  cases o <;> simp only [Own.get] <;> repeat' split
  all_goals rfl
/-- scalars that lay -/
def okS : PyData → Bool
  | .bool _ => true | .int _ => true | .str x => PyData.strOk x | _ => false
theorem okS_sc {d : PyData} (h : okS d = true) : sc3 d = true := by cases d <;> first | rfl | cases h
theorem rgD_ok (a b : Int) : ∀ d ∈ rgD a b, okS d = true := fun d h => by
  obtain ⟨i, _, rfl⟩ := List.mem_map.mp h
  rfl
theorem ord_ok (w : Str) : ∀ d ∈ ordTab w, okS d = true := by
  unfold ordTab
  repeat' split
  all_goals decide +kernel
theorem vals_ok (o : Own) (w : Str) : ∀ d ∈ valsAt o w, okS d = true := by
  unfold valsAt
  repeat' split
  · exact rgD_ok _ _
  · exact rgD_ok _ _
  · exact rgD_ok _ _
  · exact ord_ok w
theorem lay_okS : ∀ {l : List PyData}, (∀ d ∈ l, okS d = true) → PyData.canLayAll0 l = true ∧ PyData.depthAll l ≤ 1
  | [], _ => by simp [PyData.canLayAll0, PyData.depthAll]
  | d :: l, h => by
    obtain ⟨h1, h2⟩ := lay_okS (l := l) fun x hx => h x (List.mem_cons_of_mem _ hx)
    have h3 := h d (List.mem_cons_self ..)
    have h4 : d.canLay0 = true ∧ d.depth ≤ 1 := by
      cases d <;> first
        | (cases h3; done)
        | (refine ⟨?_, ?_⟩ <;> simp [PyData.canLay0, PyData.depth]; done)
        | (refine ⟨by simp only [PyData.canLay0]; exact h3, by simp [PyData.depth]⟩)
    refine ⟨by simp [PyData.canLayAll0, h1, h4.1], ?_⟩
    simp only [PyData.depthAll]
    omega
theorem sh_okS {l : List PyData} (h : ∀ d ∈ l, okS d = true) : SeqAt.shaped (.list l) = true := sh_of (by simp only [PyData.canLay0]; exact (lay_okS h).1) (by have := (lay_okS h).2; simp only [PyData.depth]; omega)
theorem eqv_nil (l : List PyData) : PyData.eqv (.list l) (.list []) = l.isEmpty := by cases l <;> simp [PyData.eqv, PyData.eqvAll]
theorem sameD_self {d : PyData} (h : sc3 d = true) : sameD d d = true := by cases d <;> first | (cases h; done) | simp [sameD]
section
variable {P : Program} {w : World} {K : PySem.W.Frag} {mg : Str → Option Value} {base : Heap} {a : Adr}
abbrev s_va : Stmt := top 17
theorem sc_va : FnScope ["word", "own"] ["word", "own"] (defScope s_va) := ⟨rfl, rfl, rfl, by decide +kernel, rfl, by decide +kernel, by decide +kernel⟩
def EpOk (o : Own) : Prop := 0 ≤ o.ep ∧ o.ep ≤ 100
abbrev sp_va (K : PySem.W.Frag) : Sp := spG (ι := Own × Str) (fun i => i.2 ∈ i.1.words ∧ EpOk i.1) (fun i => [aS K i.2, aOwn i.1]) fun i => rA (D K (.tuple (valsAt i.1 i.2)))
/-- the numbers of the module -/
structure TxN (mg : Str → Option Value) : Prop where
  least : ∃ t, mg "LEAST_EPOCHS" = some (.int 2 t)
  most : ∃ t, mg "MOST_EPOCHS" = some (.int 6 t)
  cnt : ∃ t, mg "MOST_COUNTS" = some (.int 4 t)
theorem ok_va {f : Addr} {fd : FuncData} (F : Fun K "values_at" "values_at" s_va f fd) (N : TxN mg) (To : TabD K w mg "ORDERS" ordKeys ordTab) (bt : mg "tuple" = none) (br : mg "range" = none) : FnOk P w K mg base CX0 1 f fd ["word", "own"] (sp_va K) := by
  refine fn_G F sc_va (fun _ => rfl) fun cdv A outer s H E hr i hi => ?_
  obtain ⟨o, z⟩ := i
  have hz : z ∈ o.words := hi.1
  have he : EpOk o := hi.2
  have hu := hu_of hr
  obtain ⟨t1, n1⟩ := N.least
  obtain ⟨t2, n2⟩ := N.most
  obtain ⟨t3, n3⟩ := N.cnt
  refine as_if (at_cmpC (ac_eqS (av 0) ae_str)) (fun c1 => ?_) (fun c1 => ?_)
  · simp only [eqD_str, decide_eq_true_eq] at c1
    refine as_ret (ae_tupRg bt br (ae_globI n1) (ae_add (ae_globI n2) ae_int) (by decide) (by decide)) (fun v H1 m h => ⟨m, d_cl h ?_⟩)
    simp only [valsAt, if_pos c1]
    rfl
  · simp only [eqD_str, decide_eq_false_iff_not] at c1
    refine as_end ?_
    refine as_if (at_cmpC (ac_eqS (av 0) ae_str)) (fun c2 => ?_) (fun c2 => ?_)
    · simp only [eqD_str, decide_eq_true_eq] at c2
      have hE : ∃ e, o = .E e := by
        subst c2
        cases o with
        | E e => exact ⟨e, rfl⟩
        | L e => exact absurd hz (by show ¬ _ ∈ wordsL; decide +kernel)
        | S e => exact absurd hz (by show ¬ _ ∈ wordsS; decide +kernel)
      obtain ⟨e, rfl⟩ := hE
      obtain ⟨e1, e2⟩ := he
      have e1 : 0 ≤ e.epochs := e1
      have e2 : e.epochs ≤ 100 := e2
      refine as_ret (ae_tupRg bt br ae_int (ae_add (ae_dget hu (av 1) (fun _ _ _ h => h) ae_str rfl (fun _ => .int _)) ae_int) (by decide) (by omega)) (fun v H1 m h => ⟨m, d_cl h ?_⟩)
      simp only [valsAt, if_neg c1, if_pos c2]
      rfl
    · simp only [eqD_str, decide_eq_false_iff_not] at c2
      refine as_end ?_
      refine as_ret (ae_ifT (at_cmpC (ac_eqS (av 0) ae_str)) (fun _ => (ae_tupRg bt br ae_int (ae_add (ae_globI n3) ae_int) (by decide) (by decide))) (fun c3 => (ae_tabD To (av 0) ?hk))) (fun v H1 m h => ⟨m, d_cl h ?_⟩)
      case hk =>
        simp only [eqD_str, decide_eq_false_iff_not] at c3
        show z ∈ ordKeys
        cases o with
        | E e =>
          have : z ∈ wordsE := hz
          simp only [wordsE, List.mem_cons, List.not_mem_nil, or_false] at this
          rcases this with rfl | rfl | rfl | rfl | rfl | rfl | rfl | rfl <;> first | exact absurd rfl c1 | exact absurd rfl c2 | decide +kernel
        | L e =>
          have : z ∈ wordsL := hz
          simp only [wordsL, List.mem_cons, List.not_mem_nil, or_false] at this
          rcases this with rfl | rfl | rfl <;> decide +kernel
        | S e =>
          have : z ∈ wordsS := hz
          simp only [wordsS, List.mem_cons, List.not_mem_nil, or_false] at this
          rcases this with rfl | rfl | rfl | rfl <;> first | exact absurd rfl c3 | decide +kernel
      · simp only [valsAt, if_neg c1, if_neg c2, eqD_str, decide_eq_true_eq]
        split <;> rfl
/-! #### is_value -/
abbrev s_iv : Stmt := top 19
abbrev n_iv : List Str := ["word", "own", "one"]
theorem sc_iv : FnScope n_iv ["word", "own"] (defScope s_iv) := ⟨rfl, rfl, rfl, by decide +kernel, rfl, by decide +kernel, by decide +kernel⟩
abbrev sp_iv (K : PySem.W.Frag) : Sp := spG (ι := Own × Str) (fun i => i.2 ∈ i.1.words ∧ EpOk i.1 ∧ OkOwn i.1) (fun i => [aS K i.2, aOwn i.1]) fun i => rA (aB K true)
theorem ok_iv {f : Addr} {fd : FuncData} (F : Fun K "is_value" "is_value" s_iv f fd) (Gv : GFn P w K mg base 1 "values_at" (sp_va K)) (Gs : GFn P w K mg base 2 "is_same" (sp_sm K)) : FnOk P w K mg base CX0 3 f fd ["word", "own"] (sp_iv K) := by
  refine fn_G F sc_iv (fun _ => rfl) fun cdv A outer s H E hr i hi => ?_
  obtain ⟨o, z⟩ := i
  have hz : z ∈ o.words := hi.1
  have he : EpOk o := hi.2.1
  have hok : o.get z ∈ valsAt o z := hi.2.2 z hz
  have hu := hu_of hr
  obtain ⟨y, hy1, hy2⟩ := own_get (K := K) hz
  have hlen : (valsAt o z).length ≤ 1000 := by
    obtain ⟨e1, e2⟩ := he
    unfold valsAt
    repeat' split
    · decide
    · simp [rgD]
      omega
    · decide
    · unfold ordTab
      repeat' split
      all_goals decide
  have hvo := vals_ok o z
  refine as_ret (ae_cmpC (ac_neDp (d1 := .list (((valsAt o z).filter fun d => sameD (o.get z) d).map fun d => d)) (d2 := .list []) hr.units (an_ae (an_lc (j := 2) [("one", 2)] (valsAt o z) (fun d => sameD (o.get z) d) (fun d => d) (pi_tup (ae_call (A := D K (.tuple (valsAt o z))) Gv (hr.mono (by decide)) (o, z) ⟨hz, he⟩ (aa_cons (av 0) (aa_cons (av 1) aa_nil)))) wi_tup hlen sc_iv.nd (blkOk_by (N := n_iv) (sc := defScope s_iv) (by decide +kernel)) (by decide)
      (fun _ _ _ _ _ => pg_name (i := 2) sc_iv.nd rfl (Or.inl rfl)) (fun _ _ _ _ _ d hd => ats_one (at_val (ae_call (A := aB K (sameD (o.get z) d)) Gs hr (o.get z, d) ⟨get_sc o z, okS_sc (hvo d hd)⟩ (aa_cons (ae_dget hu (av 1) (fun _ _ _ h => h) (av 0) hy1 hy2) (aa_cons (av 2) aa_nil))))) (fun _ _ _ _ _ d hd _ => av 2)))
    (ae_lst ad_nil) (fun H v _ h => LD.dp h) (fun H v _ h => LD.dp h) ?h1 rfl)) (fun v H1 m h => ⟨m, d_cl h ?_⟩)
  case h1 =>
    rw [List.map_id']
    exact sh_okS fun d hd => hvo d (List.mem_filter.mp hd).1
  · rw [List.map_id', eqv_nil]
    have hm : o.get z ∈ (valsAt o z).filter fun d => sameD (o.get z) d := List.mem_filter.mpr ⟨hok, sameD_self (get_sc o z)⟩
    cases q : (valsAt o z).filter fun d => sameD (o.get z) d with
    | nil =>
      rw [q] at hm
      cases hm
    | cons d l => rfl
end
end Ep
set_option maxHeartbeats 4000000
/-! books: first_wrong, look_at_word, getitem, way -/
namespace Ep
open PySem PySem.Spec PyProof.Rows L2 Evl
/-- a class of books: its switches and its way stand as constants -/
structure TxB (K : PySem.W.Frag) (C : Addr) (ws : List Str) (way : Str) : Prop where
  t : TxC K C ["own", "order"]
  words : ∃ p u, Con K C "WORDS" (.ref p) u ∧ ∀ H, Dt K H (.ref p) (tS' ws)
  way : ∃ u, Con K C "WAY" (.str way) u
def TxBs (K : PySem.W.Frag) (a : Adr) : Prop := ∀ o : Own, TxB K (o.cls a) o.words o.way
/-- an instance without the names of constants -/
def aIns (C : Addr) : Ab := ⟨fun H v => ∃ p dx fs, v = .ref p ∧ H p = some (.ins C dx fs) ∧ ∀ m : Str, m ∉ (["own", "order"] : List Str) → fs.lookup m = none, fun e ⟨p, dx, fs, h1, h2, h3⟩ => ⟨p, dx, fs, h1, e _ _ h2, h3⟩, false, fun z => by cases z⟩
theorem strs_vs {K : PySem.W.Frag} {H : Hp} : ∀ {vs : List V} {ws : List Str}, DtL K H vs (ws.map .str) → vs = ws.map .str
  | _, [], .nil => rfl
  | _, w :: ws, .cons h r => by
    cases h
    rw [strs_vs r]
    rfl
section
variable {P : Program} {w : World} {K : PySem.W.Frag} {mg : Str → Option Value} {base : Heap} {a : Adr}
theorem book_ins {M : Mb} {o : Own} : ∀ H v, M.P H → (aBook a o).P H v → (aIns (o.cls a)).P H v := fun H v _ h => by
  obtain ⟨b, h1, dx, d, l, h2, h3⟩ := h
  exact ⟨b, dx, _, h1, h2, fun m hm => lookup_none (l := ["own", "order"]) rfl hm⟩
theorem recv_bk {M : Mb} {o : Own} {m : Str} (hm : m ∉ (["own", "order"] : List Str)) : Recv M (o.cls a) m (aBook a o) (aIns (o.cls a)) := fun H v m' h => by
  obtain ⟨b, dx, fs, h1, h2, h3⟩ := book_ins (M := M) H v m' h
  exact ⟨b, dx, fs, h1, h2, h3 m hm, b, dx, fs, h1, h2, h3⟩
theorem recv_in {M : Mb} {C : Addr} {m : Str} (hm : m ∉ (["own", "order"] : List Str)) : Recv M C m (aIns C) (aIns C) := fun H v _ h => by
  obtain ⟨b, dx, fs, h1, h2, h3⟩ := id h
  exact ⟨b, dx, fs, h1, h2, h3 m hm, h⟩
theorem con_words {M : Mb} {o : Own} (T : TxBs K a) : ∃ p, (∀ H v, M.P H → (aIns (o.cls a)).P H v → ∃ q C dx fs y u, v = .ref q ∧ H q = some (.ins C dx fs) ∧ Cls K C ∧ Con K C "WORDS" y u ∧ fs.lookup ("WORDS" : Str) = none ∧ (Vl (.ref p)).P H y) ∧ ∀ H, Dt K H (.ref p) (tS' o.words) := by
  obtain ⟨p, u, h1, h2⟩ := (T o).words
  refine ⟨p, fun H v _ h => ?_, h2⟩
  obtain ⟨b, dx, fs, g1, g2, g3⟩ := h
  exact ⟨b, _, dx, fs, _, u, g1, g2, (T o).t.cl, h1, g3 _ (by decide +kernel), rfl⟩
/-! #### first_wrong -/
abbrev s_fw : Stmt := inClass (top 21) 3
abbrev n_fw : List Str := ["self", "own", "word"]
theorem sc_fw : FnScope n_fw ["self", "own"] (defScope s_fw) := ⟨rfl, rfl, rfl, by decide +kernel, rfl, by decide +kernel, by decide +kernel⟩
abbrev sp_fw (K : PySem.W.Frag) (a : Adr) : Sp := spG (ι := Own) (fun o => EpOk o ∧ OkOwn o) (fun o => [aIns (o.cls a), aOwn o]) fun _ => rA (aN K)
theorem ok_fw {f : Addr} {fd : FuncData} (F : Fun K "first_wrong" "Book.first_wrong" s_fw f fd) (T : TxBs K a) (G : GFn P w K mg base 3 "is_value" (sp_iv K)) : FnOk P w K mg base CX0 4 f fd ["self", "own"] (sp_fw K a) := by
  refine fn_G F sc_fw (fun _ => rfl) fun cdv A outer s H E hr o hi => ?_
  obtain ⟨p, hc, hp⟩ := con_words (M := mE H) (o := o) T
  refine as_forT (items := o.words.map .str) (R := rA (Vl (.ref p))) (ae_con (av 0) hc) (fun _ _ _ _ => mE H) [.val (aIns (o.cls a)), .val (aOwn o), .any] (fun d => [.val (aIns (o.cls a)), .val (aOwn o), .val (D K d)]) ?_ ?_ (SlW.refl _) (fun M d => ag_name (i := 2) sc_fw.nd) ?_ ?_
  · rintro H0 H1 v ⟨m, ex, r⟩
    exact m.trans ex
  · rintro H0 H1 v ⟨m, ex, r⟩
    refine ⟨p, o.words.map .str, r, by rw [List.length_map, List.length_map], fun i H2 _ => ?_⟩
    obtain ⟨q, vs, e1, e2, e3⟩ := Dt.tuple_inv (hp H2)
    cases e1
    have ev := strs_vs e3
    subst ev
    exact ⟨e2, e3⟩
  · rintro H0 H1 v hL i d hd
    rw [List.getElem?_map] at hd
    cases q : o.words[i]? with
    | none => rw [q] at hd; cases hd
    | some z =>
      rw [q] at hd
      cases hd
      refine as_if (at_not (at_val (ae_call G hr (o, z) ⟨List.mem_of_getElem? q, hi.1, hi.2⟩ (aa_cons (av 2) (aa_cons (av 1) aa_nil))))) (fun c => by cases c) (fun _ => ?_)
      exact as_end (as_lp (fun H m => m) (.same (.same (.any .nil))))
  · rintro H0 H1 v hL
    exact as_ret ae_non (fun v H1 m h => ⟨m, h⟩)
/-! #### look_at_word -/
abbrev s_lw : Stmt := inClass (top 21) 5
theorem sc_lw : FnScope ["self", "word"] ["self", "word"] (defScope s_lw) := ⟨rfl, rfl, rfl, by decide +kernel, rfl, by decide +kernel, by decide +kernel⟩
abbrev sp_lw (K : PySem.W.Frag) (a : Adr) : Sp := spG (ι := Own × Str) (fun i => i.2 ∈ i.1.words) (fun i => [aIns (i.1.cls a), aS K i.2]) fun _ => rA (aN K)
theorem ok_lw {f : Addr} {fd : FuncData} (F : Fun K "look_at_word" "Book.look_at_word" s_lw f fd) (T : TxBs K a) (bi : mg "isinstance" = none) (bs : mg "str" = none) : FnOk P w K mg base CX0 1 f fd ["self", "word"] (sp_lw K a) := by
  refine fn_G F sc_lw (fun _ => rfl) fun cdv A outer s H E hr i hi => ?_
  obtain ⟨o, z⟩ := i
  have hz : z ∈ o.words := hi
  obtain ⟨p, hc, hp⟩ := con_words (M := mE H) (o := o) T
  have hsq : SqA K (Vl (.ref p)) (o.words.map .str) := fun H2 v h => by
    obtain ⟨q, vs, e1, e2, e3⟩ := Dt.tuple_inv (hp H2)
    cases e1
    exact ⟨p, vs, h, .inr e2, e3⟩
  refine as_if (aw_or (at_not (at_val (ae_isi bi (av 1) (tyA_D (d := .str z) rfl) (pe_bltn (v := .ty "str") (by rfl) bs (by decide +kernel) rfl) (.ty "str") (kit_ty kb_ss)))) (fun _ => aw_or1 (at_cmpC (ac_notIn (av 1) (ae_con (av 0) hc) hsq rfl (flat_strs _))))).pt (fun c => ?_) (fun _ => ?_)
  · rw [inD_str] at c
    simp [hz] at c
  · exact as_end (as_nil fun σ H1 m _ => ⟨m, .non⟩)
/-! #### getitem -/
abbrev s_gi : Stmt := inClass (top 21) 9
theorem sc_gi : FnScope ["self", "word"] ["self", "word"] (defScope s_gi) := ⟨rfl, rfl, rfl, by decide +kernel, rfl, by decide +kernel, by decide +kernel⟩
abbrev sp_gi (K : PySem.W.Frag) (a : Adr) : Sp := spG (ι := Own × Str) (fun i => i.2 ∈ i.1.words) (fun i => [aBook a i.1, aS K i.2]) fun i => rA (D K (i.1.get i.2))
theorem ok_gi {f : Addr} {fd : FuncData} (F : Fun K "__getitem__" "Book.__getitem__" s_gi f fd) (T : TxBs K a) (G : ∀ o : Own, GMt P w K mg base 1 (o.cls a) "look_at_word" (sp_lw K a)) : FnOk P w K mg base CX0 2 f fd ["self", "word"] (sp_gi K a) := by
  refine fn_G F sc_gi (fun _ => rfl) fun cdv A outer s H E hr i hi => ?_
  obtain ⟨o, z⟩ := i
  have hz : z ∈ o.words := hi
  have hu := hu_of hr
  obtain ⟨y, hy1, hy2⟩ := own_get (K := K) hz
  refine as_expr (ae_meth (av 0) (recv_bk (o := o) (by decide +kernel)) (G o) hr (o, z) hz rfl (aa_cons (av 1) aa_nil)) ?_
  exact as_ret (ae_dget hu (ae_fld (av 0) (fset_own (c := ⟨o, 0, 0, 0, 0⟩) (T o).t)) (fun _ _ _ h => h) (av 1) hy1 hy2) (fun v H1 m h => ⟨m, h⟩)
/-! #### way -/
abbrev s_wy : Stmt := inClass (top 21) 4
theorem sc_wy : FnScope ["self"] ["self"] (defScope s_wy) := ⟨rfl, rfl, rfl, by decide +kernel, rfl, by decide +kernel, by decide +kernel⟩
abbrev sp_wy (K : PySem.W.Frag) (a : Adr) : Sp := spG (ι := Own) (fun _ => True) (fun o => [aBook a o]) fun o => rA (aS K o.way)
theorem ok_wy {f : Addr} {fd : FuncData} (F : Fun K "way" "Book.way" s_wy f fd) (T : TxBs K a) : FnOk P w K mg base CX0 1 f fd ["self"] (sp_wy K a) := by
  refine fn_G F sc_wy (fun _ => rfl) fun cdv A outer s H E hr o hi => ?_
  obtain ⟨u, hu⟩ := (T o).way
  refine as_ret (ae_con (B := aS K o.way) (av 0) fun H v _ h => ?_) (fun v H1 m h => ⟨m, h⟩)
  obtain ⟨b, h1, dx, d, l, h2, h3⟩ := h
  exact ⟨b, _, dx, _, _, u, h1, h2, (T o).t.cl, hu, lookup_none (l := ["own", "order"]) rfl (by decide +kernel), .str _⟩
end
end Ep
set_option maxHeartbeats 4000000
/-! first states, is_unsafe, has_form, held_by, look_at_setting -/
namespace Ep
open PySem PySem.Spec PyProof.Rows L2 Evl
section
variable {X : Cx} {M : Mb} {ρ : List Sl} {a b o e : Expr} {A B : Ab} {pos : Pos} {k : Int}
theorem repD_one (n : Nat) (d : PyData) : repD n [d] = List.replicate n d := by
  unfold repD
  induction n with
  | zero => rfl
  | succ n ih =>
    rw [List.replicate_succ, List.flatten_cons, ih]
    rfl
theorem ae_rep {d : PyData} (ha : AE X M ρ a (D X.K (.tuple [d]))) (hb : AE X M ρ b (aI X.K k)) (h0 : 0 ≤ k) (h1 : k ≤ 1000) : AE X M ρ (.BinOp a .Mult b pos) (D X.K (.tuple (List.replicate k.toNat d))) :=
  ae_op op_repA (fun H x y m hx hy Q q => by
    obtain ⟨p, xs, rfl, g1, g2⟩ := hx.tuple_inv
    cases hy
    have hl := g2.length
    have hne : xs ≠ [] := by
      intro z
      rw [z] at hl
      cases hl
    refine ⟨p, k, xs, rfl, rfl, g1, hne, h0, h1, by rw [hl]; show 1 ≤ 1000; decide, fun hk => ?_, fun hk t ht => ?_⟩
    · subst hk
      exact q _ H (Ex.refl H) hx
    · refine q _ _ (Ex.new ht) (.tup (st_of upd_same) ?_)
      rw [← repD_one]
      exact (g2.flat k.toNat).mono (.of (Ex.new ht))) ha hb
end
/-- o[i] by an own def, for every class of books -/
def GGet (P : Program) (w : World) (K : PySem.W.Frag) (mg : Str → Option Value) (base : Heap) (a : Adr) (k : Nat) : Prop := ∀ o : Own, ∃ g fd ps, FnOk P w K mg base CX0 k g fd ps (sp_gi K a) ∧ GetO K (o.cls a) g ∧ Binds K fd ps []
theorem ae_getO {X : Cx} {M : Mb} {ρ : List Sl} {e i : Expr} {a : Adr} {o : Own} {z : Str} {pos : Pos} {k : Nat} (G : GGet X.prog X.w X.K X.mg X.base a k) (hr : Room (k + 1) X.A) (he : AE X M ρ e (aBook a o)) (hi : AE X M ρ i (aS X.K z)) (hz : z ∈ o.words)
    (hsl : ∀ (p : Addr) (i' : Value), subscripted i true (.ref p) i' = runValue (.builtin "lifetime.subscript" ⟨[.ref p, i'], []⟩) := by intro _ _; with_unfolding_all rfl) : AE X M ρ (.Subscript e i pos) (D X.K (o.get z)) := by
  obtain ⟨g, fd, ps, F, c, bb⟩ := G o
  refine weakE (pe_getO he hi c F hr bb pass0 hsl) fun σ H Q ⟨m, sl, q⟩ => ⟨m, sl, fun x H1 e1 hx => ⟨M.mono e1 m, sl.mono e1, fun y H2 e2 hy => ?_⟩⟩
  have hx2 := (aBook a o).mono e2 hx
  obtain ⟨p, h1, dx, d, l, h2, h3⟩ := id hx2
  refine ⟨p, dx, _, h1, h2, (o, z), hz, .cons (by rw [← h1]; exact hx2) (.cons hy .nil), fun v H' e3 r => q v H' ((e1.trans e2).trans e3) r⟩
section
variable {P : Program} {w : World} {K : PySem.W.Frag} {mg : Str → Option Value} {base : Heap} {a : Adr}
def cE (o : EOwn) (n : N4) : Cfg := ⟨.E o, n.1, n.2.1, n.2.2.1, n.2.2.2⟩
/-- small counts -/
def Few (n : N4) : Prop := n.1 ≤ 1000 ∧ n.2.1 ≤ 1000 ∧ n.2.2.1 ≤ 1000
/-- the setting's properties -/
structure GSet (P : Program) (w : World) (K : PySem.W.Frag) (mg : Str → Option Value) (base : Heap) (a : Adr) : Prop where
  rd : GPr P w K mg base 1 a.SE "readers" (spProp K a fun c => .int (c.nr : Nat))
  tk : GPr P w K mg base 1 a.SE "takers" (spProp K a fun c => .int (c.nt : Nat))
  st : GPr P w K mg base 1 a.SE "steppers" (spProp K a fun c => .int (c.ns : Nat))
  th : GPr P w K mg base 1 a.SE "things" (spProp K a fun c => .int (c.nth : Nat))
/-! #### first_epochs -/
abbrev s_fe : Stmt := top 31
theorem sc_fe : FnScope ["setting", "bags"] ["setting"] (defScope s_fe) := ⟨rfl, rfl, rfl, by decide +kernel, rfl, by decide +kernel, by decide +kernel⟩
abbrev sp_fe (K : PySem.W.Frag) (a : Adr) : Sp := spG (ι := EOwn × N4) (fun i => 0 ≤ i.1.epochs ∧ i.1.epochs ≤ 1000 ∧ Few i.2) (fun i => [aSet K a (cE i.1 i.2)]) fun i => rA (D K (eFirst i.1 (cE i.1 i.2)).d)
theorem map_rep {α : Type} (f : α → PyData) (n : Nat) (x : α) : (List.replicate n x).map f = List.replicate n (f x) := List.map_replicate
theorem nat_rep {n : Nat} {d : PyData} : PyData.tuple (List.replicate ((n : Nat) : Int).toNat d) = .tuple (List.replicate n d) := by rw [Int.toNat_natCast]
theorem ok_fe {f : Addr} {fd : FuncData} (F : Fun K "first_epochs" "first_epochs" s_fe f fd) (TS : TxC K a.SE fsSE) (G : GSet P w K mg base a) (Gg : GGet P w K mg base a 2) : FnOk P w K mg base CX0 4 f fd ["setting"] (sp_fe K a) := by
  refine fn_G F sc_fe (fun _ => rfl) fun cdv A outer s H E hr i hi => ?_
  obtain ⟨o, n⟩ := i
  have h0 : 0 ≤ o.epochs := hi.1
  have h1 : o.epochs ≤ 1000 := hi.2.1
  have hf : Few n := hi.2.2
  obtain ⟨f1, f2, f3⟩ := hf
  have hr2 : Room 2 _ := hr.mono (by decide)
  refine as_asg (i := 1) (ae_dat (d' := bagsD (List.replicate o.epochs.toNat [])) (ae_rep (k := o.epochs) (ae_tup (ad_cons (ae_tup ad_nil) ad_nil)) (ae_dat (d' := .int o.epochs) (ae_getO (o := .E o) Gg hr (ae_fld (av 0) (fset_kept (c := cE o n) TS)) ae_str (by show _ ∈ wordsE; decide +kernel)) rfl) h0 h1) (by simp [bagsD, tI])) ?_ sc_fe.nd
  refine as_ret (ae_tup (ad_cons ae_int (ad_cons ae_int (ad_cons (ae_dat (ae_rep (k := (n.1 : Nat)) (ae_tup (ad_cons (ae_tup (ad_cons ae_str (ad_cons ae_non (ad_cons ae_non (ad_cons ae_non ad_nil))))) ad_nil)) (ae_prop (av 0) set_ins G.rd hr2 (cE o n) trivial rfl) (by omega) (by omega)) nat_rep) (ad_cons (ae_dat (ae_rep (k := (n.2.1 : Nat)) (ae_tup (ad_cons (ae_tup (ad_cons ae_str (ad_cons ae_non (ad_cons ae_non (ad_cons ae_non (ad_cons ae_int (ad_cons (av 1) ad_nil))))))) ad_nil)) (ae_prop (av 0) set_ins G.tk hr2 (cE o n) trivial rfl) (by omega) (by omega)) nat_rep) (ad_cons (ae_dat (ae_rep (k := (n.2.2.1 : Nat)) (ae_tup (ad_cons (ae_tup (ad_cons ae_str (ad_cons ae_non (ad_cons ae_non (ad_cons ae_int ad_nil))))) ad_nil)) (ae_prop (av 0) set_ins G.st hr2 (cE o n) trivial rfl) (by omega) (by omega)) nat_rep) (ad_cons (ae_tup ad_nil) ad_nil))))))) (fun v H1 m h => ⟨m, d_cl h ?_⟩)
  simp only [eFirst, ES.d, map_rep]
  rfl
/-! #### first_looks -/
abbrev s_fl : Stmt := top 34
theorem sc_fl : FnScope ["setting"] ["setting"] (defScope s_fl) := ⟨rfl, rfl, rfl, by decide +kernel, rfl, by decide +kernel, by decide +kernel⟩
abbrev sp_fl (K : PySem.W.Frag) (a : Adr) : Sp := spG (ι := LOwn × N4) (fun i => Few i.2) (fun i => [aSet K a (cL i.1 i.2)]) fun i => rA (D K (lFirst (cL i.1 i.2)).d)
theorem ok_fl {f : Addr} {fd : FuncData} (F : Fun K "first_looks" "first_looks" s_fl f fd) (G : GSet P w K mg base a) : FnOk P w K mg base CX0 3 f fd ["setting"] (sp_fl K a) := by
  refine fn_G F sc_fl (fun _ => rfl) fun cdv A outer s H E hr i hi => ?_
  obtain ⟨o, n⟩ := i
  obtain ⟨f1, f2, f3⟩ : Few n := hi
  refine as_ret (ae_tup (ad_cons ae_int (ad_cons (ae_dat (ae_rep (k := (n.1 : Nat)) (ae_tup (ad_cons (ae_tup (ad_cons ae_str (ad_cons ae_non (ad_cons ae_non (ad_cons ae_non (ad_cons ae_non ad_nil)))))) ad_nil)) (ae_prop (av 0) set_ins G.rd hr (cL o n) trivial rfl) (by omega) (by omega)) nat_rep) (ad_cons (ae_dat (ae_rep (k := (n.2.1 : Nat)) (ae_tup (ad_cons (ae_tup (ad_cons ae_str (ad_cons ae_int (ad_cons (ae_tup ad_nil) (ad_cons (ae_tup ad_nil) ad_nil))))) ad_nil)) (ae_prop (av 0) set_ins G.tk hr (cL o n) trivial rfl) (by omega) (by omega)) nat_rep) (ad_cons (ae_tup ad_nil) ad_nil))))) (fun v H1 m h => ⟨m, d_cl h ?_⟩)
  simp only [lFirst, LS.d, map_rep]
  rfl
/-! #### first_stills -/
abbrev s_fs : Stmt := top 44
theorem sc_fs : FnScope ["setting"] ["setting"] (defScope s_fs) := ⟨rfl, rfl, rfl, by decide +kernel, rfl, by decide +kernel, by decide +kernel⟩
abbrev sp_fs (K : PySem.W.Frag) (a : Adr) : Sp := spG (ι := SOwn × N4) (fun i => Few i.2) (fun i => [aSet K a (cS i.1 i.2)]) fun i => rA (D K (sFirst (cS i.1 i.2)).d)
theorem ok_fs {f : Addr} {fd : FuncData} (F : Fun K "first_stills" "first_stills" s_fs f fd) (G : GSet P w K mg base a) : FnOk P w K mg base CX0 3 f fd ["setting"] (sp_fs K a) := by
  refine fn_G F sc_fs (fun _ => rfl) fun cdv A outer s H E hr i hi => ?_
  obtain ⟨o, n⟩ := i
  obtain ⟨f1, f2, f3⟩ : Few n := hi
  refine as_ret (ae_tup (ad_cons ae_int (ad_cons (ae_dat (ae_rep (k := (n.1 : Nat)) (ae_tup (ad_cons (ae_tup (ad_cons ae_str (ad_cons ae_int (ad_cons ae_bl (ad_cons ae_non ad_nil))))) ad_nil)) (ae_prop (av 0) set_ins G.rd hr (cS o n) trivial rfl) (by omega) (by omega)) nat_rep) (ad_cons (ae_dat (ae_rep (k := (n.2.1 : Nat)) (ae_tup (ad_cons (ae_tup (ad_cons ae_str (ad_cons ae_int (ad_cons (ae_tup ad_nil) (ad_cons ae_non ad_nil))))) ad_nil)) (ae_prop (av 0) set_ins G.tk hr (cS o n) trivial rfl) (by omega) (by omega)) nat_rep) (ad_cons (ae_tup ad_nil) ad_nil))))) (fun v H1 m h => ⟨m, d_cl h ?_⟩)
  simp only [sFirst, SS.d, map_rep]
  rfl
/-! #### is_unsafe -/
abbrev s_un : Stmt := top 47
theorem sc_un : FnScope ["state"] ["state"] (defScope s_un) := ⟨rfl, rfl, rfl, by decide +kernel, rfl, by decide +kernel, by decide +kernel⟩
def Sta.isBad : Sta → Bool
  | .bad _ _ => true | _ => false
abbrev sp_un (K : PySem.W.Frag) : Sp := spG (ι := Sta) (fun _ => True) (fun s => [D K s.d]) fun s => rA (aB K s.isBad)
theorem ok_un {f : Addr} {fd : FuncData} (F : Fun K "is_unsafe" "is_unsafe" s_un f fd) : FnOk P w K mg base CX0 1 f fd ["state"] (sp_un K) := by
  refine fn_G F sc_un (fun _ => rfl) fun cdv A outer s H E hr i hi => ?_
  cases i with
  | E s => exact as_ret (ae_cmpC (ac_eqS (ae_ixT (av 0) ae_int rfl) ae_str)) (fun v H1 m h => ⟨m, d_cl h rfl⟩)
  | L s => exact as_ret (ae_cmpC (ac_eqS (ae_ixT (av 0) ae_int rfl) ae_str)) (fun v H1 m h => ⟨m, d_cl h rfl⟩)
  | S s => exact as_ret (ae_cmpC (ac_eqS (ae_ixT (av 0) ae_int rfl) ae_str)) (fun v H1 m h => ⟨m, d_cl h rfl⟩)
  | bad k th => exact as_ret (ae_cmpC (ac_eqS (ae_ixT (av 0) ae_int rfl) ae_str)) (fun v H1 m h => ⟨m, d_cl h (by show PyData.bool (eqD (.str "unsafe") (.str "unsafe")) = .bool true; rw [eqD_str]; simp)⟩)
/-! #### look_at_setting -/
/-- a class whose instances isinstance knows -/
structure TxI (K : PySem.W.Frag) (C : Addr) : Prop where
  cl : Cls K C
  ha : PySem.W.findIn K (.ref C) "__class__" = some (some (.builtin "object.__class__"))
  hn : PySem.W.specialIn K (.builtin "object.__class__") "__get__" = some (some (.builtin "getset_descriptor.__get__"))
  htk : PySem.W.takesIn K (.builtin "object.__class__") = some true
  hm : PySem.W.mroIn K C (.type "object") = some true
theorem tyA_set {M : Mb} {c : Cfg} (T : TxI K a.SE) : TyA K M (aSet K a c) (.ref a.SE) := fun H v _ h => by
  obtain ⟨s, h1, dx, b, t, h2, h3, h4⟩ := h
  rw [h1]
  exact .base (.ins h2 T.cl T.ha T.hn T.htk T.hm)
theorem kit_self (C : Addr) : PySem.W.kitOne K (.ref C) (.ref C) = some true := by
  unfold PySem.W.kitOne
  rw [if_pos (by simp)]
abbrev s_ls : Stmt := top 42
theorem sc_ls : FnScope ["value"] ["value"] (defScope s_ls) := ⟨rfl, rfl, rfl, by decide +kernel, rfl, by decide +kernel, by decide +kernel⟩
abbrev sp_ls (K : PySem.W.Frag) (a : Adr) : Sp := spG (ι := Cfg) (fun _ => True) (fun c => [aSet K a c]) fun _ => rA (aN K)
theorem ok_ls {f : Addr} {fd : FuncData} (F : Fun K "look_at_setting" "look_at_setting" s_ls f fd) (T : TxI K a.SE) (bi : mg "isinstance" = none) (hS : mg "Setting" = some (.ref a.SE)) : FnOk P w K mg base CX0 1 f fd ["value"] (sp_ls K a) := by
  refine fn_G F sc_ls (fun _ => rfl) fun cdv A outer s H E hr c hi => ?_
  refine as_if (at_not (at_val (ae_isi bi (av 0) (tyA_set T) (pe_glob (v := .ref a.SE) (by rfl) hS rfl) (.own a.SE) (kit_self a.SE)))) (fun c1 => by cases c1) (fun _ => ?_)
  exact as_end (as_nil fun σ H1 m _ => ⟨m, .non⟩)
/-! #### held_by -/
abbrev s_hb : Stmt := top 56
abbrev n_hb : List Str := ["way", "taker", "out", "bag", "thing"]
theorem sc_hb : FnScope n_hb ["way", "taker"] (defScope s_hb) := ⟨rfl, rfl, rfl, by decide +kernel, rfl, by decide +kernel, by decide +kernel⟩
/-- a taker's row of any world -/
inductive Tk3 where
  | E (t : ET) | L (t : LT) | S (t : ST)
def Tk3.d : Tk3 → PyData
  | .E t => t.d | .L t => t.d | .S t => t.d
def Tk3.way : Tk3 → Str
  | .E _ => "epochs" | .L _ => "looks" | .S _ => "still"
def Tk3.held : Tk3 → List Int
  | .E t => oL t.out ++ t.bags.flatten | .L t => t.bag | .S t => oL t.out
abbrev sp_hb (K : PySem.W.Frag) : Sp := spG (ι := Tk3) (fun t => t.held.length ≤ 1000) (fun t => [aS K t.way, D K t.d]) fun t => rN K (t.held.map .int)
def sub1 : PyData → List PyData
  | .tuple ds => ds | _ => []
theorem bags_flat (b : List (List Int)) : (b.map tI).flatMap sub1 = b.flatten.map .int := by
  induction b with
  | nil => rfl
  | cons x b ih =>
    rw [List.map_cons, List.flatMap_cons, ih, List.flatten_cons, List.map_append]
    rfl
theorem ad_outs {X : Cx} {M : Mb} {ρ : List Sl} {c e : Expr} {out : Option Int} {p1 p2 p3 : Pos} (hc : AT X M ρ c (eqD (oI out) .none)) (he : AE X M ρ e (D X.K (oI out))) (hs : starEach [e] X.env = (false, eval e X.env) :: starEach [] X.env := by rfl) : AE X M ρ (.IfExp c (.List [] p1) (.List [e] p2) p3) (LD X.K ((oL out).map .int)) := by
  refine ae_if hc (fun h => ?_) (fun h => ?_)
  · cases out with
    | none => exact ae_lst ad_nil
    | some x => cases h
  · cases out with
    | none => cases h
    | some x => exact ae_lst (ds := [PyData.int x]) (ad_cons he ad_nil hs) (by show 1 ≤ 1000; decide)
end
end Ep
set_option maxHeartbeats 4000000
/-! held_by, kept -/
namespace Ep
open PySem PySem.Spec PyProof.Rows L2 Evl
section
variable {X : Cx} {M : Mb} {ρ : List Sl} {a b : Expr} {pos : Pos}
theorem an_catL {ds es : List PyData} (ha : AE X M ρ a (LD X.K ds)) (hb : AE X M ρ b (LD X.K es)) (hl : ds.length + es.length ≤ 1000) : AN X M ρ (.BinOp a .Add b pos) (ds ++ es) :=
  weakE (pe_op op_cat ha hb) fun σ H Q ⟨m, sl, q⟩ => ⟨m, sl, fun x H1 e1 hx => ⟨M.mono e1 m, sl.mono e1, fun y H2 e2 hy => by
    obtain ⟨p, xs, rfl, h1, h2⟩ := (LD X.K ds).mono e2 hx
    obtain ⟨r, ys, rfl, h3, h4⟩ := hy
    exact ⟨p, r, xs, ys, rfl, rfl, h1, h3, by rw [h2.length, h4.length]; exact sz_of (by omega), fun t ht => q _ _ ((e1.trans e2).trans (Ex.new ht)) ⟨t, _, rfl, fresh_back (e1.trans e2) ht, upd_same, (h2.append h4).mono (.of (Ex.new ht))⟩⟩⟩⟩
end
theorem str_no {x y : Str} (h : eqD (.str x) (.str y) = true) (n : x ≠ y) : False := n (of_decide_eq_true h)
theorem str_yes {x : Str} (h : eqD (.str x) (.str x) = false) : False := by
  rw [eqD_str, decide_eq_true rfl] at h
  cases h
theorem n_le : ("looks" : Str) ≠ "epochs" := by decide +kernel
theorem n_se : ("still" : Str) ≠ "epochs" := by decide +kernel
theorem n_el : ("epochs" : Str) ≠ "looks" := by decide +kernel
theorem n_sl : ("still" : Str) ≠ "looks" := by decide +kernel
section
variable {P : Program} {w : World} {K : PySem.W.Frag} {mg : Str → Option Value} {base : Heap} {a : Adr}
theorem an_outs {X : Cx} {M : Mb} {ρ : List Sl} {c e : Expr} {out : Option Int} {p1 p2 p3 : Pos} (hc : AT X M ρ c (eqD (oI out) .none)) (he : AE X M ρ e (D X.K (oI out))) (hs : starEach [e] X.env = (false, eval e X.env) :: starEach [] X.env := by rfl) : AN X M ρ (.IfExp c (.List [] p1) (.List [e] p2) p3) ((oL out).map .int) := by
  refine ar_if hc (fun h => ?_) (fun h => ?_) fun _ _ _ _ e h => rN_back e h
  · cases out with
    | none => exact an_lst ad_nil
    | some x => cases h
  · cases out with
    | none => cases h
    | some x => exact an_lst (ds := [PyData.int x]) (ad_cons he ad_nil hs) (by show 1 ≤ 1000; decide)
theorem ok_hb {f : Addr} {fd : FuncData} (F : Fun K "held_by" "held_by" s_hb f fd) (bl : mg "list" = none) : FnOk P w K mg base CX0 1 f fd ["way", "taker"] (sp_hb K) := by
  refine fn_G F sc_hb (fun _ => rfl) fun cdv A outer s H E hr t hi => ?_
  have hlen : t.held.length ≤ 1000 := hi
  cases t with
  | L t =>
    refine as_if (at_cmpC (ac_eqS (av 0) ae_str)) (fun c1 => ?_) (fun c1 => (str_yes c1).elim)
    exact as_retR (an_list (ds := t.bag.map .int) bl (ae_ixT (av 1) ae_int rfl) sqA_tup) (fun H0 v H1 m ex r => ⟨m.trans ex, rN_back m r⟩)
  | E t =>
    have hlen : (oL t.out ++ t.bags.flatten).length ≤ 1000 := hlen
    rw [List.length_append] at hlen
    refine as_if (at_cmpC (ac_eqS (av 0) ae_str)) (fun c1 => (str_no c1 n_el).elim) (fun _ => as_end ?_)
    refine as_asgN (i := 2) (an_outs (out := t.out) (at_cmpC (ac_isN (ae_ixT (av 1) ae_int rfl))) (ae_ixT (av 1) ae_int rfl)) (fun H0 p vs m hp => ?_) sc_hb.nd
    refine as_retR (R := fun _ H' v => rN K ((oL t.out ++ t.bags.flatten).map .int) H H' v) (ar_if (at_cmpC (ac_eqS (av 0) ae_str)) (fun _ => ar_imp (an_catL (ds := (oL t.out).map .int) (es := t.bags.flatten.map .int) (ae_view (av 2) fun H v m h => ⟨p, vs, h, m.2.1, m.2.2⟩) (ae_eq (an_ae (an_lc2T (j := 3) (j1 := 4) [("bag", 3), ("thing", 4)] (t.bags.map tI) sub1 (pi_tup (ae_ixT (d := bagsD t.bags) (av 1) ae_int rfl)) wi_tup (fun _ _ _ _ _ d hd => ?he) ?hl sc_hb.nd (blkOk_by (N := n_hb) (sc := defScope s_hb) (by decide +kernel)) (by decide) (by decide) (by decide)
      (fun _ _ _ _ _ => pg_name (i := 3) sc_hb.nd rfl (Or.inl rfl)) (fun _ _ _ _ _ => pg_name (i := 4) sc_hb.nd rfl (Or.inl rfl)) (fun _ _ _ _ _ d d' hd hd' => av 4))) (congrArg (LD K) (bags_flat _))) ?hl2) fun H1 H2 v m1 e1 r => ?_) (fun c2 => (str_yes c2).elim) (fun _ _ _ _ _ h => h)) (fun H1 v H2 m1 e1 r => ⟨(m.trans m1.1).trans e1, r⟩)
    case he =>
      obtain ⟨b, _, rfl⟩ := List.mem_map.mp hd
      exact av 3
    case hl =>
      rw [bags_flat, List.length_map]
      omega
    case hl2 =>
      rw [List.length_map, List.length_map]
      omega
    · have r' := rN_back (m.trans m1.1) r
      rw [← List.map_append] at r'
      exact r'
  | S t =>
    refine as_if (at_cmpC (ac_eqS (av 0) ae_str)) (fun c1 => (str_no c1 n_sl).elim) (fun _ => as_end ?_)
    refine as_asgN (i := 2) (an_outs (out := t.out) (at_cmpC (ac_isN (ae_ixT (av 1) ae_int rfl))) (ae_ixT (av 1) ae_int rfl)) (fun H0 p vs m hp => ?_) sc_hb.nd
    refine as_retR (R := fun _ H' v => rN K ((oL t.out).map .int) H H' v) (ar_if (at_cmpC (ac_eqS (av 0) ae_str)) (fun c2 => (str_no c2 n_se).elim) (fun c2 => ar_imp (R := rA (Rf p)) (av 2) fun H1 H2 v m1 e1 r => ⟨p, vs, r, fresh_back m hp, e1 _ _ m1.2.1, m1.2.2.mono (.of e1)⟩) (fun _ _ _ _ _ h => h)) (fun H1 v H2 m1 e1 r => ⟨(m.trans m1.1).trans e1, r⟩)
/-! #### kept -/
abbrev s_kp : Stmt := top 57
abbrev n_kp : List Str := ["setting", "state", "way", "takers", "taker", "thing"]
theorem sc_kp : FnScope n_kp ["setting", "state"] (defScope s_kp) := ⟨rfl, rfl, rfl, by decide +kernel, rfl, by decide +kernel, by decide +kernel⟩
def Fits (c : Cfg) : Sta → Prop
  | .E _ => ∃ o, c.own = .E o
  | .L _ => ∃ o, c.own = .L o
  | .S _ => ∃ o, c.own = .S o
  | .bad _ _ => True
abbrev sp_kp (K : PySem.W.Frag) (a : Adr) : Sp := spG (ι := Cfg × Sta) (fun i => Fits i.1 i.2 ∧ (heldS i.2).length < 60) (fun i => [aSet K a i.1, D K i.2.d]) fun i => rN K ((keptS i.2).map .int)
def outD : PyData → List PyData
  | .int i => [.int i] | _ => []
theorem outD_oI (o : Option Int) : outD (oI o) = (oL o).map .int := by cases o <;> rfl
def heldE (d : PyData) : List PyData := outD (item 3 d) ++ (sub1 (item 5 d)).flatMap sub1
def heldL (d : PyData) : List PyData := sub1 (item 3 d)
def heldSS (d : PyData) : List PyData := outD (item 3 d)
theorem heldE_d (t : ET) : heldE t.d = ((Tk3.E t).held).map .int := by
  show outD (oI t.out) ++ (t.bags.map tI).flatMap sub1 = (oL t.out ++ t.bags.flatten).map .int
  rw [outD_oI, bags_flat, List.map_append]
theorem heldL_d (t : LT) : heldL t.d = ((Tk3.L t).held).map .int := rfl
theorem heldS_d (t : ST) : heldSS t.d = ((Tk3.S t).held).map .int := outD_oI t.out
theorem flat_held {α : Type} (ts : List α) (d : α → PyData) (g : PyData → List PyData) (h : α → List Int) (e : ∀ t, g (d t) = (h t).map .int) : (ts.map d).flatMap g = (ts.flatMap h).map .int := by
  induction ts with
  | nil => rfl
  | cons t ts ih => rw [List.map_cons, List.flatMap_cons, ih, List.flatMap_cons, List.map_append, e]
theorem len_held {α : Type} {ts : List α} {h : α → List Int} {t : α} (hm : t ∈ ts) : (h t).length ≤ (ts.flatMap h).length := by
  obtain ⟨x, y, rfl⟩ := List.append_of_mem hm
  simp
  omega
theorem way_prop {M : Mb} {o : Own} : ∀ H v, M.P H → (aBook a o).P H v → ∃ p dx fs, v = .ref p ∧ H p = some (.ins (o.cls a) dx fs) ∧ (aBook a o).P H v := fun H v _ h => by
  obtain ⟨b, h1, dx, d, l, h2, h3⟩ := id h
  exact ⟨b, dx, _, h1, h2, h⟩
abbrev GWay (P : Program) (w : World) (K : PySem.W.Frag) (mg : Str → Option Value) (base : Heap) (a : Adr) : Prop := ∀ o : Own, GPr P w K mg base 1 (o.cls a) "way" (sp_wy K a)
theorem ok_kp {f : Addr} {fd : FuncData} (F : Fun K "kept" "kept" s_kp f fd) (TS : TxC K a.SE fsSE) (Gl : GFn P w K mg base 1 "look_at_setting" (sp_ls K a)) (Gu : GFn P w K mg base 1 "is_unsafe" (sp_un K)) (Gw : GWay P w K mg base a) (Gh : GFn P w K mg base 1 "held_by" (sp_hb K)) (bs : mg "sorted" = none) (bi : mg "int" = none) :
    FnOk P w K mg base CX0 3 f fd ["setting", "state"] (sp_kp K a) := by
  refine fn_G F sc_kp (fun _ => rfl) fun cdv A outer s H E hr i hi => ?_
  obtain ⟨c, st⟩ := i
  have hfit : Fits c st := hi.1
  have hlen : (heldS st).length < 60 := hi.2
  have hr1 : Room 1 _ := hr.mono (by decide)
  have nd := sc_kp.nd
  refine as_expr (ae_call Gl hr1 c trivial (aa_cons (av 0) aa_nil)) ?_
  refine as_if (at_val (ae_call Gu hr1 st trivial (aa_cons (av 1) aa_nil))) (fun c1 => ?_) (fun c1 => ?_)
  · cases st with
    | bad k th => exact as_retR (an_lst ad_nil) (fun H0 v H1 m ex r => ⟨m.trans ex, rN_back m r⟩)
    | E s => cases c1
    | L s => cases c1
    | S s => cases c1
  refine as_end ?_
  refine as_asg (i := 2) (A := aS K c.own.way) (ae_prop (ae_fld (av 0) (fset_kept TS)) way_prop (Gw c.own) hr c.own trivial rfl) ?_ nd
  cases st with
  | bad k th => cases c1
  | E s =>
    obtain ⟨o, ho⟩ := hfit
    have hw : c.own.way = "epochs" := by rw [ho]; rfl
    have hlen : (s.ts.flatMap fun t => (Tk3.E t).held).length < 60 := hlen
    refine as_asg (i := 3) (A := D K (.tuple (s.ts.map ET.d))) (ae_if (at_cmpC (ac_eqS (av 2) ae_str)) (fun _ => ae_ixT (av 1) ae_int rfl) (fun z => by rw [hw] at z; exact (str_yes z).elim)) ?_ nd
    exact as_retR (an_sorted (ns := s.ts.flatMap fun t => (Tk3.E t).held) bs bi (ae_eq (an_ae (an_lc2N (j := 4) (j1 := 5) [("taker", 4), ("thing", 5)] (s.ts.map ET.d) heldE (pi_tup (av 3)) wi_tup (fun _ _ _ _ _ d hd => by
        have hd' := hd
        obtain ⟨t, ht, rfl⟩ := List.mem_map.mp hd'
        rw [heldE_d]
        exact an_call Gh hr1 (.E t) (by have := len_held (h := fun t => (Tk3.E t).held) ht; show (Tk3.E t).held.length ≤ 1000; omega) (aa_cons (ae_dat (av 2) (congrArg PyData.str hw)) (aa_cons (av 4) aa_nil)))
      (by rw [flat_held _ _ _ _ heldE_d, List.length_map]; omega) nd (blkOk_by (N := n_kp) (sc := defScope s_kp) (by decide +kernel)) (by decide) (by decide) (by decide)
      (fun _ _ _ _ _ => pg_name (i := 4) nd rfl (Or.inl rfl)) (fun _ _ _ _ _ => pg_name (i := 5) nd rfl (Or.inl rfl)) (fun _ _ _ _ _ d d' hd hd' => av 5))) (congrArg (LD K) (flat_held _ _ _ _ heldE_d))) sqA_lst (by omega)) (fun H0 v H1 m ex r => ⟨m.trans ex, rN_back m r⟩)
  | L s =>
    obtain ⟨o, ho⟩ := hfit
    have hw : c.own.way = "looks" := by rw [ho]; rfl
    have hlen : (s.ts.flatMap fun t => (Tk3.L t).held).length < 60 := hlen
    refine as_asg (i := 3) (A := D K (.tuple (s.ts.map LT.d))) (ae_if (at_cmpC (ac_eqS (av 2) ae_str)) (fun z => by rw [hw] at z; exact (str_no z n_le).elim) (fun _ => ae_ixT (av 1) ae_int rfl)) ?_ nd
    exact as_retR (an_sorted (ns := s.ts.flatMap fun t => (Tk3.L t).held) bs bi (ae_eq (an_ae (an_lc2N (j := 4) (j1 := 5) [("taker", 4), ("thing", 5)] (s.ts.map LT.d) heldL (pi_tup (av 3)) wi_tup (fun _ _ _ _ _ d hd => by
        have hd' := hd
        obtain ⟨t, ht, rfl⟩ := List.mem_map.mp hd'
        rw [heldL_d]
        exact an_call Gh hr1 (.L t) (by have := len_held (h := fun t => (Tk3.L t).held) ht; show (Tk3.L t).held.length ≤ 1000; omega) (aa_cons (ae_dat (av 2) (congrArg PyData.str hw)) (aa_cons (av 4) aa_nil)))
      (by rw [flat_held _ _ _ _ heldL_d, List.length_map]; omega) nd (blkOk_by (N := n_kp) (sc := defScope s_kp) (by decide +kernel)) (by decide) (by decide) (by decide)
      (fun _ _ _ _ _ => pg_name (i := 4) nd rfl (Or.inl rfl)) (fun _ _ _ _ _ => pg_name (i := 5) nd rfl (Or.inl rfl)) (fun _ _ _ _ _ d d' hd hd' => av 5))) (congrArg (LD K) (flat_held _ _ _ _ heldL_d))) sqA_lst (by omega)) (fun H0 v H1 m ex r => ⟨m.trans ex, rN_back m r⟩)
  | S s =>
    obtain ⟨o, ho⟩ := hfit
    have hw : c.own.way = "still" := by rw [ho]; rfl
    have hlen : (s.ts.flatMap fun t => (Tk3.S t).held).length < 60 := hlen
    refine as_asg (i := 3) (A := D K (.tuple (s.ts.map ST.d))) (ae_if (at_cmpC (ac_eqS (av 2) ae_str)) (fun z => by rw [hw] at z; exact (str_no z n_se).elim) (fun _ => ae_ixT (av 1) ae_int rfl)) ?_ nd
    exact as_retR (an_sorted (ns := s.ts.flatMap fun t => (Tk3.S t).held) bs bi (ae_eq (an_ae (an_lc2N (j := 4) (j1 := 5) [("taker", 4), ("thing", 5)] (s.ts.map ST.d) heldSS (pi_tup (av 3)) wi_tup (fun _ _ _ _ _ d hd => by
        have hd' := hd
        obtain ⟨t, ht, rfl⟩ := List.mem_map.mp hd'
        rw [heldS_d]
        exact an_call Gh hr1 (.S t) (by have := len_held (h := fun t => (Tk3.S t).held) ht; show (Tk3.S t).held.length ≤ 1000; omega) (aa_cons (ae_dat (av 2) (congrArg PyData.str hw)) (aa_cons (av 4) aa_nil)))
      (by rw [flat_held _ _ _ _ heldS_d, List.length_map]; omega) nd (blkOk_by (N := n_kp) (sc := defScope s_kp) (by decide +kernel)) (by decide) (by decide) (by decide)
      (fun _ _ _ _ _ => pg_name (i := 4) nd rfl (Or.inl rfl)) (fun _ _ _ _ _ => pg_name (i := 5) nd rfl (Or.inl rfl)) (fun _ _ _ _ _ d d' hd hd' => av 5))) (congrArg (LD K) (flat_held _ _ _ _ heldS_d))) sqA_lst (by omega)) (fun H0 v H1 m ex r => ⟨m.trans ex, rN_back m r⟩)
end
end Ep
set_option maxHeartbeats 4000000
/-! worlds made; first_state, moves, has_form, is_possible, step -/
namespace Ep
open PySem PySem.Spec PyProof.Rows L2 Evl
/-- a new world of a state -/
def rW (K : PySem.W.Frag) (a : Adr) (c : Cfg) (s : Sta) : RR := fun H H' v => ∃ (H0 : Hp) (q : Wad), Ex H H0 ∧ v = V.ref q.p ∧ match s with
  | .E s => ∃ o, c.own = .E o ∧ ECore K a H0 q c o s none H'
  | .L s => ∃ o, c.own = .L o ∧ TCore K a a.LW H0 q c s.spot (s.rs.map LR.d) (s.ts.map LT.d) s.fr none H'
  | .S s => ∃ o, c.own = .S o ∧ TCore K a a.SW H0 q c s.spot (s.rs.map SR.d) (s.ts.map ST.d) s.fr none H'
  | .bad _ _ => False
theorem rW_back {K : PySem.W.Frag} {a : Adr} {c : Cfg} {s : Sta} {H H1 H' : Hp} {v : V} (e : Ex H H1) (h : rW K a c s H1 H' v) : rW K a c s H H' v := by
  obtain ⟨H0, q, h1, h2⟩ := h
  exact ⟨H0, q, e.trans h1, h2⟩
section
variable {P : Program} {w : World} {K : PySem.W.Frag} {mg : Str → Option Value} {base : Heap} {a : Adr}
theorem era_new {H : Hp} {q dx : Addr} {C : Addr} (h1 : H q = none) (h2 : H dx = none) (h3 : dx ≠ q) : Ex H (upd (upd H dx (.own q)) q (.ins C dx [])) := fun a o h => by
  rw [upd_ne (ne_of_none h h1), upd_ne (ne_of_none h h2)]
  exact h
/-! #### world_of -/
abbrev s_wo : Stmt := top 48
theorem sc_wo : FnScope ["setting", "state"] ["setting", "state"] (defScope s_wo) := ⟨rfl, rfl, rfl, by decide +kernel, rfl, by decide +kernel, by decide +kernel⟩
abbrev sp_wo (K : PySem.W.Frag) (a : Adr) : Sp := spG (ι := Cfg × Sta) (fun i => Fits i.1 i.2 ∧ i.2.isBad = false) (fun i => [aSet K a i.1, D K i.2.d]) fun i => rW K a i.1 i.2
theorem abl2 {H : Hp} {A B : Ab} {vs : List V} (h : AbL [A, B] H vs) : ∃ x y, vs = [x, y] ∧ A.P H x ∧ B.P H y := by
  cases h with
  | cons h1 r =>
    cases r with
    | cons h2 r =>
      cases r
      exact ⟨_, _, rfl, h1, h2⟩
theorem cL_of {c : Cfg} {o : LOwn} (h : c.own = .L o) : c = cL o (c.nr, c.nt, c.ns, c.nth) := by
  cases c
  cases h
  rfl
theorem cS_of {c : Cfg} {o : SOwn} (h : c.own = .S o) : c = cS o (c.nr, c.nt, c.ns, c.nth) := by
  cases c
  cases h
  rfl
theorem cE_of {c : Cfg} {o : EOwn} (h : c.own = .E o) : c = cE o (c.nr, c.nt, c.ns, c.nth) := by
  cases c
  cases h
  rfl
theorem ok_wo {f : Addr} {fd : FuncData} (F : Fun K "world_of" "world_of" s_wo f fd) (TS : TxC K a.SE fsSE) (Gw : GWay P w K mg base a) (GE : GMk P w K mg base 1 "EpochWorld" a.EW (sp_e_in K a)) (GL : GMk P w K mg base 1 "LookWorld" a.LW (sp_l_in K a)) (GS : GMk P w K mg base 1 "StillWorld" a.SW (sp_s_in K a)) :
    FnOk P w K mg base CX0 3 f fd ["setting", "state"] (sp_wo K a) := by
  refine fn_G F sc_wo (fun _ => rfl) fun cdv A outer s H E hr i hi => ?_
  obtain ⟨c, st⟩ := i
  have hfit : Fits c st := hi.1
  have hbad : st.isBad = false := hi.2
  cases st with
  | bad k th => cases hbad
  | E s =>
    obtain ⟨o, ho⟩ := hfit
    have hw : c.own.way = "epochs" := by rw [ho]; rfl
    refine as_if (at_cmpC (ac_eqS (ae_prop (Z := aS K c.own.way) (ae_fld (av 0) (fset_kept TS)) way_prop (Gw c.own) hr c.own trivial rfl) ae_str)) (fun _ => ?_) (fun z => by rw [hw] at z; exact (str_yes z).elim)
    refine as_retR (R := rW K a c (.E s)) (ar_make GE hr (aa_cons (av 0) (aa_cons (av 1) aa_nil)) (fun H1 vs q dx m hvs h1 h2 h3 => ?_) (fun _ _ _ _ e h => rW_back e h)) (fun H0 v H1 m ex r => ⟨m.trans ex, rW_back m r⟩)
    obtain ⟨x, y, rfl, hx, hy⟩ := abl2 hvs
    refine ⟨⟨H1, q, dx, c, o, s⟩, ⟨h1, ho⟩, ⟨era_new h1 h2 h3, upd_same⟩, .cons rfl (.cons hx (.cons hy .nil)), fun v H2 ⟨qw, e1, e2⟩ hv => ⟨hv.non_inv, e2.ex, H1, qw, Ex.refl _, by rw [e1], o, ho, e2⟩⟩
  | L s =>
    obtain ⟨o, ho⟩ := hfit
    have hw : c.own.way = "looks" := by rw [ho]; rfl
    refine as_if (at_cmpC (ac_eqS (ae_prop (Z := aS K c.own.way) (ae_fld (av 0) (fset_kept TS)) way_prop (Gw c.own) hr c.own trivial rfl) ae_str)) (fun z => by rw [hw] at z; exact (str_no z n_le).elim) (fun _ => as_end ?_)
    refine as_retR (R := rW K a c (.L s)) (ar_if (at_cmpC (ac_eqS (ae_prop (Z := aS K c.own.way) (ae_fld (av 0) (fset_kept TS)) way_prop (Gw c.own) hr c.own trivial rfl) ae_str)) (fun _ => ar_make GL hr (aa_cons (av 0) (aa_cons (av 1) aa_nil)) (fun H1 vs q dx m hvs h1 h2 h3 => ?_) (fun _ _ _ _ e h => rW_back e h)) (fun z => by rw [hw] at z; exact (str_yes z).elim) (fun _ _ _ _ e h => rW_back e h)) (fun H0 v H1 m ex r => ⟨m.trans ex, rW_back m r⟩)
    obtain ⟨x, y, rfl, hx, hy⟩ := abl2 hvs
    have ec := cL_of ho
    refine ⟨⟨H1, q, dx, o, (c.nr, c.nt, c.ns, c.nth), s⟩, h1, ⟨era_new h1 h2 h3, upd_same⟩, .cons rfl (.cons (by rw [← ec]; exact hx) (.cons hy .nil)), fun v H2 ⟨qw, e1, e2⟩ hv => ⟨hv.non_inv, e2.ex, H1, qw, Ex.refl _, by rw [e1], o, ho, by rw [ec]; exact e2⟩⟩
  | S s =>
    obtain ⟨o, ho⟩ := hfit
    have hw : c.own.way = "still" := by rw [ho]; rfl
    refine as_if (at_cmpC (ac_eqS (ae_prop (Z := aS K c.own.way) (ae_fld (av 0) (fset_kept TS)) way_prop (Gw c.own) hr c.own trivial rfl) ae_str)) (fun z => by rw [hw] at z; exact (str_no z n_se).elim) (fun _ => as_end ?_)
    refine as_retR (R := rW K a c (.S s)) (ar_if (at_cmpC (ac_eqS (ae_prop (Z := aS K c.own.way) (ae_fld (av 0) (fset_kept TS)) way_prop (Gw c.own) hr c.own trivial rfl) ae_str)) (fun z => by rw [hw] at z; exact (str_no z n_sl).elim) (fun _ => ar_make GS hr (aa_cons (av 0) (aa_cons (av 1) aa_nil)) (fun H1 vs q dx m hvs h1 h2 h3 => ?_) (fun _ _ _ _ e h => rW_back e h)) (fun _ _ _ _ e h => rW_back e h)) (fun H0 v H1 m ex r => ⟨m.trans ex, rW_back m r⟩)
    obtain ⟨x, y, rfl, hx, hy⟩ := abl2 hvs
    have ec := cS_of ho
    refine ⟨⟨H1, q, dx, o, (c.nr, c.nt, c.ns, c.nth), s⟩, h1, ⟨era_new h1 h2 h3, upd_same⟩, .cons rfl (.cons (by rw [← ec]; exact hx) (.cons hy .nil)), fun v H2 ⟨qw, e1, e2⟩ hv => ⟨hv.non_inv, e2.ex, H1, qw, Ex.refl _, by rw [e1], o, ho, by rw [ec]; exact e2⟩⟩
/-! #### first_state -/
abbrev s_f1 : Stmt := top 49
theorem sc_f1 : FnScope ["setting"] ["setting"] (defScope s_f1) := ⟨rfl, rfl, rfl, by decide +kernel, rfl, by decide +kernel, by decide +kernel⟩
def FewC (c : Cfg) : Prop := c.nr ≤ 1000 ∧ c.nt ≤ 1000 ∧ c.ns ≤ 1000
abbrev sp_f1 (K : PySem.W.Frag) (a : Adr) : Sp := spG (ι := Cfg) (fun c => FewC c ∧ EpOk c.own) (fun c => [aSet K a c]) fun c => rA (D K (firstS c).d)
theorem ok_f1 {f : Addr} {fd : FuncData} (F : Fun K "first_state" "first_state" s_f1 f fd) (TS : TxC K a.SE fsSE) (Gl : GFn P w K mg base 1 "look_at_setting" (sp_ls K a)) (Gw : GWay P w K mg base a) (GE : GFn P w K mg base 4 "first_epochs" (sp_fe K a)) (GL : GFn P w K mg base 4 "first_looks" (sp_fl K a)) (GS : GFn P w K mg base 4 "first_stills" (sp_fs K a)) :
    FnOk P w K mg base CX0 5 f fd ["setting"] (sp_f1 K a) := by
  refine fn_G F sc_f1 (fun _ => rfl) fun cdv A outer s H E hr c hi => ?_
  have hf : FewC c := hi.1
  have he : EpOk c.own := hi.2
  have hr1 : Room 1 _ := hr.mono (by decide)
  have hr2 : Room 2 _ := hr.mono (by decide)
  refine as_expr (ae_call Gl hr1 c trivial (aa_cons (av 0) aa_nil)) ?_
  cases ho : c.own with
  | E o =>
    have ec := cE_of ho
    have hw : c.own.way = "epochs" := by rw [ho]; rfl
    rw [ho] at he
    obtain ⟨e1, e2⟩ : 0 ≤ o.epochs ∧ o.epochs ≤ 100 := he
    refine as_if (at_cmpC (ac_eqS (ae_prop (Z := aS K c.own.way) (ae_fld (av 0) (fset_kept TS)) way_prop (Gw c.own) hr2 c.own trivial rfl) ae_str)) (fun _ => ?_) (fun z => by rw [hw] at z; exact (str_yes z).elim)
    refine as_ret (ae_call GE hr (o, (c.nr, c.nt, c.ns, c.nth)) ⟨e1, by show o.epochs ≤ 1000; omega, hf⟩ (aa_cons (ae_eq (av 0) (congrArg (aSet K a) ec)) aa_nil)) (fun v H1 m h => ⟨m, d_cl h ?_⟩)
    have : firstS c = .E (eFirst o c) := by unfold firstS; rw [ho]
    rw [this, ← ec]
    rfl
  | L o =>
    have ec := cL_of ho
    have hw : c.own.way = "looks" := by rw [ho]; rfl
    refine as_if (at_cmpC (ac_eqS (ae_prop (Z := aS K c.own.way) (ae_fld (av 0) (fset_kept TS)) way_prop (Gw c.own) hr2 c.own trivial rfl) ae_str)) (fun z => by rw [hw] at z; exact (str_no z n_le).elim) (fun _ => as_end ?_)
    refine as_ret (A := D K (lFirst (cL o (c.nr, c.nt, c.ns, c.nth))).d) (ae_if (at_cmpC (ac_eqS (ae_prop (Z := aS K c.own.way) (ae_fld (av 0) (fset_kept TS)) way_prop (Gw c.own) hr2 c.own trivial rfl) ae_str)) (fun _ => ae_call GL hr (o, (c.nr, c.nt, c.ns, c.nth)) hf (aa_cons (ae_eq (av 0) (congrArg (aSet K a) ec)) aa_nil)) (fun z => by rw [hw] at z; exact (str_yes z).elim)) (fun v H1 m h => ⟨m, d_cl h ?_⟩)
    have : firstS c = .L (lFirst c) := by unfold firstS; rw [ho]
    rw [this, ← ec]
    rfl
  | S o =>
    have ec := cS_of ho
    have hw : c.own.way = "still" := by rw [ho]; rfl
    refine as_if (at_cmpC (ac_eqS (ae_prop (Z := aS K c.own.way) (ae_fld (av 0) (fset_kept TS)) way_prop (Gw c.own) hr2 c.own trivial rfl) ae_str)) (fun z => by rw [hw] at z; exact (str_no z n_se).elim) (fun _ => as_end ?_)
    refine as_ret (A := D K (sFirst (cS o (c.nr, c.nt, c.ns, c.nth))).d) (ae_if (at_cmpC (ac_eqS (ae_prop (Z := aS K c.own.way) (ae_fld (av 0) (fset_kept TS)) way_prop (Gw c.own) hr2 c.own trivial rfl) ae_str)) (fun z => by rw [hw] at z; exact (str_no z n_sl).elim) (fun _ => ae_call GS hr (o, (c.nr, c.nt, c.ns, c.nth)) hf (aa_cons (ae_eq (av 0) (congrArg (aSet K a) ec)) aa_nil))) (fun v H1 m h => ⟨m, d_cl h ?_⟩)
    have : firstS c = .S (sFirst c) := by unfold firstS; rw [ho]
    rw [this, ← ec]
    rfl
/-! #### moves -/
abbrev s_mo : Stmt := top 50
theorem sc_mo : FnScope ["setting", "state"] ["setting", "state"] (defScope s_mo) := ⟨rfl, rfl, rfl, by decide +kernel, rfl, by decide +kernel, by decide +kernel⟩
/-- what moves asks of a state -/
def MvOk (c : Cfg) (s : Sta) : Prop := Fits c s ∧ (movesS c s).length ≤ 1000 ∧ match s with
  | .E s => WfE s
  | .S s => ∀ r ∈ s.ts, r.md ∈ stMds
  | _ => True
abbrev sp_mo (K : PySem.W.Frag) (a : Adr) : Sp := spG (ι := Cfg × Sta) (fun i => MvOk i.1 i.2) (fun i => [aSet K a i.1, D K i.2.d]) fun i => rA (LD K ((movesS i.1 i.2).map mvD))
theorem ok_mo {f : Addr} {fd : FuncData} (F : Fun K "moves" "moves" s_mo f fd) (Gl : GFn P w K mg base 1 "look_at_setting" (sp_ls K a)) (Gu : GFn P w K mg base 1 "is_unsafe" (sp_un K)) (Go : GFn P w K mg base 4 "world_of" (sp_wo K a))
    (ME : GMt P w K mg base 4 a.EW "moves" (sp_e_mv K a)) (ML : GMt P w K mg base 4 a.LW "moves" (sp_l_mv K a)) (MS : GMt P w K mg base 4 a.SW "moves" (sp_s_mv K a)) : FnOk P w K mg base CX0 5 f fd ["setting", "state"] (sp_mo K a) := by
  refine fn_G F sc_mo (fun _ => rfl) fun cdv A outer s H E hr i hi => ?_
  obtain ⟨c, st⟩ := i
  have hfit : Fits c st := hi.1
  have hlen : (movesS c st).length ≤ 1000 := hi.2.1
  have hwf := hi.2.2
  have hr1 : Room 1 _ := hr.mono (by decide)
  refine as_expr (ae_call Gl hr1 c trivial (aa_cons (av 0) aa_nil)) ?_
  cases st with
  | bad k th =>
    refine as_ret (A := LD K []) (ae_if (at_val (ae_call Gu hr1 (.bad k th) trivial (aa_cons (av 1) aa_nil))) (fun _ => ae_lst ad_nil) (fun z => by cases z)) (fun v H1 m h => ⟨m, ?_⟩)
    have e : movesS c (.bad k th) = [] := by unfold movesS; cases c.own <;> rfl
    show (LD K ((movesS c (.bad k th)).map mvD)).P H1 v
    rw [e]
    exact h
  | E s =>
    obtain ⟨o, ho⟩ := hfit
    have e : movesS c (.E s) = eMoves o c.nth s := by unfold movesS; rw [ho]
    rw [e] at hlen
    refine as_ret (A := LD K ((eMoves o c.nth s).map mvD)) (ae_if (at_val (ae_call Gu hr1 (.E s) trivial (aa_cons (av 1) aa_nil))) (fun z => by cases z) (fun _ => ae_meth0 (A := aEW K a c o s none) (weakE (ar_call (R := rW K a c (.E s)) Go hr (c, .E s) ⟨⟨o, ho⟩, rfl⟩ (aa_cons (av 0) (aa_cons (av 1) aa_nil)) (fun _ _ _ _ e h => rW_back e h)) fun σ H Q ⟨m, sl, q⟩ => ⟨m, sl, fun v H' ex r => q v H' ex (by
        obtain ⟨H0, qw, h1, h2, o', ho', h3⟩ := r
        rw [ho] at ho'
        cases ho'
        exact ⟨H0, qw, h2, h3⟩)⟩) (recv_ew not_fs.2.2.2.2.2.2.2.2.2.2.2.2.1) ME hr (c, o, s, none) ⟨hwf, hlen⟩ rfl)) (fun v H1 m h => ⟨m, ?_⟩)
    show (LD K ((movesS c (.E s)).map mvD)).P H1 v
    rw [e]
    exact h
  | L s =>
    obtain ⟨o, ho⟩ := hfit
    have ec := cL_of ho
    have e : movesS c (.L s) = lMoves o c.nth s := by unfold movesS; rw [ho]
    rw [e] at hlen
    refine as_ret (A := LD K ((lMoves o c.nth s).map mvD)) (ae_if (at_val (ae_call Gu hr1 (.L s) trivial (aa_cons (av 1) aa_nil))) (fun z => by cases z) (fun _ => ae_meth0 (A := aLW K a o (c.nr, c.nt, c.ns, c.nth) s none) (weakE (ar_call (R := rW K a c (.L s)) Go hr (c, .L s) ⟨⟨o, ho⟩, rfl⟩ (aa_cons (av 0) (aa_cons (av 1) aa_nil)) (fun _ _ _ _ e h => rW_back e h)) fun σ H Q ⟨m, sl, q⟩ => ⟨m, sl, fun v H' ex r => q v H' ex (by
        obtain ⟨H0, qw, h1, h2, o', ho', h3⟩ := r
        rw [ec] at h3
        exact ⟨H0, qw, h2, h3⟩)⟩) (recv_tw not_ft.2.2.2.2.2.2.2.2.1) ML hr (o, (c.nr, c.nt, c.ns, c.nth), s, none) hlen rfl)) (fun v H1 m h => ⟨m, ?_⟩)
    show (LD K ((movesS c (.L s)).map mvD)).P H1 v
    rw [e]
    exact h
  | S s =>
    obtain ⟨o, ho⟩ := hfit
    have ec := cS_of ho
    have e : movesS c (.S s) = sMoves o c.nth s := by unfold movesS; rw [ho]
    rw [e] at hlen
    refine as_ret (A := LD K ((sMoves o c.nth s).map mvD)) (ae_if (at_val (ae_call Gu hr1 (.S s) trivial (aa_cons (av 1) aa_nil))) (fun z => by cases z) (fun _ => ae_meth0 (A := aSW K a o (c.nr, c.nt, c.ns, c.nth) s none) (weakE (ar_call (R := rW K a c (.S s)) Go hr (c, .S s) ⟨⟨o, ho⟩, rfl⟩ (aa_cons (av 0) (aa_cons (av 1) aa_nil)) (fun _ _ _ _ e h => rW_back e h)) fun σ H Q ⟨m, sl, q⟩ => ⟨m, sl, fun v H' ex r => q v H' ex (by
        obtain ⟨H0, qw, h1, h2, o', ho', h3⟩ := r
        rw [ec] at h3
        exact ⟨H0, qw, h2, h3⟩)⟩) (recv_tw not_ft.2.2.2.2.2.2.2.2.1) MS hr (o, (c.nr, c.nt, c.ns, c.nth), s, none) ⟨hwf, hlen⟩ rfl)) (fun v H1 m h => ⟨m, ?_⟩)
    show (LD K ((movesS c (.S s)).map mvD)).P H1 v
    rw [e]
    exact h
end
end Ep
set_option maxHeartbeats 4000000
/-! has_form, is_possible, step -/
namespace Ep
open PySem PySem.Spec PyProof.Rows L2 Evl
theorem kb_tt : kitB "tuple" "tuple" = some true := by decide +kernel
theorem tyA_tup {K : PySem.W.Frag} {M : Mb} {ds : List PyData} : TyA K M (D K (.tuple ds)) (.type "tuple") := fun H v _ h => by
  obtain ⟨a, xs, rfl, h1, _⟩ := Dt.tuple_inv h
  rcases h1 with (h1 | ⟨o, h1⟩) | ⟨o, its, n, h1, h2, _⟩
  · exact .base (.tup h1)
  · exact .fTuple h1
  · exact .kTuple h1 h2
theorem eqv_mv (x y : Mv) : PyData.eqv (mvD x) (mvD y) = decide (x = y) := by
  obtain ⟨a, b, c⟩ := x
  obtain ⟨a', b', c'⟩ := y
  have e : PyData.eqv (mvD (a, b, c)) (mvD (a', b', c')) = ((a == a') && (((b : Int) == (b' : Int)) && ((c == c') && true))) := by simp only [mvD, PyData.eqv, PyData.eqvAll]
  rw [e]
  by_cases h1 : a = a'
  · by_cases h2 : b = b'
    · by_cases h3 : c = c'
      · subst h1 h2 h3
        simp
      · have q : (c == c') = false := beq_eq_false_iff_ne.mpr h3
        rw [q]
        simp [h3]
    · have q : ((b : Int) == (b' : Int)) = false := beq_eq_false_iff_ne.mpr (by omega)
      rw [q]
      simp [h2]
  · have q : (a == a') = false := beq_eq_false_iff_ne.mpr h1
    rw [q]
    simp [h1]
/-- texts that lay -/
def okM (m : Mv) : Prop := PyData.strOk m.1 = true ∧ PyData.strOk m.2.2 = true
theorem lay_mv {m : Mv} (h : okM m) : (mvD m).canLay0 = true := by simp [mvD, PyData.canLay0, PyData.canLayAll0, h.1, h.2]
theorem dep_mv (m : Mv) : (mvD m).depth = 1 := by simp [mvD, PyData.depth, PyData.depthAll]
theorem lay_mvs : ∀ {l : List Mv}, (∀ m ∈ l, okM m) → PyData.canLayAll0 (l.map mvD) = true ∧ PyData.depthAll (l.map mvD) ≤ 1
  | [], _ => by simp [PyData.canLayAll0, PyData.depthAll]
  | m :: l, h => by
    obtain ⟨h1, h2⟩ := lay_mvs (l := l) fun x hx => h x (List.mem_cons_of_mem _ hx)
    have h3 := lay_mv (h m (List.mem_cons_self ..))
    have h4 := dep_mv m
    refine ⟨by simp [PyData.canLayAll0, h1, h3], ?_⟩
    simp only [List.map_cons, PyData.depthAll]
    omega
theorem any_mv {l : List Mv} {m : Mv} (h : m ∈ l) : ((l.map mvD).any fun z => PyData.eqv z (mvD m)) = true := List.any_eq_true.mpr ⟨mvD m, List.mem_map.mpr ⟨m, h, rfl⟩, by rw [eqv_mv]; simp⟩
section
variable {P : Program} {w : World} {K : PySem.W.Frag} {mg : Str → Option Value} {base : Heap} {a : Adr}
theorem hu65 {A : Around} {k : Nat} (hr : Room k A) : A.units + 65 < cLine := by have := hr.un; omega
/-! #### has_form -/
abbrev s_hf : Stmt := top 52
theorem sc_hf : FnScope ["move"] ["move"] (defScope s_hf) := ⟨rfl, rfl, rfl, by decide +kernel, rfl, by decide +kernel, by decide +kernel⟩
abbrev sp_hf (K : PySem.W.Frag) : Sp := spG (ι := Mv) (fun _ => True) (fun m => [D K (mvD m)]) fun _ => rA (aB K true)
theorem ok_hf {f : Addr} {fd : FuncData} (F : Fun K "has_form" "has_form" s_hf f fd) (bi : mg "isinstance" = none) (bt : mg "tuple" = none) (bn : mg "int" = none) (bb : mg "bool" = none) (bs : mg "str" = none) (bl : mg "len" = none) : FnOk P w K mg base CX0 1 f fd ["move"] (sp_hf K) := by
  refine fn_G F sc_hf (fun _ => rfl) fun cdv A outer s H E hr m hi => ?_
  have t1 := tyA_D (K := K) (M := mE H) (d := .int (m.2.1 : Nat)) rfl
  refine as_if (aw_or (at_not (at_val (ae_isi bi (av 0) (tyA_tup (ds := [.str m.1, .int (m.2.1 : Nat), .str m.2.2])) (pe_bltn (v := .ty "tuple") (by rfl) bt (by decide +kernel) rfl) (.ty "tuple") (kit_ty kb_tt)))) (fun _ => (aw_or (at_cmpC (ac_neS (ae_len (ds := [.str m.1, .int (m.2.1 : Nat), .str m.2.2]) bl (av 0) sqA_tup) ae_int)) (fun _ => (aw_or (at_val (ae_isi bi (ae_ixT (d := .int (m.2.1 : Nat)) (av 0) ae_int rfl) t1 (pe_bltn (v := .ty "bool") (by rfl) bb (by decide +kernel) rfl) (.ty "bool") (kit_ty kb_ib)))
    (fun _ => (aw_or1 (at_not (at_val (ae_isi bi (ae_ixT (d := .int (m.2.1 : Nat)) (av 0) ae_int rfl) t1 (pe_bltn (v := .ty "int") (by rfl) bn (by decide +kernel) rfl) (.ty "int") (kit_ty kb_ii))))))))))).pt (fun c => by simp [eqD] at c) (fun _ => as_end ?_)
  exact as_ret (ae_and (ae_isi bi (ae_ixT (d := .str m.1) (av 0) ae_int rfl) (tyA_D (d := .str m.1) rfl) (pe_bltn (v := .ty "str") (by rfl) bs (by decide +kernel) rfl) (.ty "str") (kit_ty kb_ss)) (fun _ => (ae_one (ae_isi bi (ae_ixT (d := .str m.2.2) (av 0) ae_int rfl) (tyA_D (d := .str m.2.2) rfl) (pe_bltn (v := .ty "str") (by rfl) bs (by decide +kernel) rfl) (.ty "str") (kit_ty kb_ss))))) (fun v H1 m h => ⟨m, h⟩)
/-! #### is_possible -/
abbrev s_ip : Stmt := top 53
theorem sc_ip : FnScope ["setting", "state", "move"] ["setting", "state", "move"] (defScope s_ip) := ⟨rfl, rfl, rfl, by decide +kernel, rfl, by decide +kernel, by decide +kernel⟩
def Poss (c : Cfg) (s : Sta) (m : Mv) : Prop := MvOk c s ∧ (∀ x ∈ movesS c s, okM x) ∧ m ∈ movesS c s
abbrev sp_ip (K : PySem.W.Frag) (a : Adr) : Sp := spG (ι := Cfg × Sta × Mv) (fun i => Poss i.1 i.2.1 i.2.2) (fun i => [aSet K a i.1, D K i.2.1.d, D K (mvD i.2.2)]) fun _ => rA (aB K true)
theorem ok_ip {f : Addr} {fd : FuncData} (F : Fun K "is_possible" "is_possible" s_ip f fd) (Gf : GFn P w K mg base 5 "has_form" (sp_hf K)) (Gm : GFn P w K mg base 5 "moves_rules" (sp_mo K a)) : FnOk P w K mg base CX0 6 f fd ["setting", "state", "move"] (sp_ip K a) := by
  refine fn_G F sc_ip (fun _ => rfl) fun cdv A outer s H E hr i hi => ?_
  obtain ⟨c, st, m⟩ := i
  have h1 : MvOk c st := hi.1
  have h2 : ∀ x ∈ movesS c st, okM x := hi.2.1
  have h3 : m ∈ movesS c st := hi.2.2
  refine as_ret (ae_and (ae_call (A := aB K true) Gf hr m trivial (aa_cons (av 2) aa_nil)) (fun _ => (ae_one (ae_cmpC (ac_eq (ac_inDp (hu65 hr) (av 2) (ae_call (A := LD K ((movesS c st).map mvD)) Gm hr (c, st) h1 (aa_cons (av 0) (aa_cons (av 1) aa_nil))) (sh_of (lay_mv (h2 m h3)) (by rw [dep_mv]; decide)) (sh_of (by simp only [PyData.canLay0]; exact (lay_mvs h2).1) (by have := (lay_mvs h2).2; simp only [PyData.depth]; omega))) (any_mv h3)))))) (fun v H1 m h => ⟨m, h⟩)
/-! #### step -/
abbrev s_sp : Stmt := top 54
theorem sc_sp : FnScope ["setting", "state", "move", "world"] ["setting", "state", "move"] (defScope s_sp) := ⟨rfl, rfl, rfl, by decide +kernel, rfl, by decide +kernel, by decide +kernel⟩
/-- what do asks -/
def DoOk (c : Cfg) (s : Sta) (m : Mv) : Prop := match s with
  | .E s => ∀ o, c.own = .E o → EDoOk o s m
  | .L s => ∀ o, c.own = .L o → LDoOk o s m
  | .S s => ∀ o, c.own = .S o → SDoOk o s m
  | .bad _ _ => True
abbrev sp_sp (K : PySem.W.Frag) (a : Adr) : Sp := spG (ι := Cfg × Sta × Mv) (fun i => Poss i.1 i.2.1 i.2.2 ∧ DoOk i.1 i.2.1 i.2.2) (fun i => [aSet K a i.1, D K i.2.1.d, D K (mvD i.2.2)]) fun i => rA (D K (stepS i.1 i.2.1 i.2.2).d)
theorem ok_sp {f : Addr} {fd : FuncData} (F : Fun K "step" "step" s_sp f fd) (Gl : GFn P w K mg base 1 "look_at_setting" (sp_ls K a)) (Gp : GFn P w K mg base 6 "is_possible" (sp_ip K a)) (Go : GFn P w K mg base 4 "world_of" (sp_wo K a))
    (DE : GMt P w K mg base 4 a.EW "do" (sp_e_do K a)) (DL : GMt P w K mg base 4 a.LW "do" (sp_l_do K a)) (DS : GMt P w K mg base 4 a.SW "do" (sp_s_do K a))
    (SE : GMt P w K mg base 4 a.EW "state" (sp_e_st K a)) (SL : GMt P w K mg base 4 a.LW "state" (sp_l_st K a)) (SS : GMt P w K mg base 4 a.SW "state" (sp_s_st K a)) : FnOk P w K mg base CX0 7 f fd ["setting", "state", "move"] (sp_sp K a) := by
  refine fn_G F sc_sp (fun _ => rfl) fun cdv A outer s H E hr i hi => ?_
  obtain ⟨c, st, m⟩ := i
  have hp : Poss c st m := hi.1
  have hd : DoOk c st m := hi.2
  have hfit : Fits c st := hp.1.1
  have hr1 : Room 1 _ := hr.mono (by decide)
  have hr4 : Room 4 _ := hr.mono (by decide)
  have nd := sc_sp.nd
  refine as_expr (ae_call Gl hr1 c trivial (aa_cons (av 0) aa_nil)) ?_
  refine as_if (at_not (at_val (ae_call Gp hr (c, st, m) hp (aa_cons (av 0) (aa_cons (av 1) (aa_cons (av 2) aa_nil)))))) (fun z => by cases z) (fun _ => as_end ?_)
  have hbad : st.isBad = false := by
    cases st with
    | bad k th =>
      have e : movesS c (.bad k th) = [] := by unfold movesS; cases c.own <;> rfl
      have := hp.2.2
      rw [e] at this
      cases this
    | _ => rfl
  refine as_asgR (i := 3) (R := rW K a c st) (ar_call Go hr4 (c, st) ⟨hfit, hbad⟩ (aa_cons (av 0) (aa_cons (av 1) aa_nil)) (fun _ _ _ _ e h => rW_back e h)) (fun Ha Hb v m0 ex r => ?_) nd
  cases st with
  | bad k th => cases hbad
  | E s =>
    obtain ⟨H0, q, h1, rfl, o, ho, core⟩ := r
    refine as_preM (M' := mK Hb (mEW K a H0 q c o s none)) ?_ (fun H2 m2 => ⟨Tk.of m2, core.mono m2⟩)
    refine as_exprM (km_meth (M' := mEW K a H0 q c o (eDo o s m).1 (eDo o s m).2) (B := aN K) (ae_view (B := Rf q.p) (av 3) fun _ _ _ h => h) (recv_self not_fs.2.2.2.2.2.2.2.2.2.2.2.2.2.2) DE hr4 (aa_cons (av 2) aa_nil) (fun H1 v vs m1 hv hvs => ⟨(⟨H0, q, c, o, s⟩, m), hd o ho, m1, .cons hv hvs, fun v' H2 m2 r2 => ⟨m2, r2⟩⟩)) ?_
    refine as_ret (ae_meth0 (ae_self (ae_view (B := Rf q.p) (av 3) fun _ _ _ h => h)) (recv_ew not_fs.2.2.2.2.2.2.2.2.2.2.2.2.2.1) SE hr4 (c, o, (eDo o s m).1, (eDo o s m).2) trivial rfl) (fun v H1 m1 h => ⟨(m0.trans h1).trans m1.2.ex, d_cl h ?_⟩)
    have e : stepS c (.E s) m = outS .E (eDo o s m) := by unfold stepS; rw [ho]
    rw [e]
  | L s =>
    obtain ⟨H0, q, h1, rfl, o, ho, core⟩ := r
    have ec := cL_of ho
    rw [ec] at core
    refine as_preM (M' := mK Hb (mLW K a H0 q o (c.nr, c.nt, c.ns, c.nth) s none)) ?_ (fun H2 m2 => ⟨Tk.of m2, core.mono m2⟩)
    refine as_exprM (km_meth (M' := mLW K a H0 q o (c.nr, c.nt, c.ns, c.nth) (lDo o s m).1 (lDo o s m).2) (B := aN K) (ae_view (B := Rf q.p) (av 3) fun _ _ _ h => h) (recv_tself not_ft.2.2.2.2.2.2.2.2.2.2) DL hr4 (aa_cons (av 2) aa_nil) (fun H1 v vs m1 hv hvs => ⟨(⟨H0, q, o, (c.nr, c.nt, c.ns, c.nth), s⟩, m), hd o ho, m1, .cons hv hvs, fun v' H2 m2 r2 => ⟨m2, r2⟩⟩)) ?_
    refine as_ret (ae_meth0 (at_self (ae_view (B := Rf q.p) (av 3) fun _ _ _ h => h)) (recv_tw not_ft.2.2.2.2.2.2.2.2.2.1) SL hr4 (o, (c.nr, c.nt, c.ns, c.nth), (lDo o s m).1, (lDo o s m).2) trivial rfl) (fun v H1 m1 h => ⟨(m0.trans h1).trans m1.2.ex, d_cl h ?_⟩)
    have e : stepS c (.L s) m = outS .L (lDo o s m) := by unfold stepS; rw [ho]
    rw [e]
  | S s =>
    obtain ⟨H0, q, h1, rfl, o, ho, core⟩ := r
    have ec := cS_of ho
    rw [ec] at core
    refine as_preM (M' := mK Hb (mSW K a H0 q o (c.nr, c.nt, c.ns, c.nth) s none)) ?_ (fun H2 m2 => ⟨Tk.of m2, core.mono m2⟩)
    refine as_exprM (km_meth (M' := mSW K a H0 q o (c.nr, c.nt, c.ns, c.nth) (sDo o s m).1 (sDo o s m).2) (B := aN K) (ae_view (B := Rf q.p) (av 3) fun _ _ _ h => h) (recv_tself not_ft.2.2.2.2.2.2.2.2.2.2) DS hr4 (aa_cons (av 2) aa_nil) (fun H1 v vs m1 hv hvs => ⟨(⟨H0, q, o, (c.nr, c.nt, c.ns, c.nth), s⟩, m), hd o ho, m1, .cons hv hvs, fun v' H2 m2 r2 => ⟨m2, r2⟩⟩)) ?_
    refine as_ret (ae_meth0 (at_self (ae_view (B := Rf q.p) (av 3) fun _ _ _ h => h)) (recv_tw not_ft.2.2.2.2.2.2.2.2.2.1) SS hr4 (o, (c.nr, c.nt, c.ns, c.nth), (sDo o s m).1, (sDo o s m).2) trivial rfl) (fun v H1 m1 h => ⟨(m0.trans h1).trans m1.2.ex, d_cl h ?_⟩)
    have e : stepS c (.S s) m = outS .S (sDo o s m) := by unfold stepS; rw [ho]
    rw [e]
end
end Ep
set_option maxHeartbeats 4000000
/-! Bench: __init__, __call__, state, moves, last, place, unsafe -/
namespace Ep
open PySem PySem.Spec PyProof.Rows L2 Evl
/-- where a bench's parts stand: itself, its dict, the setting, what was done, the states -/
structure Bad5 where
  (p dx s ld ls : Addr)
section
variable (K : PySem.W.Frag) (a : Adr)
structure BCore (H0 : Hp) (q : Bad5) (c : Cfg) (dn : List Mv) (ss : List Sta) (H : Hp) : Prop where
  ex : Ex H0 H
  set : IsSet K a H0 q.s c
  np : H0 q.p = none
  nd : H0 q.ld = none
  ns : H0 q.ls = none
  ne : q.ld ≠ q.ls
  ins : H q.p = some (.ins a.BE q.dx [("setting", .ref q.s), ("done", .ref q.ld), ("states", .ref q.ls)])
  dns : LAt K H q.ld (dn.map mvD)
  sts : LAt K H q.ls (ss.map Sta.d)
variable {K} {a}
theorem BCore.mono {H0 H H' : Hp} {q : Bad5} {c : Cfg} {dn : List Mv} {ss : List Sta} (e : Ex H H') (h : BCore K a H0 q c dn ss H) : BCore K a H0 q c dn ss H' :=
  { h with ex := h.ex.trans e, ins := e _ _ h.ins, dns := h.dns.mono e, sts := h.sts.mono e }
variable (K) (a)
def mBN (H0 : Hp) (q : Bad5) (c : Cfg) (dn : List Mv) (ss : List Sta) : Mb := ⟨BCore K a H0 q c dn ss, fun e h => h.mono e⟩
def aBN (c : Cfg) (ss : List Sta) : Ab := ⟨fun H v => ∃ (H0 : Hp) (q : Bad5) (dn : List Mv), v = V.ref q.p ∧ BCore K a H0 q c dn ss H, fun e h => by
  obtain ⟨H0, q, dn, h1, h2⟩ := h
  exact ⟨H0, q, dn, h1, h2.mono e⟩, false, fun z => by cases z⟩
variable {K} {a}
variable {X : Cx} {M : Mb} {ρ : List Sl} {e : Expr} {c : Cfg} {dn : List Mv} {ss : List Sta} {H0 Hs : Hp} {q : Bad5}
def fsBN : List Str := ["setting", "done", "states"]
theorem bn_self (h : AE X (mK Hs (mBN K a H0 q c dn ss)) ρ e (Rf q.p)) : AE X (mK Hs (mBN K a H0 q c dn ss)) ρ e (aBN K a c ss) := ae_view h fun H v m e => ⟨H0, q, dn, e, m.2⟩
theorem fb_set (T : TxC K a.BE fsBN) : FldAt K M (aBN K a c ss) "setting" (aSet K a c) := fun H v _ h => by
  obtain ⟨H0, q, dn, h1, h⟩ := h
  exact ⟨_, _, _, _, _, h1, h.ins, T.cl, T.na _ (by decide), rfl, q.s, rfl, by
    have := (aSet K a c).mono (v := .ref q.s) h.ex ⟨q.s, rfl, h.set⟩
    obtain ⟨s, e1, e2⟩ := this
    cases e1
    exact e2⟩
theorem fb_sts (T : TxC K a.BE fsBN) : FldAt K M (aBN K a c ss) "states" (LD K (ss.map Sta.d)) := fun H v _ h => by
  obtain ⟨H0, q, dn, h1, h⟩ := h
  obtain ⟨vs, h3, h4⟩ := h.sts
  exact ⟨_, _, _, _, _, h1, h.ins, T.cl, T.na _ (by decide), rfl, _, vs, rfl, h3, h4⟩
theorem fb_stsR (T : TxC K a.BE fsBN) : FldAt K (mK Hs (mBN K a H0 q c dn ss)) (Rf q.p) "states" (Rf q.ls) := fun H v m h => ⟨_, _, _, _, _, h, m.2.ins, T.cl, T.na _ (by decide), rfl, rfl⟩
theorem fb_dnsR (T : TxC K a.BE fsBN) : FldAt K (mK Hs (mBN K a H0 q c dn ss)) (Rf q.p) "done" (Rf q.ld) := fun H v m h => ⟨_, _, _, _, _, h, m.2.ins, T.cl, T.na _ (by decide), rfl, rfl⟩
theorem recv_bn {m : Str} (hm : m ∉ fsBN) : Recv M a.BE m (aBN K a c ss) (aBN K a c ss) := fun H v _ h => by
  obtain ⟨H0, q, dn, h1, hc⟩ := id h
  exact ⟨q.p, q.dx, _, h1, hc.ins, lookup_none (l := fsBN) rfl hm, h⟩
theorem bn_prop : ∀ H v, M.P H → (aBN K a c ss).P H v → ∃ p dx fs, v = .ref p ∧ H p = some (.ins a.BE dx fs) ∧ (aBN K a c ss).P H v := fun H v _ h => by
  obtain ⟨H0, q, dn, h1, hc⟩ := id h
  exact ⟨q.p, q.dx, _, h1, hc.ins, h⟩
theorem at_last {ss : List Sta} {s : Sta} : atI ((ss ++ [s]).map Sta.d) (-1) = some s.d := by
  unfold atI ixN
  simp only [List.map_append, List.map_cons, List.map_nil, List.length_append, List.length_map, List.length_cons, List.length_nil]
  rw [if_neg (by decide), if_pos (by omega)]
  have e : (-1 + ((ss.length : Int) + 1)).toNat = ss.length := by omega
  have e2 : (((ss.length + (0 + 1) : Nat) : Int) + -1).toNat = ss.length := by omega
  first
    | (rw [Option.bind_some, e2]; simp)
    | (simp [e])
end
section
variable {P : Program} {w : World} {K : PySem.W.Frag} {mg : Str → Option Value} {base : Heap} {a : Adr}
/-! #### __init__ -/
abbrev s_b_in : Stmt := inClass (top 61) 0
theorem sc_b_in : FnScope ["self", "setting"] ["self", "setting"] (defScope s_b_in) := ⟨rfl, rfl, rfl, by decide +kernel, rfl, by decide +kernel, by decide +kernel⟩
structure BIn where
  (H0 : Hp) (p dx : Addr) (c : Cfg)
def mBany (K : PySem.W.Frag) (a : Adr) (H0 : Hp) (p : Addr) (c : Cfg) (ss : List Sta) : Mb := ⟨fun H => ∃ q : Bad5, q.p = p ∧ BCore K a H0 q c [] ss H, fun e ⟨q, h1, h2⟩ => ⟨q, h1, h2.mono e⟩⟩
abbrev sp_b_in (K : PySem.W.Frag) (a : Adr) : Sp := spC (ι := BIn) (fun i => i.H0 i.p = none ∧ FewC i.c ∧ EpOk i.c.own) (fun i => [Rf i.p, At i.H0 (aSet K a i.c)]) (fun i => mNew i.H0 i.p a.BE i.dx []) (fun i => mBany K a i.H0 i.p i.c [firstS i.c]) (fun _ => aN K)
theorem ok_b_in {f : Addr} {fd : FuncData} (F : Fun K "__init__" "Bench.__init__" s_b_in f fd) (T : TxC K a.BE fsBN) (Gl : GFn P w K mg base 1 "look_at_setting" (sp_ls K a)) (Gf : GFn P w K mg base 5 "first_state" (sp_f1 K a)) : FnOk P w K mg base CX0 6 f fd ["self", "setting"] (sp_b_in K a) := by
  refine fn_C F sc_b_in (fun _ => rfl) fun cdv A outer st0 H E hr i hi => ?_
  obtain ⟨H0, p, dx, c⟩ := i
  have hp0 : H0 p = none := hi.1
  have hfe : FewC c ∧ EpOk c.own := hi.2
  have hr1 : Room 1 _ := hr.mono (by decide)
  refine as_at 1 (A := At H0 (aSet K a c)) rfl fun Hb vS m hS => ?_
  have hS : (aSet K a c).P H0 vS := hS
  have b1 : Ex H0 Hb := m.1
  have b2 : Hb p = some (.ins a.BE dx []) := m.2
  obtain ⟨sS, rfl, hset⟩ := id hS
  refine as_expr (ae_call Gl hr1 c trivial (aa_cons (ae_at (A := aSet K a c) (av 1) (fun H2 m2 => b1.trans m2) hS) aa_nil)) ?_
  refine as_ini b2 T.cl (T.na _ (by decide)) (by decide) (av 0) (av 1) fun G0 G1 v1 e1 e2 r1 => ?_
  cases (show v1 = _ from r1)
  have c1 : Ex H0 (upd G1 p (.ins a.BE dx (putF "setting" (.ref sS) []))) := ex_ini (b1.trans (e1.trans e2)) hp0
  refine as_ini upd_same T.cl (T.na _ (by decide)) (by show 1 < 1000; decide) (av 0) (an_lst (ds := []) ad_nil) fun G2 G3 v2 e3 e4 r2 => ?_
  obtain ⟨ld, rfl, n1, L1⟩ := rn_new r2
  have p3 := e4 _ _ (e3 _ _ (upd_same (H := G1)))
  have k1 : ld ≠ p := fun z => by
    have q := e3 _ _ (upd_same (H := G1))
    rw [← z, n1] at q
    cases q
  have z1 : H0 ld = none := fresh_back (c1.trans e3) n1
  have c2 := ex_ini (o := .ins a.BE dx (putF "done" (.ref ld) (putF "setting" (.ref sS) []))) (c1.trans (e3.trans e4)) hp0
  have L1 := L1.updI (u := .ins a.BE dx (putF "done" (.ref ld) (putF "setting" (.ref sS) []))) p3
  refine as_ini upd_same T.cl (T.na _ (by decide)) (by show 2 < 1000; decide) (av 0) (an_lst (ds := [(firstS c).d]) (ad_cons (ae_call Gf hr c hfe (aa_cons (ae_at (A := aSet K a c) (av 1) (fun H2 m2 => c2.trans m2) hS) aa_nil)) ad_nil)) fun G4 G5 v5 e5 e6 r5 => ?_
  obtain ⟨ls, rfl, n2, L2⟩ := rn_new r5
  have p5 := e6 _ _ (e5 _ _ (upd_same (H := G3)))
  have z2 : H0 ls = none := fresh_back (c2.trans e5) n2
  have k2 : ld ≠ ls := fun z => by
    obtain ⟨_, q, _⟩ := L1.mono e5
    rw [z, n2] at q
    cases q
  refine as_done fun H m => ?_
  have L1 := ((L1.mono (e5.trans e6)).updI p5).mono m
  have L2 := (L2.updI p5).mono m
  exact ⟨⟨p, dx, sS, ld, ls⟩, rfl, { ex := (ex_ini (c2.trans (e5.trans e6)) hp0).trans m, set := hset, np := hp0, nd := z1, ns := z2, ne := k2, ins := m _ _ upd_same, dns := L1, sts := L2 }⟩
/-! #### __call__ -/
abbrev s_b_ca : Stmt := inClass (top 61) 1
theorem sc_b_ca : FnScope ["self", "move", "later"] ["self", "move"] (defScope s_b_ca) := ⟨rfl, rfl, rfl, by decide +kernel, rfl, by decide +kernel, by decide +kernel⟩
structure BIx where
  (H0 : Hp) (q : Bad5) (c : Cfg) (dn : List Mv) (ss : List Sta) (s : Sta) (m : Mv)
abbrev sp_b_ca (K : PySem.W.Frag) (a : Adr) : Sp := spK (ι := BIx) (fun i => Poss i.c i.s i.m ∧ DoOk i.c i.s i.m ∧ i.dn.length < 1000 ∧ i.ss.length < 999) (fun i => [Rf i.q.p, D K (mvD i.m)]) (fun i => mBN K a i.H0 i.q i.c i.dn (i.ss ++ [i.s])) (fun i => mBN K a i.H0 i.q i.c (i.dn ++ [i.m]) ((i.ss ++ [i.s]) ++ [stepS i.c i.s i.m])) fun i => D K (stepS i.c i.s i.m).d
theorem LAt.app {H : Hp} {l : Addr} {ds : List PyData} {zs : List V} {v : V} {d : PyData} (h : LAt K H l ds) (hl : H l = some (.lst zs)) (hv : Dt K H v d) : LAt K (L2.upd H l (.lst (zs ++ [v]))) l (ds ++ [d]) := by
  obtain ⟨vs, h1, h2⟩ := h
  rw [hl] at h1
  cases h1
  exact ⟨_, upd_same, (h2.append (.cons hv .nil)).mono (Tk.lst hl).tex⟩
theorem LAt.lst {H : Hp} {l : Addr} {ds : List PyData} {zs : List V} (h : LAt K H l ds) (hl : H l = some (.lst zs)) : zs.length = ds.length := by
  obtain ⟨vs, h1, h2⟩ := h
  rw [hl] at h1
  cases h1
  exact h2.length
theorem ok_b_ca {f : Addr} {fd : FuncData} (F : Fun K "__call__" "Bench.__call__" s_b_ca f fd) (T : TxC K a.BE fsBN) (Gp : GFn P w K mg base 6 "is_possible" (sp_ip K a)) (Gs : GFn P w K mg base 7 "step" (sp_sp K a)) : FnOk P w K mg base CX0 8 f fd ["self", "move"] (sp_b_ca K a) := by
  refine fn_K F sc_b_ca (fun _ => rfl) fun cdv A outer st0 H E hr i hi => ?_
  obtain ⟨H0, q, c, dn, ss, s, mv⟩ := i
  have hp : Poss c s mv := hi.1
  have hd : DoOk c s mv := hi.2.1
  have hl1 : dn.length < 1000 := hi.2.2.1
  have hl2 : ss.length < 999 := hi.2.2.2
  have hr6 : Room 6 _ := hr.mono (by decide)
  refine as_if (at_not (at_val (ae_call Gp hr6 (c, s, mv) hp (aa_cons (ae_fld (bn_self (av 0)) (fb_set T)) (aa_cons (ae_ixL (ae_fld (bn_self (av 0)) (fb_sts T)) (ae_neg ae_int) at_last) (aa_cons (av 1) aa_nil)))))) (fun z => by cases z) (fun _ => as_end ?_)
  refine as_asg (i := 2) (ae_call Gs hr (c, s, mv) ⟨hp, hd⟩ (aa_cons (ae_fld (bn_self (av 0)) (fb_set T)) (aa_cons (ae_ixL (ae_fld (bn_self (av 0)) (fb_sts T)) (ae_neg ae_int) at_last) (aa_cons (av 1) aa_nil)))) ?_ sc_b_ca.nd
  refine as_exprM (km_append (M' := mBN K a H0 q c (dn ++ [mv]) (ss ++ [s])) (ae_fld (av 0) (fb_dnsR T)) (av 1) (fun H m => by obtain ⟨vs, h1, _⟩ := m.dns; exact ⟨vs, h1⟩) (fun H v xs m hv hx => ?_)) ?_
  · have m : BCore K a H0 q c dn (ss ++ [s]) H := m
    refine ⟨by have := m.dns.lst hx; simp at this; omega, ?_⟩
    exact { ex := Ex.mut m.ex m.nd, set := m.set, np := m.np, nd := m.nd, ns := m.ns, ne := m.ne, ins := by rw [upd_ne (ne_of m.ins hx (by intro z; cases z))]; exact m.ins, dns := by rw [List.map_append]; exact m.dns.app hx hv, sts := m.sts.upd (Ne.symm m.ne) hx }
  refine as_exprM (km_append (M' := mBN K a H0 q c (dn ++ [mv]) ((ss ++ [s]) ++ [stepS c s mv])) (ae_fld (av 0) (fb_stsR T)) (av 2) (fun H m => by obtain ⟨vs, h1, _⟩ := m.sts; exact ⟨vs, h1⟩) (fun H v xs m hv hx => ?_)) ?_
  · have m : BCore K a H0 q c (dn ++ [mv]) (ss ++ [s]) H := m
    refine ⟨by have := m.sts.lst hx; simp at this; omega, ?_⟩
    exact { ex := Ex.mut m.ex m.ns, set := m.set, np := m.np, nd := m.nd, ns := m.ns, ne := m.ne, ins := by rw [upd_ne (ne_of m.ins hx (by intro z; cases z))]; exact m.ins, dns := m.dns.upd m.ne hx, sts := by rw [List.map_append (l₁ := ss ++ [s])]; exact m.sts.app hx hv }
  exact as_retC (am_of (av 2)) fun H v m h => ⟨m, h⟩
/-! #### state, moves, last, place, unsafe -/
abbrev s_b_st : Stmt := inClass (top 61) 4
theorem sc_b_st : FnScope ["self"] ["self"] (defScope s_b_st) := ⟨rfl, rfl, rfl, by decide +kernel, rfl, by decide +kernel, by decide +kernel⟩
abbrev sp_b_st (K : PySem.W.Frag) (a : Adr) : Sp := spG (ι := Cfg × List Sta × Sta) (fun _ => True) (fun i => [aBN K a i.1 (i.2.1 ++ [i.2.2])]) fun i => rA (D K i.2.2.d)
theorem ok_b_st {f : Addr} {fd : FuncData} (F : Fun K "state" "Bench.state" s_b_st f fd) (T : TxC K a.BE fsBN) : FnOk P w K mg base CX0 1 f fd ["self"] (sp_b_st K a) := by
  refine fn_G F sc_b_st (fun _ => rfl) fun cdv A outer s H E hr i hi => ?_
  exact as_ret (ae_ixL (ae_fld (av 0) (fb_sts T)) (ae_neg ae_int) at_last) (fun v H1 m h => ⟨m, h⟩)
abbrev s_b_mv : Stmt := inClass (top 61) 5
theorem sc_b_mv : FnScope ["self"] ["self"] (defScope s_b_mv) := ⟨rfl, rfl, rfl, by decide +kernel, rfl, by decide +kernel, by decide +kernel⟩
abbrev sp_b_mv (K : PySem.W.Frag) (a : Adr) : Sp := spG (ι := Cfg × List Sta × Sta) (fun i => MvOk i.1 i.2.2) (fun i => [aBN K a i.1 (i.2.1 ++ [i.2.2])]) fun i => rA (LD K ((movesS i.1 i.2.2).map mvD))
theorem ok_b_mv {f : Addr} {fd : FuncData} (F : Fun K "moves" "Bench.moves" s_b_mv f fd) (T : TxC K a.BE fsBN) (Gm : GFn P w K mg base 5 "moves_rules" (sp_mo K a)) : FnOk P w K mg base CX0 6 f fd ["self"] (sp_b_mv K a) := by
  refine fn_G F sc_b_mv (fun _ => rfl) fun cdv A outer s H E hr i hi => ?_
  obtain ⟨c, ss, s⟩ := i
  exact as_ret (ae_call Gm hr (c, s) hi (aa_cons (ae_fld (av 0) (fb_set T)) (aa_cons (ae_ixL (ae_fld (av 0) (fb_sts T)) (ae_neg ae_int) at_last) aa_nil))) (fun v H1 m h => ⟨m, h⟩)
abbrev s_b_la : Stmt := inClass (top 61) 8
theorem sc_b_la : FnScope ["self"] ["self"] (defScope s_b_la) := ⟨rfl, rfl, rfl, by decide +kernel, rfl, by decide +kernel, by decide +kernel⟩
abbrev sp_b_la (K : PySem.W.Frag) (a : Adr) : Sp := spG (ι := Cfg × List Sta × Sta) (fun i => i.2.2.isBad = false) (fun i => [aBN K a i.1 (i.2.1 ++ [i.2.2])]) fun i => rA (D K i.2.2.d)
theorem ok_b_la {f : Addr} {fd : FuncData} (F : Fun K "last" "Bench.last" s_b_la f fd) (T : TxC K a.BE fsBN) (Gu : GFn P w K mg base 1 "is_unsafe" (sp_un K)) : FnOk P w K mg base CX0 2 f fd ["self"] (sp_b_la K a) := by
  refine fn_G F sc_b_la (fun _ => rfl) fun cdv A outer s H E hr i hi => ?_
  obtain ⟨c, ss, s⟩ := i
  have hb : s.isBad = false := hi
  exact as_ret (ae_if (at_val (ae_call Gu hr s trivial (aa_cons (ae_ixL (ae_fld (av 0) (fb_sts T)) (ae_neg ae_int) at_last) aa_nil))) (fun z => by rw [hb] at z; cases z) (fun _ => ae_ixL (ae_fld (av 0) (fb_sts T)) (ae_neg ae_int) at_last)) (fun v H1 m h => ⟨m, h⟩)
abbrev s_b_pl : Stmt := inClass (top 61) 9
theorem sc_b_pl : FnScope ["self"] ["self"] (defScope s_b_pl) := ⟨rfl, rfl, rfl, by decide +kernel, rfl, by decide +kernel, by decide +kernel⟩
abbrev sp_b_pl (K : PySem.W.Frag) (a : Adr) : Sp := spG (ι := Cfg × List Sta × Sta) (fun i => Fits i.1 i.2.2 ∧ i.2.2.isBad = false) (fun i => [aBN K a i.1 (i.2.1 ++ [i.2.2])]) fun i => rA (aI K (spotS i.2.2))
theorem ok_b_pl {f : Addr} {fd : FuncData} (F : Fun K "place" "Bench.place" s_b_pl f fd) (T : TxC K a.BE fsBN) (TS : TxC K a.SE fsSE) (Gw : GWay P w K mg base a) (Gla : GMt P w K mg base 2 a.BE "last" (sp_b_la K a)) : FnOk P w K mg base CX0 3 f fd ["self"] (sp_b_pl K a) := by
  refine fn_G F sc_b_pl (fun _ => rfl) fun cdv A outer s H E hr i hi => ?_
  obtain ⟨c, ss, s⟩ := i
  have hfit : Fits c s := hi.1
  have hb : s.isBad = false := hi.2
  have nl : (Str.ofString "last") ∉ fsBN := by decide
  cases s with
  | bad k th => cases hb
  | E s =>
    obtain ⟨o, ho⟩ := hfit
    have hw : c.own.way = "epochs" := by rw [ho]; rfl
    exact as_ret (ae_if (at_cmpC (ac_eqS (ae_prop (Z := aS K c.own.way) (ae_fld (ae_fld (av 0) (fb_set T)) (fset_kept TS)) way_prop (Gw c.own) hr c.own trivial rfl) ae_str)) (fun _ => ae_ixT (d := .int s.spot) (ae_meth0 (Z := D K (Sta.E s).d) (av 0) (recv_bn nl) Gla hr (c, ss, Sta.E s) hb rfl) ae_int rfl) (fun z => by rw [hw] at z; exact (str_yes z).elim)) (fun v H1 m h => ⟨m, h⟩)
  | L s =>
    obtain ⟨o, ho⟩ := hfit
    have hw : c.own.way = "looks" := by rw [ho]; rfl
    exact as_ret (ae_if (at_cmpC (ac_eqS (ae_prop (Z := aS K c.own.way) (ae_fld (ae_fld (av 0) (fb_set T)) (fset_kept TS)) way_prop (Gw c.own) hr c.own trivial rfl) ae_str)) (fun z => by rw [hw] at z; exact (str_no z n_le).elim) (fun _ => ae_ixT (d := .int s.spot) (ae_meth0 (Z := D K (Sta.L s).d) (av 0) (recv_bn nl) Gla hr (c, ss, Sta.L s) hb rfl) ae_int rfl)) (fun v H1 m h => ⟨m, h⟩)
  | S s =>
    obtain ⟨o, ho⟩ := hfit
    have hw : c.own.way = "still" := by rw [ho]; rfl
    exact as_ret (ae_if (at_cmpC (ac_eqS (ae_prop (Z := aS K c.own.way) (ae_fld (ae_fld (av 0) (fb_set T)) (fset_kept TS)) way_prop (Gw c.own) hr c.own trivial rfl) ae_str)) (fun z => by rw [hw] at z; exact (str_no z n_se).elim) (fun _ => ae_ixT (d := .int s.spot) (ae_meth0 (Z := D K (Sta.S s).d) (av 0) (recv_bn nl) Gla hr (c, ss, Sta.S s) hb rfl) ae_int rfl)) (fun v H1 m h => ⟨m, h⟩)
abbrev s_b_un : Stmt := inClass (top 61) 11
theorem sc_b_un : FnScope ["self", "state"] ["self"] (defScope s_b_un) := ⟨rfl, rfl, rfl, by decide +kernel, rfl, by decide +kernel, by decide +kernel⟩
def unsD : Sta → PyData
  | .bad k th => .tuple [.int (k : Nat), oI th]
  | _ => .none
abbrev sp_b_un (K : PySem.W.Frag) (a : Adr) : Sp := spG (ι := Cfg × List Sta × Sta) (fun _ => True) (fun i => [aBN K a i.1 (i.2.1 ++ [i.2.2])]) fun i => rA (D K (unsD i.2.2))
theorem ok_b_un {f : Addr} {fd : FuncData} (F : Fun K "unsafe" "Bench.unsafe" s_b_un f fd) (T : TxC K a.BE fsBN) (Gu : GFn P w K mg base 1 "is_unsafe" (sp_un K)) : FnOk P w K mg base CX0 2 f fd ["self"] (sp_b_un K a) := by
  refine fn_G F sc_b_un (fun _ => rfl) fun cdv A outer s H E hr i hi => ?_
  obtain ⟨c, ss, s⟩ := i
  refine as_asg (i := 1) (ae_ixL (ae_fld (av 0) (fb_sts T)) (ae_neg ae_int) (at_last (s := s))) ?_ sc_b_un.nd
  cases s with
  | bad k th =>
    exact as_ret (ae_if (at_val (ae_call Gu hr (.bad k th) trivial (aa_cons (av 1) aa_nil))) (fun _ => ae_tup (ad_cons (ae_ixT (d := .int (k : Nat)) (av 1) ae_int rfl) (ad_cons (ae_ixT (d := oI th) (av 1) ae_int rfl) ad_nil))) (fun z => by cases z)) (fun v H1 m h => ⟨m, h⟩)
  | E s => exact as_ret (ae_if (at_val (ae_call Gu hr (.E s) trivial (aa_cons (av 1) aa_nil))) (fun z => by cases z) (fun _ => ae_non)) (fun v H1 m h => ⟨m, h⟩)
  | L s => exact as_ret (ae_if (at_val (ae_call Gu hr (.L s) trivial (aa_cons (av 1) aa_nil))) (fun z => by cases z) (fun _ => ae_non)) (fun v H1 m h => ⟨m, h⟩)
  | S s => exact as_ret (ae_if (at_val (ae_call Gu hr (.S s) trivial (aa_cons (av 1) aa_nil))) (fun z => by cases z) (fun _ => ae_non)) (fun v H1 m h => ⟨m, h⟩)
end
end Ep
set_option maxHeartbeats 4000000
/-! a mapping merged into a dict: dict(d), {**d, k: v}, f(**d) -/
namespace Ep
open PySem PySem.Spec PyProof.Rows L2
section
variable {prog : Program} {w : World} {K : Type} [DecidableEq K] {knd : KeyKind prog w K} {A : Around} {E : Value → Shared → Prop} {s : Shared}
theorem dictPut_pairs {d : Addr} {kvs : List (K × Value)} {k : K} {key v : Value} {Q : Unit → Shared → Prop} (hkey : knd.is k key = true) (hm : s.heap.DictOf knd d kvs)
    (hQ : ∀ h', h'.DictOf knd d (stored kvs k v) → Heap.SameBut d s.heap h' → Q () { s with heap := h' }) (hsz : kvs.length ≤ sizeLine) :
    wpAny (model prog w) A (dictPut d (knd.hash k) key v) Q E s := by
  obtain ⟨o, es, ep, ho, hc, hd, hk, hp, hn⟩ := hm
  have hes : es.size ≤ sizeLine := by have e1 := hp.length; have e2 : es.toList.length = es.size := by simp
                                      omega
  unfold dictPut
  refine wpAny_bind (wpAny_dictFind_of hkey ho hd hk ?_)
  have hidx : (es.findIdx? fun e => knd.is k e.key) = kvs.findIdx? fun kv => decide (kv.1 = k) := by
    rw [← hp.findIdx k]; obtain ⟨l⟩ := es; simp
  cases hi : es.findIdx? fun e => knd.is k e.key with
  | some i =>
    refine wpAny_updateDict ho hd (hQ _ ⟨_, _, ep, Heap.get?_update_self _ ho (Obj.isFreed_of_dict (Obj.data_mapDict hd _)),
      hc.mapDict _, Obj.data_mapDict hd _, hk.modify _ _, ?_, ?_⟩ (Heap.SameBut.update ..))
    · rw [stored, if_pos (any_of_findIdx_some (hidx ▸ hi))]
      have hl : (es.toList.findIdx? fun e => knd.is k e.key) = some i := by rw [← hi]; obtain ⟨l⟩ := es; simp
      have := hp.modify hn hl v
      obtain ⟨l⟩ := es
      simpa using this
    · rw [stored, if_pos (any_of_findIdx_some (hidx ▸ hi)), keys_map_store]; exact hn
  | none =>
    have hnot : k ∉ kvs.map (·.1) := not_mem_of_findIdx_none (hidx ▸ hi)
    have hany : ¬ (kvs.any fun kv => decide (kv.1 = k)) = true := by
      rw [List.any_eq_true]; rintro ⟨kv, hkv, he⟩
      exact hnot (List.mem_map.mpr ⟨kv, hkv, of_decide_eq_true he⟩)
    refine wpAny_updateDictKeys (hz := hes) ho hd (hQ _ ⟨_, _, ep + 1, Heap.get?_update_self _ ho (Obj.isFreed_of_dict (Obj.data_mapDictKeys hd _)),
      hc.mapDictKeys _, Obj.data_mapDictKeys hd _, hk.push hkey _, ?_, ?_⟩ (Heap.SameBut.update ..))
    · rw [stored, if_neg hany]
      have := hp.append hkey (knd.hash k) v
      obtain ⟨l⟩ := es
      simpa using this
    · rw [stored, if_neg hany, List.map_append, List.nodup_append]
      refine ⟨hn, by simp, ?_⟩
      intro a ha b hb
      simp only [List.map_cons, List.map_nil, List.mem_singleton] at hb
      subst hb
      exact fun e => hnot (e ▸ ha)
theorem Ep5_notin {K' : Type} [DecidableEq K'] {kvs more : List (K' × Value)} {x : Nat} {k : K'} {v : Value} (hno : (more.map (·.1)).Nodup) (hkv : more[x]? = some (k, v)) (hn : k ∉ kvs.map (·.1)) : ∀ p ∈ merged kvs (more.take x), p.1 ≠ k := by
  have hk : ∀ (acc l : List (K' × Value)), k ∉ acc.map (·.1) → k ∉ l.map (·.1) → k ∉ (merged acc l).map (·.1) := by
    intro acc l
    induction l generalizing acc with
    | nil => intro h _; exact h
    | cons kv l ih =>
      intro h1 h2
      rw [List.map_cons, List.mem_cons, not_or] at h2
      have e : merged acc (kv :: l) = merged (stored acc kv.1 kv.2) l := rfl
      rw [e]
      refine ih _ ?_ h2.2
      unfold stored
      split
      · rw [keys_map_store]
        exact h1
      · rw [List.map_append, List.mem_append, not_or]
        refine ⟨h1, ?_⟩
        simp only [List.map_cons, List.map_nil, List.mem_singleton]
        exact h2.1
  intro p hp e
  refine hk kvs (more.take x) hn (fun hm => ?_) (List.mem_map.mpr ⟨p, hp, e⟩)
  obtain ⟨q, hq, eq⟩ := List.mem_map.mp hm
  obtain ⟨j, hj⟩ := List.mem_iff_getElem?.mp hq
  rw [List.getElem?_take] at hj
  split at hj
  · rename_i hjx
    have a1 : (more.map (·.1))[j]? = some k := by rw [List.getElem?_map, hj, Option.map_some, eq]
    have a2 : (more.map (·.1))[x]? = some k := by rw [List.getElem?_map, hkv]; rfl
    obtain ⟨b1, c1⟩ := List.getElem?_eq_some_iff.mp a1
    obtain ⟨b2, c2⟩ := List.getElem?_eq_some_iff.mp a2
    have := (List.getElem_inj hno).mp (c1.trans c2.symm)
    omega
  · cases hj
theorem not_ref_key {v : Value} {k : K} (h : knd.is k v = true) : ∀ a, v ≠ .ref a := by
  rintro a rfl
  have := knd.byValue k _ h
  cases this
theorem mergeMap {d o : Addr} {kvs more : List (K × Value)} {unique : Bool} {Q : Unit → Shared → Prop} (hdo : d ≠ o) (hoS : (o == sysModules) = false)
    (hd : s.heap.DictOf knd d kvs) (ho : s.heap.DictOf knd o more) (hu : unique = true → ∀ kv ∈ more, kv.1 ∉ kvs.map (·.1))
    (hQ : ∀ h', h'.DictOf knd d (merged kvs more) → Heap.SameBut d s.heap h' → Q () { s with heap := h' })
    (hsz : kvs.length + more.length ≤ sizeLine) :
    wpAny (model prog w) A (mergeMapping d (.ref o) unique) Q E s := by
  obtain ⟨od, esd, epd, hod, hcd, hdd, hkd, hpd, hnd⟩ := id hd
  obtain ⟨oo, eso, epo, hoo, hco, hdo', hko, hpo, hno⟩ := id ho
  have hlen : more.length = eso.size := by rw [← hpo.length]; simp
  have loop : wpAny (model prog w) A (do
      let l ← dictEntries o
      let epoch ← dictEpoch o
      forIn (List.range l.size) PUnit.unit fun i (_ : PUnit) => (do
          let l' ← dictEntries o
          match l'[i]? with
            | some e => do
              holding [e.key, e.val]
                (if unique = true then do
                  let r ← dictFind d e.key e.hash
                  if r.isSome = true then do
                      rule "dict.merge.duplicate-key"
                      let x ← newExc (Value.type "KeyError") [e.key]
                      let _ ← (raiseNew x : Sem Unit)
                      dictPut d e.hash e.key e.val
                    else dictPut d e.hash e.key e.val
                else dictPut d e.hash e.key e.val)
              let ep' ← dictEpoch o
              if (ep' != epoch) = true then do
                  (unsupported "dict.changed-during-merge" : Sem PUnit)
                  pure (ForInStep.yield PUnit.unit)
                else pure (ForInStep.yield PUnit.unit)
            | _ => do
              (unsupported "dict.changed-during-merge" : Sem PUnit)
              pure (ForInStep.yield PUnit.unit) : Sem (ForInStep PUnit))
      pure ()) Q E s := by
    refine wpAny_bind (wpAny_dictEntries hoo hdo' ?_)
    refine wpAny_bind (wpAny_dictEpoch hoo hdo' ?_)
    refine wpAny_bind ?_
    rw [List.range_eq_range']
    refine wpAny_forIn_list _
      (fun rest _ s' => ∃ h' i, s' = { s with heap := h' } ∧ rest = List.range' i (eso.size - i) ∧ i ≤ eso.size ∧ h'.DictOf knd d (merged kvs (more.take i)) ∧ h'.get? o = some oo ∧ Heap.SameBut d s.heap h')
      _ ?_ ?_ _ _ ⟨s.heap, 0, rfl, by simp, Nat.zero_le _, by simpa [merged] using hd, hoo, Heap.SameBut.refl _ _⟩
    · rintro x rest b s' ⟨h', i, rfl, hr, hi, hd', hoo', hs'⟩
      have hlt : i < eso.size := by
        rcases Nat.lt_or_ge i eso.size with h | h
        · exact h
        · rw [Nat.sub_eq_zero_of_le h] at hr; simp at hr
      obtain ⟨rfl, hrest⟩ : x = i ∧ rest = List.range' (i + 1) (eso.size - (i + 1)) := by
        have e : eso.size - i = (eso.size - (i + 1)) + 1 := by omega
        rw [e, List.range'_succ] at hr
        injection hr with h1 h2
        exact ⟨h1, h2⟩
      refine wpAny_bind (wpAny_dictEntries hoo' hdo' ?_)
      rw [Array.getElem?_eq_getElem hlt]
      obtain ⟨kv, hkv⟩ : ∃ kv, more[x]? = some kv := ⟨more[x]'(by rw [hlen]; exact hlt), List.getElem?_eq_getElem _⟩
      obtain ⟨k, v⟩ := kv
      obtain ⟨hkey, hval⟩ := hpo.get? (e := eso[x]) (by simp [hlt]) hkv
      obtain ⟨k', hkey', hhash⟩ := hko eso[x] (Array.getElem_mem hlt)
      obtain rfl : k' = k := knd.inj _ _ _ hkey' hkey
      have hmx : (merged kvs (more.take x)).length ≤ sizeLine := by
        have e1 := merged_length_le kvs (more.take x)
        have e2 : (more.take x).length ≤ more.length := by rw [List.length_take]; omega
        omega
      have put : wpAny (model prog w) A (dictPut d eso[x].hash eso[x].key eso[x].val) (fun _ s2 => ∃ h'', s2 = { s with heap := h'' } ∧ h''.DictOf knd d (merged kvs (more.take (x + 1))) ∧ h''.get? o = some oo ∧ Heap.SameBut d s.heap h'') E { s with heap := h' } := by
        rw [hhash, hval]
        refine dictPut_pairs hkey hd' (fun h'' hd'' hs'' => ⟨h'', rfl, ?_, (hs''.2 o (Ne.symm hdo)).trans hoo', hs'.trans hs''⟩) hmx
        rw [merged_take_succ kvs more x (k', v) hkv]
        exact hd''
      show wpAny _ _ (holding [eso[x].key, eso[x].val] _ >>= _) _ _ _
      refine wpAny_bind (wpAny_holding ?_)
      have put2 : wpAny (model prog w) A (if unique = true then do
                  let r ← dictFind d eso[x].key eso[x].hash
                  if r.isSome = true then do
                      rule "dict.merge.duplicate-key"
                      let exc ← newExc (Value.type "KeyError") [eso[x].key]
                      let _ ← (raiseNew exc : Sem Unit)
                      dictPut d eso[x].hash eso[x].key eso[x].val
                    else dictPut d eso[x].hash eso[x].key eso[x].val
                else dictPut d eso[x].hash eso[x].key eso[x].val) (fun _ s2 => ∃ h'', s2 = { s with heap := h'' } ∧ h''.DictOf knd d (merged kvs (more.take (x + 1))) ∧ h''.get? o = some oo ∧ Heap.SameBut d s.heap h'') E { s with heap := h' } := by
        split
        · rename_i hun
          obtain ⟨od2, es2, ep2, ho2, hc2, hd2, hk2, hp2, hn2⟩ := id hd'
          rw [hhash]
          refine wpAny_bind (wpAny_dictFind_of hkey ho2 hd2 hk2 ?_)
          have hidx : (es2.findIdx? fun e => knd.is k' e.key) = none := by
            have e1 : (es2.findIdx? fun e => knd.is k' e.key) = (merged kvs (more.take x)).findIdx? fun kv => decide (kv.1 = k') := by
              rw [← hp2.findIdx k']; obtain ⟨l⟩ := es2; simp
            rw [e1, List.findIdx?_eq_none_iff]
            intro p hp
            have hnin := Ep5_notin hno hkv (hu hun _ (List.mem_of_getElem? hkv)) p hp
            exact decide_eq_false hnin
          rw [hidx]
          rw [if_neg (by simp)]
          rw [hhash] at put
          exact put
        · exact put
      refine thn put2 fun _ s2 ⟨h'', e2, hd'', hoo'', hs''⟩ => ?_
      subst e2
      refine wpAny_bind (wpAny_dictEpoch hoo'' hdo' ?_)
      rw [if_neg (by simp)]
      exact wpAny_pure ⟨h'', x + 1, rfl, hrest, hlt, hd'', hoo'', hs''⟩
    · rintro b s' ⟨h', i, rfl, hr, hi, hd', hoo', hs'⟩
      have hin : i = eso.size := by
        rcases Nat.lt_or_ge i eso.size with h | h
        · have e : eso.size - i = (eso.size - (i + 1)) + 1 := by omega
          rw [e, List.range'_succ] at hr; exact nomatch hr
        · exact Nat.le_antisymm hi h
      refine wpAny_pure (hQ h' ?_ hs')
      rw [hin, ← hlen, List.take_length] at hd'; exact hd'
  unfold mergeMapping
  refine wpAny_bind (wpAny_isInstance ho.typeIs isSubtype_dict_dict ?_)
  simp only [if_true]
  refine wpAny_bind (wpAny_specialOf ho.typeIs F.slot_dict_iter.lookup (wpAny_bind (wpAny_pure ?_)))
  simp only [beq_self_eq_true]
  rw [if_neg (by rw [hoS]; exact Bool.false_ne_true)]
  refine wpAny_bind (wpAny_dictEntries hod hdd ?_)
  split
  · refine wpAny_bind (wpAny_dictEntries hoo hdo' ?_)
    refine wpAny_bind ?_
    rw [← Array.forIn_toList]
    refine wpAny_forIn_list _ (fun rest _ s' => s' = s ∧ ∀ e ∈ rest, e ∈ eso.toList) _ ?_ ?_ _ _ ⟨rfl, fun e he => he⟩
    · rintro x rest b s' ⟨rfl, hr⟩
      obtain ⟨k', hkey', hhash⟩ := hko x (Array.mem_toList_iff.mp (hr x (List.mem_cons_self ..)))
      have hnr := not_ref_key hkey'
      obtain ⟨xh, xk, xv⟩ := x
      cases xk with
      | ref a => exact absurd rfl (hnr a)
      | _ => exact wpAny_pure ⟨rfl, fun e he => hr e (List.mem_cons_of_mem _ he)⟩
    · rintro b s' ⟨rfl, _⟩
      exact loop
  · exact loop
end
end Ep
set_option maxHeartbeats 4000000
/-! {**d, k: v} -/
namespace Ep
open PySem PySem.Spec PyProof.Rows L2
theorem disp_spread {V K Vx : Sem Value} : dictDisplay [(none, V), (some K, Vx)] = (do
    let d ← alloc { cls := .type "dict", data := .dict #[] }
    let m ← holding [.ref d] V
    (((holding [.ref d, m] (mergeMapping d m false)).onRaise fun x => do let _ ← holding [.ref d, m, x] (runValue (.builtin "proto.let_go" {}))).tryCatch fun e => do
        if ← isInstance e (.type "AttributeError") then
          rule "dict.display.not-a-mapping"; raiseError "TypeError" s!"'{← typeNameOf m}' object is not a mapping"
        throw e).onRaise fun x => do let _ ← holding [.ref d, x] (runValue (.builtin "proto.let_go" {}))
    let sub ← holding [.ref d] (subDict [(K, Vx)])
    (holding [.ref d, .ref sub] (mergeMapping d (.ref sub) false)).onRaise fun x => do let _ ← holding [.ref d, x] (runValue (.builtin "proto.let_go" {}))
    pure (.ref d)) := by
  unfold dictDisplay
  simp only [List.forIn_cons, List.forIn_nil, List.isEmpty_nil, if_true, pure_bind, bind_assoc, List.nil_append, List.length_singleton, List.isEmpty_cons, Bool.false_eq_true, if_false, Nat.reduceBEq, Nat.reduceEqDiff]
/-- {**m, k: v}: the new dict stands empty while m is read; the pair's own dict is kept by the run -/
def tSpread (tm tk tv : TE) : TE := fun σ H Q => ∀ p, H p = none → tm σ (upd H p (.dK [])) fun x H1 => ∃ o kvs, x = .ref o ∧ o ≠ p ∧ H1 o = some (.dK kvs) ∧ H1 p = some (.dK []) ∧ kvs.length ≤ 15 ∧
  ∀ p2, upd H1 p (.dK (mergeK [] kvs)) p2 = none → tk σ (upd (upd H1 p (.dK (mergeK [] kvs))) p2 (.dK [])) fun y H2 => tv σ H2 fun z H3 => ∃ ky : Key, y = kV ky ∧ p2 ≠ p ∧ H3 p = some (.dK (mergeK [] kvs)) ∧ H3 p2 = some (.dK []) ∧
    Q (.ref p) (upd (upd H3 p2 (.dK (mergeK [] [(ky, z)]))) p (.dK (mergeK (mergeK [] kvs) [(ky, z)])))
section
variable {X : Cx} {m k v : Expr} {tm tk tv : TE} {pos : Pos}
theorem pe_spread (hm : PE X m tm) (hk : PE X k tk) (hv : PE X v tv) : PE X (.Dict [none, some k] [m, v] pos) (tSpread tm tk tv) := by
  refine ⟨fun pins s σ H Q I q => ?_⟩
  have ee : eval (.Dict [none, some k] [m, v] pos) X.env = (do standAt pos; dictDisplay [(none, do let x ← eval m X.env; standAt pos; pure x), (some (eval k X.env), do let x ← eval v X.env; standAt pos; pure x)]) := rfl
  rw [ee, disp_spread]
  have hn := I.hok.fresh (Nat.le_refl s.heap.objs.size)
  have I1 := I.laid (a := s.heap.objs.size) (o := .dK []) (h' := s.heap.push { cls := .type "dict", data := .dict #[] }) (t' := s.toks) (fun _ _ q => Heap.get?_push_of_some _ q) (Nat.le_refl _) (dk_empty s.heap I.big)
  refine wpAny_bind (wpAny_standAt (wpAny_bind (wpAny_alloc (wpAny_bind (wpAny_holding (wpAny_bind (thn (hm.run pins _ σ _ _ I1 (q _ hn)) fun mv s2 ⟨x, H1, I2, rx, o, kvs, ex, eop, eo, ep, hl, q2⟩ => wpAny_bind (wpAny_standAt (wpAny_pure ?_)))))))))
  subst ex
  obtain rfl : mv = Value.ref o := rx
  generalize s.heap.objs.size = d at *
  obtain ⟨z1, hd1, vs0, r0, dd0⟩ := dk_of I2.hok ep
  cases r0
  obtain ⟨z2, hd2, ws, r1, dd1⟩ := dk_of I2.hok eo
  have hz : (mergeK [] kvs).length ≤ 15 := by
    have h1 := length_mergeK kvs []
    rw [List.length_nil] at h1
    omega
  have hsl : (15 : Nat) + 15 ≤ sizeLine := by rw [sizeLine_eq]; decide
  refine wpAny_bind (wpAny_onRaise (wpAny_tryCatch (wpAny_onRaise (wpAny_holding (mergeMap (Ne.symm eop) hd2 dd0 dd1 (by intro z; cases z) (fun h' dd' hs => ?_) (by rw [List.length_nil, ← r1.length]; omega))))))
  have he : ∃ q, h'.get? d = some q := let ⟨q, _, _, hq, _⟩ := dd'; ⟨q, hq⟩
  have I3 : Inv X pins σ (upd H1 d (.dK (mergeK [] kvs))) { s2 with heap := h' } := d_write I2 (by rw [ep]; exact True.intro) hs he (dk_new (by omega) hd1 (r1.merge .nil) dd')
  have hn3 := I3.hok.fresh (Nat.le_refl h'.objs.size)
  have I4 := I3.laid (a := h'.objs.size) (o := .dK []) (h' := h'.push { cls := .type "dict", data := .dict #[] }) (t' := s2.toks) (fun _ _ q => Heap.get?_push_of_some _ q) (Nat.le_refl _) (dk_empty h' I3.big)
  have pp : PPs X pos [some k] [v] [(tk, tv)] := pps_cons hk hv pps_nil
  refine wpAny_bind (wpAny_holding (wpAny_subDict (knd := mixKind X.prog X.w) (by rw [List.length_singleton]; decide) ?_))
  refine thn (pp.run pins _ σ _ (fun ps H3 => match ps with
    | [(y, z)] => ∃ ky, y = kV ky ∧ h'.objs.size ≠ d ∧ H3 d = some (.dK (mergeK [] kvs)) ∧ H3 h'.objs.size = some (.dK []) ∧ Q (.ref d) (upd (upd H3 h'.objs.size (.dK (mergeK [] [(ky, z)]))) d (.dK (mergeK (mergeK [] kvs) [(ky, z)])))
    | _ => False) I4 (q2 _ hn3)) fun ws3 s5 ⟨ps, H3, I5, rel, q3⟩ => ?_
  match ps, rel, q3 with
  | [(y, z)], rel, q3 =>
    obtain ⟨ky, ey, hne, e1, e2, q3⟩ := q3
    subst ey
    obtain ⟨rs, c, rk⟩ := carries_of (P := X.prog) (w := X.w) (kvs := [(ky, z)]) rel
    obtain ⟨zz, hdd, vs5, r5, dd5⟩ := dk_of I5.hok e2
    cases r5
    refine ⟨rs, c, dd5, fun h6 dd6 hs6 => ?_⟩
    have hm1 : (mergeK [] [(ky, z)]).length ≤ 1 := length_mergeK [(ky, z)] []
    have he6 : ∃ q, h6.get? h'.objs.size = some q := let ⟨q, _, _, hq, _⟩ := dd6; ⟨q, hq⟩
    have I6 : Inv X pins σ (upd H3 h'.objs.size (.dK (mergeK [] [(ky, z)]))) { s5 with heap := h6, toks := s5.toks + ws3.length } := d_write I5 (by rw [e2]; exact True.intro) hs6 he6 (dk_new (by omega) hdd (rk.merge .nil) dd6)
    have g1 : upd H3 h'.objs.size (.dK (mergeK [] [(ky, z)])) d = some (.dK (mergeK [] kvs)) := by rw [upd_ne (Ne.symm hne)]; exact e1
    obtain ⟨y1, y2, ys, y3, y4⟩ := dk_of I6.hok g1
    obtain ⟨x1, x2, xs, x3, x4⟩ := dk_of I6.hok (upd_same (H := H3))
    refine wpAny_bind (wpAny_onRaise (wpAny_holding (mergeMap (Ne.symm hne) x2 y4 x4 (by intro z; cases z) (fun h7 dd7 hs7 => ?_) (by rw [← y3.length, ← x3.length]; omega))))
    have he7 : ∃ q, h7.get? d = some q := let ⟨q, _, _, hq, _⟩ := dd7; ⟨q, hq⟩
    have hl2 := length_mergeK (mergeK [] [(ky, z)]) (mergeK [] kvs)
    refine wpAny_pure ⟨.ref d, _, ?_, rfl, q3⟩
    have e7 : mergeK [] [(ky, z)] = [(ky, z)] := rfl
    rw [e7] at x3 hl2
    exact d_write I6 (by rw [g1]; exact True.intro) hs7 he7 (dk_new (by simp only [List.length_singleton] at hl2; omega) hd1 (x3.merge y3) dd7)
  | [], _, q3 => exact q3.elim
  | _ :: _ :: _, _, q3 => exact q3.elim
end
end Ep
set_option maxHeartbeats 4000000
/-! books written: __setitem__, __init__ -/
namespace Ep
open PySem PySem.Spec PyProof.Rows L2 Evl
/-- the switch z as in o2 -/
def EOwn.put (o o2 : EOwn) (z : Str) : EOwn := ⟨if z = "epochs" then o2.epochs else o.epochs, if z = "behind" then o2.behind else o.behind, if z = "check" then o2.check else o.check, if z = "fetch" then o2.fetch else o.fetch, if z = "mark" then o2.mark else o.mark, if z = "test" then o2.test else o.test, if z = "step" then o2.step else o.step, if z = "told" then o2.told else o.told⟩
def LOwn.put (o o2 : LOwn) (z : Str) : LOwn := ⟨if z = "check" then o2.check else o.check, if z = "look" then o2.look else o.look, if z = "chain" then o2.chain else o.chain⟩
def SOwn.put (o o2 : SOwn) (z : Str) : SOwn := ⟨if z = "counts" then o2.counts else o.counts, if z = "still" then o2.still else o.still, if z = "read" then o2.read else o.read, if z = "sleep" then o2.sleep else o.sleep⟩
def Own.put : Own → Own → Str → Own
  | .E o, .E o2, z => .E (o.put o2 z)
  | .L o, .L o2, z => .L (o.put o2 z)
  | .S o, .S o2, z => .S (o.put o2 z)
  | o, _, _ => o
def Own.like : Own → Own → Prop
  | .E _, .E _ => True | .L _, .L _ => True | .S _, .S _ => True | _, _ => False
theorem kvs_nd (o : Own) : ((kvsO o).map (·.1)).Nodup := by
  cases o with
  | E o => exact (by decide +kernel : ([.inr "epochs", .inr "behind", .inr "check", .inr "fetch", .inr "mark", .inr "test", .inr "step", .inr "told"] : List Key).Nodup)
  | L o => exact (by decide +kernel : ([.inr "check", .inr "look", .inr "chain"] : List Key).Nodup)
  | S o => exact (by decide +kernel : ([.inr "counts", .inr "still", .inr "read", .inr "sleep"] : List Key).Nodup)
theorem kvs_self (o : Own) : mergeK [] (kvsO o) = kvsO o := by
  have := mergeK_new (kvsO o) [] (by rw [List.nil_append]; exact kvs_nd o)
  rw [List.nil_append] at this
  exact this
theorem kvs_put {K : PySem.W.Frag} {H : Hp} {o o2 : Own} {z : Str} {y : V} (hl : o.like o2) (hz : z ∈ o.words) (hy : Dt K H y (o2.get z)) : putK (kvsO o) (Sum.inr z) y = kvsO (o.put o2 z) := by
  cases o with
  | E o =>
    cases o2 with
    | E o2 =>
      simp only [Own.words, wordsE, List.mem_cons, List.not_mem_nil, or_false] at hz
      rcases hz with rfl | rfl | rfl | rfl | rfl | rfl | rfl | rfl
      · cases (show Dt K H y (.int o2.epochs) from hy).int_inv; rfl
      · cases (show Dt K H y (.int o2.behind) from hy).int_inv; rfl
      · cases (show Dt K H y (.bool o2.check) from hy).bl_inv; rfl
      · cases (show Dt K H y (.str o2.fetch) from hy).str_inv; rfl
      · cases (show Dt K H y (.str o2.mark) from hy).str_inv; rfl
      · cases (show Dt K H y (.str o2.test) from hy).str_inv; rfl
      · cases (show Dt K H y (.str o2.step) from hy).str_inv; rfl
      · cases (show Dt K H y (.bool o2.told) from hy).bl_inv; rfl
    | L o2 => cases hl
    | S o2 => cases hl
  | L o =>
    cases o2 with
    | L o2 =>
      simp only [Own.words, wordsL, List.mem_cons, List.not_mem_nil, or_false] at hz
      rcases hz with rfl | rfl | rfl
      · cases (show Dt K H y (.bool o2.check) from hy).bl_inv; rfl
      · cases (show Dt K H y (.str o2.look) from hy).str_inv; rfl
      · cases (show Dt K H y (.str o2.chain) from hy).str_inv; rfl
    | E o2 => cases hl
    | S o2 => cases hl
  | S o =>
    cases o2 with
    | S o2 =>
      simp only [Own.words, wordsS, List.mem_cons, List.not_mem_nil, or_false] at hz
      rcases hz with rfl | rfl | rfl | rfl
      · cases (show Dt K H y (.int o2.counts) from hy).int_inv; rfl
      · cases (show Dt K H y (.str o2.still) from hy).str_inv; rfl
      · cases (show Dt K H y (.str o2.read) from hy).str_inv; rfl
      · cases (show Dt K H y (.str o2.sleep) from hy).str_inv; rfl
    | E o2 => cases hl
    | L o2 => cases hl
theorem kvs_len (o : Own) : (kvsO o).length ≤ 15 := by cases o <;> (show _ ≤ 15) <;> (first | exact (by decide : (8:Nat) ≤ 15) | exact (by decide : (3:Nat) ≤ 15) | exact (by decide : (4:Nat) ≤ 15))
theorem kvs_ne (o : Own) : kvsO o ≠ [] := by cases o <;> (intro z; cases z)
/-- a new dict of switches -/
def rOwn (o : Own) : RR := fun H H' v => ∃ p, v = .ref p ∧ H p = .none ∧ H' p = some (.dK (kvsO o))
section
variable {X : Cx} {M : Mb} {ρ : List Sl} {k m v : Expr} {pos : Pos} {o o2 : Own} {z : Str}
theorem ar_spread (hm : AE X M ρ m (aOwn o)) (hk : AE X M ρ k (aS X.K z)) (hv : AE X M ρ v (D X.K (o2.get z))) (hl : o.like o2) (hz : z ∈ o.words) : AR X M ρ (.Dict [.none, some k] [m, v] pos) (rOwn (o.put o2 z)) :=
  weakE (pe_spread hm hk hv) fun σ H Q ⟨mm, sl, q⟩ => fun p hp => by
    have e0 : Ex H (upd H p (.dK [])) := Ex.new hp
    refine ⟨M.mono e0 mm, sl.mono e0, fun x H1 e1 ⟨b, hx, hb⟩ => ?_⟩
    have ep : H1 p = some (.dK []) := e1 _ _ upd_same
    have hbp : b ≠ p := fun q => by
      subst q
      rw [ep] at hb
      exact kvs_ne o (by injection hb with h1; injection h1 with h2; exact h2.symm)
    refine ⟨b, kvsO o, hx, hbp, hb, ep, kvs_len o, fun p2 hp2 => ?_⟩
    have h2 : p2 ≠ p := fun q => by
      subst q
      rw [upd_same] at hp2
      cases hp2
    have n1 : H1 p2 = none := by rw [upd_ne h2] at hp2; exact hp2
    have n2 : H p2 = none := by
      cases w : H p2 with
      | none => rfl
      | some u => rw [e1 _ _ (e0 _ _ w)] at n1; cases n1
    have g1 : Ex H (upd (upd H1 p (.dK (mergeK [] (kvsO o)))) p2 (.dK [])) := Ex.mut (Ex.mut (e0.trans e1) hp) n2
    refine ⟨M.mono g1 mm, sl.mono g1, fun y H2 e2 hy => ⟨M.mono (g1.trans e2) mm, sl.mono (g1.trans e2), fun u H3 e3 hu => ?_⟩⟩
    cases hy
    refine ⟨.inr z, rfl, h2, e3 _ _ (e2 _ _ (by rw [upd_ne (Ne.symm h2), upd_same])), e3 _ _ (e2 _ _ upd_same), q _ _ (Ex.mut (Ex.mut ((g1.trans e2).trans e3) n2) hp) ⟨p, rfl, hp, ?_⟩⟩
    rw [upd_same, kvs_self]
    show some (HO.dK (putK (kvsO o) (Sum.inr z) u)) = _
    rw [kvs_put hl hz hu]
end
/-- a book that is tracked -/
def mBk (a : Adr) (H0 : Hp) (b : Addr) (o : Own) : Mb := ⟨fun H => Ex H0 H ∧ H0 b = none ∧ IsBook a H b o, fun e ⟨h1, h2, h3⟩ => ⟨h1.trans e, h2, h3.mono e⟩⟩
theorem bk_self {X : Cx} {Hs H0 : Hp} {a : Adr} {ρ : List Sl} {e : Expr} {b : Addr} {o : Own} (h : AE X (mK Hs (mBk a H0 b o)) ρ e (Rf b)) : AE X (mK Hs (mBk a H0 b o)) ρ e (aBook a o) := ae_view h fun H v m e => ⟨b, e, m.2.2.2⟩
section
variable {P : Program} {w : World} {K : PySem.W.Frag} {mg : Str → Option Value} {base : Heap} {a : Adr}
/-! #### __setitem__ -/
abbrev s_si : Stmt := inClass (top 21) 10
theorem sc_si : FnScope ["self", "word", "value", "own"] ["self", "word", "value"] (defScope s_si) := ⟨rfl, rfl, rfl, by decide +kernel, rfl, by decide +kernel, by decide +kernel⟩
structure PIx where
  (H0 : Hp) (b : Addr) (o o2 : Own) (z : Str)
abbrev sp_si (K : PySem.W.Frag) (a : Adr) : Sp := spK (ι := PIx) (fun i => i.o.like i.o2 ∧ i.z ∈ i.o.words ∧ EpOk (i.o.put i.o2 i.z) ∧ OkOwn (i.o.put i.o2 i.z)) (fun i => [Rf i.b, aS K i.z, D K (i.o2.get i.z)]) (fun i => mBk a i.H0 i.b i.o) (fun i => mBk a i.H0 i.b (i.o.put i.o2 i.z)) fun _ => aN K
theorem put_cls {o o2 : Own} {z : Str} : (o.put o2 z).cls a = o.cls a := by cases o <;> cases o2 <;> rfl
theorem ok_si {f : Addr} {fd : FuncData} (F : Fun K "__setitem__" "Book.__setitem__" s_si f fd) (T : TxBs K a) (Gl : ∀ o : Own, GMt P w K mg base 1 (o.cls a) "look_at_word" (sp_lw K a)) (Gw : ∀ o : Own, GMt P w K mg base 4 (o.cls a) "first_wrong" (sp_fw K a)) : FnOk P w K mg base CX0 5 f fd ["self", "word", "value"] (sp_si K a) := by
  refine fn_K F sc_si (fun _ => rfl) fun cdv A outer st0 H E hr i hi => ?_
  obtain ⟨H0, b, o, o2, z⟩ := i
  have hl : o.like o2 := hi.1
  have hz : z ∈ o.words := hi.2.1
  have hok : EpOk (o.put o2 z) ∧ OkOwn (o.put o2 z) := hi.2.2
  have hr1 : Room 1 _ := hr.mono (by decide)
  refine as_expr (ae_meth (bk_self (av 0)) (recv_bk (o := o) (by decide +kernel)) (Gl o) hr1 (o, z) hz rfl (aa_cons (av 1) aa_nil)) ?_
  refine as_asgR (i := 3) (R := rOwn (o.put o2 z)) (ar_spread (ae_fld (bk_self (av 0)) (fset_own (c := ⟨o, 0, 0, 0, 0⟩) (T o).t)) (av 1) (av 2) hl hz) (fun Ha Hb v m ex r => ?_) sc_si.nd
  obtain ⟨p, rfl, hpn, hp⟩ := r
  have m : Tk H Ha ∧ Ex H0 Ha ∧ H0 b = none ∧ IsBook a Ha b o := m
  obtain ⟨dx, d, l, hb, hd⟩ := m.2.2.2
  have hb2 := ex _ _ hb
  refine as_if (at_cmpC (ac_notN (d := .none) (ae_meth (A := aBook a o) (ae_view (B := aBook a o) (av 0) fun H2 v m2 e => ⟨b, e, dx, d, l, (show Ex Hb H2 from m2) _ _ hb2, (show Ex Hb H2 from m2) _ _ (ex _ _ hd)⟩) (recv_bk (o := o) (by decide +kernel)) (by have := Gw (o.put o2 z); rw [put_cls] at this; exact this) hr (o.put o2 z) hok (by rw [put_cls]) (aa_cons (ae_view (B := aOwn (o.put o2 z)) (av 3) fun H2 v m2 e => ⟨p, e, (show Ex Hb H2 from m2) _ _ hp⟩) aa_nil)))) (fun c => by cases c) (fun _ => as_end ?_)
  refine as_tgt (M2 := mK H (mBk a H0 b (o.put o2 z))) (am_of (av 3)) (ag_fld (av 0) (fun H2 v m2 e => ?_)) (as_done fun H2 m2 => m2)
  have m2 : Ex Hb H2 := m2
  cases (show v = .ref p from e)
  have hb3 := m2 _ _ hb2
  have hpb : p ≠ b := fun q => by
    subst q
    rw [hb] at hpn
    cases hpn
  refine ⟨_, dx, _, hb3, (T o).t.cl, (T o).t.na _ (by decide), by show 2 < 1000; decide, (m.1.trans (.of (ex.trans m2))).trans (Tk.ins hb3), Ex.mut ((m.2.1.trans ex).trans m2) m.2.2.1, m.2.2.1, dx, p, l, ?_, ?_⟩
  · rw [upd_same, put_cls]
    rfl
  · rw [upd_ne hpb]
    exact m2 _ _ hp
/-- b[z] = value by the own def -/
def GSetO (P : Program) (w : World) (K : PySem.W.Frag) (mg : Str → Option Value) (base : Heap) (a : Adr) (k : Nat) : Prop := ∀ o : Own, ∃ g fd ps, FnOk P w K mg base CX0 k g fd ps (sp_si K a) ∧ SetO K (o.cls a) g ∧ Binds K fd ps []
theorem ag_setO {X : Cx} {M M' : Mb} {ρ : List Sl} {e i : Expr} {a : Adr} {o o2 : Own} {z : Str} {pos : Pos} {k : Nat} {b : Addr} {H0 Hs : Hp} (G : GSetO X.prog X.w X.K X.mg X.base a k) (hr : Room k X.A) (he : AE X (mK Hs (mBk a H0 b o)) ρ e (Rf b)) (hi : AE X (mK Hs (mBk a H0 b o)) ρ i (aS X.K z))
    (hl : o.like o2) (hz : z ∈ o.words) (hok : EpOk (o.put o2 z) ∧ OkOwn (o.put o2 z))
    (ha : ∀ v, assign (.Subscript e i pos) X.env v = (do
      let ov ← holding [v] (eval e X.env)
      let iv ← holding [v, ov] (eval i X.env)
      standAt pos
      holding [v, ov, iv] (setItem ov iv v)
      release [v, ov, iv] []) := by intro _; rfl) : AG X (mK Hs (mBk a H0 b o)) ρ (.Subscript e i pos) (D X.K (o2.get z)) (mK Hs (mBk a H0 b (o.put o2 z))) (keepT ρ) := by
  obtain ⟨g, fd, ps, F, c, bb⟩ := G o
  refine weakG (pg_sub he hi (set_own c F hr bb pass0) ha) fun v σ H Q ⟨m, sl, av, q⟩ => ⟨m, sl, fun x H1 e1 hx => ⟨(mK Hs (mBk a H0 b o)).mono e1 m, sl.mono e1, fun y H2 e2 hy => ?_⟩⟩
  have m2 := (mK Hs (mBk a H0 b o)).mono (e1.trans e2) m
  obtain ⟨h1, h2, h3, dx, d, l, h4, h5⟩ := id m2
  refine ⟨b, dx, _, hx, h4, ⟨H0, b, o, o2, z⟩, ⟨hl, hz, hok⟩, m2.2, .cons rfl (.cons hy (.cons ((D X.K (o2.get z)).mono (e1.trans e2) av) .nil)), fun u H' t m' r => ?_⟩
  exact q σ H' ((Tk.of (e1.trans e2)).trans t) ⟨m2.1.trans t, m'⟩ ((sl.mono (e1.trans e2)).keep t)
/-! #### __init__ -/
abbrev s_bi : Stmt := inClass (top 21) 2
theorem sc_bi : FnScope ["self", "own", "wrong"] ["self", "own"] (defScope s_bi) := ⟨rfl, rfl, rfl, by decide +kernel, rfl, by decide +kernel, by decide +kernel⟩
structure NIx where
  (H0 : Hp) (p dx : Addr) (o : Own)
abbrev sp_bi (K : PySem.W.Frag) (a : Adr) : Sp := spC (ι := NIx) (fun i => i.H0 i.p = none ∧ EpOk i.o ∧ OkOwn i.o) (fun i => [Rf i.p, aOwn i.o]) (fun i => mNew i.H0 i.p (i.o.cls a) i.dx []) (fun i => mBk a i.H0 i.p i.o) fun _ => aN K
theorem ok_bi {f : Addr} {fd : FuncData} (F : Fun K "__init__" "Book.__init__" s_bi f fd) (T : TxBs K a) (Gw : ∀ o : Own, GMt P w K mg base 4 (o.cls a) "first_wrong" (sp_fw K a)) (bl : mg "list" = none) : FnOk P w K mg base CX0 5 f fd ["self", "own"] (sp_bi K a) := by
  refine fn_C F sc_bi (fun _ => rfl) fun cdv A outer st0 H E hr i hi => ?_
  obtain ⟨H0, p, dx, o⟩ := i
  have hp0 : H0 p = none := hi.1
  have hok : EpOk o ∧ OkOwn o := hi.2
  refine as_at 1 (A := aOwn o) rfl fun Hb vS m hS => ?_
  obtain ⟨d, rfl, hd⟩ := hS
  have b1 : Ex H0 Hb := m.1
  have b2 : Hb p = some (.ins (o.cls a) dx []) := m.2
  refine as_asg (i := 2) (A := aN K) (ae_meth (A := aIns (o.cls a)) (ae_view (B := aIns (o.cls a)) (av 0) fun H2 v m2 e => ⟨p, dx, [], e, (show Ex Hb H2 from m2) _ _ b2, fun _ _ => rfl⟩) (recv_in (by decide +kernel)) (Gw o) hr o hok rfl (aa_cons (ae_view (B := aOwn o) (av 1) fun H2 v m2 e => ⟨d, e, (show Ex Hb H2 from m2) _ _ hd⟩) aa_nil)) ?_ sc_bi.nd
  refine as_if (at_cmpC (ac_notN (d := .none) (av 2))) (fun c => by cases c) (fun _ => as_end ?_)
  refine as_ini b2 (T o).t.cl ((T o).t.na _ (by decide)) (by decide) (av 0) (av 1) fun G0 G1 v1 e1 e2 r1 => ?_
  cases (show v1 = _ from r1)
  have c1 : Ex H0 (upd G1 p (.ins (o.cls a) dx (putF "own" (.ref d) []))) := ex_ini (b1.trans (e1.trans e2)) hp0
  have hdp : d ≠ p := fun q => by
    subst q
    rw [hd] at b2
    cases b2
  have d1 : upd G1 p (.ins (o.cls a) dx (putF "own" (.ref d) [])) d = some (.dK (kvsO o)) := at_ini (e2 _ _ (e1 _ _ hd)) hdp
  obtain ⟨y, hc, hy⟩ := con_words (M := mE (upd G1 p (.ins (o.cls a) dx (putF "own" (.ref d) [])))) (o := o) T
  have hsq : SqA K (Vl (.ref y)) (o.words.map .str) := fun H2 v h => by
    obtain ⟨q, vs, e1, e2, e3⟩ := Dt.tuple_inv (hy H2)
    cases e1
    exact ⟨y, vs, h, .inr e2, e3⟩
  refine as_ini upd_same (T o).t.cl ((T o).t.na _ (by decide)) (by show 1 < 1000; decide) (av 0) (an_list (ds := o.words.map .str) bl (ae_con (A := aIns (o.cls a)) (ae_view (B := aIns (o.cls a)) (av 0) fun H2 v m2 e => ⟨p, dx, _, e, m2 _ _ upd_same, fun k hk => lookup_none (l := ["own"]) rfl (by intro z; exact hk (by simp only [List.mem_cons, List.not_mem_nil, or_false] at z ⊢; exact .inl z))⟩) hc) hsq) fun G2 G3 v2 e3 e4 r2 => ?_
  obtain ⟨l, rfl, n1, L1⟩ := rn_new r2
  refine as_done fun H m => ?_
  exact ⟨(ex_ini (c1.trans (e3.trans e4)) hp0).trans m, hp0, dx, d, l, m _ _ upd_same, m _ _ (at_ini (e4 _ _ (e3 _ _ d1)) hdp)⟩
end
end Ep
set_option maxHeartbeats 4000000
/-! def __init__(self, ..): super().__init__(e) -/
namespace Ep
open PySem PySem.Spec PyProof.Rows L2

/-- the text's facts for super().m in the def at f, which stands in the class at D -/
structure SupK (K : PySem.W.Frag) (mg : Str → Option Value) (P : Program) (cc D c f2 : Addr) (m : Str) : Prop where
  cell : ∃ cl cld csl, K.lookup cc = some ⟨cl, cld, .cell (some (.ref D)), csl⟩
  isD : (PySem.W.clsIn K D).isSome = true
  sub : PySem.W.mroIn K D (.ref D) = some true
  up : PySem.W.ks_superIn K D D m = some (some (.ref f2))
  ty : PySem.W.typeIn K (.ref f2) = some (.type "function")
  fi : PySem.W.fnIn K f2 = true
  op : PySem.W.nsIn K cStatics "thirdparty.any" = some none
  code : ∃ ccl cdd vs ccs file tf, K.lookup c = some ⟨ccl, cdd, .fields vs, ccs⟩ ∧ vs[2]? = some (.str file tf) ∧ ((P.main.file : Str) == file) = true
  glb : mg "super" = none
  top : (P.main.scope.names.lookup ("super" : Str)).isSome = false

abbrev supCall (p0 p1 p2 p3 : Pos) (m : Str) (arg : Expr) : Expr := .Call (.Attribute (.Call (.Name "super" p0) [] [] p1) m p2) [arg] [] p3
abbrev supBody (p0 p1 p2 p3 p4 : Pos) (m : Str) (arg : Expr) : List Stmt := [.Expr (supCall p0 p1 p2 p3 m arg) p4]
section
variable {P : Program} {w : World} {K : PySem.W.Frag} {mg : Str → Option Value} {base : Heap} {k : Nat} {f cc D c f2 : Addr} {name qual m : Str} {params : Arguments} {scope : Scope} {dV kV doc pm ct oc : Value} {an od : Option Addr}
  {osl : Array (Option Value)} {N ps : List Str} {p0 p1 p2 p3 p4 : Pos} {arg : Expr} {fd2 : FuncData} {sp2 : Sp} {t : TE} {NFn : NdefX.NF} {body : List Stmt} {ar : Arg}
/-- what super().m(e) asks: e is read with self an instance of D; then m's promise -/
def spSup (D : Addr) (N ps : List Str) (t : TE) (sp2 : Sp) : Sp := fun vs H Q _ => ∃ (a dx : Addr) (fs : List (Str × V)) (rest : List V), vs = .ref a :: rest ∧ vs.length = ps.length ∧ H a = some (.ins D dx fs) ∧
  t (NdefX.startF N vs [none]) H fun v H1 => sp2 [.ref a, v] H1 (fun _ H2 => Q .non H2) E0
theorem pin_metN {X : Cx} {pins : List (Addr × Obj)} {σ : L2.St} {H : Hp} {s : Shared} {g : Addr} {self : Value} {tk : Nat} (I : Inv X pins σ H s) :
    Inv X ((s.heap.objs.size, PySem.W.methodObj (.ref g) self) :: pins) σ H { s with heap := s.heap.push (PySem.W.methodObj (.ref g) self), toks := tk } :=
  ClX.pin_new I (fun _ _ z => Heap.get?_push_of_some _ z) (Nat.le_refl _) (Heap.get?_push_size s.heap rfl) (fun v z => nomatch z)
theorem fn_super (hNF : NFn = ⟨name, qual, params, body, scope, [(("__class__" : Str), cc)], c⟩) (hbody : body = supBody p0 p1 p2 p3 p4 m arg)
    (lk : K.lookup f = some ⟨oc, od, .func (PySem.W.ksFn name qual params body scope dV kV doc pm an (.ref c) ct cc), osl⟩)
    (hcd : PySem.W.codeIn K (.ref c) qual = true) (S : NdefX.NScope N ps [("__class__" : Str)] scope) (T : SupK K mg P cc D c f2 m) (hps : ps.head? = some ("self" : Str)) (har : (params.posonlyargs ++ params.args).head? = some ar) (hars : ar.arg = ("self" : Str))
    (hks : scope.names.lookup ("super" : Str) = some .globalImplicit) (hkc : scope.names.lookup ("__class__" : Str) = some .free) (hm : (m == ("__class__" : Str)) = false)
    (F2 : FnOk P w K mg base CX0 k f2 fd2 [("self" : Str), ("own" : Str)] sp2) (b2 : Binds K fd2 [("self" : Str), ("own" : Str)] [])
    (ha : ∀ (A : Around) (outer : List Env) (s : Shared) (H : Hp) (E : XK), Room (k + 1) (A.deeper (NdefX.envF NFn f s.heap.objs.size)) → PA (NdefX.ncx CX0 P w K mg base N NFn f A outer s H E) [arg] (tCons t tNil))
    (hse : ∀ L, swapsWith (supCall p0 p1 p2 p3 m arg) none p4.line (NdefX.envF NFn f L) = pure false)
    (pl : Env → Sem Bool) (hca : ∀ L, eval (supCall p0 p1 p2 p3 m arg) (NdefX.envF NFn f L) = (do
      let ov ← attributeBase (.Call (.Name "super" p0) [] [] p1) m (NdefX.envF NFn f L) (eval (.Call (.Name "super" p0) [] [] p1) (NdefX.envF NFn f L))
      standAt p2.atName
      let (g, first) ← holding [ov] (getMethod ov m (pl (NdefX.envF NFn f L)))
      callWith p3 g first (backTo p3 (starEach [arg] (NdefX.envF NFn f L))) []))
    (hst : ∀ L, starEach [arg] (NdefX.envF NFn f L) = (false, eval arg (NdefX.envF NFn f L)) :: starEach [] (NdefX.envF NFn f L)) :
    FnOk P w K mg base CX0 (k + 3) f (PySem.W.ksFn name qual params body scope dV kV doc pm an (.ref c) ct cc) ps (spSup D N ps t sp2) := by
  refine ⟨fun vs H Q E h => ?_, fun A outer s H args us vs Q E hr e0 hb r hsp => ?_⟩
  · obtain ⟨_, _, _, _, _, hl, _⟩ := h
    exact hl
  obtain ⟨a, dx, fs, rest, evs, hl, hA, hq⟩ := hsp
  have KX : K.In s.heap := e0.mod.kin.keeps fun b o e => (e0.bs b o e).1
  have lim : s.heap.NoLimit := e0.mod.nolimit.keeps fun b o e => (e0.bs b o e).1
  obtain ⟨cl, cld, csl, kcell⟩ := T.cell
  obtain ⟨ccl, cdd, tvs, ccs, file, tf, kcode, hvs, hfile⟩ := T.code
  obtain ⟨cdD, hD⟩ := Option.isSome_iff_exists.mp T.isD
  have hcellB : ∀ y c', ([(("__class__" : Str), cc)] : List (Str × Addr)).lookup y = some c' → y = ("__class__" : Str) ∧ c' = cc := fun y c' e => by
    have e2 : (match y == ("__class__" : Str) with | true => some cc | false => ([] : List (Str × Addr)).lookup y) = some c' := e
    cases q : (y == ("__class__" : Str)) with
    | true =>
      rw [q] at e2
      exact ⟨beq_iff_eq.mp q, (Option.some.inj e2).symm⟩
    | false =>
      rw [q] at e2
      cases e2
  have ccB : base.get? cc = some ⟨cl, cld, .cell (some (.ref D)), csl⟩ := e0.mod.kin _ _ kcell
  have C : NdefX.CellsAt [(("__class__" : Str), cc)] [("__class__" : Str)] [none] s.heap H := ⟨rfl, fun y c' e => by
      obtain ⟨_, rfl⟩ := hcellB y c' e
      exact ⟨(e0.bs _ _ ccB).2, _, ⟨_, (e0.bs _ _ ccB).1, rfl⟩⟩, fun x y c' e1 e2 => by rw [(hcellB x c' e1).1, (hcellB y c' e2).1], fun i y hy => by
      cases i with
      | zero =>
        have ey : y = ("__class__" : Str) := (Option.some.inj hy).symm
        subst ey
        exact ⟨cc, rfl, fun v hv => by simp at hv⟩
      | succ i => simp at hy⟩
  have hcellN : ∀ x ∈ scope.names, x.2 ≠ .cell := S.nocell
  have hloc : ∀ y ∈ ps.zip us, scope.names.lookup y.1 = some .local := fun y hy => S.par y.1 (List.of_mem_zip hy).1
  refine ks_codeAny_call_defAt (binds := ps.zip us) hr.depth (KX _ _ lk) rfl lim (PySem.W.codeRec_of KX hcd) rfl hb hcellN hloc (fun h1 hns kp => ?_) S.co S.gen S.kind
  have eF : callEnv (PySem.W.ksFn name qual params body scope dV kV doc pm an (.ref c) ct cc) s.heap.objs.size f = NdefX.envF NFn f s.heap.objs.size := by
    rw [hNF]
    rfl
  rw [eF]
  have I : Inv (NdefX.ncx CX0 P w K mg base N NFn f A outer s H E) [] (NdefX.startF N vs [none]) H { s with heap := h1, toks := s.toks + (ps.zip us).length } := by
    rw [hNF]
    exact NdefX.inv_startN S hr.hd e0 hl r C hns kp
  have hks' : (NdefX.envF NFn f s.heap.objs.size).kindOf "super" = some .globalImplicit := by
    rw [hNF]
    exact hks
  have hkc' : (NdefX.envF NFn f s.heap.objs.size).kindOf "__class__" = some .free := by
    rw [hNF]
    exact hkc
  have hkd' : (NdefX.envF NFn f s.heap.objs.size).scope.kind = .function := by
    rw [hNF]
    exact S.kind
  have hcl' : (NdefX.envF NFn f s.heap.objs.size).cells.lookup ("__class__" : Str) = some cc := by
    rw [hNF]
    rfl
  have hco' : (NdefX.envF NFn f s.heap.objs.size).code = .ref c := by
    rw [hNF]
  have ha' := ha A outer s H E (hr.mono (by omega : k + 2 ≤ k + 3) |>.deeper _)
  have hse' := hse s.heap.objs.size
  have hca' := hca s.heap.objs.size
  have hst' := hst s.heap.objs.size
  have hself : (NdefX.envF NFn f s.heap.objs.size).kindOf "self" = some .local := by
    rw [hNF]
    cases ps with
    | nil => cases hps
    | cons p r =>
      cases (Option.some.inj hps)
      exact S.par _ (List.mem_cons_self ..)
  -- self's value
  obtain ⟨ur, eus⟩ : ∃ ur, us = .ref a :: ur := by
    rw [evs] at r
    cases r with
    | cons r1 _ =>
      cases r1
      exact ⟨_, rfl⟩
  have hself2 : (ps.zip us).reverse.lookup ("self" : Str) = some (.ref a) := by
    have ndP : ps.Nodup := by
      have q := S.nd.sublist (List.take_sublist (ps.length + 1) N)
      rw [show N.take (ps.length + 1) = ps ++ [("__class__" : Str)] from S.pre] at q
      exact (List.nodup_append.mp q).1
    refine NdefX.zip_look (i := 0) ndP ?_ (by rw [eus]; rfl)
    cases ps with
    | nil => cases hps
    | cons p r => exact hps
  obtain ⟨h1s, eh1⟩ : ∃ z : Shared, z = { s with heap := h1, toks := s.toks + (ps.zip us).length } := ⟨_, rfl⟩
  subst hbody
  refine ks_wpAt_execs_cons (ks_wpAt_Expr_any (ks_wpAt_MethodCall (pl := pl (NdefX.envF NFn f s.heap.objs.size)) ?_ hca') (by unfold interactive; rw [hkd']; rfl) hse')
  have hfun : (NdefX.envF NFn f s.heap.objs.size).func = some f := rfl
  have X1 : K.In h1 := I.kIn
  obtain ⟨mA, O, _, _, _, _⟩ := ins_get I.hok hA
  have hx1 : h1.get? a = some (PySem.W.instObj D dx) := O.obj
  obtain ⟨oD, hD1, hD2⟩ : ∃ oD, h1.get? D = some oD ∧ oD.data = .cls cdD := by
    unfold PySem.W.clsIn at hD
    split at hD
    · rename_i c0 d0 cd' sl ho
      cases hD
      exact ⟨_, X1 _ _ ho, rfl⟩
    · cases hD
  obtain ⟨of, hof, hofc⟩ : ∃ of, h1.get? f2 = some of ∧ of.cls = .type "function" := by
    have ht' : (K.lookup f2).map (·.cls) = some (.type "function") := T.ty
    cases z : K.lookup f2 with
    | none => rw [z] at ht'; cases ht'
    | some of => rw [z] at ht'; exact ⟨of, X1 _ _ z, Option.some.inj ht'⟩
  have aD : a ≠ D := by
    rintro rfl
    rw [hx1] at hD1
    cases hD1
    cases hD2
  obtain ⟨mb, hmb1, hmb2⟩ := I.mod.blt
  refine ks_wpAt_super_base hks' hkc' hm hfun (kp _ _ (KX _ _ lk)) rfl har hco' (X1 _ _ kcode) rfl hvs hfile T.top ?_
  refine PySem.W.ks_loadName_global hkd' hks' (Calls.loadGlobal_builtin (env := NdefX.envF NFn f s.heap.objs.size) (I.mod.glob.keeps I.bk) T.glb (hmb1.keeps I.bk) ((hmb2 _ (by decide)).trans (show bootBuiltins "super" = some (.type "super") by first | rfl | kernel_rfl)) ⟨rfl, ?_⟩)
  refine wpAny_loadName_free hkd' hkc' hcl' ⟨_, X1 _ _ kcell, rfl⟩ ?_
  rw [hars]
  refine wpAny_loadName_local hkd' hself hns hself2 ?_
  refine ks_wpAny_isType_cls hD1 hD2 ⟨rfl, ?_⟩
  refine ks_wpAny_call_super hD1 hD2 hx1 rfl (fun c0 e => nomatch e) (PySem.W.looks_mroIn X1 T.sub) (fun h2 hso k2 => ?_)
  have I2 : Inv (NdefX.ncx CX0 P w K mg base N NFn f A outer s H E) [] (NdefX.startF N vs [none]) H { s with heap := h2, toks := s.toks + (ps.zip us).length } := I.kept (h' := h2) (t' := s.toks + (ps.zip us).length) k2
  have X2 : K.In h2 := I2.kIn
  have up2 := T.up
  unfold PySem.W.ks_superIn at up2
  rw [hD] at up2
  refine ks_wpAny_getMethod_super hso (PySem.W.looks_opaque X2 T.op) (l₀ := cdD.mro) (fun A Q E s k q => wpAny_bind ((PySem.W.looks_clsIn X2 hD) A _ E s k (wpAny_pure q))) rfl X2 up2 (k2 _ _ hof) hofc aD hm ?_
  have I3 := pin_metN (g := f2) (self := .ref a) (tk := s.toks + (ps.zip us).length + 1) I2
  have hq3 : (h2.push (PySem.W.methodObj (.ref f2) (.ref a))).get? h2.objs.size = some (PySem.W.methodObj (.ref f2) (.ref a)) := Heap.get?_push_size h2 rfl
  have hL3 : h2.objs.size ≠ (NdefX.envF NFn f s.heap.objs.size).locals := Nat.ne_of_gt I2.lt
  have hb3 : base.get? h2.objs.size = none := by
    cases e : base.get? h2.objs.size with
    | none => rfl
    | some o => exact absurd (Heap.lt_size (I2.bs _ o e).1) (Nat.lt_irrefl _)
  refine PySem.W.callWith_M (K := K) (h₀ := base) (first := []) I.ok.mod.kin (news_at hL3 hb3 hq3) List.mem_cons_self T.fi ?_ hst' rfl
  refine thn (ha'.run p3 _ _ (NdefX.startF N vs [none]) H (fun vs' H1 => match vs' with | [v] => sp2 [.ref a, v] H1 (fun _ H2 => Q .non H2) E0 | _ => False) I3 hq) fun us' s4 ⟨vs', H1, I4, rv, q⟩ => ?_
  cases rv with
  | nil => exact False.elim q
  | cons r1 r2 =>
    cases r2 with
    | cons _ _ => exact False.elim q
    | nil =>
      rename_i v0 u0 _
      have hp4 := (I4.pin (h2.objs.size, PySem.W.methodObj (.ref f2) (.ref a)) (List.mem_append_right _ List.mem_cons_self)).1
      refine ⟨⟨hp4, I4.kIn⟩, ?_⟩
      have hr2 : Room k (NdefX.ncx CX0 P w K mg base N NFn f A outer s H E).A := (hr.mono (by omega : k + 1 ≤ k + 3)).deeper _
      refine wpAny_call (PySem.W.method_call hp4 (codeAny_mono (F2.run _ _ s4 H1 ⟨[.ref a, u0], []⟩ [.ref a, u0] [.ref a, v0] (fun _ H2 => Q .non H2) E0 hr2 I4.env0 (b2 s4 [.ref a, u0] I4.kIn rfl) (.cons rfl (.cons r1 .nil)) q) fun r s' hq' => ?_))
      cases r with
      | error e => exact False.elim hq'
      | ok fl =>
        cases fl with
        | ret u =>
          obtain ⟨v, H', J, rv', qv⟩ := I4.after hq'
          rw [execs_nil]
          refine wpAt_of_wpAny (wpAny_pure ?_)
          exact ⟨.non, H', J.os, J.bare, J.base, J.hok, rfl, qv⟩
        | next => exact False.elim hq'
        | brk => exact False.elim hq'
        | cont => exact False.elim hq'
end
end Ep
set_option maxHeartbeats 4000000
/-! EpochBook, LookBook, StillBook: __init__ (printed by tools/super3.py) -/
namespace Ep
open PySem PySem.Spec PyProof.Rows L2 Evl
/-- a def of the text that goes by super().__init__, keyword-only defaults kws -/
structure FunS (K : PySem.W.Frag) (mg : Str → Option Value) (P : Program) (x qual : Str) (st : Stmt) (kws : List (Str × V)) (D f2 f : Addr) (fd : FuncData) : Prop where
  ex : ∃ (oc : Value) (od : Option Addr) (dV kV doc pm : Value) (an : Option Addr) (c : Addr) (ct : Value) (cc : Addr) (osl : Array (Option Value)),
    fd = PySem.W.ksFn x qual (defArgs st) (defBody st) (defScope st) dV kV doc pm an (.ref c) ct cc ∧ K.lookup f = some ⟨oc, od, .func fd, osl⟩ ∧ PySem.W.codeIn K (.ref c) qual = true ∧ SupK K mg P cc D c f2 "__init__" ∧ dV = .none ∧ KwdV K kV kws
theorem abl_cons {A : Ab} {As : List Ab} {H : Hp} {vs : List V} (h : AbL (A :: As) H vs) : ∃ v r, vs = v :: r ∧ A.P H v ∧ AbL As H r := by
  cases h with
  | cons h r => exact ⟨_, _, rfl, h, r⟩
theorem abl_nil {H : Hp} {vs : List V} (h : AbL [] H vs) : vs = [] := by cases h; rfl
theorem ex_upd2 {H : Hp} {d : Addr} {o u : HO} (hd : H d = none) : Ex H (upd (upd H d o) d u) := fun b w h => by
  have n := ne_of_none h hd
  rw [upd_ne n, upd_ne n]
  exact h
section
variable {P : Program} {w : World} {K : PySem.W.Frag} {mg : Str → Option Value} {base : Heap} {a : Adr}
abbrev s_xe : Stmt := inClass (top 22) 2
abbrev ps_xe : List Str := ["self", "epochs", "behind", "check", "fetch", "mark", "test", "step", "told"]
abbrev n_xe : List Str := ["self", "epochs", "behind", "check", "fetch", "mark", "test", "step", "told", "__class__"]
theorem sc_xe : NdefX.NScope n_xe ps_xe ["__class__"] (defScope s_xe) := NdefX.nscope_by (by decide +kernel)
structure NEx where
  (H0 : Hp) (p dx : Addr) (o : EOwn)
abbrev sp_xe (K : PySem.W.Frag) (a : Adr) : Sp := spC (ι := NEx) (fun i => i.H0 i.p = none ∧ EpOk (.E i.o) ∧ OkOwn (.E i.o)) (fun i => [Rf i.p, aI K i.o.epochs, aI K i.o.behind, aB K i.o.check, aS K i.o.fetch, aS K i.o.mark, aS K i.o.test, aS K i.o.step, aB K i.o.told]) (fun i => mNew i.H0 i.p a.EB i.dx []) (fun i => mBk a i.H0 i.p (.E i.o)) fun _ => aN K
theorem ok_xe {kws : List (Str × V)} {f2 f : Addr} {fd fd2 : FuncData} (F : FunS K mg P "__init__" "EpochBook.__init__" s_xe kws a.EB f2 f fd) (F2 : FnOk P w K mg base CX0 5 f2 fd2 ["self", "own"] (sp_bi K a)) (b2 : Binds K fd2 ["self", "own"] []) : FnOk P w K mg base CX0 8 f fd ps_xe (sp_xe K a) := by
  obtain ⟨oc, od, dV, kV, doc, pm, an, c, ct, cc, osl, rfl, lk, hcd, T, hD, hK⟩ := F.ex
  refine (fn_super (k := 5) (D := a.EB) (m := "__init__") (N := n_xe) (ps := ps_xe) (t := tDisp [(tC (.str "epochs"), tVar 1), (tC (.str "behind"), tVar 2), (tC (.str "check"), tVar 3), (tC (.str "fetch"), tVar 4), (tC (.str "mark"), tVar 5), (tC (.str "test"), tVar 6), (tC (.str "step"), tVar 7), (tC (.str "told"), tVar 8)]) (NFn := ⟨"__init__", "EpochBook.__init__", defArgs s_xe, defBody s_xe, defScope s_xe, [("__class__", cc)], c⟩) rfl rfl lk hcd sc_xe T rfl rfl rfl rfl rfl (by decide) F2 b2 (fun A outer s H E hr => pa_cons (pe_disp (pps_cons pe_str (pe_var (i := 1) rfl (by first | exact Or.inl rfl | exact Or.inr (Or.inl rfl) | exact Or.inr (Or.inr rfl))) (pps_cons pe_str (pe_var (i := 2) rfl (by first | exact Or.inl rfl | exact Or.inr (Or.inl rfl) | exact Or.inr (Or.inr rfl))) (pps_cons pe_str (pe_var (i := 3) rfl (by first | exact Or.inl rfl | exact Or.inr (Or.inl rfl) | exact Or.inr (Or.inr rfl))) (pps_cons pe_str (pe_var (i := 4) rfl (by first | exact Or.inl rfl | exact Or.inr (Or.inl rfl) | exact Or.inr (Or.inr rfl))) (pps_cons pe_str (pe_var (i := 5) rfl (by first | exact Or.inl rfl | exact Or.inr (Or.inl rfl) | exact Or.inr (Or.inr rfl))) (pps_cons pe_str (pe_var (i := 6) rfl (by first | exact Or.inl rfl | exact Or.inr (Or.inl rfl) | exact Or.inr (Or.inr rfl))) (pps_cons pe_str (pe_var (i := 7) rfl (by first | exact Or.inl rfl | exact Or.inr (Or.inl rfl) | exact Or.inr (Or.inr rfl))) (pps_cons pe_str (pe_var (i := 8) rfl (by first | exact Or.inl rfl | exact Or.inr (Or.inl rfl) | exact Or.inr (Or.inr rfl))) pps_nil)))))))) rfl rfl (by intro z; cases z) (by decide)) pa_nil) (fun L => by rfl) (fun env => do return (← importBound (.Call (.Name "super" _) [] [] _) env).getD true) (fun L => by rfl) (fun L => by rfl)).imp fun vs H Q E h => ?_
  obtain ⟨⟨H0, p, dx, o⟩, hi, m, hv, q⟩ := h
  obtain ⟨v0, r0, e0, h0, hv⟩ := abl_cons hv
  obtain ⟨v1, r1, e1, h1, hv⟩ := abl_cons hv
  obtain ⟨v2, r2, e2, h2, hv⟩ := abl_cons hv
  obtain ⟨v3, r3, e3, h3, hv⟩ := abl_cons hv
  obtain ⟨v4, r4, e4, h4, hv⟩ := abl_cons hv
  obtain ⟨v5, r5, e5, h5, hv⟩ := abl_cons hv
  obtain ⟨v6, r6, e6, h6, hv⟩ := abl_cons hv
  obtain ⟨v7, r7, e7, h7, hv⟩ := abl_cons hv
  obtain ⟨v8, r8, e8, h8, hv⟩ := abl_cons hv
  cases abl_nil hv
  subst e8 e7 e6 e5 e4 e3 e2 e1 e0
  cases h0
  cases h1
  cases h2
  cases h3
  cases h4
  cases h5
  cases h6
  cases h7
  cases h8
  refine ⟨p, dx, [], _, rfl, rfl, m.2, fun d hd => ?_⟩
  refine ⟨_, rfl, ⟨_, rfl, ⟨_, rfl, ⟨_, rfl, ⟨_, rfl, ⟨_, rfl, ⟨_, rfl, ⟨_, rfl, ⟨upd_same, kvsE o, rfl, kvs_len (.E o), ?_⟩⟩⟩⟩⟩⟩⟩⟩⟩
  have hpd : d ≠ p := fun z => by
    subst z
    have := m.2
    rw [hd] at this
    cases this
  refine ⟨⟨H0, p, dx, .E o⟩, hi, ⟨m.1.trans ?_, ?_⟩, .cons rfl (.cons ⟨d, rfl, ?_⟩ .nil), fun v H' m' r => q .non H' m' .non⟩
  · exact ex_upd2 hd
  · rw [upd_ne (Ne.symm hpd), upd_ne (Ne.symm hpd)]
    exact m.2
  · rw [upd_same]
    exact congrArg (fun z => some (HO.dK z)) (kvs_self (.E o))
abbrev s_xl : Stmt := inClass (top 23) 2
abbrev ps_xl : List Str := ["self", "check", "look", "chain"]
abbrev n_xl : List Str := ["self", "check", "look", "chain", "__class__"]
theorem sc_xl : NdefX.NScope n_xl ps_xl ["__class__"] (defScope s_xl) := NdefX.nscope_by (by decide +kernel)
structure NLx where
  (H0 : Hp) (p dx : Addr) (o : LOwn)
abbrev sp_xl (K : PySem.W.Frag) (a : Adr) : Sp := spC (ι := NLx) (fun i => i.H0 i.p = none ∧ EpOk (.L i.o) ∧ OkOwn (.L i.o)) (fun i => [Rf i.p, aB K i.o.check, aS K i.o.look, aS K i.o.chain]) (fun i => mNew i.H0 i.p a.LB i.dx []) (fun i => mBk a i.H0 i.p (.L i.o)) fun _ => aN K
theorem ok_xl {kws : List (Str × V)} {f2 f : Addr} {fd fd2 : FuncData} (F : FunS K mg P "__init__" "LookBook.__init__" s_xl kws a.LB f2 f fd) (F2 : FnOk P w K mg base CX0 5 f2 fd2 ["self", "own"] (sp_bi K a)) (b2 : Binds K fd2 ["self", "own"] []) : FnOk P w K mg base CX0 8 f fd ps_xl (sp_xl K a) := by
  obtain ⟨oc, od, dV, kV, doc, pm, an, c, ct, cc, osl, rfl, lk, hcd, T, hD, hK⟩ := F.ex
  refine (fn_super (k := 5) (D := a.LB) (m := "__init__") (N := n_xl) (ps := ps_xl) (t := tDisp [(tC (.str "check"), tVar 1), (tC (.str "look"), tVar 2), (tC (.str "chain"), tVar 3)]) (NFn := ⟨"__init__", "LookBook.__init__", defArgs s_xl, defBody s_xl, defScope s_xl, [("__class__", cc)], c⟩) rfl rfl lk hcd sc_xl T rfl rfl rfl rfl rfl (by decide) F2 b2 (fun A outer s H E hr => pa_cons (pe_disp (pps_cons pe_str (pe_var (i := 1) rfl (by first | exact Or.inl rfl | exact Or.inr (Or.inl rfl) | exact Or.inr (Or.inr rfl))) (pps_cons pe_str (pe_var (i := 2) rfl (by first | exact Or.inl rfl | exact Or.inr (Or.inl rfl) | exact Or.inr (Or.inr rfl))) (pps_cons pe_str (pe_var (i := 3) rfl (by first | exact Or.inl rfl | exact Or.inr (Or.inl rfl) | exact Or.inr (Or.inr rfl))) pps_nil))) rfl rfl (by intro z; cases z) (by decide)) pa_nil) (fun L => by rfl) (fun env => do return (← importBound (.Call (.Name "super" _) [] [] _) env).getD true) (fun L => by rfl) (fun L => by rfl)).imp fun vs H Q E h => ?_
  obtain ⟨⟨H0, p, dx, o⟩, hi, m, hv, q⟩ := h
  obtain ⟨v0, r0, e0, h0, hv⟩ := abl_cons hv
  obtain ⟨v1, r1, e1, h1, hv⟩ := abl_cons hv
  obtain ⟨v2, r2, e2, h2, hv⟩ := abl_cons hv
  obtain ⟨v3, r3, e3, h3, hv⟩ := abl_cons hv
  cases abl_nil hv
  subst e3 e2 e1 e0
  cases h0
  cases h1
  cases h2
  cases h3
  refine ⟨p, dx, [], _, rfl, rfl, m.2, fun d hd => ?_⟩
  refine ⟨_, rfl, ⟨_, rfl, ⟨_, rfl, ⟨upd_same, kvsL o, rfl, kvs_len (.L o), ?_⟩⟩⟩⟩
  have hpd : d ≠ p := fun z => by
    subst z
    have := m.2
    rw [hd] at this
    cases this
  refine ⟨⟨H0, p, dx, .L o⟩, hi, ⟨m.1.trans ?_, ?_⟩, .cons rfl (.cons ⟨d, rfl, ?_⟩ .nil), fun v H' m' r => q .non H' m' .non⟩
  · exact ex_upd2 hd
  · rw [upd_ne (Ne.symm hpd), upd_ne (Ne.symm hpd)]
    exact m.2
  · rw [upd_same]
    exact congrArg (fun z => some (HO.dK z)) (kvs_self (.L o))
abbrev s_xs : Stmt := inClass (top 24) 2
abbrev ps_xs : List Str := ["self", "counts", "still", "read", "sleep"]
abbrev n_xs : List Str := ["self", "counts", "still", "read", "sleep", "__class__"]
theorem sc_xs : NdefX.NScope n_xs ps_xs ["__class__"] (defScope s_xs) := NdefX.nscope_by (by decide +kernel)
structure NSx where
  (H0 : Hp) (p dx : Addr) (o : SOwn)
abbrev sp_xs (K : PySem.W.Frag) (a : Adr) : Sp := spC (ι := NSx) (fun i => i.H0 i.p = none ∧ EpOk (.S i.o) ∧ OkOwn (.S i.o)) (fun i => [Rf i.p, aI K i.o.counts, aS K i.o.still, aS K i.o.read, aS K i.o.sleep]) (fun i => mNew i.H0 i.p a.SB i.dx []) (fun i => mBk a i.H0 i.p (.S i.o)) fun _ => aN K
theorem ok_xs {kws : List (Str × V)} {f2 f : Addr} {fd fd2 : FuncData} (F : FunS K mg P "__init__" "StillBook.__init__" s_xs kws a.SB f2 f fd) (F2 : FnOk P w K mg base CX0 5 f2 fd2 ["self", "own"] (sp_bi K a)) (b2 : Binds K fd2 ["self", "own"] []) : FnOk P w K mg base CX0 8 f fd ps_xs (sp_xs K a) := by
  obtain ⟨oc, od, dV, kV, doc, pm, an, c, ct, cc, osl, rfl, lk, hcd, T, hD, hK⟩ := F.ex
  refine (fn_super (k := 5) (D := a.SB) (m := "__init__") (N := n_xs) (ps := ps_xs) (t := tDisp [(tC (.str "counts"), tVar 1), (tC (.str "still"), tVar 2), (tC (.str "read"), tVar 3), (tC (.str "sleep"), tVar 4)]) (NFn := ⟨"__init__", "StillBook.__init__", defArgs s_xs, defBody s_xs, defScope s_xs, [("__class__", cc)], c⟩) rfl rfl lk hcd sc_xs T rfl rfl rfl rfl rfl (by decide) F2 b2 (fun A outer s H E hr => pa_cons (pe_disp (pps_cons pe_str (pe_var (i := 1) rfl (by first | exact Or.inl rfl | exact Or.inr (Or.inl rfl) | exact Or.inr (Or.inr rfl))) (pps_cons pe_str (pe_var (i := 2) rfl (by first | exact Or.inl rfl | exact Or.inr (Or.inl rfl) | exact Or.inr (Or.inr rfl))) (pps_cons pe_str (pe_var (i := 3) rfl (by first | exact Or.inl rfl | exact Or.inr (Or.inl rfl) | exact Or.inr (Or.inr rfl))) (pps_cons pe_str (pe_var (i := 4) rfl (by first | exact Or.inl rfl | exact Or.inr (Or.inl rfl) | exact Or.inr (Or.inr rfl))) pps_nil)))) rfl rfl (by intro z; cases z) (by decide)) pa_nil) (fun L => by rfl) (fun env => do return (← importBound (.Call (.Name "super" _) [] [] _) env).getD true) (fun L => by rfl) (fun L => by rfl)).imp fun vs H Q E h => ?_
  obtain ⟨⟨H0, p, dx, o⟩, hi, m, hv, q⟩ := h
  obtain ⟨v0, r0, e0, h0, hv⟩ := abl_cons hv
  obtain ⟨v1, r1, e1, h1, hv⟩ := abl_cons hv
  obtain ⟨v2, r2, e2, h2, hv⟩ := abl_cons hv
  obtain ⟨v3, r3, e3, h3, hv⟩ := abl_cons hv
  obtain ⟨v4, r4, e4, h4, hv⟩ := abl_cons hv
  cases abl_nil hv
  subst e4 e3 e2 e1 e0
  cases h0
  cases h1
  cases h2
  cases h3
  cases h4
  refine ⟨p, dx, [], _, rfl, rfl, m.2, fun d hd => ?_⟩
  refine ⟨_, rfl, ⟨_, rfl, ⟨_, rfl, ⟨_, rfl, ⟨upd_same, kvsS o, rfl, kvs_len (.S o), ?_⟩⟩⟩⟩⟩
  have hpd : d ≠ p := fun z => by
    subst z
    have := m.2
    rw [hd] at this
    cases this
  refine ⟨⟨H0, p, dx, .S o⟩, hi, ⟨m.1.trans ?_, ?_⟩, .cons rfl (.cons ⟨d, rfl, ?_⟩ .nil), fun v H' m' r => q .non H' m' .non⟩
  · exact ex_upd2 hd
  · rw [upd_ne (Ne.symm hpd), upd_ne (Ne.symm hpd)]
    exact m.2
  · rw [upd_same]
    exact congrArg (fun z => some (HO.dK z)) (kvs_self (.S o))
end
end Ep
set_option maxHeartbeats 4000000
/-! how the books' inits bind -/
namespace Ep
open PySem PySem.Spec PyProof.Rows L2 Evl
section
variable {P : Program} {w : World} {K : PySem.W.Frag} {mg : Str → Option Value} {base : Heap} {a : Adr} {x qual : Str} {st : Stmt} {kws : List (Str × V)} {D0 f2 f : Addr} {fd : FuncData} {ps ks : List Str}
theorem FunS.binds0 (F : FunS K mg P x qual st kws D0 f2 f fd) (n : Nat) (hk : kws ≠ []) (hn : n + kws.length = ps.length)
    (h : ∀ (D : Addr) (doc pm : Value) (an : Option Addr) (c : Addr) (ct : Value) (cc : Addr) (us ks : List Value), us.length = n → ks.length = kws.length →
      KwChain D ((kws.map (·.1)).zip ks) (bindArgs (PySem.W.ksFn x qual (defArgs st) (defBody st) (defScope st) .none (.ref D) doc pm an (.ref c) ct cc) ⟨us, []⟩) (ps.zip (us ++ ks))) : ∃ ds, Vals (kws.map (·.2)) ds ∧ Binds K fd ps ds := by
  obtain ⟨oc, od, dV, kV, doc, pm, an, c, ct, cc, osl, rfl, lk, hcd, T, rfl, hK⟩ := F.ex
  rcases hK with e | ⟨D, rfl, hq⟩
  · exact absurd e hk
  · obtain ⟨ks, hl, rk, hks⟩ := kwd_vals hq
    refine ⟨ks, rk, fun s us X hlen => ?_⟩
    have l2 : us.length = n := by
      rw [List.length_append, hl] at hlen
      omega
    exact BindsTo.of_looks fun M => KwChain.looks X hks (h D doc pm an c ct cc us ks l2 hl)
theorem FunS.kbn {n : Nat} (F : FunS K mg P x qual st kws D0 f2 f fd)
    (h : ∀ (kV doc pm : Value) (an : Option Addr) (c : Addr) (ct : Value) (cc : Addr) (us ws : List Value), us.length = n → ws.length = ks.length →
      bindArgs (PySem.W.ksFn x qual (defArgs st) (defBody st) (defScope st) .none kV doc pm an (.ref c) ct cc) ⟨us, ks.zip ws⟩ = pure (ps.zip (us ++ ws))) : KBn K fd ps n ks (fun us ws => us ++ ws) (fun vs zs => vs ++ zs) := by
  obtain ⟨oc, od, dV, kV, doc, pm, an, c, ct, cc, osl, rfl, lk, hcd, T, rfl, hK⟩ := F.ex
  exact ⟨fun s us ws X l1 l2 => .of_eq (h kV doc pm an c ct cc us ws l1 l2), fun r1 r2 => r1.append r2⟩
abbrev kws_xe : List (Str × V) := [("check", .bl true), ("fetch", .str "behind"), ("mark", .str "fresh"), ("test", .str "equal"), ("step", .str "still"), ("told", .bl true)]
theorem bd_xe {D0 f2 f : Addr} {fd : FuncData} (F : FunS K mg P "__init__" "EpochBook.__init__" s_xe kws_xe D0 f2 f fd) : ∃ ds, Vals (kws_xe.map (·.2)) ds ∧ Binds K fd ps_xe ds :=
  F.binds0 3 (by intro z; cases z) rfl fun D doc pm an c ct cc us ks l1 l2 => match us, l1, ks, l2 with
    | [_, _, _], _, [_, _, _, _, _, _], _ => ⟨_, _, _, _, _, _, rfl, rfl, ⟨_, _, _, _, _, _, rfl, rfl, ⟨_, _, _, _, _, _, rfl, rfl, ⟨_, _, _, _, _, _, rfl, rfl, ⟨_, _, _, _, _, _, rfl, rfl, ⟨_, _, _, _, _, _, rfl, rfl, rfl⟩⟩⟩⟩⟩⟩
theorem kb_xe {D0 f2 f : Addr} {fd : FuncData} (F : FunS K mg P "__init__" "EpochBook.__init__" s_xe kws_xe D0 f2 f fd) : KBn K fd ps_xe 3 ["check", "fetch", "mark", "test", "step", "told"] (fun us ws => us ++ ws) (fun vs zs => vs ++ zs) :=
  F.kbn fun kV doc pm an c ct cc us ws l1 l2 => match us, l1, ws, l2 with
    | [_, _, _], _, [_, _, _, _, _, _], _ => rfl
abbrev kws_xl : List (Str × V) := [("check", .bl true), ("look", .str "behind"), ("chain", .str "none")]
theorem bd_xl {D0 f2 f : Addr} {fd : FuncData} (F : FunS K mg P "__init__" "LookBook.__init__" s_xl kws_xl D0 f2 f fd) : ∃ ds, Vals (kws_xl.map (·.2)) ds ∧ Binds K fd ps_xl ds :=
  F.binds0 1 (by intro z; cases z) rfl fun D doc pm an c ct cc us ks l1 l2 => match us, l1, ks, l2 with
    | [_], _, [_, _, _], _ => ⟨_, _, _, _, _, _, rfl, rfl, ⟨_, _, _, _, _, _, rfl, rfl, ⟨_, _, _, _, _, _, rfl, rfl, rfl⟩⟩⟩
theorem kb_xl {D0 f2 f : Addr} {fd : FuncData} (F : FunS K mg P "__init__" "LookBook.__init__" s_xl kws_xl D0 f2 f fd) : KBn K fd ps_xl 1 ["check", "look", "chain"] (fun us ws => us ++ ws) (fun vs zs => vs ++ zs) :=
  F.kbn fun kV doc pm an c ct cc us ws l1 l2 => match us, l1, ws, l2 with
    | [_], _, [_, _, _], _ => rfl
abbrev kws_xs : List (Str × V) := [("still", .str "outside"), ("read", .str "behind"), ("sleep", .str "none")]
theorem bd_xs {D0 f2 f : Addr} {fd : FuncData} (F : FunS K mg P "__init__" "StillBook.__init__" s_xs kws_xs D0 f2 f fd) : ∃ ds, Vals (kws_xs.map (·.2)) ds ∧ Binds K fd ps_xs ds :=
  F.binds0 2 (by intro z; cases z) rfl fun D doc pm an c ct cc us ks l1 l2 => match us, l1, ks, l2 with
    | [_, _], _, [_, _, _], _ => ⟨_, _, _, _, _, _, rfl, rfl, ⟨_, _, _, _, _, _, rfl, rfl, ⟨_, _, _, _, _, _, rfl, rfl, rfl⟩⟩⟩
theorem kb_xs {D0 f2 f : Addr} {fd : FuncData} (F : FunS K mg P "__init__" "StillBook.__init__" s_xs kws_xs D0 f2 f fd) : KBn K fd ps_xs 2 ["still", "read", "sleep"] (fun us ws => us ++ ws) (fun vs zs => vs ++ zs) :=
  F.kbn fun kV doc pm an c ct cc us ws l1 l2 => match us, l1, ws, l2 with
    | [_, _], _, [_, _, _], _ => rfl
/-- EpochBook(**own): every parameter by its word -/
theorem kb_all {D0 f2 f : Addr} {fd : FuncData} (F : FunS K mg P "__init__" "EpochBook.__init__" s_xe kws_xe D0 f2 f fd) : KBn K fd ps_xe 1 ["epochs", "behind", "check", "fetch", "mark", "test", "step", "told"] (fun us ws => us ++ ws) (fun vs zs => vs ++ zs) :=
  F.kbn fun kV doc pm an c ct cc us ws l1 l2 => match us, l1, ws, l2 with
    | [_], _, [_, _, _, _, _, _, _, _], _ => rfl
end
end Ep
set_option maxHeartbeats 4000000
/-! books made; the twins of LookBook and StillBook -/
namespace Ep
open PySem PySem.Spec PyProof.Rows L2 Evl
/-- keywords -/
abbrev AKw (X : Cx) (M : Mb) (ρ : List Sl) (kws : List Keyword) (As : List Ab) : Prop := PK X kws (tAA M ρ As)
/-- a new book -/
def rBk (a : Adr) (o : Own) : RR := fun H H' v => ∃ b, v = .ref b ∧ H b = none ∧ IsBook a H' b o
theorem rBk_back {a : Adr} {o : Own} {H H1 H' : Hp} {v : V} (e : Ex H H1) (h : rBk a o H1 H' v) : rBk a o H H' v := by
  obtain ⟨b, h1, h2, h3⟩ := h
  exact ⟨b, h1, fresh_back e h2, h3⟩
/-- what a book's init promises, for one book -/
def spB (a : Adr) (C : Addr) (o : Own) (As : List Ab) : Sp := fun vs H Q _ => ∃ (H0 : Hp) (p dx : Addr), H0 p = none ∧ (mNew H0 p C dx []).P H ∧ AbL (Rf p :: As) H vs ∧ ∀ H', (mBk a H0 p o).P H' → Q .non H'
theorem AbL.app {H : Hp} : ∀ {As Bs : List Ab} {vs zs : List V}, AbL As H vs → AbL Bs H zs → AbL (As ++ Bs) H (vs ++ zs)
  | _, _, _, _, .nil, h => h
  | _, _, _, _, .cons h r, h2 => .cons h (AbL.app r h2)
section
variable {X : Cx} {M : Mb} {ρ : List Sl} {e : Expr} {es : List Expr} {kws : List Keyword} {A : Ab} {As Bs : List Ab} {nm : Option Str} {kpos p pos : Pos} {a : Adr} {C f : Addr} {o : Own} {fd : FuncData} {ps ks : List Str} {k n : Nat} {x : Str} {ds : List Value} {dvs : List V} {g : List Value → List Value → List Value}
theorem ak_nil : AKw X M ρ [] [] := ⟨fun pos pins s σ H Q I ⟨_, _, q⟩ => pk_nil.run pos pins s σ H Q I (q [] H (Ex.refl H) .nil)⟩
theorem ak_cons (h : AE X M ρ e A) (hr : AKw X M ρ kws As) : AKw X M ρ (⟨nm, e, kpos⟩ :: kws) (A :: As) :=
  ⟨fun pos pins s σ H Q I ⟨m, sl, q⟩ => (pk_cons h hr).run pos pins s σ H Q I ⟨m, sl, fun v H1 e1 a1 => ⟨M.mono e1 m, sl.mono e1, fun vs H2 e2 a2 => q (v :: vs) H2 (e1.trans e2) (.cons (A.mono e2 a1) a2)⟩⟩⟩
theorem bk_fit {H : Hp} {vs : List V} {Q : VK} {E : XK} {q dx : Addr} (hv : AbL As H vs) (h1 : H q = none) (h2 : H dx = none) (h3 : dx ≠ q) (hq : ∀ v H', Ex H H' → rBk a o H H' v → Q v H') :
    spB a C o As (.ref q :: vs) (upd (upd H dx (.own q)) q (.ins C dx [])) (fun v H2 => v = .non ∧ Q (.ref q) H2) E :=
  ⟨H, q, dx, h1, ⟨era_new h1 h2 h3, upd_same⟩, .cons rfl (hv.mono (era_new h1 h2 h3)), fun H' m => ⟨rfl, hq _ H' m.1 ⟨q, rfl, h1, m.2.2⟩⟩⟩
theorem ar_bkD (mk : Mk X.K C f) (F : FnOk X.prog X.w X.K X.mg X.base CX0 k f fd ps (spB a C o (As ++ Bs))) (hr : Room (k + 1) X.A) (hm : X.mg x = some (.ref C)) (hb : Binds X.K fd ps ds) (hd : Vals dvs ds) (hdv : ∀ H, AbL Bs H dvs) (ha : AA X M ρ (e :: es) As)
    (hg : Gl X x := by rfl) (hdb : (x == ("__debug__" : Str)) = false := by decide) (he : starEach (e :: es) X.env = (false, eval e X.env) :: starEach es X.env := by rfl) (hpl : (backTo pos (starEach es X.env)).any (·.1) = false := by rfl) :
    AR X M ρ (.Call (.Name x p) (e :: es) [] pos) (rBk a o) :=
  weakE (pe_make mk F hr hg hm hb hd pass0 ha hdb he hpl) fun σ H Q ⟨m, sl, q⟩ => ⟨m, sl, fun vs H1 e1 a1 => fun y dx h1 h2 h3 => bk_fit (a1.app (hdv H1)) h1 h2 h3 fun v H' e2 r => q v H' (e1.trans e2) (rBk_back e1 r)⟩
theorem ar_bkD0 (mk : Mk X.K C f) (F : FnOk X.prog X.w X.K X.mg X.base CX0 k f fd ps (spB a C o Bs)) (hr : Room (k + 1) X.A) (hm : X.mg x = some (.ref C)) (hb : Binds X.K fd ps ds) (hd : Vals dvs ds) (hdv : ∀ H, AbL Bs H dvs)
    (hg : Gl X x := by rfl) (hdb : (x == ("__debug__" : Str)) = false := by decide) : AR X M ρ (.Call (.Name x p) [] [] pos) (rBk a o) :=
  weakE (pe_make0 mk F hr hg hm hb hd pass0 hdb) fun σ H Q ⟨m, sl, q⟩ => fun y dx h1 h2 h3 => bk_fit (hdv H) h1 h2 h3 fun v H' e2 r => q v H' e2 r
theorem ar_bkK0 (mk : Mk X.K C f) (F : FnOk X.prog X.w X.K X.mg X.base CX0 k f fd ps (spB a C o Bs)) (hr : Room (k + 1) X.A) (hm : X.mg x = some (.ref C)) (hb : KBn X.K fd ps 1 ks g (fun vs zs => vs ++ zs)) (hkw : AKw X M ρ kws Bs) (hl : Bs.length = ks.length := by rfl)
    (hg : Gl X x := by rfl) (hall : (backToKw pos (keywordEach kws X.env)).all (·.1.isSome) = true := by rfl) (hks : (backToKw pos (keywordEach kws X.env)).filterMap (·.1) = ks := by rfl) (hdb : (x == ("__debug__" : Str)) = false := by decide)
    (hpl : ((backTo pos (starEach [] X.env)).any (·.1) || (backToKw pos (keywordEach kws X.env)).any (·.1.isNone)) = false := by rfl) :
    AR X M ρ (.Call (.Name x p) [] kws pos) (rBk a o) :=
  weakE (pe_makeK0 mk F hr hg hm hb pass0 hkw hall hks hdb hpl) fun σ H Q ⟨m, sl, q⟩ => ⟨m, sl, fun zs H1 e1 a1 => ⟨rfl, by rw [← a1.length]; exact hl, fun y dx h1 h2 h3 => bk_fit a1 h1 h2 h3 fun v H' e2 r => q v H' (e1.trans e2) (rBk_back e1 r)⟩⟩
theorem ar_bkK (mk : Mk X.K C f) (F : FnOk X.prog X.w X.K X.mg X.base CX0 k f fd ps (spB a C o (As ++ Bs))) (hr : Room (k + 1) X.A) (hm : X.mg x = some (.ref C)) (hb : KBn X.K fd ps (n + 1) ks g (fun vs zs => vs ++ zs)) (ha : AA X M ρ (e :: es) As) (hkw : AKw X M ρ kws Bs) (hn : As.length = n := by rfl) (hl : Bs.length = ks.length := by rfl)
    (hg : Gl X x := by rfl) (hall : (backToKw pos (keywordEach kws X.env)).all (·.1.isSome) = true := by rfl) (hks : (backToKw pos (keywordEach kws X.env)).filterMap (·.1) = ks := by rfl) (hdb : (x == ("__debug__" : Str)) = false := by decide)
    (he : starEach (e :: es) X.env = (false, eval e X.env) :: starEach es X.env := by rfl) (hpl : ((backTo pos (starEach (e :: es) X.env)).any (·.1) || (backToKw pos (keywordEach kws X.env)).any (·.1.isNone)) = false := by rfl) :
    AR X M ρ (.Call (.Name x p) (e :: es) kws pos) (rBk a o) :=
  weakE (pe_makeK mk F hr hg hm hb pass0 ha hkw hall hks hdb he hpl) fun σ H Q ⟨m, sl, q⟩ => ⟨m, sl, fun vs H1 e1 a1 => ⟨M.mono e1 m, sl.mono e1, fun zs H2 e2 a2 => ⟨by rw [← a1.length]; exact hn, by rw [← a2.length]; exact hl, fun y dx h1 h2 h3 => bk_fit ((a1.mono e2).app a2) h1 h2 h3 fun v H' e3 r => q v H' ((e1.trans e2).trans e3) (rBk_back (e1.trans e2) r)⟩⟩⟩
end
section
variable {P : Program} {w : World} {K : PySem.W.Frag} {mg : Str → Option Value} {base : Heap} {a : Adr}
/-- a class of books, made -/
structure GBk (P : Program) (w : World) (K : PySem.W.Frag) (mg : Str → Option Value) (base : Heap) (a : Adr) : Prop where
  E : ∃ f fd f2, FnOk P w K mg base CX0 8 f fd ps_xe (sp_xe K a) ∧ mg "EpochBook" = some (.ref a.EB) ∧ Mk K a.EB f ∧ FunS K mg P "__init__" "EpochBook.__init__" s_xe kws_xe a.EB f2 f fd
  L : ∃ f fd f2, FnOk P w K mg base CX0 8 f fd ps_xl (sp_xl K a) ∧ mg "LookBook" = some (.ref a.LB) ∧ Mk K a.LB f ∧ FunS K mg P "__init__" "LookBook.__init__" s_xl kws_xl a.LB f2 f fd
  S : ∃ f fd f2, FnOk P w K mg base CX0 8 f fd ps_xs (sp_xs K a) ∧ mg "StillBook" = some (.ref a.SB) ∧ Mk K a.SB f ∧ FunS K mg P "__init__" "StillBook.__init__" s_xs kws_xs a.SB f2 f fd
abbrev AsE (K : PySem.W.Frag) (o : EOwn) : List Ab := [aI K o.epochs, aI K o.behind, aB K o.check, aS K o.fetch, aS K o.mark, aS K o.test, aS K o.step, aB K o.told]
abbrev AsL (K : PySem.W.Frag) (o : LOwn) : List Ab := [aB K o.check, aS K o.look, aS K o.chain]
abbrev AsS (K : PySem.W.Frag) (o : SOwn) : List Ab := [aI K o.counts, aS K o.still, aS K o.read, aS K o.sleep]
theorem spB_E {f : Addr} {fd : FuncData} {o : EOwn} (F : FnOk P w K mg base CX0 8 f fd ps_xe (sp_xe K a)) (h : EpOk (.E o) ∧ OkOwn (.E o)) : FnOk P w K mg base CX0 8 f fd ps_xe (spB a a.EB (.E o) (AsE K o)) :=
  F.imp fun vs H Q E ⟨H0, p, dx, h0, m, hv, q⟩ => ⟨⟨H0, p, dx, o⟩, ⟨h0, h⟩, m, hv, fun v H' m' r => by cases r.non_inv; exact q H' m'⟩
theorem spB_L {f : Addr} {fd : FuncData} {o : LOwn} (F : FnOk P w K mg base CX0 8 f fd ps_xl (sp_xl K a)) (h : EpOk (.L o) ∧ OkOwn (.L o)) : FnOk P w K mg base CX0 8 f fd ps_xl (spB a a.LB (.L o) (AsL K o)) :=
  F.imp fun vs H Q E ⟨H0, p, dx, h0, m, hv, q⟩ => ⟨⟨H0, p, dx, o⟩, ⟨h0, h⟩, m, hv, fun v H' m' r => by cases r.non_inv; exact q H' m'⟩
theorem spB_S {f : Addr} {fd : FuncData} {o : SOwn} (F : FnOk P w K mg base CX0 8 f fd ps_xs (sp_xs K a)) (h : EpOk (.S o) ∧ OkOwn (.S o)) : FnOk P w K mg base CX0 8 f fd ps_xs (spB a a.SB (.S o) (AsS K o)) :=
  F.imp fun vs H Q E ⟨H0, p, dx, h0, m, hv, q⟩ => ⟨⟨H0, p, dx, o⟩, ⟨h0, h⟩, m, hv, fun v H' m' r => by cases r.non_inv; exact q H' m'⟩
abbrev sp_tw (K : PySem.W.Frag) (a : Adr) (k : Own → Prop) : Sp := spG (ι := Own) (fun o => k o ∧ EpOk o ∧ OkOwn o) (fun o => [aBook a o]) fun o => rBk a o
/-! #### LookBook.twin, StillBook.twin -/
abbrev s_lt : Stmt := inClass (top 23) 5
theorem sc_lt : FnScope ["self"] ["self"] (defScope s_lt) := ⟨rfl, rfl, rfl, by decide +kernel, rfl, by decide +kernel, by decide +kernel⟩
theorem ok_lt {f : Addr} {fd : FuncData} (F : Fun K "twin" "LookBook.twin" s_lt f fd) (G : GBk P w K mg base a) (T : TxC K a.LB ["own", "order"]) : FnOk P w K mg base CX0 10 f fd ["self"] (sp_tw K a fun o => ∃ l, o = .L l) := by
  refine fn_G F sc_lt (fun _ => rfl) fun cdv A outer s H E hr i hi => ?_
  obtain ⟨⟨o, rfl⟩, ok⟩ := hi
  obtain ⟨g, fd2, f2, F2, hm, mk, FS⟩ := G.L
  have hu := hu_of hr
  exact as_retR (R := rBk a (.L o)) (ar_bkK0 mk (spB_L F2 ok) hr hm (kb_xl FS) (ak_cons (ae_dget hu (ae_fld (av 0) (fset_own (a := a) (bk := .L o) (c := ⟨.L o, 0, 0, 0, 0⟩) T)) (fun _ _ _ h => h) ae_str rfl (fun _ => .bl _)) (ak_cons (ae_dget hu (ae_fld (av 0) (fset_own (a := a) (bk := .L o) (c := ⟨.L o, 0, 0, 0, 0⟩) T)) (fun _ _ _ h => h) ae_str rfl (fun _ => .str _)) (ak_cons (ae_dget hu (ae_fld (av 0) (fset_own (a := a) (bk := .L o) (c := ⟨.L o, 0, 0, 0, 0⟩) T)) (fun _ _ _ h => h) ae_str rfl (fun _ => .str _)) ak_nil)))) (fun H0 v H1 m ex r => ⟨m.trans ex, rBk_back m r⟩)
abbrev s_st2 : Stmt := inClass (top 24) 5
theorem sc_st2 : FnScope ["self"] ["self"] (defScope s_st2) := ⟨rfl, rfl, rfl, by decide +kernel, rfl, by decide +kernel, by decide +kernel⟩
theorem ok_st2 {f : Addr} {fd : FuncData} (F : Fun K "twin" "StillBook.twin" s_st2 f fd) (G : GBk P w K mg base a) (T : TxC K a.SB ["own", "order"]) : FnOk P w K mg base CX0 10 f fd ["self"] (sp_tw K a fun o => ∃ l, o = .S l) := by
  refine fn_G F sc_st2 (fun _ => rfl) fun cdv A outer s H E hr i hi => ?_
  obtain ⟨⟨o, rfl⟩, ok⟩ := hi
  obtain ⟨g, fd2, f2, F2, hm, mk, FS⟩ := G.S
  have hu := hu_of hr
  exact as_retR (R := rBk a (.S o)) (ar_bkK (As := [aI K o.counts]) mk (spB_S F2 ok) hr hm (kb_xs FS) (aa_cons (ae_dget hu (ae_fld (av 0) (fset_own (a := a) (bk := .S o) (c := ⟨.S o, 0, 0, 0, 0⟩) T)) (fun _ _ _ h => h) ae_str rfl (fun _ => .int _)) aa_nil) (ak_cons (ae_dget hu (ae_fld (av 0) (fset_own (a := a) (bk := .S o) (c := ⟨.S o, 0, 0, 0, 0⟩) T)) (fun _ _ _ h => h) ae_str rfl (fun _ => .str _)) (ak_cons (ae_dget hu (ae_fld (av 0) (fset_own (a := a) (bk := .S o) (c := ⟨.S o, 0, 0, 0, 0⟩) T)) (fun _ _ _ h => h) ae_str rfl (fun _ => .str _)) (ak_cons (ae_dget hu (ae_fld (av 0) (fset_own (a := a) (bk := .S o) (c := ⟨.S o, 0, 0, 0, 0⟩) T)) (fun _ _ _ h => h) ae_str rfl (fun _ => .str _)) ak_nil)))) (fun H0 v H1 m ex r => ⟨m.trans ex, rBk_back m r⟩)
end
end Ep
set_option maxHeartbeats 4000000
/-! C(**d) -/
namespace Ep
open PySem PySem.Spec PyProof.Rows L2 PySem.W PySem.Calls
section
variable {P : Program} {w : World} {A : Around} {E : Value → Shared → Prop} {s : Shared}
theorem kw_loop {Q : List (Str × Value) → Shared → Prop} {body : DictEntry → List (Str × Value) → Sem (ForInStep (List (Str × Value)))} (hb : ∀ (e : DictEntry) (x : Str) (t : Tok) kw, e.key = .str x t → body e kw = pure (.yield (kw ++ [(x, e.val)]))) :
    ∀ {l : List DictEntry} {vs : List (Key × Value)} {ks : List Str} {kw : List (Str × Value)}, Pairs (mixKind P w) l vs → vs.map (·.1) = ks.map Sum.inr → Q (kw ++ ks.zip (vs.map (·.2))) s → wpAny (model P w) A (forIn l kw body) Q E s
  | [], _, ks, kw, .nil, hk, h => by
    cases ks with
    | nil =>
      rw [List.forIn_nil]
      simp at h
      exact wpAny_pure h
    | cons k ks => simp at hk
  | e :: l, kv :: vs, ks, kw, .cons h1 h2 r, hk, h => by
    cases ks with
    | nil => simp at hk
    | cons k ks =>
      simp only [List.map_cons, List.cons.injEq] at hk
      obtain ⟨hk1, hk2⟩ := hk
      rw [List.forIn_cons]
      rcases keyIs_shape (show keyIs kv.1 e.key = true from h1) with ⟨i, t, e1, _⟩ | ⟨x, t, e1, e2⟩
      · rw [hk1] at e1
        cases e1
      · rw [hk1] at e1
        obtain rfl := Sum.inr.inj e1
        rw [hb e k t kw e2]
        refine wpAny_bind (wpAny_pure ?_)
        refine kw_loop hb r hk2 ?_
        rw [List.append_assoc]
        rw [h2]
        exact h
theorem kw_in {Q : List (Str × Value) → Shared → Prop} {f : Value} {d : Addr} {vs : List (Key × Value)} {ks : List Str} (hd : s.heap.DictOf (mixKind P w) d vs) (hk : vs.map (·.1) = ks.map Sum.inr) (h : Q (ks.zip (vs.map (·.2))) s) :
    wpAny (model P w) A (keywordsIn f d) Q E s := by
  obtain ⟨o, es, ep, ho, hc, hdd, hko, hp, hn⟩ := hd
  unfold keywordsIn
  refine wpAny_bind (wpAny_dictEntries ho hdd ?_)
  refine wpAny_bind ?_
  rw [← Array.forIn_toList]
  refine kw_loop (fun e x t kw he => ?_) hp hk (wpAny_pure (by simpa using h))
  rw [he]
theorem merged_kw {Q : Addr → Shared → Prop} {f : Value} {t : Sem Value} (h : wpAny (model P w) A t (fun m s1 => ∃ o vs, m = .ref o ∧ o ≠ s.heap.objs.size ∧ (o == sysModules) = false ∧ s1.heap.DictOf (mixKind P w) s.heap.objs.size [] ∧ s1.heap.DictOf (mixKind P w) o vs ∧ vs.length ≤ sizeLine ∧
      ∀ h', h'.DictOf (mixKind P w) s.heap.objs.size (merged [] vs) → Heap.SameBut s.heap.objs.size s1.heap h' → Q s.heap.objs.size { s1 with heap := h' }) E { s with heap := s.heap.push { cls := .type "dict", data := .dict #[] } }) :
    wpAny (model P w) A (mergedKeywords f [(none, t)]) Q E s := by
  unfold mergedKeywords
  refine wpAny_bind (wpAny_alloc ?_)
  refine wpAny_bind (wpAny_holding ?_)
  refine wpAny_bind ?_
  rw [List.forIn_cons]
  refine wpAny_bind ?_
  refine wpAny_bind ?_
  show wpAny (model P w) A (if (List.isEmpty ([] : List (Str × Sem Value))) = true then _ else _) _ _ _
  rw [if_pos List.isEmpty_nil]
  refine wpAny_pure ?_
  refine wpAny_bind (wpAny_mono h (fun m s1 hm => ?_) fun _ _ x => x)
  obtain ⟨o, vs, rfl, hne, hsm, d0, d1, hl, hq⟩ := hm
  refine wpAny_bind (wpAny_onRaise (wpAny_holding (wpAny_tryCatch (wpAny_onRaise (mergeMap (Ne.symm hne) hsm d0 d1 (fun _ kv hkv => by simp) (fun h' dd hs => ?_) (by simpa using hl))))))
  refine wpAny_pure ?_
  dsimp only
  rw [List.forIn_nil]
  refine wpAny_pure ?_
  show wpAny (model P w) A (if (List.isEmpty ([] : List (Str × Sem Value))) = true then _ else _) _ _ _
  rw [if_pos List.isEmpty_nil]
  exact wpAny_pure (wpAny_pure (hq h' dd hs))
theorem callWith_kws {f : Value} {first : List Value} {pos : Pos} {Q : Value → Shared → Prop} {G : Heap → Prop} {kws : List (Option Str × Sem Value)} {M : Model} (hst : kws.any (·.1.isNone) = true)
    (hk : ∀ h, G h → ∃ k, (k = Keeper.frame ∨ k = Keeper.machine ∨ k = Keeper.boundFrame) ∧ Looks M h (keeperOf f) k)
    (h : wpAny M A (evalArgs f true [] kws) (fun a s₁ => G s₁.heap ∧ wpAny M A (call f (first ++ a.pos) a.kw) Q E s₁) E s) : wpAny M A (callWith pos f first [] kws) Q E s := by
  unfold callWith
  refine wpAny_bind (wpAny_holding (wpAny_mono h (fun a s₁ h₁ => wpAny_bind (wpAny_standAt ?_)) fun _ _ x => x))
  obtain ⟨k, hk', L⟩ := hk _ h₁.1
  simp only [hst, Bool.or_true]
  refine wpAny_bind (L.here ?_)
  have tail : ∀ {t : Sem Value}, wpAny M A t Q E s₁ → wpAny M A (t >>= fun r => holding [r] point >>= fun _ => pure r) Q E s₁ :=
    fun ht => wpAny_bind (wpAny_mono ht (fun r s₂ hr => wpAny_bind (wpAny_holding (wpAny_point (wpAny_pure hr)))) fun _ _ x => x)
  have marked (mk : Value) : wpAny M A (callMarked mk f (first ++ a.pos) a.kw) Q E s₁ := by unfold callMarked; exact Calls.wpAny_keep h₁.2
  rcases hk' with rfl | rfl | rfl <;> dsimp only <;> first | exact tail (marked _) | exact tail (wpAny_operating h₁.2)
theorem args_kw {Q : Args → Shared → Prop} {f : Value} {t : Sem Value} (h : wpAny (model P w) A (mergedKeywords f [(none, t)]) (fun d s1 => wpAny (model P w) A (keywordsIn f d) (fun kw s2 => Q ⟨[], kw⟩ s2) E s1) E s) :
    wpAny (model P w) A (evalArgs f true [] [(none, t)]) Q E s := by
  unfold evalArgs
  refine wpAny_bind (wpAny_bind (spliced_nil (wpAny_pure ?_)))
  refine wpAny_bind (wpAny_pure ?_)
  refine wpAny_holding ?_
  simp only [List.all_cons, List.all_nil, Option.isSome_none, Bool.false_and, Bool.false_eq_true, if_false]
  refine wpAny_bind (wpAny_mono h (fun d s1 hd => ?_) fun _ _ x => x)
  refine wpAny_bind (wpAny_pure ?_)
  refine wpAny_bind (wpAny_holding (wpAny_mono hd (fun kw s2 hq => wpAny_pure hq) fun _ _ x => x))
end
/-- C(**e): the new dict stands empty while e is read; then the keywords ks -/
def tMakeAll (C : Addr) (ks : List Str) (sp : Sp) (gV : List V → List V → List V) (E : XK) (te : TE) : TE := fun σ H Q => ∀ d, H d = none → te σ (upd H d (.dK [])) fun y H1 => ∃ o kvs, y = .ref o ∧ o ≠ d ∧ H1 o = some (.dK kvs) ∧ H1 d = some (.dK []) ∧ kvs.length ≤ 15 ∧ mergeK [] kvs = kvs ∧ kvs.map (·.1) = ks.map Sum.inr ∧
  ∀ x dx, upd H1 d (.dK kvs) x = none → upd H1 d (.dK kvs) dx = none → dx ≠ x → sp (gV [.ref x] (kvs.map (·.2))) (upd (upd (upd H1 d (.dK kvs)) dx (.own x)) x (.ins C dx [])) (fun v H3 => v = .non ∧ Q (.ref x) H3) E
theorem kv_keys : ∀ {kvs : List (Key × V)} {vs : List (Key × Value)}, KV kvs vs → vs.map (·.1) = kvs.map (·.1) ∧ Vals (kvs.map (·.2)) (vs.map (·.2)) := by
  intro kvs vs r
  unfold KV at r
  induction r with
  | nil => exact ⟨rfl, .nil⟩
  | @cons p q ps qs h t ih => exact ⟨by rw [List.map_cons, List.map_cons, ih.1, h.1], .cons h.2 ih.2⟩
section
variable {X : Cx} {CX : CXT} {k : Nat} {f C : Addr} {fd : FuncData} {ps ks : List Str} {sp : Sp} {E : XK} {x : Str} {p pos kpos : Pos} {e : Expr} {te : TE} {g : List Value → List Value → List Value} {gV : List V → List V → List V}
theorem pe_makeAll (M : Mk X.K C f) (F : FnOk X.prog X.w X.K X.mg X.base CX k f fd ps sp) (hr : Room (k + 1) X.A) (hg : Gl X x) (hm : X.mg x = some (.ref C)) (hb : KBn X.K fd ps 1 ks g gV) (hx : Passes CX X E) (he : PE X e te) (hdb : (x == ("__debug__" : Str)) = false := by decide) :
    PE X (.Call (.Name x p) [] [⟨none, e, kpos⟩] pos) (tMakeAll C ks sp gV E te) := by
  refine ⟨fun pins s σ H Q I q => ?_⟩
  refine wpAny_Call_Name_kw (ld_glob I hg hm ?_ hdb)
  refine callWith_kws (G := fun h => X.K.In h) rfl (fun h kin => PySem.W.keeps_K M.kp h kin) ?_
  show wpAny (model X.prog X.w) X.A (evalArgs (.ref C) true [] [(none, do let v ← eval e X.env; standAt pos; pure v)]) _ _ _
  refine args_kw (merged_kw ?_)
  have hn := I.hok.fresh (Nat.le_refl s.heap.objs.size)
  have I1 := I.laid (a := s.heap.objs.size) (o := .dK []) (h' := s.heap.push { cls := .type "dict", data := .dict #[] }) (t' := s.toks) (fun _ _ q => Heap.get?_push_of_some _ q) (Nat.le_refl _) (dk_empty s.heap I.big)
  refine wpAny_bind (thn (he.run pins _ σ _ _ I1 (q _ hn)) fun mv s2 ⟨y, H1, I2, ry, o, kvs, ey, eop, eo, ep, hl, hm, hks, q2⟩ => wpAny_bind (wpAny_standAt (wpAny_pure ?_)))
  subst ey
  obtain rfl : mv = Value.ref o := ry
  generalize s.heap.objs.size = d at *
  obtain ⟨z1, hd1, vs0, r0, dd0⟩ := dk_of I2.hok ep
  cases r0
  obtain ⟨z2, hd2, ws, r1, dd1⟩ := dk_of I2.hok eo
  have hsl : (15 : Nat) + 15 ≤ sizeLine := by rw [sizeLine_eq]; decide
  refine ⟨o, ws, rfl, eop, hd2, dd0, dd1, by rw [← r1.length]; omega, fun h' dd' hs => ?_⟩
  have he' : ∃ q, h'.get? d = some q := let ⟨q, _, _, hq, _⟩ := dd'; ⟨q, hq⟩
  have rm := r1.merge (kvs := []) (vs := []) .nil
  rw [hm] at rm
  have I3 : Inv X pins σ (upd H1 d (.dK kvs)) { s2 with heap := h' } := d_write I2 (by rw [ep]; exact True.intro) hs he' (dk_new (by omega) hd1 rm dd')
  obtain ⟨kk, kv⟩ := kv_keys rm
  refine kw_in dd' (kk.trans hks) ⟨I3.kIn, ?_⟩
  exact run_makeK (us := []) (vs := []) M F hr hb hx I3 .nil kv rfl (by have := congrArg List.length hks; simpa using this) q2
end
end Ep
set_option maxHeartbeats 4000000
/-! EpochBook.twin; is_book, look_at_book -/
namespace Ep
open PySem PySem.Spec PyProof.Rows L2 Evl
section
variable {X : Cx} {M : Mb} {ρ : List Sl} {e b : Expr} {p pos kpos : Pos} {a : Adr} {o : Own} {C f : Addr} {fd : FuncData} {ps ks : List Str} {k : Nat} {x : Str} {As : List Ab} {g : List Value → List Value → List Value}
theorem ar_dictof (hm : X.mg "dict" = none) (ha : AE X M ρ e (aOwn o)) (hg : Gl X "dict" := by rfl) (he : starEach [e] X.env = (false, eval e X.env) :: starEach [] X.env := by rfl) : AR X M ρ (.Call (.Name "dict" p) [e] [] pos) (rOwn o) :=
  weakE (pe_callTy call_dictD hg hm (by decide +kernel) (aa_cons ha aa_nil he) (by decide) (by decide) he) fun σ H Q ⟨m, sl, q⟩ => ⟨m, sl, fun vs H1 e1 a1 => by
    cases a1 with
    | cons h hr =>
      cases hr
      obtain ⟨d, rfl, hd⟩ := h
      exact ⟨d, kvsO o, rfl, .inl hd, fun l hl => q _ _ (e1.trans (Ex.new hl)) ⟨l, rfl, fresh_back e1 hl, upd_same⟩⟩⟩
theorem ar_bkAll (mk : Mk X.K C f) (F : FnOk X.prog X.w X.K X.mg X.base CX0 k f fd ps (spB a C o As)) (hr : Room (k + 1) X.A) (hm : X.mg x = some (.ref C)) (hb : KBn X.K fd ps 1 ks g (fun vs zs => vs ++ zs)) (he : AE X M ρ e (aOwn o)) (hks : (kvsO o).map (·.1) = ks.map Sum.inr) (hv : ∀ H, AbL As H ((kvsO o).map (·.2)))
    (hg : Gl X x := by rfl) (hdb : (x == ("__debug__" : Str)) = false := by decide) : AR X M ρ (.Call (.Name x p) [] [⟨none, e, kpos⟩] pos) (rBk a o) :=
  weakE (pe_makeAll mk F hr hg hm hb pass0 he hdb) fun σ H Q ⟨m, sl, q⟩ => fun d hd => ⟨M.mono (Ex.new hd) m, sl.mono (Ex.new hd), fun y H1 e1 ⟨b, hy, hbk⟩ => by
    have ep : H1 d = some (.dK []) := e1 _ _ upd_same
    have hbd : b ≠ d := fun z => by
      subst z
      rw [ep] at hbk
      exact kvs_ne o (by injection hbk with h1; injection h1 with h2; exact h2.symm)
    have g1 : Ex H (upd H1 d (.dK (kvsO o))) := Ex.mut ((Ex.new hd).trans e1) hd
    exact ⟨b, kvsO o, hy, hbd, hbk, ep, kvs_len o, kvs_self o, hks, fun x dx h1 h2 h3 => bk_fit (hv _) h1 h2 h3 fun v H' e2 r => q v H' (g1.trans e2) (rBk_back g1 r)⟩⟩
end
section
variable {P : Program} {w : World} {K : PySem.W.Frag} {mg : Str → Option Value} {base : Heap} {a : Adr}
abbrev s_et : Stmt := inClass (top 22) 5
theorem sc_et : FnScope ["self", "own"] ["self"] (defScope s_et) := ⟨rfl, rfl, rfl, by decide +kernel, rfl, by decide +kernel, by decide +kernel⟩
theorem ok_et {f : Addr} {fd : FuncData} (F : Fun K "twin" "EpochBook.twin" s_et f fd) (G : GBk P w K mg base a) (T : TxC K a.EB ["own", "order"]) (bd : mg "dict" = none) : FnOk P w K mg base CX0 10 f fd ["self"] (sp_tw K a fun o => ∃ l, o = .E l) := by
  refine fn_G F sc_et (fun _ => rfl) fun cdv A outer s H E hr i hi => ?_
  obtain ⟨⟨o, rfl⟩, ok⟩ := hi
  obtain ⟨g, fd2, f2, F2, hm, mk, FS⟩ := G.E
  refine as_asgR (i := 1) (R := rOwn (.E o)) (ar_dictof bd (ae_fld (av 0) (fset_own (a := a) (bk := .E o) (c := ⟨.E o, 0, 0, 0, 0⟩) T))) (fun Ha Hb v m ex r => ?_) sc_et.nd
  obtain ⟨p, rfl, hpn, hp⟩ := r
  have m : Ex H Ha := m
  refine as_retR (R := rBk a (.E o)) (ar_bkAll mk (spB_E F2 ok) hr hm (kb_all FS) (ae_view (B := aOwn (.E o)) (av 1) fun H2 v m2 e => ⟨p, e, (show Ex Hb H2 from m2) _ _ hp⟩) rfl fun H => .cons (.int _) (.cons (.int _) (.cons (.bl _) (.cons (.str _) (.cons (.str _) (.cons (.str _) (.cons (.str _) (.cons (.bl _) .nil)))))))) (fun H0 v H1 m0 e1 r => ⟨(m.trans ex).trans (m0.trans e1), rBk_back ((m.trans ex).trans m0) r⟩)
end
end Ep
set_option maxHeartbeats 4000000
/-! is_book, look_at_book -/
namespace Ep
open PySem PySem.Spec PyProof.Rows L2 Evl
section
variable {X : Cx} {M : Mb} {ρ : List Sl} {e c1 c2 c3 : Expr} {A : Ab} {p pos tpos : Pos} {kk : Nat} {t : Value} {C1 C2 C3 : Addr} {bb : Bool}
theorem ae_isi3 (hm : X.mg "isinstance" = none) (ha : AE X M ρ e A) (hA : TyA X.K M A t) (hc : AA X M ρ [c1, c2, c3] [Rf C1, Rf C2, Rf C3]) (hk : PySem.W.kitAny X.K t [.ref C1, .ref C2, .ref C3] = some bb) (hg : Gl X "isinstance" := by rfl)
    (h1 : starEach [e, .Tuple [c1, c2, c3] kk tpos] X.env = (false, eval e X.env) :: starEach [.Tuple [c1, c2, c3] kk tpos] X.env := by rfl) (h2 : starEach [.Tuple [c1, c2, c3] kk tpos] X.env = (false, eval (.Tuple [c1, c2, c3] kk tpos) X.env) :: starEach [] X.env := by rfl) (h3 : (backTo pos (starEach [.Tuple [c1, c2, c3] kk tpos] X.env)).any (·.1) = false := by rfl) :
    AE X M ρ (.Call (.Name "isinstance" p) [e, .Tuple [c1, c2, c3] kk tpos] [] pos) (aB X.K bb) :=
  weakE (pe_callB call_isiT hg hm (by decide +kernel) (pa_cons ha (pa_cons (pe_tup hc) pa_nil h2) h1) (by decide) (by decide) h1 h3) fun σ H Q ⟨m, sl, q⟩ => ⟨m, sl, fun v H1 e1 a1 => ⟨M.mono e1 m, sl.mono e1, fun vs H2 e2 a2 => by
    obtain ⟨v1, r1, rfl, g1, a2⟩ := abl_cons a2
    obtain ⟨v2, r2, rfl, g2, a2⟩ := abl_cons a2
    obtain ⟨v3, r3, rfl, g3, a2⟩ := abl_cons a2
    cases abl_nil a2
    cases (show v1 = .ref C1 from g1)
    cases (show v2 = .ref C2 from g2)
    cases (show v3 = .ref C3 from g3)
    refine ⟨sz_of (by show (3 : Nat) ≤ 100000; decide), fun l hl => ?_⟩
    have ex := (e1.trans e2).trans (Ex.new (o := .tup [.ref C1, .ref C2, .ref C3]) hl)
    exact ⟨v, l, [.ref C1, .ref C2, .ref C3], t, [.ref C1, .ref C2, .ref C3], bb, rfl, upd_same, .cons (.own C1) (.cons (.own C2) (.cons (.own C3) .nil)), hA _ v (M.mono ex m) (A.mono (e2.trans (Ex.new hl)) a1), hk, q _ _ ex (.bl _)⟩⟩⟩
end
section
variable {P : Program} {w : World} {K : PySem.W.Frag} {mg : Str → Option Value} {base : Heap} {a : Adr}
/-- the classes of books, for isinstance -/
def TxBI (K : PySem.W.Frag) (a : Adr) : Prop := ∀ o : Own, TxI K (o.cls a) ∧ PySem.W.kitAny K (.ref (o.cls a)) [.ref a.EB, .ref a.LB, .ref a.SB] = some true
theorem tyA_book {M : Mb} {o : Own} (T : TxBI K a) : TyA K M (aBook a o) (.ref (o.cls a)) := fun H v _ h => by
  obtain ⟨b, h1, dx, d, l, h2, h3⟩ := h
  have t := (T o).1
  rw [h1]
  exact .base (.ins h2 t.cl t.ha t.hn t.htk t.hm)
abbrev s_ib : Stmt := top 25
theorem sc_ib : FnScope ["value"] ["value"] (defScope s_ib) := ⟨rfl, rfl, rfl, by decide +kernel, rfl, by decide +kernel, by decide +kernel⟩
abbrev sp_ib (K : PySem.W.Frag) (a : Adr) : Sp := spG (ι := Own) (fun _ => True) (fun o => [aBook a o]) fun _ => rA (aB K true)
theorem ok_ib {f : Addr} {fd : FuncData} (F : Fun K "is_book" "is_book" s_ib f fd) (T : TxBI K a) (bi : mg "isinstance" = none) (hE : mg "EpochBook" = some (.ref a.EB)) (hL : mg "LookBook" = some (.ref a.LB)) (hS : mg "StillBook" = some (.ref a.SB)) : FnOk P w K mg base CX0 1 f fd ["value"] (sp_ib K a) := by
  refine fn_G F sc_ib (fun _ => rfl) fun cdv A outer s H E hr o hi => ?_
  exact as_ret (ae_isi3 bi (av 0) (tyA_book (o := o) T) (aa_cons (ae_globR hE) (aa_cons (ae_globR hL) (aa_cons (ae_globR hS) aa_nil))) (T o).2) (fun v H1 m h => ⟨m, h⟩)
abbrev s_lb : Stmt := top 26
theorem sc_lb : FnScope ["value"] ["value"] (defScope s_lb) := ⟨rfl, rfl, rfl, by decide +kernel, rfl, by decide +kernel, by decide +kernel⟩
abbrev sp_lb (K : PySem.W.Frag) (a : Adr) : Sp := spG (ι := Own) (fun _ => True) (fun o => [aBook a o]) fun _ => rA (aN K)
theorem ok_lb {f : Addr} {fd : FuncData} (F : Fun K "look_at_book" "look_at_book" s_lb f fd) (G : GFn P w K mg base 1 "is_book" (sp_ib K a)) : FnOk P w K mg base CX0 2 f fd ["value"] (sp_lb K a) := by
  refine fn_G F sc_lb (fun _ => rfl) fun cdv A outer s H E hr o hi => ?_
  refine as_if (at_not (at_val (ae_call G hr o trivial (aa_cons (av 0) aa_nil)))) (fun c => by cases c) (fun _ => ?_)
  exact as_end (as_nil fun σ H1 m _ => ⟨m, .non⟩)
end
end Ep
set_option maxHeartbeats 4000000
/-! Setting.__init__ -/
namespace Ep
open PySem PySem.Spec PyProof.Rows L2 Evl
def elD (j : Nat) : PyData → PyData
  | .tuple l => l.getD j .none
  | _ => .none
def four (d : PyData) : PyData := .tuple [elD 0 d, elD 1 d, elD 2 d, elD 3 d]
section
variable {X : Cx} {M : Mb} {ρ ρ0 : List Sl} {it tg : Expr} {R : RR} {body rest : List Stmt} {D : Ends} {pos : Pos}
/-- for a, b, c, d in a list of tuples -/
theorem as_forL4 {items : List PyData} (hi : AR X M ρ it R) (h4 : ∀ d ∈ items, four d = d) (Mi : Hp → Hp → V → Nat → Mb) (ρ0 : List Sl) (ρ1 : PyData → List Sl)
    (h0 : ∀ H0 H1 v, LpC M R H0 H1 v → (Mi H0 H1 v 0).P H1) (hl : ∀ H0 H1 v, LpC M R H0 H1 v → ∃ p vs, v = .ref p ∧ vs.length = items.length ∧ ∀ i H, (Mi H0 H1 v i).P H → SqL X.K H p vs ∧ DtL X.K H vs items) (hw : SlW ρ ρ0)
    (hg : ∀ M d, AG X M ρ0 tg (Ep.D X.K (four d)) M (ρ1 d))
    (hs : ∀ H0 H1 v, LpC M R H0 H1 v → ∀ i d, items[i]? = some d → AS X (Mi H0 H1 v i) (ρ1 d) body (lpE (Mi H0 H1 v (i + 1)) ρ0 (nxt X rest D)))
    (hd : ∀ H0 H1 v, LpC M R H0 H1 v → AS X (Mi H0 H1 v items.length) ρ0 rest D)
    (hp : PassesOwn (model X.prog X.w) X.A X.env X.xe := by exact PassesOwn.never) (hc : X.calm = true := by rfl) (hfs : ∀ x, foldedSetIterable it X.env x = pure x := by intro _; rfl) : AS X M ρ (.For tg it body [] pos :: rest) D := by
  refine for_gen (wi := iList X.K (tR M ρ R)) (Y := fun i H x H' => H' = H ∧ ∃ vs : List V, (DtL X.K H vs items) ∧ vs[i]? = some x) (R := R) items Mi (fun _ d => ρ1 d) (fun _ d => four d) (pi_list hi) ?_ h0 hw (fun M d _ => hg M d) hs hd hp hc hfs
  intro σ H m sl Rr h
  refine ⟨m, sl, fun v H1 ex r => ?_⟩
  obtain ⟨q, vs, e1, e2, e3⟩ := hl H H1 v ⟨m, ex, r⟩
  refine ⟨q, e1, ⟨vs, (e3 0 H1 (h0 _ _ _ ⟨m, ex, r⟩)).1⟩, h H1 v _ (fun H2 => ∃ i, (Mi H H1 v i).P H2) ⟨m, ex, r⟩ ?_ (fun i H2 q => ⟨i, q⟩) ?_⟩
  · have W := walk_list (K := X.K) (a := q) (xs := vs)
    rw [e2] at W
    refine W.mono (fun H2 ⟨i, q⟩ => (e3 i H2 q).1) fun i H2 y H3 _ hq ⟨h1, h2⟩ => ?_
    obtain ⟨j, q⟩ := hq
    exact ⟨h1, vs, (e3 j H2 q).2, h2⟩
  · rintro i y H2 H3 q ⟨rfl, vs', h1, h2⟩
    obtain ⟨d, g1, g2⟩ := h1.getV h2
    exact ⟨d, g1, Ex.refl _, by rw [h4 d (List.mem_of_getElem? g1)]; exact g2⟩
end
/-- the setting's numbers -/
structure TxM (mg : Str → Option Value) : Prop where
  rd : ∃ t, mg "MOST_READERS" = some (.int 3 t)
  tk : ∃ t, mg "MOST_TAKERS" = some (.int 2 t)
  st : ∃ t, mg "MOST_STEPPERS" = some (.int 7 t)
  th : ∃ t, mg "MOST_THINGS" = some (.int 40 t)
section
variable {P : Program} {w : World} {K : PySem.W.Frag} {mg : Str → Option Value} {base : Heap} {a : Adr}
abbrev s_se : Stmt := inClass (top 41) 0
abbrev nm_se : List Str := ["self", "book", "readers", "takers", "steppers", "things", "most", "word", "value", "low", "high"]
abbrev ps_se : List Str := ["self", "book", "readers", "takers", "steppers", "things"]
theorem sc_se : FnScope nm_se ps_se (defScope s_se) := ⟨rfl, rfl, rfl, by decide +kernel, rfl, by decide +kernel, by decide +kernel⟩
def mostS (o : Own) : Int := if o.way = "epochs" then 7 else 0
def SetOk (c : Cfg) : Prop := EpOk c.own ∧ OkOwn c.own ∧ (1 ≤ c.nr ∧ c.nr ≤ 3) ∧ (1 ≤ c.nt ∧ c.nt ≤ 2) ∧ (c.ns : Int) ≤ mostS c.own ∧ 1 ≤ c.nth ∧ c.nth ≤ 40
def mSet (K : PySem.W.Frag) (a : Adr) (H0 : Hp) (p : Addr) (c : Cfg) : Mb := ⟨fun H => Ex H0 H ∧ IsSet K a H p c, fun e h => ⟨h.1.trans e, h.2.mono e⟩⟩
abbrev sp_se (K : PySem.W.Frag) (a : Adr) : Sp := spC (ι := BIn) (fun i => i.H0 i.p = none ∧ SetOk i.c) (fun i => [Rf i.p, aBook a i.c.own, aI K i.c.nr, aI K i.c.nt, aI K i.c.ns, aI K i.c.nth]) (fun i => mNew i.H0 i.p a.SE i.dx []) (fun i => mSet K a i.H0 i.p i.c) (fun _ => aN K)
def rowS (w : Str) (v l h : Int) : PyData := .tuple [.str w, .int v, .int l, .int h]
theorem recv_bb {M : Mb} {o : Own} {m : Str} (hm : m ∉ (["own", "order"] : List Str)) : Recv M (o.cls a) m (aBook a o) (aBook a o) := fun H v m' h => by
  obtain ⟨b, dx, fs, h1, h2, h3⟩ := book_ins (M := M) H v m' h
  exact ⟨b, dx, fs, h1, h2, h3 m hm, h⟩
theorem IsBook.upd {H : Hp} {p b C dx : Addr} {fs : List (Str × V)} {u : HO} {o : Own} (h : IsBook a H b o) (hp : H p = some (.ins C dx fs)) (n : b ≠ p) : IsBook a (L2.upd H p u) b o := by
  obtain ⟨dx2, d, l, h1, h2⟩ := h
  exact ⟨dx2, d, l, by rw [upd_ne n]; exact h1, by rw [upd_ne (ne_of h2 hp (by intro z; cases z))]; exact h2⟩
/-- the twins of the classes of books -/
def GTw (P : Program) (w : World) (K : PySem.W.Frag) (mg : Str → Option Value) (base : Heap) (a : Adr) : Prop := ∀ o : Own, ∃ kk : Own → Prop, kk o ∧ GMt P w K mg base 10 (o.cls a) "twin" (sp_tw K a kk)
/-- a def with defaults, from one abstract heap to another -/
theorem fn_CD {x qual : Str} {st : Stmt} {f : Addr} {fd : FuncData} {N ps : List Str} {k : Nat} {ι : Type} {pc : ι → Prop} {pre : ι → List Ab} {Ma Mz : ι → Mb} {rs : ι → Ab} {dvs : List V} {kws : List (Str × V)} (F : FunD K x qual (defArgs st) (defBody st) (defScope st) dvs kws f fd) (S : FnScope N ps (defScope st)) (hlen : ∀ i, (pre i).length = ps.length)
    (body : ∀ (cdv : Value) (A : Around) (outer : List Env) (s : Shared) (H : Hp) (E : XK), Room k (A.deeper (envOfC qual (defScope st) s.heap.objs.size f cdv)) → ∀ i, pc i → AS (cxOf CX0 P w K mg base N qual (defScope st) f cdv A outer s H E).nox (Ma i) (startS N (pre i)) (defBody st) (rtC (Mz i) (rs i))) :
    FnOk P w K mg base CX0 (k + 1) f fd ps (spC pc pre Ma Mz rs) := by
  refine F.ok S (fun vs H Q E h => ?_) (fun cdv A outer s H vs Q E hr h => ?_)
  · obtain ⟨i, _, _, h2, _⟩ := h
    rw [← h2.length, hlen]
  · obtain ⟨i, h1, h0, h2, h3⟩ := h
    have z := as_run (D' := { nx := fun _ H' => Q .non H', rt := Q }) (body cdv A outer s H E hr i h1) (fun _ H' q => h3 _ H' q.1 q.2) (fun v H' q => h3 v H' q.1 q.2) (fun _ _ z => z.elim) (fun _ _ z => z.elim)
    exact ⟨_, z.nox, rfl, h0, start_slots h2⟩
abbrev dvs_se : List V := [.int 1, .int 1, .int 0]
abbrev kws_se : List (Str × V) := [("things", .int 3)]
theorem ok_se {f : Addr} {fd : FuncData} (F : FunD K "__init__" "Setting.__init__" (defArgs s_se) (defBody s_se) (defScope s_se) dvs_se kws_se f fd) (T : TxC K a.SE fsSE) (N : TxM mg) (Gb : GFn P w K mg base 2 "look_at_book" (sp_lb K a)) (Gn : GFn P w K mg base 2 "is_number" (sp_nu K)) (Gw : GWay P w K mg base a) (Gt : GTw P w K mg base a) : FnOk P w K mg base CX0 11 f fd ps_se (sp_se K a) := by
  refine fn_CD F sc_se (fun _ => rfl) fun cdv A outer st0 H E hr i hi => ?_
  obtain ⟨H0, p, dx, c⟩ := i
  have hp0 : H0 p = none := hi.1
  obtain ⟨o1, o2, o3, o4, o5, o6⟩ : SetOk c := hi.2
  have hr2 : Room 2 _ := hr.mono (by decide)
  obtain ⟨t1, n1⟩ := N.rd
  obtain ⟨t2, n2⟩ := N.tk
  obtain ⟨t3, n3⟩ := N.st
  obtain ⟨t4, n4⟩ := N.th
  refine as_at 1 (A := aBook a c.own) rfl fun Hb vB m hB => ?_
  have b1 : Ex H0 Hb := m.1
  have b2 : Hb p = some (.ins a.SE dx []) := m.2
  have hBk : ∀ {X : Cx} {H1 : Hp} {ρ : List Sl} {pos : Pos} {x : Expr}, AE X (mE H1) ρ x (Vl vB) → Ex Hb H1 → AE X (mE H1) ρ x (aBook a c.own) := fun h e => ae_at (A := aBook a c.own) h (fun H2 m2 => e.trans m2) hB
  refine as_expr (ae_call Gb hr2 c.own trivial (aa_cons (hBk (pos := ⟨0, 0, 0, 0⟩) (av 1) (Ex.refl _)) aa_nil)) ?_
  refine as_asg (i := 6) (A := aI K (mostS c.own)) ?_ ?_ sc_se.nd
  · refine ae_dat (ae_ifD (d1 := .int 7) (d2 := .int 0) (at_cmpC (ac_eqS (ae_prop (Z := aS K c.own.way) (hBk (pos := ⟨0, 0, 0, 0⟩) (av 1) (Ex.refl _)) way_prop (Gw c.own) hr2 c.own trivial rfl) ae_str)) (fun _ => ae_globI n3) (fun _ => ae_int)) ?_
    rw [eqD_str]
    unfold mostS
    by_cases h : c.own.way = "epochs" <;> simp [h]
  refine as_forL4 (items := [rowS "readers" c.nr 1 3, rowS "takers" c.nt 1 2, rowS "steppers" c.ns 0 (mostS c.own), rowS "things" c.nth 1 40]) (R := rN K [rowS "readers" c.nr 1 3, rowS "takers" c.nt 1 2, rowS "steppers" c.ns 0 (mostS c.own), rowS "things" c.nth 1 40])
    (an_lst (ad_cons (ae_tup (ad_cons ae_str (ad_cons (av 2) (ad_cons ae_int (ad_cons (ae_globI n1) ad_nil))))) (ad_cons (ae_tup (ad_cons ae_str (ad_cons (av 3) (ad_cons ae_int (ad_cons (ae_globI n2) ad_nil))))) (ad_cons (ae_tup (ad_cons ae_str (ad_cons (av 4) (ad_cons ae_int (ad_cons (av 6) ad_nil))))) (ad_cons (ae_tup (ad_cons ae_str (ad_cons (av 5) (ad_cons ae_int (ad_cons (ae_globI n4) ad_nil))))) ad_nil)))) (by show (4 : Nat) ≤ 1000; decide))
    ?_ (fun _ H1 _ _ => mE H1)
    [.val (Rf p), .val (Vl vB), .val (aI K c.nr), .val (aI K c.nt), .val (aI K c.ns), .val (aI K c.nth), .val (aI K (mostS c.own)), .any, .any, .any, .any]
    (fun d => [.val (Rf p), .val (Vl vB), .val (aI K c.nr), .val (aI K c.nt), .val (aI K c.ns), .val (aI K c.nth), .val (aI K (mostS c.own)), .val (D K (elD 0 d)), .val (D K (elD 1 d)), .val (D K (elD 2 d)), .val (D K (elD 3 d))])
    (fun H1 H2 v h => Ex.refl _) ?_ (SlW.refl _) (fun M d => ag_tup (ags_cons (ag_name (i := 7) sc_se.nd) (ags_cons (ag_name (i := 8) sc_se.nd) (ags_cons (ag_name (i := 9) sc_se.nd) (ags_cons (ag_name (i := 10) sc_se.nd) ags_nil))))) ?_ ?_
  · intro d hd
    simp only [List.mem_cons, List.not_mem_nil, or_false] at hd
    rcases hd with rfl | rfl | rfl | rfl <;> rfl
  · rintro G0 G1 v ⟨m0, ex, l, vs, rfl, hn, h1, h2⟩
    exact ⟨l, vs, rfl, h2.length, fun i H2 m2 => ⟨.of (m2 _ _ h1), h2.mono (.of m2)⟩⟩
  · rintro G0 G1 v hL i d hd
    have hm := List.mem_of_getElem? hd
    have hall : ∃ ww vv ll hh, d = rowS ww vv ll hh ∧ ll ≤ vv ∧ vv ≤ hh := by
      simp only [List.mem_cons, List.not_mem_nil, or_false] at hm
      rcases hm with rfl | rfl | rfl | rfl
      · exact ⟨_, _, _, _, rfl, by omega, by omega⟩
      · exact ⟨_, _, _, _, rfl, by omega, by omega⟩
      · exact ⟨_, _, _, _, rfl, by omega, o5⟩
      · exact ⟨_, _, _, _, rfl, by omega, by omega⟩
    obtain ⟨ww, vv, ll, hh, rfl, l1, l2⟩ := hall
    refine as_if (at_not (at_eq (b2 := true) (at_val (ae_call Gn hr2 (vv, ll, hh) trivial (aa_cons (av 8) (aa_cons (av 9) (aa_cons (av 10) aa_nil))))) (by simp [l1, l2]))) (fun z => by cases z) (fun _ => ?_)
    exact as_end (as_lp (fun H2 m2 => m2) (.same (.same (.same (.same (.same (.same (.same (.any (.any (.any (.any .nil))))))))))))
  · rintro G0 G1 v hL
    have e1 : Ex Hb G1 := (show Ex Hb G0 from hL.1).trans hL.2.1
    obtain ⟨kk, hk, G⟩ := Gt c.own
    refine as_ini (e1 _ _ b2) T.cl (T.na _ (by decide)) (by decide) (av 0) (ar_meth0 (R := rBk a c.own) (hBk (pos := ⟨0, 0, 0, 0⟩) (av 1) e1) (recv_bb (by decide +kernel)) G hr c.own ⟨hk, o1, o2⟩ rfl (fun _ _ _ _ e r => rBk_back e r)) fun G2 G3 v2 e3 e4 r2 => ?_
    obtain ⟨b, rfl, hbn, hIs⟩ := r2
    have p3 := e4 _ _ (e3 _ _ (e1 _ _ b2))
    have hbp : b ≠ p := fun z => by
      subst z
      rw [e3 _ _ (e1 _ _ b2)] at hbn
      cases hbn
    have c1 : Ex H0 (upd G3 p (.ins a.SE dx (putF "kept" (.ref b) []))) := ex_ini (((b1.trans e1).trans e3).trans e4) hp0
    have hIs1 : IsBook a (upd G3 p (.ins a.SE dx (putF "kept" (.ref b) []))) b c.own := hIs.upd p3 hbp
    refine as_ini upd_same T.cl (T.na _ (by decide)) (by show 1 < 1000; decide) (av 0) (ae_tup (ds := [.int c.nr, .int c.nt, .int c.ns, .int c.nth]) (ad_cons (av 2) (ad_cons (av 3) (ad_cons (av 4) (ad_cons (av 5) ad_nil))))) fun G4 G5 v5 e5 e6 r5 => ?_
    have p5 := e6 _ _ (e5 _ _ (upd_same (H := G3)))
    have r5 : Dt K G5 v5 (handsD c) := r5
    refine as_done fun H m => ?_
    exact ⟨(ex_ini (c1.trans (e5.trans e6)) hp0).trans m, dx, b, v5, m _ _ upd_same, ((hIs1.mono (e5.trans e6)).upd p5 hbp).mono m, (r5.mono (Tk.ins p5).tex).mono (.of m)⟩
end
end Ep
set_option maxHeartbeats 4000000
/-! Setting(book, r, t, s, things=m) -/
namespace Ep
open PySem PySem.Spec PyProof.Rows L2 Evl
theorem kb_se {K : PySem.W.Frag} {f : Addr} {fd : FuncData} (F : FunD K "__init__" "Setting.__init__" (defArgs s_se) (defBody s_se) (defScope s_se) dvs_se kws_se f fd) : ∃ g, KBn K fd ps_se 5 ["things"] g (fun vs zs => vs ++ zs) := by
  obtain ⟨its, mv, h⟩ := F.kbinds (ps := ps_se) 5 ["things"] [] (fun us _ _ ws => us ++ ws) (by intro z; cases z) (by intro z; cases z) (fun q hq => by cases hq) (fun r1 _ _ r4 => r1.append r4) fun T D doc pm an cdv ct us its mv ws l1 l2 l3 l4 => match us, l1, its, l2, mv, l3, ws, l4 with
    | [_, _, _, _, _], _, [_, _, _], _, [], _, [_], _ => ⟨_, rfl, rfl⟩
  exact ⟨_, h⟩
section
variable {X : Cx} {M : Mb} {ρ : List Sl} {e : Expr} {es : List Expr} {kws : List Keyword} {As Bs : List Ab} {p pos : Pos} {C f : Addr} {fd : FuncData} {ps ks : List Str} {k n : Nat} {x : Str} {g : List Value → List Value → List Value} {ι : Type} {pc : ι → Prop} {pre : ι → List Ab} {Ma Mz : ι → Mb} {res : ι → Ab} {R : RR}
/-- C(e, .., k = v, ..) -/
theorem ar_makeK (mk : Mk X.K C f) (F : FnOk X.prog X.w X.K X.mg X.base CX0 k f fd ps (spC pc pre Ma Mz res)) (hr : Room (k + 1) X.A) (hm : X.mg x = some (.ref C)) (hb : KBn X.K fd ps (n + 1) ks g (fun vs zs => vs ++ zs)) (ha : AA X M ρ (e :: es) As) (hkw : AKw X M ρ kws Bs)
    (hM : ∀ H vs q dx, M.P H → AbL (As ++ Bs) H vs → H q = none → H dx = none → dx ≠ q → ∃ i, pc i ∧ (Ma i).P (upd (upd H dx (.own q)) q (.ins C dx [])) ∧ AbL (pre i) (upd (upd H dx (.own q)) q (.ins C dx [])) (.ref q :: vs) ∧ ∀ v H', (Mz i).P H' → (res i).P H' v → v = .non ∧ Ex H H' ∧ R H H' (.ref q))
    (hbk : ∀ H H1 H' v, Ex H H1 → R H1 H' v → R H H' v) (hn : As.length = n := by rfl) (hl : Bs.length = ks.length := by rfl)
    (hg : Gl X x := by rfl) (hall : (backToKw pos (keywordEach kws X.env)).all (·.1.isSome) = true := by rfl) (hks : (backToKw pos (keywordEach kws X.env)).filterMap (·.1) = ks := by rfl) (hdb : (x == ("__debug__" : Str)) = false := by decide)
    (he : starEach (e :: es) X.env = (false, eval e X.env) :: starEach es X.env := by rfl) (hpl : ((backTo pos (starEach (e :: es) X.env)).any (·.1) || (backToKw pos (keywordEach kws X.env)).any (·.1.isNone)) = false := by rfl) :
    AR X M ρ (.Call (.Name x p) (e :: es) kws pos) R :=
  weakE (pe_makeK mk F hr hg hm hb pass0 ha hkw hall hks hdb he hpl) fun σ H Q ⟨m, sl, q⟩ => ⟨m, sl, fun vs H1 e1 a1 => ⟨M.mono e1 m, sl.mono e1, fun zs H2 e2 a2 => ⟨by rw [← a1.length]; exact hn, by rw [← a2.length]; exact hl, fun y dx h1 h2 h3 => by
    obtain ⟨i, g1, g2, g3, g4⟩ := hM H2 (vs ++ zs) y dx (M.mono (e1.trans e2) m) ((a1.mono e2).app a2) h1 h2 h3
    exact ⟨i, g1, g2, g3, fun v H' m' r => by
      obtain ⟨j1, j2, j3⟩ := g4 v H' m' r
      exact ⟨j1, q _ H' ((e1.trans e2).trans j2) (hbk H H2 H' _ (e1.trans e2) j3)⟩⟩⟩⟩⟩
end
end Ep
set_option maxHeartbeats 4000000
/-! the law's helpers: _law_take -/
namespace Ep
open PySem PySem.Spec PyProof.Rows L2 Evl
section
variable {X : Cx} {M : Mb} {ρ : List Sl} {e : Expr} {i : Int} {b : Bool} {p pos : Pos}
theorem ae_toint (hm : X.mg "int" = none) (ha : AE X M ρ e (aI X.K i)) (hg : Gl X "int" := by rfl) (he : starEach [e] X.env = (false, eval e X.env) :: starEach [] X.env := by rfl) : AE X M ρ (.Call (.Name "int" p) [e] [] pos) (aI X.K i) :=
  weakE (pe_callTy call_int1 hg hm (by decide +kernel) (aa_cons ha aa_nil he) (by decide) (by decide) he) fun σ H Q ⟨m, sl, q⟩ => ⟨m, sl, fun vs H1 e1 a1 => by
    obtain ⟨v, r, rfl, h, a1⟩ := abl_cons a1
    cases abl_nil a1
    cases h.int_inv
    exact .inl ⟨i, rfl, q _ H1 e1 (.int _)⟩⟩
theorem ae_tointB (hm : X.mg "int" = none) (ha : AE X M ρ e (aB X.K b)) (hg : Gl X "int" := by rfl) (he : starEach [e] X.env = (false, eval e X.env) :: starEach [] X.env := by rfl) : AE X M ρ (.Call (.Name "int" p) [e] [] pos) (aI X.K (if b then 1 else 0)) :=
  weakE (pe_callTy call_int1 hg hm (by decide +kernel) (aa_cons ha aa_nil he) (by decide) (by decide) he) fun σ H Q ⟨m, sl, q⟩ => ⟨m, sl, fun vs H1 e1 a1 => by
    obtain ⟨v, r, rfl, h, a1⟩ := abl_cons a1
    cases abl_nil a1
    cases h.bl_inv
    exact .inr ⟨b, rfl, q _ H1 e1 (.int _)⟩⟩
end
/-- a pool: what is left of the cell, and the seed -/
def mPo (H0 : Hp) (l : Addr) (x y : Int) : Mb := ⟨fun H => Ex H0 H ∧ H0 l = none ∧ H l = some (.lst [.int x, .int y]), fun e h => ⟨h.1.trans e, h.2.1, e _ _ h.2.2⟩⟩
def seedS (y : Int) : Int := (y * 48271 + 11) % 2147483647
def takeS (x y n : Int) : (Int × Int) × Int := if 0 < x then ((x / n, y), x % n) else ((x, seedS y), (seedS y * seedS y) % 2147483629 / 64 % n)
section
variable {X : Cx} {Hs H0 : Hp} {ρ : List Sl} {e : Expr} {l : Addr} {x y : Int}
theorem po_ld (h : AE X (mK Hs (mPo H0 l x y)) ρ e (Rf l)) : AE X (mK Hs (mPo H0 l x y)) ρ e (LD X.K [.int x, .int y]) := ae_view h fun H v m e => ⟨l, _, e, m.2.2.2, .cons (.int x) (.cons (.int y) .nil)⟩
end
theorem mPo_put {H0 H : Hp} {l : Addr} {x y : Int} {z : Int} {j : Nat} {x' y' : Int} (m : (mPo H0 l x y).P H) (h : ([V.int x, V.int y].set j (.int z)) = [.int x', .int y']) : (mPo H0 l x' y').P (upd H l (.lst ([V.int x, V.int y].set j (.int z)))) := ⟨Ex.mut m.1 m.2.1, m.2.1, by rw [upd_same, h]⟩
section
variable {P : Program} {w : World} {K : PySem.W.Frag} {mg : Str → Option Value} {base : Heap} {a : Adr}
abbrev s_tk : Stmt := top 64
theorem sc_tk : FnScope ["_law_pool_here", "_law_many", "_law_found"] ["_law_pool_here", "_law_many"] (defScope s_tk) := ⟨rfl, rfl, rfl, by decide +kernel, rfl, by decide +kernel, by decide +kernel⟩
structure PoI where
  (H0 : Hp) (l : Addr) (x y n : Int)
abbrev sp_tk (K : PySem.W.Frag) : Sp := spK (ι := PoI) (fun i => 0 < i.n ∧ i.n < 1073741824) (fun i => [Rf i.l, aI K i.n]) (fun i => mPo i.H0 i.l i.x i.y) (fun i => mPo i.H0 i.l (takeS i.x i.y i.n).1.1 (takeS i.x i.y i.n).1.2) fun i => aI K (takeS i.x i.y i.n).2
theorem seed_lt (y : Int) : 0 ≤ seedS y ∧ seedS y < 2147483647 := ⟨Int.emod_nonneg _ (by decide), Int.emod_lt_of_pos _ (by decide)⟩
theorem ok_tk {f : Addr} {fd : FuncData} (F : Fun K "_law_take" "_law_take" s_tk f fd) (bi : mg "int" = none) : FnOk P w K mg base CX0 1 f fd ["_law_pool_here", "_law_many"] (sp_tk K) := by
  refine fn_K F sc_tk (fun _ => rfl) fun cdv A outer st0 H E hr i hi => ?_
  obtain ⟨H0, l, x, y, n⟩ := i
  have h1 : 0 < n := hi.1
  have h2 : n < 1073741824 := hi.2
  have hdv : ∀ z : Int, CDivW z n := fun z => wide_div (b := 30) h1 (by omega) (by decide) (by decide)
  refine as_if (at_cmpC (ac_gt (ae_dat (d' := .int x) (ae_ixL (d := .int x) (po_ld (av 0)) ae_int rfl) rfl) ae_int)) (fun c1 => ?_) (fun c1 => ?_)
  · have hx : 0 < x := by simpa using c1
    have ht : takeS x y n = ((x / n, y), x % n) := if_pos hx
    refine as_asg (i := 2) (ae_mod (ae_toint bi (ae_dat (d' := .int x) (ae_ixL (d := .int x) (po_ld (av 0)) ae_int rfl) rfl)) (av 1) h1) ?_ sc_tk.nd
    refine as_tgt (am_of (ae_fdiv (ae_dat (d' := .int x) (ae_ixL (d := .int x) (po_ld (av 0)) ae_int rfl) rfl) (av 1) (hdv x))) (kg_sub (M' := mPo H0 l (x / n) y) (av 0) ae_int (fun H2 v m2 av2 => by
      cases av2.int_inv
      exact ⟨_, 0, m2.2.2, rfl, mPo_put m2 rfl⟩)) ?_
    exact as_ret (av 2) (fun v H2 m h => ⟨by show (mK H (mPo H0 l (takeS x y n).1.1 (takeS x y n).1.2)).P H2; rw [ht]; exact m, d_cl h (by rw [ht])⟩)
  · have hx : ¬ 0 < x := by simpa using c1
    have ht : takeS x y n = ((x, seedS y), (seedS y * seedS y) % 2147483629 / 64 % n) := if_neg hx
    obtain ⟨s1, s2⟩ := seed_lt y
    refine as_end ?_
    refine as_tgt (am_of (ae_dat (d' := .int (seedS y)) (ae_mod (ae_toint bi (ae_add (ae_mul (ae_dat (d' := .int y) (ae_ixL (d := .int y) (po_ld (av 0)) ae_int rfl) rfl) ae_int (.inr ⟨by decide, by decide⟩)) ae_int)) ae_int (by decide)) rfl)) (kg_sub (M' := mPo H0 l x (seedS y)) (av 0) ae_int (fun H2 v m2 av2 => by
      cases av2.int_inv
      exact ⟨_, 1, m2.2.2, rfl, mPo_put m2 rfl⟩)) ?_
    exact as_ret (ae_mod (ae_fdiv (ae_mod (ae_toint bi (ae_mul (ae_dat (d' := .int (seedS y)) (ae_ixL (d := .int (seedS y)) (po_ld (av 0)) ae_int rfl) rfl) (ae_dat (d' := .int (seedS y)) (ae_ixL (d := .int (seedS y)) (po_ld (av 0)) ae_int rfl) rfl) (.inl ⟨by omega, by omega⟩))) ae_int (by decide)) ae_int (wide_div (b := 30) (by decide) (by decide) (by decide) (by decide))) (av 1) h1) (fun v H2 m h => ⟨by show (mK H (mPo H0 l (takeS x y n).1.1 (takeS x y n).1.2)).P H2; rw [ht]; exact m, d_cl h (by rw [ht])⟩)
end
end Ep
set_option maxHeartbeats 4000000
/-! the law's helpers: _law_one, _law_switches, _law_pool -/
namespace Ep
open PySem PySem.Spec PyProof.Rows L2 Evl
section
variable {X : Cx} {Hs : Hp} {M M' : Mb} {ρ ρ' : List Sl} {e a b : Expr} {es : List Expr} {A : Ab} {As : List Ab} {pos : Pos} {x : Str} {p : Pos} {k : Nat} {ι : Type} {pc : ι → Prop} {pre : ι → List Ab} {Ma Mz : ι → Mb} {res : ι → Ab} {i : Int} {d : PyData} {ds : List PyData} {ls : Addr}
theorem km_call (G : GFn X.prog X.w X.K X.mg X.base k x (spK pc pre Ma Mz res)) (hr : Room k X.A) (ha : AA X (mK Hs M) ρ (e :: es) As)
    (hM : ∀ H vs, M.P H → AbL As H vs → ∃ i, pc i ∧ (Ma i).P H ∧ AbL (pre i) H vs ∧ ∀ v H', (Mz i).P H' → (res i).P H' v → M'.P H' ∧ A.P H' v)
    (hg : Gl X x := by rfl) (hdb : (x == ("__debug__" : Str)) = false := by decide) (he : starEach (e :: es) X.env = (false, eval e X.env) :: starEach es X.env := by rfl) (hpl : (backTo pos (starEach es X.env)).any (·.1) = false := by rfl) :
    AM X (mK Hs M) ρ (.Call (.Name x p) (e :: es) [] pos) (mK Hs M') (keepT ρ) A := by
  obtain ⟨f, fd, ps, F, hm, kp, bb⟩ := G
  refine weakE (pe_call F hr hg hm kp bb .nil pass0 ha hdb he hpl) fun σ H Q ⟨m, sl, q⟩ => ⟨m, sl, fun vs H1 e1 a1 => ?_⟩
  obtain ⟨i, h1, h2, h3, h4⟩ := hM H1 vs (M.mono e1 m.2) a1
  rw [List.append_nil]
  exact ⟨i, h1, h2, h3, fun v H' t m' r => by
    obtain ⟨g1, g2⟩ := h4 v H' m' r
    exact q v H' ⟨(m.1.trans (.of e1)).trans t, g1⟩ ((sl.mono e1).keep t) g2⟩
theorem am_ixL (ha : AE X M ρ a (Rf ls)) (hb : AM X M ρ b M' ρ' (aI X.K i)) (hL : ∀ H, M'.P H → LAt X.K H ls ds) (h : atI ds i = some d) (hs : PlainIx b := by exact fun _ _ => rfl) : AM X M ρ (.Subscript a b pos) M' ρ' (D X.K d) :=
  weakE (pe_ix ix_list ha hb hs) fun σ H Q ⟨m, sl, q⟩ => ⟨m, sl, fun x H1 e1 hx => ⟨M.mono e1 m, sl.mono e1, fun y H2 m2 sl2 hy => by
    obtain ⟨xs, h1, h2⟩ := hL H2 m2
    cases hy
    have hv : ∃ v, atI xs i = some v ∧ Dt X.K H2 v d := by
      unfold atI at h ⊢
      rw [h2.length]
      cases e : ixN ds.length i with
      | none => rw [e] at h; cases h
      | some j =>
        rw [e] at h
        exact h2.get h
    obtain ⟨v, h3, h4⟩ := hv
    exact ⟨ls, xs, i, v, hx, rfl, .of h1, h3, q v H2 m2 sl2 h4⟩⟩⟩
end
section
variable {X : Cx} {M : Mb} {ρ : List Sl} {D : Ends} {sts : List Stmt}
/-- a slot's value by its name, the heap as it was told -/
theorem as_vl (i : Nat) {A : Ab} (hA : ρ[i]? = some (.val A)) (h : ∀ H0 v, M.P H0 → A.P H0 v → AS X M (ρ.set i (.val (Vl v))) sts D) : AS X M ρ sts D := ⟨fun pins s σ H D' I ⟨e, m, sl⟩ => by
  obtain ⟨v, h1, h2⟩ := sl.2 i A hA
  have sl' : Slots (ρ.set i (.val (Vl v))) H σ := by
    have q := sl.set (a := Vl v) (v := v) i rfl
    have e2 : σ.set i (some v) = σ := by
      apply List.ext_getElem?
      intro j
      rw [List.getElem?_set]
      split
      · rename_i hj
        subst hj
        rw [h1]
        split
        · rfl
        · rename_i hl
          exact absurd (List.getElem?_eq_some_iff.mp h1).1 hl
      · rfl
    rw [e2] at q
    exact q
  exact (h H v m h2).run pins s σ H D' I ⟨e, m, sl'⟩⟩
end
theorem take_rng (x y : Int) {n : Int} (h : 0 < n) : 0 ≤ (takeS x y n).2 ∧ (takeS x y n).2 < n := by
  unfold takeS
  split <;> exact ⟨Int.emod_nonneg _ (by omega), Int.emod_lt_of_pos _ h⟩
def oneS (x y : Int) (ds : List PyData) : PyData := ds.getD (takeS x y ds.length).2.toNat .none
theorem one_at {x y : Int} {ds : List PyData} (h : 0 < ds.length) : atI ds (takeS x y ds.length).2 = some (oneS x y ds) := by
  obtain ⟨h1, h2⟩ := take_rng x y (n := ds.length) (by omega)
  have hl : (takeS x y ds.length).2.toNat < ds.length := by omega
  unfold atI ixN oneS
  rw [if_pos h1, if_pos h2]
  simp [List.getElem?_eq_getElem hl]
section
variable {P : Program} {w : World} {K : PySem.W.Frag} {mg : Str → Option Value} {base : Heap} {a : Adr}
/-! #### _law_one -/
abbrev s_on : Stmt := top 65
theorem sc_on : FnScope ["_law_pool_here", "_law_some"] ["_law_pool_here", "_law_some"] (defScope s_on) := ⟨rfl, rfl, rfl, by decide +kernel, rfl, by decide +kernel, by decide +kernel⟩
structure OnI where
  (H0 : Hp) (l : Addr) (x y : Int) (ds : List PyData)
abbrev sp_on (K : PySem.W.Frag) : Sp := spK (ι := OnI) (fun i => 0 < i.ds.length ∧ i.ds.length ≤ 1000) (fun i => [Rf i.l, At i.H0 (LD K i.ds)]) (fun i => mPo i.H0 i.l i.x i.y) (fun i => mPo i.H0 i.l (takeS i.x i.y i.ds.length).1.1 (takeS i.x i.y i.ds.length).1.2) fun i => D K (oneS i.x i.y i.ds)
theorem ok_on {f : Addr} {fd : FuncData} (F : Fun K "_law_one" "_law_one" s_on f fd) (G : GFn P w K mg base 1 "_law_take" (sp_tk K)) (bl : mg "len" = none) : FnOk P w K mg base CX0 2 f fd ["_law_pool_here", "_law_some"] (sp_on K) := by
  refine fn_K F sc_on (fun _ => rfl) fun cdv A outer st0 H E hr i hi => ?_
  obtain ⟨H0, l, x, y, ds⟩ := i
  have h1 : 0 < ds.length := hi.1
  have h2 : ds.length ≤ 1000 := hi.2
  refine as_vl 1 (A := At H0 (LD K ds)) rfl fun Hb v mb hv => ?_
  obtain ⟨ls, vs, rfl, e2, e3⟩ := (show (LD K ds).P H0 v from hv)
  refine as_retC (am_ixL (M' := mK H (mPo H0 l (takeS x y ds.length).1.1 (takeS x y ds.length).1.2)) (ls := ls) (ds := ds) (i := (takeS x y ds.length).2) (d := oneS x y ds) (ae_view (B := Rf ls) (av 1) fun H2 v m e => e)
    (km_call (M' := mPo H0 l (takeS x y ds.length).1.1 (takeS x y ds.length).1.2) G hr (aa_cons (av 0) (aa_cons (ae_len (ds := ds) bl (ae_view (B := LD K ds) (av 1) fun H2 v m e => ⟨ls, vs, e, m.2.1 _ _ e2, e3.mono (.of m.2.1)⟩) sqA_lst) aa_nil))
      (fun H2 ws m2 hws => ⟨⟨H0, l, x, y, ds.length⟩, ⟨by show (0 : Int) < ds.length; omega, by show (ds.length : Int) < 1073741824; omega⟩, m2, hws, fun v' H3 m3 r => ⟨m3, r⟩⟩))
    (fun H2 m2 => ⟨vs, m2.2.1 _ _ e2, e3.mono (.of m2.2.1)⟩) (one_at h1)) (fun H2 v m h => ⟨m, h⟩)
/-! #### _law_switches -/
abbrev s_sw : Stmt := top 66
theorem sc_sw : FnScope ["_law_way"] ["_law_way"] (defScope s_sw) := ⟨rfl, rfl, rfl, by decide +kernel, rfl, by decide +kernel, by decide +kernel⟩
def wordsW (z : Str) : List Str := if z = "epochs" then ["epochs", "behind", "check", "fetch", "mark", "test", "step", "told"] else if z = "looks" then ["check", "look", "chain"] else ["counts", "still", "read", "sleep"]
abbrev sp_sw (K : PySem.W.Frag) : Sp := spG (ι := Str) (fun _ => True) (fun z => [aS K z]) fun z => rN K ((wordsW z).map .str)
theorem ok_sw {f : Addr} {fd : FuncData} (F : Fun K "_law_switches" "_law_switches" s_sw f fd) : FnOk P w K mg base CX0 1 f fd ["_law_way"] (sp_sw K) := by
  refine fn_G F sc_sw (fun _ => rfl) fun cdv A outer s H E hr z hi => ?_
  have hnd : ∀ (x y : Str), eqD (.str x) (.str y) = decide (x = y) := fun x y => eqD_str ..
  refine as_if (at_cmpC (ac_eqS (av 0) ae_str)) (fun c1 => ?_) (fun c1 => ?_)
  · rw [eqD_str] at c1
    have hz : z = "epochs" := by simpa using c1
    refine as_retR (R := rN K ((wordsW z).map .str)) (ar_imp (an_lst (ad_cons ae_str (ad_cons ae_str (ad_cons ae_str (ad_cons ae_str (ad_cons ae_str (ad_cons ae_str (ad_cons ae_str (ad_cons ae_str ad_nil)))))))) (by show (8 : Nat) ≤ 1000; decide)) fun H0 H1 v m ex r => ?_) (fun H0 v H1 m ex r => ⟨m.trans ex, rN_back m r⟩)
    have e : wordsW z = (["epochs", "behind", "check", "fetch", "mark", "test", "step", "told"] : List Str) := if_pos hz
    rw [e]
    exact r
  · rw [eqD_str] at c1
    have hz : ¬ z = "epochs" := by simpa using c1
    refine as_end ?_
    refine as_retR (R := rN K ((wordsW z).map .str)) (ar_if (at_cmpC (ac_eqS (av 0) ae_str)) (fun c2 => ar_imp (an_lst (ad_cons ae_str (ad_cons ae_str (ad_cons ae_str ad_nil))) (by show (3 : Nat) ≤ 1000; decide)) fun H0 H1 v m ex r => ?_) (fun c2 => ar_imp (an_lst (ad_cons ae_str (ad_cons ae_str (ad_cons ae_str (ad_cons ae_str ad_nil)))) (by show (4 : Nat) ≤ 1000; decide)) fun H0 H1 v m ex r => ?_) (fun _ _ _ _ e h => rN_back e h)) (fun H0 v H1 m ex r => ⟨m.trans ex, rN_back m r⟩)
    · rw [eqD_str] at c2
      have h2 : z = "looks" := by simpa using c2
      have e : wordsW z = (["check", "look", "chain"] : List Str) := by unfold wordsW; rw [if_neg hz, if_pos h2]
      rw [e]
      exact r
    · rw [eqD_str] at c2
      have h2 : ¬ z = "looks" := by simpa using c2
      have e : wordsW z = (["counts", "still", "read", "sleep"] : List Str) := by unfold wordsW; rw [if_neg hz, if_neg h2]
      rw [e]
      exact r
end
end Ep
set_option maxHeartbeats 4000000
/-! the law's helpers: _law_pool -/
namespace Ep
open PySem PySem.Spec PyProof.Rows L2 Evl
section
variable {X : Cx} {M : Mb} {ρ : List Sl} {e e2 : Expr} {i j : Int} {p pos : Pos}
theorem ae_max (hc : X.calm = true) (hm : X.mg "max" = none) (ha : AE X M ρ e (aI X.K i)) (hb : AE X M ρ e2 (aI X.K j)) (hg : Gl X "max" := by rfl) (h1 : starEach [e, e2] X.env = (false, eval e X.env) :: starEach [e2] X.env := by rfl) (h2 : starEach [e2] X.env = (false, eval e2 X.env) :: starEach [] X.env := by rfl) (h3 : (backTo pos (starEach [e2] X.env)).any (·.1) = false := by rfl) :
    AE X M ρ (.Call (.Name "max" p) [e, e2] [] pos) (aI X.K (if j > i then j else i)) :=
  weakE (pe_callB (call_max2 hc) hg hm (by decide +kernel) (aa_cons ha (aa_cons hb aa_nil h2) h1) (by decide) (by decide) h1 h3) fun σ H Q ⟨m, sl, q⟩ => ⟨m, sl, fun vs H1 e1 a1 => by
    obtain ⟨v, r, rfl, h, a1⟩ := abl_cons a1
    obtain ⟨v2, r, rfl, h', a1⟩ := abl_cons a1
    cases abl_nil a1
    cases h.int_inv
    cases h'.int_inv
    exact ⟨i, j, rfl, q _ H1 e1 (.int _)⟩⟩
end
/-- a list of whole numbers, wherever it stands -/
def aSq (K : PySem.W.Frag) (ns : List Int) : Ab := ⟨fun H v => ∃ p, v = .ref p ∧ SqL K H p (ns.map V.int), fun e ⟨p, h1, h2⟩ => ⟨p, h1, ex_l e h2⟩, false, fun z => by cases z⟩
theorem sqA_sq {K : PySem.W.Frag} {ns : List Int} : SqA K (aSq K ns) (ns.map .int) := fun H v ⟨p, h1, h2⟩ => ⟨p, _, h1, .inl h2, DtL.ofInts⟩
section
variable {X : Cx} {M : Mb} {ρ : List Sl} {e e2 : Expr} {i j : Int} {p pos : Pos} {ns : List Int}
theorem ae_ixSq {a b : Expr} (ha : AE X M ρ a (aSq X.K ns)) (hb : AE X M ρ b (aI X.K i)) (h : atI ns i = some j) (hs : PlainIx b := by exact fun _ _ => rfl) : AE X M ρ (.Subscript a b pos) (aI X.K j) :=
  ae_ix ix_list (ra_val fun H x y _ hx hy => by
    obtain ⟨p, rfl, h1⟩ := hx
    cases hy
    refine ⟨.int j, .int j, fun Q q => ⟨p, _, i, _, rfl, rfl, h1, ?_, q⟩⟩
    unfold atI at h ⊢
    rw [List.length_map]
    cases e : ixN ns.length i with
    | none => rw [e] at h; cases h
    | some k =>
      rw [e] at h
      show (ns.map V.int)[k]? = _
      rw [List.getElem?_map, show ns[k]? = some j from h]
      rfl) ha hb hs
end
def sizeS (c : Int) : Int := if -1 - c > c then -1 - c else c
def poolS (sc : List Int) : Int × Int := (sizeS (sc.getD 0 0) * (if 10 ^ 18 ≤ sizeS (sc.getD 0 0) then 1 else 0), (sizeS (sc.getD 0 0) % 2147483629 + 104729) * 48271 % 2147483647)
section
variable {P : Program} {w : World} {K : PySem.W.Frag} {mg : Str → Option Value} {base : Heap} {a : Adr}
abbrev s_po : Stmt := top 63
theorem sc_po : FnScope ["_law_script", "_law_k", "_law_cell", "_law_size", "_law_seed"] ["_law_script", "_law_k"] (defScope s_po) := ⟨rfl, rfl, rfl, by decide +kernel, rfl, by decide +kernel, by decide +kernel⟩
abbrev sp_po (K : PySem.W.Frag) : Sp := spG (ι := List Int) (fun _ => True) (fun sc => [aSq K sc, aI K 0]) fun sc => rN K [.int (poolS sc).1, .int (poolS sc).2]
theorem ok_po {f : Addr} {fd : FuncData} (F : Fun K "_law_pool" "_law_pool" s_po f fd) (bi : mg "int" = none) (bm : mg "max" = none) (bl : mg "len" = none) : FnOk P w K mg base CX0 1 f fd ["_law_script", "_law_k"] (sp_po K) := by
  refine fn_G F sc_po (fun _ => rfl) fun cdv A outer s H E hr sc hi => ?_
  have nd := sc_po.nd
  refine as_asg (i := 2) ae_int ?_ nd
  cases sc with
  | nil =>
    refine as_if (at_cmpC (ac_lt (av 1) (ae_len (ds := ([] : List Int).map .int) bl (av 0) sqA_sq))) (fun c1 => by simp at c1) (fun _ => as_end ?_)
    refine as_asg (i := 3) (ae_dat (d' := .int (sizeS 0)) (ae_max rfl bm (av 2) (ae_sub (ae_neg ae_int) (av 2))) rfl) ?_ nd
    refine as_asg (i := 4) (ae_dat (d' := .int (sizeS 0 % 2147483629 + 104729)) (ae_toint bi (ae_add (ae_add (ae_mod (ae_toint bi (av 3)) ae_int (by decide)) (ae_mul ae_int (av 1) (.inl ⟨by decide, by decide⟩))) ae_int)) (congrArg PyData.int (by omega))) ?_ nd
    exact as_retR (R := rN K [.int (poolS []).1, .int (poolS []).2]) (an_lst (ds := [.int (poolS []).1, .int (poolS []).2]) (ad_cons (ae_dat (ae_mul (av 3) (ae_tointB bi (ae_cmpC (ac_ge (av 3) (ae_pow ae_int ae_int ⟨by decide, by decide, by decide⟩)))) (.inl ⟨by decide, by decide⟩)) rfl) (ad_cons (ae_dat (ae_mod (ae_mul (av 4) ae_int (.inr ⟨by decide, by decide⟩)) ae_int (by decide)) rfl) ad_nil)) (by show (2 : Nat) ≤ 1000; decide)) (fun H0 v H1 m ex r => ⟨m.trans ex, rN_back m r⟩)
  | cons c l =>
    refine as_if (at_cmpC (ac_lt (av 1) (ae_len (ds := (c :: l).map .int) bl (av 0) sqA_sq))) (fun _ => ?_) (fun c1 => by simp at c1)
    refine as_asg (i := 2) (ae_ixSq (j := c) (av 0) (av 1) (by unfold atI ixN; simp)) ?_ nd
    refine as_end ?_
    refine as_asg (i := 3) (ae_dat (d' := .int (sizeS c)) (ae_max rfl bm (av 2) (ae_sub (ae_neg ae_int) (av 2))) rfl) ?_ nd
    refine as_asg (i := 4) (ae_dat (d' := .int (sizeS c % 2147483629 + 104729)) (ae_toint bi (ae_add (ae_add (ae_mod (ae_toint bi (av 3)) ae_int (by decide)) (ae_mul ae_int (av 1) (.inl ⟨by decide, by decide⟩))) ae_int)) (congrArg PyData.int (by omega))) ?_ nd
    exact as_retR (R := rN K [.int (poolS (c :: l)).1, .int (poolS (c :: l)).2]) (an_lst (ds := [.int (poolS (c :: l)).1, .int (poolS (c :: l)).2]) (ad_cons (ae_dat (ae_mul (av 3) (ae_tointB bi (ae_cmpC (ac_ge (av 3) (ae_pow ae_int ae_int ⟨by decide, by decide, by decide⟩)))) (.inr (by split <;> exact ⟨by decide, by decide⟩))) (congrArg PyData.int (by simp only [poolS, List.getD_cons_zero, decide_eq_true_eq]; rfl))) (ad_cons (ae_dat (ae_mod (ae_mul (av 4) ae_int (.inr ⟨by decide, by decide⟩)) ae_int (by decide)) rfl) ad_nil)) (by show (2 : Nat) ≤ 1000; decide)) (fun H0 v H1 m ex r => ⟨m.trans ex, rN_back m r⟩)
end
end Ep
set_option maxHeartbeats 4000000
/-! plain: a book's switches set one by one (the cases of get_put printed by tools/getput.py) -/
namespace Ep
open PySem PySem.Spec PyProof.Rows L2 Evl
theorem ep_put {o o2 : Own} (z : Str) (hl : o.like o2) (he : o.ep = o2.ep) : (o.put o2 z).ep = o2.ep := by
  cases o <;> cases o2 <;> first | (cases hl; done) | skip
  · simp only [Own.put, Own.ep, EOwn.put] at he ⊢
    split
    · rfl
    · exact he
  · rfl
  · rfl
theorem like_put {o o2 : Own} (z : Str) (hl : o.like o2) : (o.put o2 z).like o2 := by
  cases o <;> cases o2 <;> first | trivial | (cases hl; done)
theorem words_put {o o2 : Own} (z : Str) : (o.put o2 z).words = o.words := by cases o <;> cases o2 <;> rfl
theorem words_like {o o2 : Own} (hl : o.like o2) : o.words = o2.words := by cases o <;> cases o2 <;> first | rfl | (cases hl; done)
theorem get_put {o o2 : Own} {z w : Str} (hl : o.like o2) (hw : w ∈ o.words) : (o.put o2 z).get w = o2.get w ∨ (o.put o2 z).get w = o.get w := by
  cases o with
  | E o =>
    cases o2 with
    | E o2 =>
      simp only [Own.words, wordsE, List.mem_cons, List.not_mem_nil, or_false] at hw
      rcases hw with rfl | rfl | rfl | rfl | rfl | rfl | rfl | rfl
      · by_cases h : z = "epochs"
        · exact .inl (by show PyData.int (if z = "epochs" then o2.epochs else o.epochs) = .int o2.epochs; rw [if_pos h])
        · exact .inr (by show PyData.int (if z = "epochs" then o2.epochs else o.epochs) = .int o.epochs; rw [if_neg h])
      · by_cases h : z = "behind"
        · exact .inl (by show PyData.int (if z = "behind" then o2.behind else o.behind) = .int o2.behind; rw [if_pos h])
        · exact .inr (by show PyData.int (if z = "behind" then o2.behind else o.behind) = .int o.behind; rw [if_neg h])
      · by_cases h : z = "check"
        · exact .inl (by show PyData.bool (if z = "check" then o2.check else o.check) = .bool o2.check; rw [if_pos h])
        · exact .inr (by show PyData.bool (if z = "check" then o2.check else o.check) = .bool o.check; rw [if_neg h])
      · by_cases h : z = "fetch"
        · exact .inl (by show PyData.str (if z = "fetch" then o2.fetch else o.fetch) = .str o2.fetch; rw [if_pos h])
        · exact .inr (by show PyData.str (if z = "fetch" then o2.fetch else o.fetch) = .str o.fetch; rw [if_neg h])
      · by_cases h : z = "mark"
        · exact .inl (by show PyData.str (if z = "mark" then o2.mark else o.mark) = .str o2.mark; rw [if_pos h])
        · exact .inr (by show PyData.str (if z = "mark" then o2.mark else o.mark) = .str o.mark; rw [if_neg h])
      · by_cases h : z = "test"
        · exact .inl (by show PyData.str (if z = "test" then o2.test else o.test) = .str o2.test; rw [if_pos h])
        · exact .inr (by show PyData.str (if z = "test" then o2.test else o.test) = .str o.test; rw [if_neg h])
      · by_cases h : z = "step"
        · exact .inl (by show PyData.str (if z = "step" then o2.step else o.step) = .str o2.step; rw [if_pos h])
        · exact .inr (by show PyData.str (if z = "step" then o2.step else o.step) = .str o.step; rw [if_neg h])
      · by_cases h : z = "told"
        · exact .inl (by show PyData.bool (if z = "told" then o2.told else o.told) = .bool o2.told; rw [if_pos h])
        · exact .inr (by show PyData.bool (if z = "told" then o2.told else o.told) = .bool o.told; rw [if_neg h])
    | L o2 => cases hl
    | S o2 => cases hl
  | L o =>
    cases o2 with
    | L o2 =>
      simp only [Own.words, wordsL, List.mem_cons, List.not_mem_nil, or_false] at hw
      rcases hw with rfl | rfl | rfl
      · by_cases h : z = "check"
        · exact .inl (by show PyData.bool (if z = "check" then o2.check else o.check) = .bool o2.check; rw [if_pos h])
        · exact .inr (by show PyData.bool (if z = "check" then o2.check else o.check) = .bool o.check; rw [if_neg h])
      · by_cases h : z = "look"
        · exact .inl (by show PyData.str (if z = "look" then o2.look else o.look) = .str o2.look; rw [if_pos h])
        · exact .inr (by show PyData.str (if z = "look" then o2.look else o.look) = .str o.look; rw [if_neg h])
      · by_cases h : z = "chain"
        · exact .inl (by show PyData.str (if z = "chain" then o2.chain else o.chain) = .str o2.chain; rw [if_pos h])
        · exact .inr (by show PyData.str (if z = "chain" then o2.chain else o.chain) = .str o.chain; rw [if_neg h])
    | E o2 => cases hl
    | S o2 => cases hl
  | S o =>
    cases o2 with
    | S o2 =>
      simp only [Own.words, wordsS, List.mem_cons, List.not_mem_nil, or_false] at hw
      rcases hw with rfl | rfl | rfl | rfl
      · by_cases h : z = "counts"
        · exact .inl (by show PyData.int (if z = "counts" then o2.counts else o.counts) = .int o2.counts; rw [if_pos h])
        · exact .inr (by show PyData.int (if z = "counts" then o2.counts else o.counts) = .int o.counts; rw [if_neg h])
      · by_cases h : z = "still"
        · exact .inl (by show PyData.str (if z = "still" then o2.still else o.still) = .str o2.still; rw [if_pos h])
        · exact .inr (by show PyData.str (if z = "still" then o2.still else o.still) = .str o.still; rw [if_neg h])
      · by_cases h : z = "read"
        · exact .inl (by show PyData.str (if z = "read" then o2.read else o.read) = .str o2.read; rw [if_pos h])
        · exact .inr (by show PyData.str (if z = "read" then o2.read else o.read) = .str o.read; rw [if_neg h])
      · by_cases h : z = "sleep"
        · exact .inl (by show PyData.str (if z = "sleep" then o2.sleep else o.sleep) = .str o2.sleep; rw [if_pos h])
        · exact .inr (by show PyData.str (if z = "sleep" then o2.sleep else o.sleep) = .str o.sleep; rw [if_neg h])
    | E o2 => cases hl
    | L o2 => cases hl
theorem vals_ep {o o2 : Own} {w : Str} (he : o.ep = o2.ep) : valsAt o w = valsAt o2 w := by unfold valsAt; rw [he]
/-- the next switch keeps every switch among its values -/
theorem ok_put {o o2 : Own} (z : Str) (hl : o.like o2) (he : o.ep = o2.ep) (h1 : OkOwn o) (h2 : OkOwn o2) : OkOwn (o.put o2 z) := fun w hw => by
  rw [words_put] at hw
  rw [vals_ep (ep_put z hl he)]
  rcases get_put (z := z) hl hw with e | e
  · rw [e]
    exact h2 w (words_like hl ▸ hw)
  · rw [e, ← vals_ep (o := o) he]
    exact h1 w hw
/-- all its switches set: the book is the other one -/
theorem put_all {o o2 : Own} (hl : o.like o2) : o2.words.foldl (fun o z => o.put o2 z) o = o2 := by
  cases o <;> cases o2 <;> first | (cases hl; done) | rfl
end Ep
set_option maxHeartbeats 4000000
/-! plain: the first books -/
namespace Ep
open PySem PySem.Spec PyProof.Rows L2 Evl
def firstE (o : EOwn) : EOwn := ⟨o.epochs, o.behind, true, "behind", "fresh", "equal", "still", true⟩
def firstL : LOwn := ⟨true, "behind", "none"⟩
def firstSt (o : SOwn) : SOwn := ⟨o.counts, "outside", "behind", "none"⟩
theorem ok_firstE {o : EOwn} (h : OkOwn (.E o)) : OkOwn (.E (firstE o)) := fun w hw => by
  have h1 := h "epochs" (by show _ ∈ wordsE; decide +kernel)
  have h2 := h "behind" (by show _ ∈ wordsE; decide +kernel)
  simp only [Own.words, wordsE, List.mem_cons, List.not_mem_nil, or_false] at hw
  rcases hw with rfl | rfl | rfl | rfl | rfl | rfl | rfl | rfl
  · exact h1
  · exact h2
  · show PyData.bool true ∈ [PyData.bool false, .bool true]; simp
  · show PyData.str "behind" ∈ [PyData.str "ahead", .str "behind"]; simp
  · show PyData.str "fresh" ∈ [PyData.str "own", .str "fresh"]; simp
  · show PyData.str "equal" ∈ [PyData.str "last", .str "equal"]; simp
  · show PyData.str "still" ∈ [PyData.str "add", .str "set", .str "still"]; simp
  · show PyData.bool true ∈ [PyData.bool false, .bool true]; simp
theorem ok_firstL : OkOwn (.L firstL) := fun w hw => by
  simp only [Own.words, wordsL, List.mem_cons, List.not_mem_nil, or_false] at hw
  rcases hw with rfl | rfl | rfl
  · show PyData.bool true ∈ [PyData.bool false, .bool true]; simp
  · show PyData.str "behind" ∈ [PyData.str "ahead", .str "behind"]; simp
  · show PyData.str "none" ∈ [PyData.str "next", .str "both", .str "none"]; simp
theorem ok_firstS {o : SOwn} (h : OkOwn (.S o)) : OkOwn (.S (firstSt o)) := fun w hw => by
  have h1 := h "counts" (by show _ ∈ wordsS; decide +kernel)
  simp only [Own.words, wordsS, List.mem_cons, List.not_mem_nil, or_false] at hw
  rcases hw with rfl | rfl | rfl | rfl
  · exact h1
  · show PyData.str "outside" ∈ [PyData.str "anywhere", .str "outside"]; simp
  · show PyData.str "behind" ∈ [PyData.str "ahead", .str "behind"]; simp
  · show PyData.str "none" ∈ [PyData.str "inside", .str "late", .str "outside", .str "none"]; simp
end Ep
set_option maxHeartbeats 4000000
/-! the law's own dict, read -/
namespace Ep
open PySem PySem.Spec PyProof.Rows L2 Evl
def kasO (K : PySem.W.Frag) (o : Own) (hd : PyData) (m : Int) : List (Str × Ab) := (("way" : Str), aS K o.way) :: ((o.words.map fun w => (w, D K (o.get w))) ++ [(("hands" : Str), D K hd), (("most" : Str), aI K m)])
theorem kas_way {K : PySem.W.Frag} {o : Own} {hd : PyData} {m : Int} : (kasO K o hd m).lookup ("way" : Str) = some (aS K o.way) := by cases o <;> rfl
theorem kas_hands {K : PySem.W.Frag} {o : Own} {hd : PyData} {m : Int} : (kasO K o hd m).lookup ("hands" : Str) = some (D K hd) := by cases o <;> rfl
theorem kas_most {K : PySem.W.Frag} {o : Own} {hd : PyData} {m : Int} : (kasO K o hd m).lookup ("most" : Str) = some (aI K m) := by cases o <;> rfl
theorem kas_word {K : PySem.W.Frag} {o : Own} {hd : PyData} {m : Int} {z : Str} (hz : z ∈ o.words) : (kasO K o hd m).lookup z = some (D K (o.get z)) := by
  cases o with
  | E o =>
    simp only [Own.words, wordsE, List.mem_cons, List.not_mem_nil, or_false] at hz
    rcases hz with rfl | rfl | rfl | rfl | rfl | rfl | rfl | rfl <;>
      (simp only [kasO, Own.words, wordsE, List.map_cons, List.map_nil, List.cons_append, List.nil_append, List.lookup_cons]; rfl)
  | L o =>
    simp only [Own.words, wordsL, List.mem_cons, List.not_mem_nil, or_false] at hz
    rcases hz with rfl | rfl | rfl <;>
      (simp only [kasO, Own.words, wordsL, List.map_cons, List.map_nil, List.cons_append, List.nil_append, List.lookup_cons]; rfl)
  | S o =>
    simp only [Own.words, wordsS, List.mem_cons, List.not_mem_nil, or_false] at hz
    rcases hz with rfl | rfl | rfl | rfl <;>
      (simp only [kasO, Own.words, wordsS, List.map_cons, List.map_nil, List.cons_append, List.nil_append, List.lookup_cons]; rfl)
theorem words_way (o : Own) : wordsW o.way = o.words := by cases o <;> rfl
end Ep
set_option maxHeartbeats 4000000
/-! _law_setting -/
namespace Ep
open PySem PySem.Spec PyProof.Rows L2 Evl
/-- a new setting -/
def rSt (K : PySem.W.Frag) (a : Adr) (c : Cfg) : RR := fun H H' v => ∃ s, v = .ref s ∧ H s = none ∧ IsSet K a H' s c
theorem rSt_back {K : PySem.W.Frag} {a : Adr} {c : Cfg} {H H1 H' : Hp} {v : V} (e : Ex H H1) (h : rSt K a c H1 H' v) : rSt K a c H H' v := by
  obtain ⟨b, h1, h2, h3⟩ := h
  exact ⟨b, h1, fresh_back e h2, h3⟩
def hD (c : Cfg) : PyData := .tuple [.int (c.nr : Nat), .int (c.nt : Nat), .int (c.ns : Nat)]
section
variable {P : Program} {w : World} {K : PySem.W.Frag} {mg : Str → Option Value} {base : Heap} {a : Adr}
abbrev sp_lk (K : PySem.W.Frag) (a : Adr) : Sp := spG (ι := Cfg) SetOk (fun c => [aDK (kasO K c.own (hD c) c.nth)]) fun c => rBk a c.own
structure GSt (P : Program) (w : World) (K : PySem.W.Frag) (mg : Str → Option Value) (base : Heap) (a : Adr) : Prop where
  ex : ∃ f fd, FnOk P w K mg base CX0 11 f fd ps_se (sp_se K a) ∧ mg "Setting" = some (.ref a.SE) ∧ Mk K a.SE f ∧ FunD K "__init__" "Setting.__init__" (defArgs s_se) (defBody s_se) (defScope s_se) dvs_se kws_se f fd
abbrev s_lset : Stmt := top 71
theorem sc_lset : FnScope ["_law_own_here"] ["_law_own_here"] (defScope s_lset) := ⟨rfl, rfl, rfl, by decide +kernel, rfl, by decide +kernel, by decide +kernel⟩
abbrev sp_lset (K : PySem.W.Frag) (a : Adr) : Sp := spG (ι := Cfg) SetOk (fun c => [aDK (kasO K c.own (hD c) c.nth)]) fun c => rSt K a c
theorem ok_lset {f : Addr} {fd : FuncData} (F : Fun K "_law_setting" "_law_setting" s_lset f fd) (Gb : GFn P w K mg base 12 "_law_book" (sp_lk K a)) (G : GSt P w K mg base a) : FnOk P w K mg base CX0 13 f fd ["_law_own_here"] (sp_lset K a) := by
  refine fn_G F sc_lset (fun _ => rfl) fun cdv A outer s H E hr c hi => ?_
  have hu := hu_of hr
  obtain ⟨f2, fd2, F2, hm, mk, FD⟩ := G.ex
  obtain ⟨g, kb⟩ := kb_se FD
  refine as_retR (R := rSt K a c) (ar_makeK (As := [aBook a c.own, aI K c.nr, aI K c.nt, aI K c.ns]) (Bs := [aI K c.nth]) mk F2 hr hm kb
    (aa_cons (weakE (ar_call (R := rBk a c.own) Gb hr c hi (aa_cons (av 0) aa_nil) (fun _ _ _ _ e h => rBk_back e h)) fun σ H Q ⟨m, sl, q⟩ => ⟨m, sl, fun v H' ex r => q v H' ex (by obtain ⟨b, h1, _, h3⟩ := r; exact ⟨b, h1, h3⟩)⟩)
      (aa_cons (ae_ixT (d := .int (c.nr : Nat)) (ae_dkget hu (av 0) ae_str kas_hands) ae_int rfl) (aa_cons (ae_ixT (d := .int (c.nt : Nat)) (ae_dkget hu (av 0) ae_str kas_hands) ae_int rfl) (aa_cons (ae_ixT (d := .int (c.ns : Nat)) (ae_dkget hu (av 0) ae_str kas_hands) ae_int rfl) aa_nil))))
    (ak_cons (ae_dkget hu (av 0) ae_str kas_most) ak_nil)
    (fun H1 vs q dx m hvs h1 h2 h3 => ⟨⟨H1, q, dx, c⟩, ⟨h1, hi⟩, ⟨era_new h1 h2 h3, upd_same⟩, .cons rfl (hvs.mono (era_new h1 h2 h3)), fun v H' m' r => ⟨r.non_inv, m'.1, q, rfl, h1, m'.2⟩⟩)
    (fun _ _ _ _ e h => rSt_back e h)) (fun H0 v H1 m ex r => ⟨m.trans ex, rSt_back m r⟩)
end
end Ep
set_option maxHeartbeats 4000000
/-! plain: lists of numbers, moves -/
namespace Ep
open PySem PySem.Spec PyProof.Rows L2 Evl
def rngI (n : Nat) : List Int := (List.range n).map fun i : Nat => (i : Int)
theorem rngI_len (n : Nat) : (rngI n).length = n := by unfold rngI; rw [List.length_map, List.length_range]
theorem rngI_succ (n : Nat) : rngI (n + 1) = rngI n ++ [(n : Int)] := by unfold rngI; rw [List.range_succ, List.map_append]; rfl
theorem rngI_lt : ∀ n : Nat, (rngI n).Pairwise (· < ·)
  | 0 => .nil
  | n + 1 => by
    rw [rngI_succ, List.pairwise_append]
    refine ⟨rngI_lt n, List.pairwise_singleton _ _, fun a ha b hb => ?_⟩
    rw [List.mem_singleton] at hb
    subst hb
    unfold rngI at ha
    obtain ⟨i, hi, rfl⟩ := List.mem_map.mp ha
    have := List.mem_range.mp hi
    omega
theorem rngI_nd (n : Nat) : (rngI n).Nodup := (rngI_lt n).imp fun h => by omega
/-- the things that are out and not freed -/
theorem kept_eq {fr held : List Int} {n : Nat} (p : (fr ++ held).Perm (rngI n)) : srt held = (rngI n).filter fun x => !decide (x ∈ fr) := by
  have nd : (fr ++ held).Nodup := p.nodup_iff.mpr (rngI_nd n)
  rw [List.nodup_append] at nd
  have e1 : (fr ++ held).filter (fun x => !decide (x ∈ fr)) = held := by
    rw [List.filter_append]
    have a : fr.filter (fun x => !decide (x ∈ fr)) = [] := by
      rw [List.filter_eq_nil_iff]
      intro x hx
      simp [hx]
    have b : held.filter (fun x => !decide (x ∈ fr)) = held := by
      rw [List.filter_eq_self]
      intro x hx
      have : x ∉ fr := fun q => nd.2.2 x q x hx rfl
      simp [this]
    rw [a, b]
    rfl
  have q := p.filter (fun x => !decide (x ∈ fr))
  rw [e1] at q
  refine (srt_eq ?_ q.symm).symm
  exact ((rngI_lt n).imp fun h => by omega).filter _
/-- one row replaced -/
theorem flat_set {α : Type} {f : α → List Int} : ∀ {ts : List α} {k : Nat} {r : α}, ts[k]? = some r → ∃ rest, (ts.flatMap f).Perm (f r ++ rest) ∧ ∀ r', ((ts.set k r').flatMap f).Perm (f r' ++ rest)
  | [], k, r, h => by simp at h
  | t :: ts, 0, r, h => by
    simp at h
    subst h
    exact ⟨ts.flatMap f, by rw [List.flatMap_cons], fun r' => by rw [List.set_cons_zero, List.flatMap_cons]⟩
  | t :: ts, k + 1, r, h => by
    obtain ⟨rest, h1, h2⟩ := flat_set (f := f) (ts := ts) (k := k) (r := r) (by simpa using h)
    refine ⟨f t ++ rest, ?_, fun r' => ?_⟩
    · rw [List.flatMap_cons]
      refine (h1.append_left (f t)).trans ?_
      rw [← List.append_assoc, ← List.append_assoc]
      exact List.perm_append_comm.append_right rest
    · rw [List.set_cons_succ, List.flatMap_cons]
      refine ((h2 r').append_left (f t)).trans ?_
      rw [← List.append_assoc, ← List.append_assoc]
      exact List.perm_append_comm.append_right rest
theorem perm_set {α : Type} {f : α → List Int} {ts : List α} {k : Nat} {r r' : α} {fr fr' ex : List Int} (hk : ts[k]? = some r) (h : (fr' ++ f r').Perm (ex ++ (fr ++ f r))) : (fr' ++ (ts.set k r').flatMap f).Perm (ex ++ (fr ++ ts.flatMap f)) := by
  obtain ⟨rest, h1, h2⟩ := flat_set (f := f) hk
  refine ((h2 r').append_left fr').trans ?_
  rw [← List.append_assoc]
  refine (h.append_right rest).trans ?_
  rw [List.append_assoc, List.append_assoc]
  exact (h1.symm.append_left fr).append_left ex
/-- the moves of rows -/
theorem mem_mvs {α : Type} {kind : Str} {deeds : α → List Str} {m : Mv} : ∀ {rows : List α} {k0 : Nat}, m ∈ mvs kind deeds rows k0 → ∃ i r, rows[i]? = some r ∧ m.1 = kind ∧ m.2.1 = k0 + i ∧ m.2.2 ∈ deeds r
  | [], k0, h => by simp [mvs] at h
  | r :: rows, k0, h => by
    unfold mvs at h
    rcases List.mem_append.mp h with h | h
    · obtain ⟨d, hd, rfl⟩ := List.mem_map.mp h
      exact ⟨0, r, rfl, rfl, rfl, hd⟩
    · obtain ⟨i, r', h1, h2, h3, h4⟩ := mem_mvs h
      exact ⟨i + 1, r', by simpa using h1, h2, by omega, h4⟩
theorem mvs0 {α : Type} {kind : Str} {deeds : α → List Str} {m : Mv} {rows : List α} (h : m ∈ mvs kind deeds rows) : ∃ k d r, m = (kind, k, d) ∧ rows[k]? = some r ∧ d ∈ deeds r := by
  obtain ⟨i, r, h1, h2, h3, h4⟩ := mem_mvs h
  obtain ⟨a, b, d⟩ := m
  have e2 : a = kind := h2
  have e3 : b = i := by
    have q : b = 0 + i := h3
    omega
  exact ⟨i, d, r, by rw [e2, e3], h1, h4⟩
theorem len_mvs {α : Type} {kind : Str} {deeds : α → List Str} {b : Nat} : ∀ {rows : List α} {k0 : Nat}, (∀ r ∈ rows, (deeds r).length ≤ b) → (mvs kind deeds rows k0).length ≤ b * rows.length
  | [], k0, _ => by simp [mvs]
  | r :: rows, k0, h => by
    unfold mvs
    rw [List.length_append, List.length_map, List.length_cons, Nat.mul_succ]
    have h1 := h r (List.mem_cons_self ..)
    have h2 := len_mvs (kind := kind) (k0 := k0 + 1) (rows := rows) fun x hx => h x (List.mem_cons_of_mem _ hx)
    omega
theorem mvs_ne {α : Type} {kind : Str} {deeds : α → List Str} {r : α} {rows : List α} {k0 : Nat} (h : deeds r ≠ []) : mvs kind deeds (r :: rows) k0 ≠ [] := by
  unfold mvs
  intro q
  have := (List.append_eq_nil_iff.mp q).1
  exact h (by simpa using this)
theorem getElem_mem {α : Type} {l : List α} {k : Nat} {r : α} (h : l[k]? = some r) : r ∈ l := List.mem_of_getElem? h
theorem set_all {α : Type} {P : α → Prop} {l : List α} {k : Nat} {v : α} (h : ∀ r ∈ l, P r) (hv : P v) : ∀ r ∈ l.set k v, P r := fun r hr => by
  rcases List.mem_or_eq_of_mem_set hr with q | q
  · exact h r q
  · exact q ▸ hv
/-- settings of the law -/
structure Lim (c : Cfg) : Prop where
  ep : EpOk c.own
  ow : OkOwn c.own
  nr : 1 ≤ c.nr ∧ c.nr ≤ 2
  nt : 1 ≤ c.nt ∧ c.nt ≤ 2
  ns : c.ns ≤ 2
  nse : (∃ o, c.own = .E o) ∨ c.ns = 0
  nth : 1 ≤ c.nth ∧ c.nth ≤ 6
def five : List Str := ["see", "tell", "check", "mark", "free"]
def Grow (fr fr' : List Int) (m : Mv) : Prop := (∀ x ∈ fr, x ∈ fr') ∧ (fr.length = fr'.length ∨ (m.1 = "taker" ∧ m.2.2 ∈ five))
theorem Grow.same (fr : List Int) (m : Mv) : Grow fr fr m := ⟨fun _ h => h, .inl rfl⟩
end Ep
set_option maxHeartbeats 4000000
/-! plain: a step of epochs -/
namespace Ep
open PySem PySem.Spec PyProof.Rows L2 Evl
def inE (o : EOwn) (x : Option Int) : Prop := ∃ i : Int, x = some i ∧ 0 ≤ i ∧ i < o.epochs
structure ETok (o : EOwn) (r : ET) : Prop where
  md : r.md = "idle" ∨ r.md = "told" ∨ r.md ∈ tkKeys
  len : (r.bags.length : Int) = o.epochs
  out : r.md = "took" ↔ r.out ≠ none
  rd : r.md = "read" → inE o r.rd
  wd : (r.md = "wrote" ∨ r.md = "told" ∨ (r.md = "took" ∧ o.mark ≠ "fresh")) → inE o r.wd
structure EHok (n : Nat) (r : EH) : Prop where
  md : r.md = "idle" ∨ r.md ∈ stKeys
  look : r.md = "looking" → 0 ≤ r.at_ ∧ r.at_ < (n : Int) ∧ r.rd ≠ none
  pas : r.md = "passed" → r.rd ≠ none
def heldT (t : ET) : List Int := oL t.out ++ t.bags.flatten
structure EInv (o : EOwn) (c : Cfg) (s : ES) : Prop where
  ep : 0 ≤ s.ep ∧ s.ep < o.epochs
  nr : s.rs.length = c.nr
  nt : s.ts.length = c.nt
  ns : s.hs.length = c.ns
  rs : ∀ r ∈ s.rs, r.md = "out" ∨ r.md ∈ rdKeys
  ts : ∀ r ∈ s.ts, ETok o r
  hs : ∀ r ∈ s.hs, EHok (c.nr + c.nt + c.ns) r
  sp : 0 ≤ s.spot ∧ s.spot ≤ c.nth
  so : s.fr.Pairwise (· ≤ ·)
  pm : (s.fr ++ s.ts.flatMap heldT).Perm (rngI s.spot.toNat)
theorem flat_at {bags : List (List Int)} {i : Nat} {b : List Int} (h : bags[i]? = some b) : bags.flatten.Perm (b ++ (bags.take i ++ [[]] ++ bags.drop (i + 1)).flatten) := by
  have e : bags = bags.take i ++ b :: bags.drop (i + 1) := by
    have hl := (List.getElem?_eq_some_iff.mp h)
    obtain ⟨h1, h2⟩ := hl
    rw [← h2, ← List.drop_eq_getElem_cons h1, List.take_append_drop]
  conv => lhs; rw [e]
  simp only [List.flatten_append, List.flatten_cons, List.flatten_nil, List.append_nil, List.nil_append]
  rw [← List.append_assoc, ← List.append_assoc]
  exact List.perm_append_comm.append_right _
theorem eAt_ltL {o : EOwn} {ep : Int} (h : 0 < o.epochs) {bags : List (List Int)} (hl : (bags.length : Int) = o.epochs) : eAt o ep < bags.length := by
  have h1 := Int.emod_nonneg (ep - o.behind) (show o.epochs ≠ 0 by omega)
  have h2 := Int.emod_lt_of_pos (ep - o.behind) h
  unfold eAt
  omega
theorem cut_len {bags : List (List Int)} {i : Nat} (h : i < bags.length) (b : List Int) : (bags.take i ++ [b] ++ bags.drop (i + 1)).length = bags.length := by
  simp only [List.length_append, List.length_take, List.length_drop, List.length_cons, List.length_nil]
  omega
/-- what a look at the number does -/
theorem sees_ok {o : EOwn} {s : ES} {seen : Int} {bags : List (List Int)} (h : 0 < o.epochs) (hl : (bags.length : Int) = o.epochs) (hs : s.fr.Pairwise (· ≤ ·)) :
    ((eSees o s seen bags).2.2.length : Int) = o.epochs ∧ ((eSees o s seen bags).1 ++ (eSees o s seen bags).2.2.flatten).Perm (s.fr ++ bags.flatten) ∧ (eSees o s seen bags).1.Pairwise (· ≤ ·) ∧ ∀ x ∈ s.fr, x ∈ (eSees o s seen bags).1 := by
  unfold eSees
  by_cases e : seen = s.ep
  · rw [if_pos e]
    exact ⟨hl, .refl _, hs, fun _ h => h⟩
  · rw [if_neg e]
    have hlt := eAt_ltL (ep := s.ep) h hl
    have hb : bags[eAt o s.ep]? = some (bags[eAt o s.ep]) := List.getElem?_eq_getElem hlt
    refine ⟨by rw [cut_len hlt]; exact hl, ?_, srt_sorted _, fun x hx => ?_⟩
    · rw [hb]
      show (srt (s.fr ++ bags[eAt o s.ep]) ++ _).Perm _
      refine ((srt_perm _).append_right _).trans ?_
      rw [List.append_assoc]
      exact (flat_at hb).symm.append_left _
    · exact (srt_perm _).mem_iff.mpr (List.mem_append_left _ hx)
theorem put_ok {bags : List (List Int)} {i : Nat} {th : Int} (h : i < bags.length) : (ePut bags i th).length = bags.length ∧ (ePut bags i th).flatten.Perm (th :: bags.flatten) := by
  have hb : bags[i]? = some bags[i] := List.getElem?_eq_getElem h
  unfold ePut
  refine ⟨cut_len h _, ?_⟩
  have p1 := flat_at hb
  rw [hb]
  show (bags.take i ++ [srt (bags[i] ++ [th])] ++ bags.drop (i + 1)).flatten.Perm _
  simp only [List.flatten_append, List.flatten_cons, List.flatten_nil, List.append_nil, List.nil_append] at p1 ⊢
  have p2 : (srt (bags[i] ++ [th])).Perm (th :: bags[i]) := (srt_perm _).trans List.perm_append_comm
  refine ((p2.append_left _).append_right _).trans ?_
  refine (List.perm_middle.append_right _).trans ?_
  rw [List.cons_append]
  refine (List.Perm.cons th ?_)
  refine List.Perm.trans ?_ p1.symm
  rw [← List.append_assoc]
  exact List.perm_append_comm.append_right _
theorem few_held {o : EOwn} {c : Cfg} {s : ES} (i : EInv o c s) (hn : c.nth ≤ 6) : s.fr.length + (s.ts.flatMap heldT).length ≤ 6 := by
  have h1 := i.pm.length_eq
  rw [List.length_append, rngI_len] at h1
  have := i.sp
  omega
theorem len_heldT {ts : List ET} {t : ET} (hm : t ∈ ts) : t.bags.flatten.length ≤ (ts.flatMap heldT).length := by
  have := len_held (h := heldT) hm
  have e : (heldT t).length = (oL t.out).length + t.bags.flatten.length := by unfold heldT; rw [List.length_append]
  omega
theorem words_len {s : ES} : (eWords s).length = s.rs.length + s.ts.length + s.hs.length := by simp [eWords]; try omega
end Ep
set_option maxHeartbeats 4000000
/-! plain: the deeds of epochs -/
namespace Ep
open PySem PySem.Spec PyProof.Rows L2 Evl
theorem mem_takeIf {d : Str} {spot : Int} {n : Nat} (h : d ∈ takeIf spot n) : d = "take" ∧ spot < n := by
  unfold takeIf at h
  split at h
  · rename_i hl
    exact ⟨by simpa using h, hl⟩
  · simp at h
theorem deedsT_cases {o : EOwn} {nth : Nat} {spot : Int} {r : ET} {d : Str} (hm : r.md = "idle" ∨ r.md = "told" ∨ r.md ∈ tkKeys) (h : d ∈ eDeedsT o nth spot r) :
    (d = "see" ∧ r.md = "idle") ∨ (d = "tell" ∧ ((r.md = "idle" ∧ o.mark ≠ "fresh") ∨ r.md = "anew")) ∨ (d = "take" ∧ spot < nth ∧ ((r.md = "idle" ∧ o.mark = "fresh") ∨ r.md = "told")) ∨ (d = "leave" ∧ r.md = "told") ∨ (d = "write" ∧ r.md = "read") ∨ (d = "check" ∧ r.md = "wrote") ∨ (d = "mark" ∧ r.md = "took") := by
  unfold eDeedsT at h
  rcases hm with hm | hm | hm
  · rw [if_pos hm] at h
    rcases List.mem_append.mp h with h | h
    · split at h
      · rename_i hf
        obtain ⟨h1, h2⟩ := mem_takeIf h
        exact .inr (.inr (.inl ⟨h1, h2, .inl ⟨hm, hf⟩⟩))
      · rename_i hf
        exact .inr (.inl ⟨by simpa using h, .inl ⟨hm, hf⟩⟩)
    · exact .inl ⟨by simpa using h, hm⟩
  · rw [if_neg (by rw [hm]; decide), if_pos hm] at h
    rcases List.mem_append.mp h with h | h
    · obtain ⟨h1, h2⟩ := mem_takeIf h
      exact .inr (.inr (.inl ⟨h1, h2, .inr hm⟩))
    · exact .inr (.inr (.inr (.inl ⟨by simpa using h, hm⟩)))
  · simp only [tkKeys, List.mem_cons, List.not_mem_nil, or_false] at hm
    rcases hm with hm | hm | hm | hm
    · rw [hm] at h
      simp (decide := true) [tkTab] at h
      exact .inr (.inr (.inr (.inr (.inl ⟨h, hm⟩))))
    · rw [hm] at h
      simp (decide := true) [tkTab] at h
      exact .inr (.inr (.inr (.inr (.inr (.inl ⟨h, hm⟩)))))
    · rw [hm] at h
      simp (decide := true) [tkTab] at h
      exact .inr (.inl ⟨h, .inr hm⟩)
    · rw [hm] at h
      simp (decide := true) [tkTab] at h
      exact .inr (.inr (.inr (.inr (.inr (.inr ⟨h, hm⟩)))))
theorem deedsH_cases {o : EOwn} {r : EH} {d : Str} (hm : r.md = "idle" ∨ r.md ∈ stKeys) (h : d ∈ eDeedsH o r) :
    d = "tell" ∨ d = "write" ∨ d = "check" ∨ d = "begin" ∨ (d = "look" ∧ r.md = "looking") ∨ (d = "step" ∧ r.md = "passed") ∨ d = "leave" := by
  unfold eDeedsH at h
  rcases hm with hm | hm
  · rw [if_pos hm] at h
    split at h
    · exact .inl (by simpa using h)
    · exact .inr (.inr (.inr (.inl (by simpa using h))))
  · simp only [stKeys, List.mem_cons, List.not_mem_nil, or_false] at hm
    rcases hm with hm | hm | hm | hm | hm | hm | hm <;> (rw [hm] at h; simp (decide := true) [stTab] at h; subst h; simp (decide := true) [hm])
theorem deedsR_in {o : EOwn} {r : ER} {d : Str} (h : d ∈ eDeedsR o r) : d ∈ (["tell", "get", "write", "check", "use", "end"] : List Str) := by
  unfold eDeedsR at h
  split at h
  · split at h <;> (simp at h; subst h; decide)
  · unfold rdTab at h
    repeat' split at h
    all_goals first
      | (simp at h; subst h; decide)
      | (simp at h; rcases h with h | h <;> (subst h; decide))
/-! what a taker's deeds do -/
section
variable {o : EOwn} {s : ES} {k : Nat} {r : ET}
theorem tk_see : eTaker o s k "see" r = { s with fr := (eSees o s r.seen r.bags).1, ts := s.ts.set k ⟨r.md, r.rd, r.wd, r.out, (eSees o s r.seen r.bags).2.1, (eSees o s r.seen r.bags).2.2⟩ } := by simp (decide := true) [eTaker, eSeen]
theorem tk_tell : eTaker o s k "tell" r = { s with fr := (eSees o s r.seen r.bags).1, ts := s.ts.set k ⟨"read", some s.ep, r.wd, r.out, (eSees o s r.seen r.bags).2.1, (eSees o s r.seen r.bags).2.2⟩ } := by simp (decide := true) [eTaker, eSeen]
theorem tk_check : eTaker o s k "check" r = { s with fr := (eSees o s r.seen r.bags).1, ts := s.ts.set k ⟨if eqD (.int s.ep) (oI r.wd) then "told" else "anew", r.rd, r.wd, r.out, (eSees o s r.seen r.bags).2.1, (eSees o s r.seen r.bags).2.2⟩ } := by simp (decide := true) [eTaker, eSeen]
theorem tk_write : eTaker o s k "write" r = { s with ts := s.ts.set k ⟨if o.check then "wrote" else "told", none, r.rd, r.out, r.seen, r.bags⟩ } := by simp (decide := true) [eTaker, eSeen]
theorem tk_take : eTaker o s k "take" r = { s with spot := s.spot + 1, ts := s.ts.set k ⟨"took", r.rd, r.wd, some s.spot, r.seen, r.bags⟩ } := by simp (decide := true) [eTaker, eSeen]
theorem tk_leave : eTaker o s k "leave" r = { s with ts := s.ts.set k ⟨"idle", r.rd, none, r.out, r.seen, r.bags⟩ } := by simp (decide := true) [eTaker, eSeen]
theorem tk_markF (h : o.mark = "fresh") : eTaker o s k "mark" r = { s with fr := (eSees o s r.seen r.bags).1, ts := s.ts.set k ⟨"idle", r.rd, none, none, (eSees o s r.seen r.bags).2.1, ePut (eSees o s r.seen r.bags).2.2 s.ep.toNat (r.out.getD 0)⟩ } := by simp (decide := true) [eTaker, eSeen, h]
theorem tk_markO (h : o.mark ≠ "fresh") : eTaker o s k "mark" r = { s with ts := s.ts.set k ⟨"idle", r.rd, none, none, r.seen, ePut r.bags (r.wd.getD 0).toNat (r.out.getD 0)⟩ } := by simp (decide := true) [eTaker, eSeen, h]
end
end Ep
set_option maxHeartbeats 4000000
/-! plain: a taker of epochs keeps what it keeps -/
namespace Ep
open PySem PySem.Spec PyProof.Rows L2 Evl
theorem perm_mid {a b c d x : List Int} (h : (a ++ b).Perm (c ++ d)) : (a ++ (x ++ b)).Perm (c ++ (x ++ d)) := by
  rw [← List.append_assoc, ← List.append_assoc]
  refine (List.perm_append_comm.append_right b).trans ?_
  refine List.Perm.trans ?_ (List.perm_append_comm.append_right d)
  rw [List.append_assoc, List.append_assoc]
  exact h.append_left x
section
variable {o : EOwn} {c : Cfg} {s : ES} {k : Nat} {r : ET}
theorem mk_tk (i : EInv o c s) (hk : s.ts[k]? = some r) {fr' ex : List Int} {sp' : Int} {r' : ET} (h1 : ETok o r') (h2 : fr'.Pairwise (· ≤ ·)) (h3 : 0 ≤ sp' ∧ sp' ≤ c.nth) (h4 : (fr' ++ heldT r').Perm (ex ++ (s.fr ++ heldT r))) (h5 : (ex ++ rngI s.spot.toNat).Perm (rngI sp'.toNat)) :
    EInv o c { s with spot := sp', fr := fr', ts := s.ts.set k r' } where
  ep := i.ep
  nr := i.nr
  nt := by show (s.ts.set k r').length = _; rw [List.length_set]; exact i.nt
  ns := i.ns
  rs := i.rs
  ts := set_all i.ts h1
  hs := i.hs
  sp := h3
  so := h2
  pm := (perm_set (f := heldT) hk h4).trans ((i.pm.append_left ex).trans h5)
theorem mk_tk0 (i : EInv o c s) (hk : s.ts[k]? = some r) {fr' : List Int} {r' : ET} (h1 : ETok o r') (h2 : fr'.Pairwise (· ≤ ·)) (h4 : (fr' ++ heldT r').Perm (s.fr ++ heldT r)) :
    EInv o c { s with fr := fr', ts := s.ts.set k r' } := mk_tk (ex := []) (sp' := s.spot) i hk h1 h2 i.sp h4 (.refl _)
theorem etk {md : Str} {rd wd out : Option Int} {seen : Int} {bags : List (List Int)} (h1 : md = "idle" ∨ md = "told" ∨ md ∈ tkKeys) (h2 : (bags.length : Int) = o.epochs) (h3 : md = "took" ↔ out ≠ none) (h4 : md = "read" → inE o rd) (h5 : (md = "wrote" ∨ md = "told" ∨ (md = "took" ∧ o.mark ≠ "fresh")) → inE o wd) : ETok o ⟨md, rd, wd, out, seen, bags⟩ := ⟨h1, h2, h3, h4, h5⟩
theorem n_ir : ¬ ("idle" : Str) = "read" := by decide
theorem n_tr : ¬ ("took" : Str) = "read" := by decide
theorem n_tw : ¬ ("took" : Str) = "wrote" := by decide
theorem n_tt : ¬ ("took" : Str) = "told" := by decide
theorem f_see : ("see" : Str) ∈ five := by decide
theorem f_tell : ("tell" : Str) ∈ five := by decide
theorem f_check : ("check" : Str) ∈ five := by decide
theorem f_mark : ("mark" : Str) ∈ five := by decide
theorem f_free : ("free" : Str) ∈ five := by decide
theorem ne_md {x : Str} (h : r.md = x) {y : Str} (n : x ≠ y) : r.md ≠ y := fun q => n (h.symm.trans q)
theorem out_none (t : ETok o r) {x : Str} (h : r.md = x) (n : x ≠ ("took" : Str)) : r.out = none := by
  cases e : r.out with
  | none => rfl
  | some y => exact absurd (t.out.mpr (by rw [e]; simp)) (ne_md h n)
theorem taker_ok (i : EInv o c s) (he : 2 ≤ o.epochs ∧ o.epochs ≤ 6) (hk : s.ts[k]? = some r) {d : Str} (hd : d ∈ eDeedsT o c.nth s.spot r) : EInv o c (eTaker o s k d r) ∧ Grow s.fr (eTaker o s k d r).fr ("taker", k, d) := by
  have t := i.ts r (getElem_mem hk)
  have h0 : 0 < o.epochs := by omega
  obtain ⟨q1, q2, q3, q4⟩ := sees_ok (s := s) (seen := r.seen) h0 t.len i.so
  have iep : inE o (some s.ep) := ⟨s.ep, rfl, i.ep⟩
  have pmid : ((eSees o s r.seen r.bags).1 ++ (oL r.out ++ (eSees o s r.seen r.bags).2.2.flatten)).Perm (s.fr ++ heldT r) := perm_mid q2
  rcases deedsT_cases t.md hd with ⟨rfl, hm⟩ | ⟨rfl, hm⟩ | ⟨rfl, hsp, hm⟩ | ⟨rfl, hm⟩ | ⟨rfl, hm⟩ | ⟨rfl, hm⟩ | ⟨rfl, hm⟩
  · rw [tk_see]
    exact ⟨mk_tk0 i hk (etk t.md q1 t.out t.rd t.wd) q3 pmid, q4, .inr ⟨rfl, f_see⟩⟩
  · rw [tk_tell]
    have on : r.out = none := by
      rcases hm with ⟨hm, _⟩ | hm
      · exact out_none t hm (by decide)
      · exact out_none t hm (by decide)
    refine ⟨mk_tk0 i hk (etk (.inr (.inr (by decide))) q1 ?_ (fun _ => iep) (fun h => ?_)) q3 pmid, q4, .inr ⟨rfl, f_tell⟩⟩
    · simp (decide := true) [on]
    · simp (decide := true) at h
  · rw [tk_take]
    have on : r.out = none := by
      rcases hm with ⟨hm, _⟩ | hm
      · exact out_none t hm (by decide)
      · exact out_none t hm (by decide)
    refine ⟨mk_tk (ex := [s.spot]) i hk (etk (.inr (.inr (by decide))) t.len ?_ (fun h => ?_) (fun h => ?_)) i.so ?_ ?_ ?_, .same _ _⟩
    · simp
    · exact absurd h n_tr
    · rcases h with h | h | h
      · exact absurd h n_tw
      · exact absurd h n_tt
      · rcases hm with ⟨_, hf⟩ | hm
        · exact absurd hf h.2
        · exact t.wd (.inr (.inl hm))
    · have := i.sp
      omega
    · show (s.fr ++ ([s.spot] ++ r.bags.flatten)).Perm ([s.spot] ++ (s.fr ++ (oL r.out ++ r.bags.flatten)))
      rw [on]
      show (s.fr ++ (s.spot :: r.bags.flatten)).Perm (s.spot :: (s.fr ++ r.bags.flatten))
      exact List.perm_middle
    · have h1 := i.sp
      have e : (s.spot + 1).toNat = s.spot.toNat + 1 := by omega
      have e2 : ((s.spot.toNat : Nat) : Int) = s.spot := by omega
      rw [e, rngI_succ, e2]
      exact List.perm_append_comm
  · rw [tk_leave]
    have on : r.out = none := out_none t hm (by decide)
    refine ⟨mk_tk0 i hk (etk (.inl rfl) t.len ?_ (fun h => ?_) (fun h => ?_)) i.so (.refl _), .same _ _⟩
    · simp (decide := true) [on]
    · exact absurd h n_ir
    · simp (decide := true) at h
  · rw [tk_write]
    have on : r.out = none := out_none t hm (by decide)
    refine ⟨mk_tk0 i hk (etk ?_ t.len ?_ (fun h => ?_) (fun h => t.rd hm)) i.so (.refl _), .same _ _⟩
    · split <;> decide
    · show (if o.check = true then ("wrote" : Str) else "told") = "took" ↔ _
      rw [on]
      split <;> simp (decide := true)
    · have h : (if o.check = true then ("wrote" : Str) else "told") = "read" := h
      split at h <;> exact absurd h (by decide)
  · rw [tk_check]
    have on : r.out = none := out_none t hm (by decide)
    refine ⟨mk_tk0 i hk (etk ?_ q1 ?_ (fun h => ?_) (fun h => t.wd (.inl hm))) q3 pmid, q4, .inr ⟨rfl, f_check⟩⟩
    · split <;> decide
    · show (if eqD (.int s.ep) (oI r.wd) = true then ("told" : Str) else "anew") = "took" ↔ _
      rw [on]
      split <;> simp (decide := true)
    · have h : (if eqD (.int s.ep) (oI r.wd) = true then ("told" : Str) else "anew") = "read" := h
      split at h <;> exact absurd h (by decide)
  · have ho : r.out ≠ none := t.out.mp hm
    obtain ⟨th, ho⟩ : ∃ th, r.out = some th := by
      cases e : r.out with
      | none => exact absurd e ho
      | some x => exact ⟨x, rfl⟩
    by_cases hf : o.mark = "fresh"
    · rw [tk_markF hf]
      have hlt : s.ep.toNat < (eSees o s r.seen r.bags).2.2.length := by
        have := i.ep
        omega
      obtain ⟨p1, p2⟩ := put_ok (th := r.out.getD 0) hlt
      refine ⟨mk_tk0 i hk (etk (.inl rfl) (by rw [p1]; exact q1) ?_ (fun h => absurd h n_ir) (fun h => by simp (decide := true) at h)) q3 ?_, q4, .inr ⟨rfl, f_mark⟩⟩
      · simp (decide := true)
      · show ((eSees o s r.seen r.bags).1 ++ (oL none ++ (ePut (eSees o s r.seen r.bags).2.2 s.ep.toNat (r.out.getD 0)).flatten)).Perm _
        refine List.Perm.trans (p2.append_left _) ?_
        rw [ho] at pmid ⊢
        exact pmid
    · rw [tk_markO hf]
      obtain ⟨x, hx, hx0, hx1⟩ := t.wd (.inr (.inr ⟨hm, hf⟩))
      have hlt : (r.wd.getD 0).toNat < r.bags.length := by
        have := t.len
        rw [hx]
        show x.toNat < _
        omega
      obtain ⟨p1, p2⟩ := put_ok (th := r.out.getD 0) hlt
      refine ⟨mk_tk0 i hk (etk (.inl rfl) (by rw [p1]; exact t.len) ?_ (fun h => absurd h n_ir) (fun h => by simp (decide := true) at h)) i.so ?_, .same _ _⟩
      · simp (decide := true)
      · show (s.fr ++ (oL none ++ (ePut r.bags (r.wd.getD 0).toNat (r.out.getD 0)).flatten)).Perm (s.fr ++ (oL r.out ++ r.bags.flatten))
        refine List.Perm.trans (p2.append_left _) ?_
        rw [ho]
        exact .refl _
end
end Ep
set_option maxHeartbeats 4000000
/-! plain: a step of epochs -/
namespace Ep
open PySem PySem.Spec PyProof.Rows L2 Evl
section
variable {o : EOwn} {c : Cfg} {s : ES} {k : Nat}
theorem rdk (h : ∀ r ∈ s.rs, r.md = "out" ∨ r.md ∈ rdKeys) {md : Str} {a b d : Option Int} (hm : md = "out" ∨ md ∈ rdKeys) : ∀ r ∈ s.rs.set k ⟨md, a, b, d⟩, r.md = "out" ∨ r.md ∈ rdKeys := set_all (P := fun r : ER => r.md = "out" ∨ r.md ∈ rdKeys) h hm
theorem mk_rd (i : EInv o c s) {md : Str} {a b d : Option Int} (hm : md = "out" ∨ md ∈ rdKeys) : EInv o c { s with rs := s.rs.set k ⟨md, a, b, d⟩ } :=
  { i with nr := by show (s.rs.set k _).length = _; rw [List.length_set]; exact i.nr, rs := rdk i.rs hm }
theorem reader_ok (i : EInv o c s) {r : ER} {d : Str} : (eReader o s k d r).2 = none → EInv o c (eReader o s k d r).1 := by
  unfold eReader
  dsimp only
  split
  · exact fun _ => mk_rd i (.inr (by decide))
  · split
    · refine fun _ => mk_rd i ?_
      split
      · exact .inr (by decide)
      · split <;> decide
    · split
      · refine fun _ => mk_rd i ?_
        split
        · split <;> decide
        · decide
      · split
        · refine fun _ => mk_rd i ?_
          split <;> decide
        · split
          · exact fun _ => mk_rd i (.inl rfl)
          · split
            · exact fun h => by cases h
            · exact fun _ => i
theorem reader_fr {r : ER} {d : Str} : (eReader o s k d r).1.fr = s.fr := by
  unfold eReader
  dsimp only
  repeat' split
  all_goals rfl
theorem mk_st (i : EInv o c s) {r : EH} {e : Int} (he : 0 ≤ e ∧ e < o.epochs) (hr : EHok (c.nr + c.nt + c.ns) r) : EInv o c { s with ep := e, hs := s.hs.set k r } :=
  { i with ep := he, ns := by show (s.hs.set k _).length = _; rw [List.length_set]; exact i.ns, hs := set_all i.hs hr }
theorem ehk {n : Nat} {md : Str} {rd wd : Option Int} {at_ : Int} (h1 : md = "idle" ∨ md ∈ stKeys) (h2 : ¬ md = "looking") (h3 : ¬ md = "passed") : EHok n ⟨md, rd, wd, at_⟩ := ⟨h1, fun h => absurd h h2, fun h => absurd h h3⟩
theorem steps_rng (h : 0 < o.epochs) {ep rd : Int} (he : 0 ≤ ep ∧ ep < o.epochs) : 0 ≤ eSteps o ep rd ∧ eSteps o ep rd < o.epochs := by
  have a : ∀ x : Int, 0 ≤ x % o.epochs ∧ x % o.epochs < o.epochs := fun x => ⟨Int.emod_nonneg _ (by omega), Int.emod_lt_of_pos _ h⟩
  unfold eSteps
  split
  · exact a _
  · split
    · exact a _
    · exact he
theorem looks_ok (i : EInv o c s) {r : EH} (h : EHok (c.nr + c.nt + c.ns) r) (hm : r.md = "looking") : EHok (c.nr + c.nt + c.ns) (eLooks o s r) := by
  have hl : (eWords s).length = c.nr + c.nt + c.ns := by rw [words_len, i.nr, i.nt, i.ns]
  obtain ⟨h1, h2, h3⟩ := h.look hm
  unfold eLooks
  split
  · split <;> exact ehk (by decide) (by decide) (by decide)
  · split
    · exact ⟨.inr (by show ("passed" : Str) ∈ stKeys; decide), fun q => absurd (show ("passed" : Str) = "looking" from q) (by decide), fun _ => h3⟩
    · rename_i q
      rw [hl] at q
      exact ⟨.inr (by show ("looking" : Str) ∈ stKeys; decide), fun _ => ⟨by show 0 ≤ r.at_ + 1; omega, by show r.at_ + 1 < _; omega, h3⟩, fun q => absurd (show ("looking" : Str) = "passed" from q) (by decide)⟩
theorem stepper_ok (i : EInv o c s) (he : 0 < o.epochs) (hn : 1 ≤ c.nr) {r : EH} (hk : s.hs[k]? = some r) {d : Str} (hd : d ∈ eDeedsH o r) : EInv o c (eStepper o s k d r) := by
  have t := i.hs r (getElem_mem hk)
  rcases deedsH_cases t.md hd with rfl | rfl | rfl | rfl | ⟨rfl, hm⟩ | ⟨rfl, hm⟩ | rfl
  · have e : eStepper o s k "tell" r = { s with hs := s.hs.set k ⟨"read", some s.ep, r.wd, 0⟩ } := by simp (decide := true) [eStepper]
    rw [e]
    exact mk_st i i.ep (ehk (by decide) (by decide) (by decide))
  · have e : eStepper o s k "write" r = { s with hs := s.hs.set k ⟨if o.check then "wrote" else "ready", none, r.rd, 0⟩ } := by simp (decide := true) [eStepper]
    rw [e]
    refine mk_st i i.ep ?_
    split <;> exact ehk (by decide) (by decide) (by decide)
  · have e : eStepper o s k "check" r = { s with hs := s.hs.set k ⟨if eqD (.int s.ep) (oI r.wd) then "ready" else "anew", none, r.wd, 0⟩ } := by simp (decide := true) [eStepper]
    rw [e]
    refine mk_st i i.ep ?_
    split <;> exact ehk (by decide) (by decide) (by decide)
  · have e : eStepper o s k "begin" r = { s with hs := s.hs.set k ⟨"looking", some s.ep, r.wd, 0⟩ } := by simp (decide := true) [eStepper]
    rw [e]
    exact mk_st i i.ep ⟨.inr (by show ("looking" : Str) ∈ stKeys; decide), fun _ => ⟨Int.le_refl 0, by show (0 : Int) < _; omega, by show some s.ep ≠ none; simp⟩, fun q => absurd (show ("looking" : Str) = "passed" from q) (by decide)⟩
  · have e : eStepper o s k "look" r = { s with hs := s.hs.set k (eLooks o s r) } := by simp (decide := true) [eStepper]
    rw [e]
    exact mk_st i i.ep (looks_ok i t hm)
  · have e : eStepper o s k "step" r = { s with ep := eSteps o s.ep (r.rd.getD 0), hs := s.hs.set k ⟨if o.told then "done" else "idle", none, r.wd, 0⟩ } := by simp (decide := true) [eStepper]
    rw [e]
    refine mk_st i (steps_rng he i.ep) ?_
    split <;> exact ehk (by decide) (by decide) (by decide)
  · have e : eStepper o s k "leave" r = { s with hs := s.hs.set k ⟨"idle", none, none, 0⟩ } := by simp (decide := true) [eStepper]
    rw [e]
    exact mk_st i i.ep (ehk (by decide) (by decide) (by decide))
theorem stepper_fr {r : EH} {d : Str} : (eStepper o s k d r).fr = s.fr := by
  unfold eStepper
  repeat' split
  all_goals rfl
theorem tkok (i : EInv o c s) (he : 2 ≤ o.epochs ∧ o.epochs ≤ 6) (hn : c.nth ≤ 6) {r : ET} (hk : s.ts[k]? = some r) {d : Str} (hd : d ∈ eDeedsT o c.nth s.spot r) : TkOk o s d r := by
  have t := i.ts r (getElem_mem hk)
  have f1 := few_held i hn
  have f2 := len_heldT (getElem_mem hk)
  have key : d = "mark" → r.md = "took" := by
    intro e
    rcases deedsT_cases t.md hd with ⟨q, hm⟩ | ⟨q, hm⟩ | ⟨q, hsp, hm⟩ | ⟨q, hm⟩ | ⟨q, hm⟩ | ⟨q, hm⟩ | ⟨q, hm⟩
    all_goals first
      | exact hm
      | (rw [e] at q; exact absurd q (by decide))
  exact ⟨by omega, t.len, by have := t.len; omega, by omega, fun e => t.out.mp (key e), i.ep, fun e hf => t.wd (.inr (.inr ⟨key e, hf⟩))⟩
theorem stok (i : EInv o c s) (he : 2 ≤ o.epochs) (hc : c.nr ≤ 2 ∧ c.nt ≤ 2 ∧ c.ns ≤ 2) {r : EH} (hk : s.hs[k]? = some r) {d : Str} (hd : d ∈ eDeedsH o r) : StOk o s d r := by
  have t := i.hs r (getElem_mem hk)
  have hl : (eWords s).length = c.nr + c.nt + c.ns := by rw [words_len, i.nr, i.nt, i.ns]
  have k1 : d = "look" → r.md = "looking" := by
    intro e
    rcases deedsH_cases t.md hd with q | q | q | q | ⟨q, hm⟩ | ⟨q, hm⟩ | q
    all_goals first
      | exact hm
      | (rw [e] at q; exact absurd q (by decide))
  have k2 : d = "step" → r.md = "passed" := by
    intro e
    rcases deedsH_cases t.md hd with q | q | q | q | ⟨q, hm⟩ | ⟨q, hm⟩ | q
    all_goals first
      | exact hm
      | (rw [e] at q; exact absurd q (by decide))
  exact ⟨by omega, by rw [i.nr, i.nt, i.ns]; omega, fun e => by rw [hl]; exact t.look (k1 e), fun e => t.pas (k2 e)⟩
end
theorem n_rt : ¬ ("taker" : Str) = "reader" := by decide
theorem n_sr : ¬ ("stepper" : Str) = "reader" := by decide
theorem n_st : ¬ ("stepper" : Str) = "taker" := by decide
theorem eMoves_cases {o : EOwn} {nth : Nat} {s : ES} {m : Mv} (h : m ∈ eMoves o nth s) :
    (∃ (k : Nat) (d : Str) (r : ER), m = (("reader" : Str), k, d) ∧ s.rs[k]? = some r ∧ d ∈ eDeedsR o r) ∨ (∃ (k : Nat) (d : Str) (r : ET), m = (("taker" : Str), k, d) ∧ s.ts[k]? = some r ∧ d ∈ eDeedsT o nth s.spot r) ∨ ∃ (k : Nat) (d : Str) (r : EH), m = (("stepper" : Str), k, d) ∧ s.hs[k]? = some r ∧ d ∈ eDeedsH o r := by
  unfold eMoves at h
  rcases List.mem_append.mp h with h | h
  · rcases List.mem_append.mp h with h | h
    · exact .inl (mvs0 h)
    · exact .inr (.inl (mvs0 h))
  · exact .inr (.inr (mvs0 h))
theorem eStep_ok {o : EOwn} {c : Cfg} {s : ES} {m : Mv} (i : EInv o c s) (he : 2 ≤ o.epochs ∧ o.epochs ≤ 6) (hc : (1 ≤ c.nr ∧ c.nr ≤ 2) ∧ c.nt ≤ 2 ∧ c.ns ≤ 2 ∧ c.nth ≤ 6) (hm : m ∈ eMoves o c.nth s) :
    EDoOk o s m ∧ ((eDo o s m).2 = none → EInv o c (eDo o s m).1 ∧ Grow s.fr (eDo o s m).1.fr m) := by
  rcases eMoves_cases hm with ⟨k, d, r, rfl, hk, hd⟩ | ⟨k, d, r, rfl, hk, hd⟩ | ⟨k, d, r, rfl, hk, hd⟩
  · refine ⟨⟨fun _ => ⟨r, hk⟩, fun h => absurd h.symm n_rt, fun h => absurd rfl h⟩, ?_⟩
    have e : eDo o s ("reader", k, d) = eReader o s k d r := by unfold eDo; rw [if_pos rfl]; show (match s.rs[k]? with | some r => _ | none => _) = _; rw [hk]
    rw [e]
    exact fun h => ⟨reader_ok i h, by rw [reader_fr]; exact .same _ _⟩
  · refine ⟨⟨fun h => absurd h n_rt, fun _ => ⟨r, hk, tkok i he hc.2.2.2 hk hd⟩, fun _ h => absurd rfl h⟩, ?_⟩
    have e : eDo o s ("taker", k, d) = (eTaker o s k d r, none) := by unfold eDo; rw [if_neg n_rt, if_pos rfl]; show (match s.ts[k]? with | some r => _ | none => _) = _; rw [hk]
    rw [e]
    exact fun _ => taker_ok i he hk hd
  · refine ⟨⟨fun h => absurd h n_sr, fun h => absurd h n_st, fun _ _ => ⟨r, hk, stok i he.1 ⟨hc.1.2, hc.2.1, hc.2.2.1⟩ hk hd⟩⟩, ?_⟩
    have e : eDo o s ("stepper", k, d) = (eStepper o s k d r, none) := by unfold eDo; rw [if_neg n_sr, if_neg n_st]; show (match s.hs[k]? with | some r => _ | none => _) = _; rw [hk]
    rw [e]
    exact fun _ => ⟨stepper_ok i (by omega) hc.1.1 hk hd, by show Grow s.fr (eStepper o s k d r).fr _; rw [stepper_fr]; exact .same _ _⟩
end Ep
set_option maxHeartbeats 4000000
/-! plain: a step of looks -/
namespace Ep
open PySem PySem.Spec PyProof.Rows L2 Evl
def lW (o : LOwn) (c : Cfg) : Nat := if o.chain = "none" then c.nr else 2 * c.nr
structure LTi (n : Nat) (r : LT) : Prop where
  few : r.found.length ≤ n
  look : r.md = "looking" → 0 ≤ r.at_ ∧ r.at_ < (n : Int) ∧ (r.found.length : Int) ≤ r.at_
structure LInv (o : LOwn) (c : Cfg) (s : LS) : Prop where
  nr : s.rs.length = c.nr
  nt : s.ts.length = c.nt
  rs : ∀ r ∈ s.rs, r.md = "out" ∨ r.a ≠ none
  ts : ∀ r ∈ s.ts, LTi (lW o c) r
  sp : 0 ≤ s.spot ∧ s.spot ≤ c.nth
  so : s.fr.Pairwise (· ≤ ·)
  pm : (s.fr ++ s.ts.flatMap LT.bag).Perm (rngI s.spot.toNat)
theorem two_len {α β : Type} (f g : α → β) (l : List α) : (l.flatMap fun r => [f r, g r]).length = 2 * l.length := by
  induction l with
  | nil => rfl
  | cons x l ih =>
    rw [List.flatMap_cons, List.length_append, ih]
    simp only [List.length_cons, List.length_nil]
    omega
section
variable {o : LOwn} {c : Cfg} {s : LS} {k : Nat}
theorem lw_len (h : s.rs.length = c.nr) : (lWords o s).length = lW o c := by
  unfold lWords lW
  split
  · rw [List.length_map, h]
  · rw [two_len, h]
theorem lk_len (w : Option Int) (f : List Int) : (lFound w f).length ≤ f.length + 1 := by
  unfold lFound
  split
  · omega
  · split
    · omega
    · rw [srt_len, List.length_append]
      exact Nat.le_refl _
theorem l_deedsT {nth : Nat} {spot : Int} {r : LT} {d : Str} (h : d ∈ lDeedsT o nth spot r) : (d = "look" ∧ r.md = "looking") ∨ (d = "take" ∧ spot < nth) ∨ d = "round" ∨ d = "free" := by
  unfold lDeedsT at h
  split at h
  · rename_i hm
    exact .inl ⟨by simpa using h, hm⟩
  · split at h
    · split at h
      · exact .inr (.inr (.inr (by simpa using h)))
      · rcases List.mem_append.mp h with h | h
        · exact .inr (.inl (mem_takeIf h))
        · split at h
          · exact .inr (.inr (.inl (by simpa using h)))
          · simp at h
    · split at h
      · exact .inr (.inr (.inl (by simpa using h)))
      · split at h
        · exact .inr (.inr (.inr (by simpa using h)))
        · rcases List.mem_append.mp h with h | h
          · exact .inr (.inl (mem_takeIf h))
          · split at h
            · exact .inr (.inr (.inr (by simpa using h)))
            · simp at h
theorem l_out {r : LR} {d : Str} (h : d ∈ lDeedsR o r) (hm : r.md = "out") : d = "get" ∨ d = "clear" := by
  unfold lDeedsR at h
  rw [if_pos hm] at h
  split at h
  · exact .inl (by simpa using h)
  · simpa using h
theorem l_next {r : LR} (h : ("next" : Str) ∈ lDeedsR o r) : r.md ≠ "out" := fun hm => by
  rcases l_out h hm with q | q
  · exact absurd q (by decide)
  · exact absurd q (by decide)
theorem mk_lr (i : LInv o c s) {r : LR} (hm : r.md = "out" ∨ r.a ≠ none) : LInv o c { s with rs := s.rs.set k r } :=
  { i with nr := by show (s.rs.set k _).length = _; rw [List.length_set]; exact i.nr, rs := set_all (P := fun r : LR => r.md = "out" ∨ r.a ≠ none) i.rs hm }
theorem l_reader (i : LInv o c s) {r : LR} (hk : s.rs[k]? = some r) {d : Str} (hd : d ∈ lDeedsR o r) : (lReader o s k d r).2 = none → LInv o c (lReader o s k d r).1 := by
  have hr := i.rs r (getElem_mem hk)
  have key : ∀ {x : Str}, d = x → x ≠ "get" → x ≠ "clear" → r.a ≠ none := fun {x} e n1 n2 => by
    rcases hr with hm | hm
    · rcases l_out hd hm with q | q
      · exact absurd (e.symm.trans q) n1
      · exact absurd (e.symm.trans q) n2
    · exact hm
  unfold lReader
  split
  · exact fun _ => mk_lr i (.inr (by show some s.spot ≠ none; simp))
  · split
    · rename_i h
      exact fun _ => mk_lr i (.inr (key h.1 (by decide) (by decide)))
    · split
      · rename_i h
        exact fun _ => mk_lr i (.inr (key h (by decide) (by decide)))
      · split
        · rename_i h
          refine fun _ => mk_lr i ?_
          split
          · exact .inr (key h.1 (by decide) (by decide))
          · exact .inl rfl
        · split
          · rename_i h
            refine fun _ => mk_lr i ?_
            split <;> exact .inr (key h (by decide) (by decide))
          · split
            · rename_i h
              exact fun _ => mk_lr i (.inr (key h (by decide) (by decide)))
            · split
              · exact fun _ => mk_lr i (.inl rfl)
              · split
                · split
                  · exact fun h => by cases h
                  · exact fun _ => i
                · split
                  · exact fun h => by cases h
                  · exact fun _ => i
theorem l_reader_fr {r : LR} {d : Str} : (lReader o s k d r).1.fr = s.fr := by
  unfold lReader
  repeat' split
  all_goals rfl
theorem mk_lt (i : LInv o c s) {r : LT} (hk : s.ts[k]? = some r) {fr' ex : List Int} {sp' : Int} {r' : LT} (h1 : LTi (lW o c) r') (h2 : fr'.Pairwise (· ≤ ·)) (h3 : 0 ≤ sp' ∧ sp' ≤ c.nth) (h4 : (fr' ++ r'.bag).Perm (ex ++ (s.fr ++ r.bag))) (h5 : (ex ++ rngI s.spot.toNat).Perm (rngI sp'.toNat)) :
    LInv o c { s with spot := sp', fr := fr', ts := s.ts.set k r' } where
  nr := i.nr
  nt := by show (s.ts.set k r').length = _; rw [List.length_set]; exact i.nt
  rs := i.rs
  ts := set_all i.ts h1
  sp := h3
  so := h2
  pm := (perm_set (f := LT.bag) hk h4).trans ((i.pm.append_left ex).trans h5)
theorem mk_lt0 (i : LInv o c s) {r : LT} (hk : s.ts[k]? = some r) {r' : LT} (h1 : LTi (lW o c) r') (h4 : r'.bag = r.bag) :
    LInv o c { s with ts := s.ts.set k r' } := mk_lt (ex := []) (sp' := s.spot) i hk h1 i.so i.sp (by rw [h4]; exact .refl _) (.refl _)
theorem filter_split (p : Int → Bool) : ∀ l : List Int, ((l.filter fun x => !p x) ++ l.filter p).Perm l
  | [] => .refl _
  | x :: l => by
    cases h : p x with
    | true =>
      rw [List.filter_cons_of_neg (by simp [h]), List.filter_cons_of_pos h]
      exact List.perm_middle.trans ((filter_split p l).cons x)
    | false =>
      rw [List.filter_cons_of_pos (by simp [h]), List.filter_cons_of_neg (by simp [h])]
      exact (filter_split p l).cons x
theorem ltk {n : Nat} {md : Str} {at_ : Int} {f b : List Int} (h1 : f.length ≤ n) (h2 : ¬ md = "looking") : LTi n ⟨md, at_, f, b⟩ := ⟨h1, fun h => absurd h h2⟩
theorem l_taker (i : LInv o c s) (hn : 1 ≤ c.nr) {r : LT} (hk : s.ts[k]? = some r) {d : Str} (hd : d ∈ lDeedsT o c.nth s.spot r) : LInv o c (lTaker o s k d r) ∧ Grow s.fr (lTaker o s k d r).fr ("taker", k, d) := by
  have t := i.ts r (getElem_mem hk)
  have hw : (lWords o s).length = lW o c := lw_len i.nr
  rcases l_deedsT hd with ⟨rfl, hm⟩ | ⟨rfl, hs⟩ | rfl | rfl
  · have e : lTaker o s k "look" r = (let f := lFound ((lWords o s)[r.at_.toNat]?.getD none) r.found
     if r.at_ + 1 = ((lWords o s).length : Int) then { s with ts := s.ts.set k ⟨"looked", 0, f, r.bag⟩ } else { s with ts := s.ts.set k ⟨r.md, r.at_ + 1, f, r.bag⟩ }) := by simp (decide := true) [lTaker]
    rw [e]
    obtain ⟨h1, h2, h3⟩ := t.look hm
    have h4 := lk_len ((lWords o s)[r.at_.toNat]?.getD none) r.found
    dsimp only
    split
    · exact ⟨mk_lt0 i hk (ltk (by omega) (by decide)) rfl, .same _ _⟩
    · rename_i q
      rw [hw] at q
      refine ⟨mk_lt0 i hk ⟨by show (lFound _ _).length ≤ _; omega, fun _ => ⟨by show 0 ≤ r.at_ + 1; omega, by show r.at_ + 1 < _; omega, ?_⟩⟩ rfl, .same _ _⟩
      show ((lFound _ _).length : Int) ≤ r.at_ + 1
      omega
  · have e : lTaker o s k "take" r = { s with spot := s.spot + 1, ts := s.ts.set k ⟨if o.look = "behind" then "idle" else "took", r.at_, r.found, r.bag ++ [s.spot]⟩ } := by simp (decide := true) [lTaker]
    rw [e]
    refine ⟨mk_lt (ex := [s.spot]) i hk (ltk t.few ?_) i.so ?_ ?_ ?_, .same _ _⟩
    · split <;> decide
    · have := i.sp
      omega
    · show (s.fr ++ (r.bag ++ [s.spot])).Perm ([s.spot] ++ (s.fr ++ r.bag))
      rw [← List.append_assoc]
      exact List.perm_append_comm
    · have h1 := i.sp
      have e : (s.spot + 1).toNat = s.spot.toNat + 1 := by omega
      have e2 : ((s.spot.toNat : Nat) : Int) = s.spot := by omega
      rw [e, rngI_succ, e2]
      exact List.perm_append_comm
  · have e : lTaker o s k "round" r = { s with ts := s.ts.set k ⟨"looking", 0, [], r.bag⟩ } := by simp (decide := true) [lTaker]
    rw [e]
    refine ⟨mk_lt0 i hk ⟨Nat.zero_le _, fun _ => ⟨Int.le_refl 0, ?_, Int.le_refl 0⟩⟩ rfl, .same _ _⟩
    show (0 : Int) < (lW o c : Nat)
    have : 0 < lW o c := by unfold lW; split <;> omega
    omega
  · have e : lTaker o s k "free" r = { s with fr := srt (s.fr ++ r.bag.filter fun x => !decide (x ∈ r.found)), ts := s.ts.set k ⟨"idle", r.at_, [], r.bag.filter fun x => decide (x ∈ r.found)⟩ } := by simp (decide := true) [lTaker]
    rw [e]
    refine ⟨mk_lt (ex := []) (sp' := s.spot) i hk (ltk (Nat.zero_le _) (by decide)) (srt_sorted _) i.sp ?_ (.refl _), fun x hx => (srt_perm _).mem_iff.mpr (List.mem_append_left _ hx), .inr ⟨rfl, f_free⟩⟩
    refine ((srt_perm _).append_right _).trans ?_
    show ((s.fr ++ r.bag.filter fun x => !decide (x ∈ r.found)) ++ r.bag.filter fun x => decide (x ∈ r.found)).Perm (s.fr ++ r.bag)
    rw [List.append_assoc]
    exact (filter_split (fun x => decide (x ∈ r.found)) r.bag).append_left _
theorem l_few (i : LInv o c s) (hn : c.nth ≤ 6) : s.fr.length + (s.ts.flatMap LT.bag).length ≤ 6 := by
  have h1 := i.pm.length_eq
  rw [List.length_append, rngI_len] at h1
  have := i.sp
  omega
theorem l_tkok (i : LInv o c s) (hc : c.nr ≤ 2 ∧ c.nth ≤ 6) {r : LT} (hk : s.ts[k]? = some r) {d : Str} (hd : d ∈ lDeedsT o c.nth s.spot r) : LTkOk o s d r := by
  have t := i.ts r (getElem_mem hk)
  have hw : (lWords o s).length = lW o c := lw_len i.nr
  have f1 := l_few i hc.2
  have f2 := len_held (h := LT.bag) (getElem_mem hk)
  have f3 : lW o c ≤ 4 := by unfold lW; split <;> omega
  have k1 : d = "look" → r.md = "looking" := by
    intro e
    rcases l_deedsT hd with ⟨q, hm⟩ | ⟨q, hs⟩ | q | q
    all_goals first
      | exact hm
      | (rw [e] at q; exact absurd q (by decide))
  exact ⟨by rw [i.nr]; omega, by omega, by have := t.few; omega, fun e => by rw [hw]; exact ⟨(t.look (k1 e)).1, (t.look (k1 e)).2.1⟩⟩
end
theorem lMoves_cases {o : LOwn} {nth : Nat} {s : LS} {m : Mv} (h : m ∈ lMoves o nth s) :
    (∃ (k : Nat) (d : Str) (r : LR), m = (("reader" : Str), k, d) ∧ s.rs[k]? = some r ∧ d ∈ lDeedsR o r) ∨ (∃ (k : Nat) (d : Str) (r : LT), m = (("taker" : Str), k, d) ∧ s.ts[k]? = some r ∧ d ∈ lDeedsT o nth s.spot r) := by
  unfold lMoves at h
  rcases List.mem_append.mp h with h | h
  · exact .inl (mvs0 h)
  · exact .inr (mvs0 h)
theorem lStep_ok {o : LOwn} {c : Cfg} {s : LS} {m : Mv} (i : LInv o c s) (hc : (1 ≤ c.nr ∧ c.nr ≤ 2) ∧ c.nth ≤ 6) (hm : m ∈ lMoves o c.nth s) :
    LDoOk o s m ∧ ((lDo o s m).2 = none → LInv o c (lDo o s m).1 ∧ Grow s.fr (lDo o s m).1.fr m) := by
  rcases lMoves_cases hm with ⟨k, d, r, rfl, hk, hd⟩ | ⟨k, d, r, rfl, hk, hd⟩
  · refine ⟨⟨fun _ => ⟨r, hk, fun e => ?_⟩, fun h => absurd rfl h⟩, ?_⟩
    · have e : d = "next" := e
      subst e
      exact (i.rs r (getElem_mem hk)).resolve_left (l_next hd)
    have e : lDo o s ("reader", k, d) = lReader o s k d r := by unfold lDo; rw [if_pos rfl]; show (match s.rs[k]? with | some r => _ | none => _) = _; rw [hk]
    rw [e]
    exact fun h => ⟨l_reader i hk hd h, by rw [l_reader_fr]; exact .same _ _⟩
  · refine ⟨⟨fun h => absurd h n_rt, fun _ => ⟨r, hk, l_tkok i ⟨hc.1.2, hc.2⟩ hk hd⟩⟩, ?_⟩
    have e : lDo o s ("taker", k, d) = (lTaker o s k d r, none) := by unfold lDo; rw [if_neg n_rt]; show (match s.ts[k]? with | some r => _ | none => _) = _; rw [hk]
    rw [e]
    exact fun _ => l_taker i hc.1.1 hk hd
end Ep
set_option maxHeartbeats 4000000
/-! plain: a step of still points -/
namespace Ep
open PySem PySem.Spec PyProof.Rows L2 Evl
structure STi (o : SOwn) (n : Nat) (r : ST) : Prop where
  md : r.md ∈ stMds
  few : r.noted.length ≤ n
  idl : r.md = "idle" → r.at_ = 0 ∧ r.noted = [] ∧ r.out = none
  ntg : r.md = "noting" → 0 ≤ r.at_ ∧ r.at_ < (n : Int) ∧ (r.noted.length : Int) = r.at_ ∧ (r.out = none ↔ o.read ≠ "behind")
  wtg : r.md = "waiting" → 0 ≤ r.at_ ∧ r.at_ < (n : Int) ∧ r.noted.length = n ∧ r.out ≠ none
  ntd : r.md = "noted" → r.noted.length = n ∧ r.out = none ∧ o.read ≠ "behind"
  psd : r.md = "passed" → r.out ≠ none ∧ r.at_ = 0
def heldS' (t : ST) : List Int := oL t.out
structure SInv (o : SOwn) (c : Cfg) (s : SS) : Prop where
  nr : s.rs.length = c.nr
  nt : s.ts.length = c.nt
  ts : ∀ r ∈ s.ts, STi o c.nr r
  sp : 0 ≤ s.spot ∧ s.spot ≤ c.nth
  so : s.fr.Pairwise (· ≤ ·)
  pm : (s.fr ++ s.ts.flatMap heldS').Perm (rngI s.spot.toNat)
section
variable {o : SOwn} {c : Cfg} {s : SS} {k n : Nat}
theorem sti_idle : STi o n ⟨"idle", 0, [], none⟩ := ⟨by show ("idle" : Str) ∈ stMds; decide, Nat.zero_le _, fun _ => ⟨rfl, rfl, rfl⟩, fun h => absurd (show ("idle" : Str) = "noting" from h) (by decide), fun h => absurd (show ("idle" : Str) = "waiting" from h) (by decide), fun h => absurd (show ("idle" : Str) = "noted" from h) (by decide), fun h => absurd (show ("idle" : Str) = "passed" from h) (by decide)⟩
theorem sti_noting {at_ : Int} {nt : List Int} {out : Option Int} (h : 0 ≤ at_ ∧ at_ < (n : Int) ∧ (nt.length : Int) = at_ ∧ (out = none ↔ o.read ≠ "behind")) : STi o n ⟨"noting", at_, nt, out⟩ := ⟨by show ("noting" : Str) ∈ stMds; decide, by show nt.length ≤ n; omega, fun h => absurd (show ("noting" : Str) = "idle" from h) (by decide), fun _ => h, fun h => absurd (show ("noting" : Str) = "waiting" from h) (by decide), fun h => absurd (show ("noting" : Str) = "noted" from h) (by decide), fun h => absurd (show ("noting" : Str) = "passed" from h) (by decide)⟩
theorem sti_waiting {at_ : Int} {nt : List Int} {out : Option Int} (h : 0 ≤ at_ ∧ at_ < (n : Int) ∧ nt.length = n ∧ out ≠ none) : STi o n ⟨"waiting", at_, nt, out⟩ := ⟨by show ("waiting" : Str) ∈ stMds; decide, by show nt.length ≤ n; omega, fun h => absurd (show ("waiting" : Str) = "idle" from h) (by decide), fun h => absurd (show ("waiting" : Str) = "noting" from h) (by decide), fun _ => h, fun h => absurd (show ("waiting" : Str) = "noted" from h) (by decide), fun h => absurd (show ("waiting" : Str) = "passed" from h) (by decide)⟩
theorem sti_noted {at_ : Int} {nt : List Int} {out : Option Int} (h : nt.length = n ∧ out = none ∧ o.read ≠ "behind") : STi o n ⟨"noted", at_, nt, out⟩ := ⟨by show ("noted" : Str) ∈ stMds; decide, by show nt.length ≤ n; omega, fun h => absurd (show ("noted" : Str) = "idle" from h) (by decide), fun h => absurd (show ("noted" : Str) = "noting" from h) (by decide), fun h => absurd (show ("noted" : Str) = "waiting" from h) (by decide), fun _ => h, fun h => absurd (show ("noted" : Str) = "passed" from h) (by decide)⟩
theorem sti_passed {nt : List Int} {out : Option Int} (hl : nt.length ≤ n) (h : out ≠ none) : STi o n ⟨"passed", 0, nt, out⟩ := ⟨by show ("passed" : Str) ∈ stMds; decide, hl, fun h => absurd (show ("passed" : Str) = "idle" from h) (by decide), fun h => absurd (show ("passed" : Str) = "noting" from h) (by decide), fun h => absurd (show ("passed" : Str) = "waiting" from h) (by decide), fun h => absurd (show ("passed" : Str) = "noted" from h) (by decide), fun _ => ⟨h, rfl⟩⟩
theorem s_deedsT {nth : Nat} {spot : Int} {r : ST} {d : Str} (hm : r.md ∈ stMds) (h : d ∈ sDeedsT o nth spot r) :
    (d = "take" ∧ spot < nth ∧ ((r.md = "idle" ∧ o.read = "behind") ∨ r.md = "noted")) ∨ (d = "note" ∧ ((r.md = "idle" ∧ o.read ≠ "behind") ∨ r.md = "noting")) ∨ (d = "look" ∧ r.md = "waiting") ∨ (d = "free" ∧ r.md = "passed") := by
  unfold sDeedsT at h
  split at h
  · rename_i h1
    split at h
    · rename_i h2
      obtain ⟨a, b⟩ := mem_takeIf h
      exact .inl ⟨a, b, .inl ⟨h1, h2⟩⟩
    · rename_i h2
      exact .inr (.inl ⟨by simpa using h, .inl ⟨h1, h2⟩⟩)
  · rename_i h1
    split at h
    · rename_i h2
      obtain ⟨a, b⟩ := mem_takeIf h
      exact .inl ⟨a, b, .inr h2⟩
    · rename_i h2
      split at h
      · rename_i h3
        exact .inr (.inl ⟨by simpa using h, .inr h3⟩)
      · rename_i h3
        split at h
        · rename_i h4
          exact .inr (.inr (.inl ⟨by simpa using h, h4⟩))
        · rename_i h4
          refine .inr (.inr (.inr ⟨by simpa using h, ?_⟩))
          simp only [stMds, List.mem_cons, List.not_mem_nil, or_false] at hm
          rcases hm with hm | hm | hm | hm | hm
          · exact absurd hm h1
          · exact absurd hm h2
          · exact absurd hm h3
          · exact absurd hm h4
          · exact hm
theorem mk_sr (i : SInv o c s) {r : SR} : SInv o c { s with rs := s.rs.set k r } :=
  { i with nr := by show (s.rs.set k _).length = _; rw [List.length_set]; exact i.nr }
theorem s_reader (i : SInv o c s) {r : SR} {d : Str} : (sReader o s k d r).2 = none → SInv o c (sReader o s k d r).1 := by
  unfold sReader
  split
  · exact fun _ => mk_sr i
  · split
    · exact fun _ => mk_sr i
    · split
      · exact fun _ => mk_sr i
      · split
        · exact fun _ => mk_sr i
        · split
          · exact fun h => by cases h
          · exact fun _ => i
theorem s_reader_fr {r : SR} {d : Str} : (sReader o s k d r).1.fr = s.fr := by
  unfold sReader
  repeat' split
  all_goals rfl
theorem mk_stt (i : SInv o c s) {r : ST} (hk : s.ts[k]? = some r) {fr' ex : List Int} {sp' : Int} {r' : ST} (h1 : STi o c.nr r') (h2 : fr'.Pairwise (· ≤ ·)) (h3 : 0 ≤ sp' ∧ sp' ≤ c.nth) (h4 : (fr' ++ oL r'.out).Perm (ex ++ (s.fr ++ oL r.out))) (h5 : (ex ++ rngI s.spot.toNat).Perm (rngI sp'.toNat)) :
    SInv o c { s with spot := sp', fr := fr', ts := s.ts.set k r' } where
  nr := i.nr
  nt := by show (s.ts.set k r').length = _; rw [List.length_set]; exact i.nt
  ts := set_all i.ts h1
  sp := h3
  so := h2
  pm := (perm_set (f := heldS') hk h4).trans ((i.pm.append_left ex).trans h5)
theorem mk_stt0 (i : SInv o c s) {r : ST} (hk : s.ts[k]? = some r) {r' : ST} (h1 : STi o c.nr r') (h4 : r'.out = r.out) :
    SInv o c { s with ts := s.ts.set k r' } := mk_stt (ex := []) (sp' := s.spot) i hk h1 i.so i.sp (by rw [h4]; exact .refl _) (.refl _)
theorem s_at (i : SInv o c s) {at_ : Int} (h : 0 ≤ at_ ∧ at_ < (c.nr : Int)) : ∃ x, s.rs[at_.toNat]? = some x := by
  have : at_.toNat < s.rs.length := by rw [i.nr]; omega
  exact ⟨_, List.getElem?_eq_getElem this⟩
theorem s_taker (i : SInv o c s) (hn : 1 ≤ c.nr) {r : ST} (hk : s.ts[k]? = some r) {d : Str} (hd : d ∈ sDeedsT o c.nth s.spot r) : SInv o c (sTaker o s k d r) ∧ Grow s.fr (sTaker o s k d r).fr ("taker", k, d) := by
  have t := i.ts r (getElem_mem hk)
  rcases s_deedsT t.md hd with ⟨rfl, hs, hm⟩ | ⟨rfl, hm⟩ | ⟨rfl, hm⟩ | ⟨rfl, hm⟩
  · have e : sTaker o s k "take" r = { s with spot := s.spot + 1, ts := s.ts.set k ⟨if o.read = "behind" then "noting" else "waiting", 0, r.noted, some s.spot⟩ } := by simp (decide := true) [sTaker]
    rw [e]
    have on : r.out = none := by
      rcases hm with ⟨hm, _⟩ | hm
      · exact (t.idl hm).2.2
      · exact (t.ntd hm).2.1
    refine ⟨mk_stt (ex := [s.spot]) i hk ?_ i.so ?_ ?_ ?_, .same _ _⟩
    · rcases hm with ⟨hm, hb⟩ | hm
      · rw [if_pos hb]
        refine sti_noting ⟨Int.le_refl 0, by omega, by rw [(t.idl hm).2.1]; rfl, ?_⟩
        simp [hb]
      · obtain ⟨a, b, hb⟩ := t.ntd hm
        rw [if_neg hb]
        exact sti_waiting ⟨Int.le_refl 0, by omega, a, by simp⟩
    · have := i.sp
      omega
    · show (s.fr ++ [s.spot]).Perm ([s.spot] ++ (s.fr ++ oL r.out))
      rw [on]
      show (s.fr ++ [s.spot]).Perm ([s.spot] ++ (s.fr ++ []))
      rw [List.append_nil]
      exact List.perm_append_comm
    · have h1 := i.sp
      have e : (s.spot + 1).toNat = s.spot.toNat + 1 := by omega
      have e2 : ((s.spot.toNat : Nat) : Int) = s.spot := by omega
      rw [e, rngI_succ, e2]
      exact List.perm_append_comm
  · have e : sTaker o s k "note" r = (let q := sNoted o s r.at_ r.noted; { s with ts := s.ts.set k ⟨q.1, q.2.1, q.2.2, r.out⟩ }) := by simp (decide := true) [sTaker]
    rw [e]
    dsimp only
    refine ⟨mk_stt0 i hk ?_ rfl, .same _ _⟩
    have h : 0 ≤ r.at_ ∧ r.at_ < (c.nr : Int) ∧ (r.noted.length : Int) = r.at_ ∧ (r.out = none ↔ o.read ≠ "behind") := by
      rcases hm with ⟨hm, hb⟩ | hm
      · obtain ⟨h1, h2, h3⟩ := t.idl hm
        rw [h1, h2, h3]
        exact ⟨Int.le_refl 0, by omega, rfl, by simp [hb]⟩
      · exact t.ntg hm
    obtain ⟨h1, h2, h3, h4⟩ := h
    unfold sNoted
    dsimp only
    split
    · rename_i q
      rw [i.nr] at q
      refine sti_noting ⟨by show 0 ≤ r.at_ + 1; omega, by show r.at_ + 1 < _; omega, ?_, h4⟩
      show (((r.noted ++ [_]).length : Nat) : Int) = r.at_ + 1
      rw [List.length_append, List.length_singleton]
      omega
    · rename_i q
      rw [i.nr] at q
      split
      · rename_i hb
        refine sti_waiting ⟨Int.le_refl 0, by show (0 : Int) < _; omega, ?_, fun z => (h4.mp z) hb⟩
        show (r.noted ++ [_]).length = _
        rw [List.length_append, List.length_singleton]
        omega
      · rename_i hb
        refine sti_noted ⟨?_, h4.mpr hb, hb⟩
        show (r.noted ++ [_]).length = _
        rw [List.length_append, List.length_singleton]
        omega
  · obtain ⟨h1, h2, h3, h4⟩ := t.wtg hm
    obtain ⟨x, hx⟩ := s_at i ⟨h1, h2⟩
    have e : sTaker o s k "look" r = (let q := sLooked s r.at_ r.noted x; { s with ts := s.ts.set k ⟨q.1, q.2, r.noted, r.out⟩ }) := by simp (decide := true) [sTaker, hx]
    rw [e]
    dsimp only
    refine ⟨mk_stt0 i hk ?_ rfl, .same _ _⟩
    unfold sLooked
    split
    · exact sti_waiting ⟨h1, h2, h3, h4⟩
    · split
      · rename_i q
        rw [i.nr] at q
        exact sti_waiting ⟨by omega, by omega, h3, h4⟩
      · exact sti_passed (by omega) h4
  · have e : sTaker o s k "free" r = { s with fr := srt (s.fr ++ [r.out.getD 0]), ts := s.ts.set k ⟨"idle", r.at_, [], none⟩ } := by simp (decide := true) [sTaker]
    rw [e]
    obtain ⟨h1, h2⟩ := t.psd hm
    obtain ⟨x, hx⟩ : ∃ x, r.out = some x := by
      cases e : r.out with
      | none => exact absurd e h1
      | some x => exact ⟨x, rfl⟩
    rw [h2, hx]
    refine ⟨mk_stt (ex := []) (sp' := s.spot) i hk sti_idle (srt_sorted _) i.sp ?_ (.refl _), fun y hy => (srt_perm _).mem_iff.mpr (List.mem_append_left _ hy), .inr ⟨rfl, f_free⟩⟩
    rw [hx]
    show (srt (s.fr ++ [x]) ++ []).Perm (s.fr ++ [x])
    rw [List.append_nil]
    exact srt_perm _
theorem s_few (i : SInv o c s) (hn : c.nth ≤ 6) : s.fr.length + (s.ts.flatMap heldS').length ≤ 6 := by
  have h1 := i.pm.length_eq
  rw [List.length_append, rngI_len] at h1
  have := i.sp
  omega
theorem s_tkok (i : SInv o c s) (hc : (1 ≤ c.nr ∧ c.nr ≤ 2) ∧ c.nth ≤ 6) {r : ST} (hk : s.ts[k]? = some r) {d : Str} (hd : d ∈ sDeedsT o c.nth s.spot r) : STkOk s d r := by
  have t := i.ts r (getElem_mem hk)
  have f1 := s_few i hc.2
  have f3 := t.few
  refine ⟨by omega, by omega, fun e => ?_, fun e => ?_, fun n1 n2 n3 => ?_⟩
  · rw [i.nr]
    rcases s_deedsT t.md hd with ⟨q, hs, hm⟩ | ⟨q, hm⟩ | ⟨q, hm⟩ | ⟨q, hm⟩
    · rw [e] at q; exact absurd q (by decide)
    · rcases hm with ⟨hm, _⟩ | hm
      · rw [(t.idl hm).1]
        omega
      · exact ⟨(t.ntg hm).1, (t.ntg hm).2.1⟩
    · rw [e] at q; exact absurd q (by decide)
    · rw [e] at q; exact absurd q (by decide)
  · rw [i.nr]
    rcases s_deedsT t.md hd with ⟨q, hs, hm⟩ | ⟨q, hm⟩ | ⟨q, hm⟩ | ⟨q, hm⟩
    · rw [e] at q; exact absurd q (by decide)
    · rw [e] at q; exact absurd q (by decide)
    · obtain ⟨a, b, g, _⟩ := t.wtg hm
      exact ⟨a, b, by omega⟩
    · rw [e] at q; exact absurd q (by decide)
  · rcases s_deedsT t.md hd with ⟨q, hs, hm⟩ | ⟨q, hm⟩ | ⟨q, hm⟩ | ⟨q, hm⟩
    · exact absurd q n1
    · exact absurd q n2
    · exact absurd q n3
    · exact (t.psd hm).1
end
theorem sMoves_cases {o : SOwn} {nth : Nat} {s : SS} {m : Mv} (h : m ∈ sMoves o nth s) :
    (∃ (k : Nat) (d : Str) (r : SR), m = (("reader" : Str), k, d) ∧ s.rs[k]? = some r ∧ d ∈ sDeedsR o r) ∨ (∃ (k : Nat) (d : Str) (r : ST), m = (("taker" : Str), k, d) ∧ s.ts[k]? = some r ∧ d ∈ sDeedsT o nth s.spot r) := by
  unfold sMoves at h
  rcases List.mem_append.mp h with h | h
  · exact .inl (mvs0 h)
  · exact .inr (mvs0 h)
theorem sStep_ok {o : SOwn} {c : Cfg} {s : SS} {m : Mv} (i : SInv o c s) (ho : 0 < o.counts) (hc : (1 ≤ c.nr ∧ c.nr ≤ 2) ∧ c.nth ≤ 6) (hm : m ∈ sMoves o c.nth s) :
    SDoOk o s m ∧ ((sDo o s m).2 = none → SInv o c (sDo o s m).1 ∧ Grow s.fr (sDo o s m).1.fr m) := by
  rcases sMoves_cases hm with ⟨k, d, r, rfl, hk, hd⟩ | ⟨k, d, r, rfl, hk, hd⟩
  · refine ⟨⟨fun _ => ⟨⟨r, hk⟩, ho⟩, fun h => absurd rfl h⟩, ?_⟩
    have e : sDo o s ("reader", k, d) = sReader o s k d r := by unfold sDo; rw [if_pos rfl]; show (match s.rs[k]? with | some r => _ | none => _) = _; rw [hk]
    rw [e]
    exact fun h => ⟨s_reader i h, by rw [s_reader_fr]; exact .same _ _⟩
  · refine ⟨⟨fun h => absurd h n_rt, fun _ => ⟨r, hk, s_tkok i hc hk hd⟩⟩, ?_⟩
    have e : sDo o s ("taker", k, d) = (sTaker o s k d r, none) := by unfold sDo; rw [if_neg n_rt]; show (match s.ts[k]? with | some r => _ | none => _) = _; rw [hk]
    rw [e]
    exact fun _ => s_taker i hc.1.1 hk hd
end Ep
set_option maxHeartbeats 4000000
/-! plain: what holds of every state of a run -/
namespace Ep
open PySem PySem.Spec PyProof.Rows L2 Evl
def Inv2 (c : Cfg) : Sta → Prop
  | .E s => ∃ o, c.own = .E o ∧ EInv o c s
  | .L s => ∃ o, c.own = .L o ∧ LInv o c s
  | .S s => ∃ o, c.own = .S o ∧ SInv o c s
  | .bad _ _ => True
theorem mem_rgD {a b : Int} {d : PyData} (h : d ∈ rgD a b) : ∃ i : Int, d = .int i ∧ a ≤ i ∧ i < b := by
  unfold rgD at h
  obtain ⟨i, hi, rfl⟩ := List.mem_map.mp h
  have := List.mem_range.mp hi
  exact ⟨a + i, rfl, by omega, by omega⟩
theorem ep_rng {o : EOwn} (h : OkOwn (.E o)) : 2 ≤ o.epochs ∧ o.epochs ≤ 6 := by
  have h1 : PyData.int o.epochs ∈ rgD 2 7 := h "epochs" (by show _ ∈ wordsE; decide +kernel)
  obtain ⟨i, e, h2, h3⟩ := mem_rgD h1
  cases e
  omega
theorem ct_rng {o : SOwn} (h : OkOwn (.S o)) : 0 < o.counts := by
  have h1 : PyData.int o.counts ∈ rgD 1 5 := h "counts" (by show _ ∈ wordsS; decide +kernel)
  obtain ⟨i, e, h2, h3⟩ := mem_rgD h1
  cases e
  omega
theorem bad_mv {c : Cfg} {s : Sta} (h : s.isBad = true) : movesS c s = [] := by
  cases s with
  | bad k th => unfold movesS; cases c.own <;> rfl
  | _ => cases h
/-! the deeds' texts -/
def allD : List Str := ["see", "tell", "check", "mark", "write", "take", "leave", "begin", "look", "step", "get", "end", "use", "publish", "next", "clear", "other", "round", "free", "still", "sleep", "wake", "note"]
theorem lay_all : ∀ d ∈ allD, PyData.strOk d = true := by decide +kernel
theorem lay_rd : PyData.strOk ("reader" : Str) = true := by decide +kernel
theorem lay_tk : PyData.strOk ("taker" : Str) = true := by decide +kernel
theorem lay_st : PyData.strOk ("stepper" : Str) = true := by decide +kernel
theorem a_take {d : Str} {spot : Int} {n : Nat} (h : d ∈ takeIf spot n) : d ∈ allD := by rw [(mem_takeIf h).1]; decide
theorem one_in {d x : Str} (h : d ∈ [x]) (hx : x ∈ allD) : d ∈ allD := by
  rw [List.mem_singleton] at h
  exact h ▸ hx
theorem sub_in {d : Str} {l : List Str} (h : d ∈ l) (hl : ∀ x ∈ l, x ∈ allD) : d ∈ allD := hl d h
theorem aE_R {o : EOwn} {r : ER} {d : Str} (h : d ∈ eDeedsR o r) : d ∈ allD := sub_in (deedsR_in h) (by decide)
theorem aE_T {o : EOwn} {nth : Nat} {spot : Int} {r : ET} {d : Str} (h : d ∈ eDeedsT o nth spot r) : d ∈ allD := by
  unfold eDeedsT at h
  split at h
  · rcases List.mem_append.mp h with h | h
    · split at h
      · exact a_take h
      · exact one_in h (by decide)
    · exact one_in h (by decide)
  · split at h
    · rcases List.mem_append.mp h with h | h
      · exact a_take h
      · exact one_in h (by decide)
    · unfold tkTab at h
      repeat' split at h
      all_goals exact one_in h (by decide)
theorem aE_H {o : EOwn} {r : EH} {d : Str} (h : d ∈ eDeedsH o r) : d ∈ allD := by
  unfold eDeedsH stTab at h
  repeat' split at h
  all_goals exact one_in h (by decide)
theorem aL_R {o : LOwn} {r : LR} {d : Str} (h : d ∈ lDeedsR o r) : d ∈ allD := by
  unfold lDeedsR at h
  repeat' split at h
  all_goals exact sub_in h (by decide)
theorem aL_T {o : LOwn} {nth : Nat} {spot : Int} {r : LT} {d : Str} (h : d ∈ lDeedsT o nth spot r) : d ∈ allD := by
  rcases l_deedsT h with ⟨rfl, _⟩ | ⟨rfl, _⟩ | rfl | rfl <;> decide
theorem aS_R {o : SOwn} {r : SR} {d : Str} (h : d ∈ sDeedsR o r) : d ∈ allD := by
  unfold sDeedsR at h
  split at h
  · rcases List.mem_append.mp h with h | h
    · rcases List.mem_append.mp h with h | h
      · exact sub_in h (by decide)
      · split at h <;> exact sub_in h (by decide)
    · repeat' split at h
      all_goals exact sub_in h (by decide)
  · repeat' split at h
    all_goals exact sub_in h (by decide)
theorem aS_T {o : SOwn} {nth : Nat} {spot : Int} {r : ST} {d : Str} (h : d ∈ sDeedsT o nth spot r) : d ∈ allD := by
  unfold sDeedsT at h
  split at h
  · split at h
    · exact a_take h
    · exact one_in h (by decide)
  · split at h
    · exact a_take h
    · repeat' split at h
      all_goals exact one_in h (by decide)
/-! how many -/
theorem take_len (spot : Int) (n : Nat) : (takeIf spot n).length ≤ 1 := by unfold takeIf; split <;> decide
theorem nE_R {o : EOwn} {r : ER} : (eDeedsR o r).length ≤ 5 ∧ eDeedsR o r ≠ [] := by
  unfold eDeedsR rdTab
  repeat' split
  all_goals exact ⟨by decide, by simp⟩
theorem nE_T {o : EOwn} {nth : Nat} {spot : Int} {r : ET} : (eDeedsT o nth spot r).length ≤ 5 := by
  have := take_len spot nth
  unfold eDeedsT
  split
  · rw [List.length_append]
    split
    · show _ + 1 ≤ 5; omega
    · decide
  · split
    · rw [List.length_append]
      show _ + 1 ≤ 5
      omega
    · unfold tkTab
      repeat' split
      all_goals decide
theorem nE_H {o : EOwn} {r : EH} : (eDeedsH o r).length ≤ 5 := by
  unfold eDeedsH stTab
  repeat' split
  all_goals decide
theorem nL_R {o : LOwn} {r : LR} : (lDeedsR o r).length ≤ 5 ∧ lDeedsR o r ≠ [] := by
  unfold lDeedsR
  repeat' split
  all_goals exact ⟨by decide, by simp⟩
theorem nL_T {o : LOwn} {nth : Nat} {spot : Int} {r : LT} : (lDeedsT o nth spot r).length ≤ 5 := by
  have := take_len spot nth
  unfold lDeedsT
  split
  · decide
  · split
    · split
      · decide
      · rw [List.length_append]
        split <;> (simp only [List.length_cons, List.length_nil]; omega)
    · split
      · decide
      · split
        · decide
        · rw [List.length_append]
          split <;> (simp only [List.length_cons, List.length_nil]; omega)
theorem nS_R {o : SOwn} {r : SR} : (sDeedsR o r).length ≤ 5 ∧ sDeedsR o r ≠ [] := by
  unfold sDeedsR
  split
  · refine ⟨?_, by simp⟩
    rw [List.length_append, List.length_append]
    repeat' split
    all_goals decide
  · repeat' split
    all_goals exact ⟨by decide, by simp⟩
theorem nS_T {o : SOwn} {nth : Nat} {spot : Int} {r : ST} : (sDeedsT o nth spot r).length ≤ 5 := by
  have := take_len spot nth
  unfold sDeedsT
  split
  · split
    · omega
    · decide
  · split
    · omega
    · repeat' split
      all_goals decide
theorem hd_ne {α : Type} {l : List α} {n : Nat} (h : l.length = n) (hn : 1 ≤ n) : ∃ x r, l = x :: r := by
  cases l with
  | nil => simp at h; omega
  | cons x r => exact ⟨x, r, rfl⟩
/-- moves of every state -/
theorem inv_mv {c : Cfg} {s : Sta} (L : Lim c) (i : Inv2 c s) : MvOk c s ∧ (∀ m ∈ movesS c s, okM m) ∧ (movesS c s = [] → s.isBad = true) ∧ (movesS c s).length ≤ 30 := by
  obtain ⟨n1, n2⟩ := L.nr
  obtain ⟨n3, n4⟩ := L.nt
  have n5 := L.ns
  cases s with
  | bad k th =>
    have e : movesS c (.bad k th) = [] := bad_mv rfl
    exact ⟨⟨trivial, by rw [e]; decide, trivial⟩, by rw [e]; simp, fun _ => rfl, by rw [e]; decide⟩
  | E s =>
    obtain ⟨o, ho, i⟩ := i
    have e : movesS c (.E s) = eMoves o c.nth s := by unfold movesS; rw [ho]
    have l1 := len_mvs (kind := "reader") (deeds := eDeedsR o) (rows := s.rs) (k0 := 0) (b := 5) fun r _ => nE_R.1
    have l2 := len_mvs (kind := "taker") (deeds := eDeedsT o c.nth s.spot) (rows := s.ts) (k0 := 0) (b := 5) fun r _ => nE_T
    have l3 := len_mvs (kind := "stepper") (deeds := eDeedsH o) (rows := s.hs) (k0 := 0) (b := 5) fun r _ => nE_H
    rw [i.nr] at l1
    rw [i.nt] at l2
    rw [i.ns] at l3
    have hl : (movesS c (.E s)).length ≤ 30 := by
      rw [e]
      unfold eMoves
      rw [List.length_append, List.length_append]
      omega
    refine ⟨⟨⟨o, ho⟩, by omega, i.rs, fun r hr => (i.ts r hr).md, fun r hr => (i.hs r hr).md⟩, fun m hm => ?_, fun h => ?_, hl⟩
    · rw [e] at hm
      rcases eMoves_cases hm with ⟨k, d, r, rfl, hk, hd⟩ | ⟨k, d, r, rfl, hk, hd⟩ | ⟨k, d, r, rfl, hk, hd⟩
      · exact ⟨lay_rd, lay_all _ (aE_R hd)⟩
      · exact ⟨lay_tk, lay_all _ (aE_T hd)⟩
      · exact ⟨lay_st, lay_all _ (aE_H hd)⟩
    · rw [e] at h
      obtain ⟨x, r, hx⟩ := hd_ne i.nr n1
      unfold eMoves at h
      rw [hx] at h
      exact absurd (List.append_eq_nil_iff.mp (List.append_eq_nil_iff.mp h).1).1 (mvs_ne nE_R.2)
  | L s =>
    obtain ⟨o, ho, i⟩ := i
    have e : movesS c (.L s) = lMoves o c.nth s := by unfold movesS; rw [ho]
    have l1 := len_mvs (kind := "reader") (deeds := lDeedsR o) (rows := s.rs) (k0 := 0) (b := 5) fun r _ => nL_R.1
    have l2 := len_mvs (kind := "taker") (deeds := lDeedsT o c.nth s.spot) (rows := s.ts) (k0 := 0) (b := 5) fun r _ => nL_T
    rw [i.nr] at l1
    rw [i.nt] at l2
    have hl : (movesS c (.L s)).length ≤ 30 := by
      rw [e]
      unfold lMoves
      rw [List.length_append]
      omega
    refine ⟨⟨⟨o, ho⟩, by omega, trivial⟩, fun m hm => ?_, fun h => ?_, hl⟩
    · rw [e] at hm
      rcases lMoves_cases hm with ⟨k, d, r, rfl, hk, hd⟩ | ⟨k, d, r, rfl, hk, hd⟩
      · exact ⟨lay_rd, lay_all _ (aL_R hd)⟩
      · exact ⟨lay_tk, lay_all _ (aL_T hd)⟩
    · rw [e] at h
      obtain ⟨x, r, hx⟩ := hd_ne i.nr n1
      unfold lMoves at h
      rw [hx] at h
      exact absurd (List.append_eq_nil_iff.mp h).1 (mvs_ne nL_R.2)
  | S s =>
    obtain ⟨o, ho, i⟩ := i
    have e : movesS c (.S s) = sMoves o c.nth s := by unfold movesS; rw [ho]
    have l1 := len_mvs (kind := "reader") (deeds := sDeedsR o) (rows := s.rs) (k0 := 0) (b := 5) fun r _ => nS_R.1
    have l2 := len_mvs (kind := "taker") (deeds := sDeedsT o c.nth s.spot) (rows := s.ts) (k0 := 0) (b := 5) fun r _ => nS_T
    rw [i.nr] at l1
    rw [i.nt] at l2
    have hl : (movesS c (.S s)).length ≤ 30 := by
      rw [e]
      unfold sMoves
      rw [List.length_append]
      omega
    refine ⟨⟨⟨o, ho⟩, by omega, fun r hr => (i.ts r hr).md⟩, fun m hm => ?_, fun h => ?_, hl⟩
    · rw [e] at hm
      rcases sMoves_cases hm with ⟨k, d, r, rfl, hk, hd⟩ | ⟨k, d, r, rfl, hk, hd⟩
      · exact ⟨lay_rd, lay_all _ (aS_R hd)⟩
      · exact ⟨lay_tk, lay_all _ (aS_T hd)⟩
    · rw [e] at h
      obtain ⟨x, r, hx⟩ := hd_ne i.nr n1
      unfold sMoves at h
      rw [hx] at h
      exact absurd (List.append_eq_nil_iff.mp h).1 (mvs_ne nS_R.2)
/-- a step of every state -/
theorem inv_step {c : Cfg} {s : Sta} {m : Mv} (L : Lim c) (i : Inv2 c s) (hm : m ∈ movesS c s) : DoOk c s m ∧ Inv2 c (stepS c s m) ∧ ((stepS c s m).isBad = false → Grow (freedS s) (freedS (stepS c s m)) m) := by
  cases s with
  | bad k th =>
    rw [bad_mv rfl] at hm
    cases hm
  | E s =>
    obtain ⟨o, ho, i⟩ := i
    have e : movesS c (.E s) = eMoves o c.nth s := by unfold movesS; rw [ho]
    have es : stepS c (.E s) m = outS .E (eDo o s m) := by unfold stepS; rw [ho]
    rw [e] at hm
    have ok := L.ow
    rw [ho] at ok
    obtain ⟨h1, h2⟩ := eStep_ok i (ep_rng ok) ⟨L.nr, L.nt.2, L.ns, L.nth.2⟩ hm
    refine ⟨fun o' ho' => ?_, ?_⟩
    · rw [ho] at ho'
      cases ho'
      exact h1
    · rw [es]
      unfold outS
      cases hb : (eDo o s m).2 with
      | none =>
        obtain ⟨h3, h4⟩ := h2 hb
        exact ⟨⟨o, ho, h3⟩, fun _ => h4⟩
      | some b =>
        obtain ⟨k, th⟩ := b
        exact ⟨trivial, fun z => by cases z⟩
  | L s =>
    obtain ⟨o, ho, i⟩ := i
    have e : movesS c (.L s) = lMoves o c.nth s := by unfold movesS; rw [ho]
    have es : stepS c (.L s) m = outS .L (lDo o s m) := by unfold stepS; rw [ho]
    rw [e] at hm
    obtain ⟨h1, h2⟩ := lStep_ok i ⟨L.nr, L.nth.2⟩ hm
    refine ⟨fun o' ho' => ?_, ?_⟩
    · rw [ho] at ho'
      cases ho'
      exact h1
    · rw [es]
      unfold outS
      cases hb : (lDo o s m).2 with
      | none =>
        obtain ⟨h3, h4⟩ := h2 hb
        exact ⟨⟨o, ho, h3⟩, fun _ => h4⟩
      | some b =>
        obtain ⟨k, th⟩ := b
        exact ⟨trivial, fun z => by cases z⟩
  | S s =>
    obtain ⟨o, ho, i⟩ := i
    have e : movesS c (.S s) = sMoves o c.nth s := by unfold movesS; rw [ho]
    have es : stepS c (.S s) m = outS .S (sDo o s m) := by unfold stepS; rw [ho]
    rw [e] at hm
    have ok := L.ow
    rw [ho] at ok
    obtain ⟨h1, h2⟩ := sStep_ok i (ct_rng ok) ⟨L.nr, L.nth.2⟩ hm
    refine ⟨fun o' ho' => ?_, ?_⟩
    · rw [ho] at ho'
      cases ho'
      exact h1
    · rw [es]
      unfold outS
      cases hb : (sDo o s m).2 with
      | none =>
        obtain ⟨h3, h4⟩ := h2 hb
        exact ⟨⟨o, ho, h3⟩, fun _ => h4⟩
      | some b =>
        obtain ⟨k, th⟩ := b
        exact ⟨trivial, fun z => by cases z⟩
/-- what is kept -/
theorem inv_kept {c : Cfg} {s : Sta} (L : Lim c) (i : Inv2 c s) (hb : s.isBad = false) : ∃ n : Nat, n ≤ 6 ∧ spotS s = n ∧ (heldS s).length < 60 ∧ (keptS s = (rngI n).filter fun x => !decide (x ∈ freedS s)) ∧ srt (freedS s) = freedS s ∧ (freedS s).length ≤ 6 := by
  have n6 := L.nth.2
  have key : ∀ {fr held : List Int} {sp : Int}, 0 ≤ sp ∧ sp ≤ c.nth → (fr ++ held).Perm (rngI sp.toNat) → fr.Pairwise (· ≤ ·) → sp.toNat ≤ 6 ∧ sp = sp.toNat ∧ held.length < 60 ∧ (srt held = (rngI sp.toNat).filter fun x => !decide (x ∈ fr)) ∧ srt fr = fr ∧ fr.length ≤ 6 := by
    intro fr held sp h1 p so
    have h2 := p.length_eq
    rw [List.length_append, rngI_len] at h2
    exact ⟨by omega, by omega, by omega, kept_eq p, (srt_eq so (.refl _)).symm, by omega⟩
  cases s with
  | bad k th => cases hb
  | E s =>
    obtain ⟨o, ho, i⟩ := i
    exact ⟨_, key (held := s.ts.flatMap heldT) i.sp i.pm i.so⟩
  | L s =>
    obtain ⟨o, ho, i⟩ := i
    exact ⟨_, key (held := s.ts.flatMap LT.bag) i.sp i.pm i.so⟩
  | S s =>
    obtain ⟨o, ho, i⟩ := i
    exact ⟨_, key (held := s.ts.flatMap heldS') i.sp i.pm i.so⟩
/-- the first state -/
theorem mem_rep {α : Type} {x y : α} {n : Nat} (h : x ∈ List.replicate n y) : x = y := (List.mem_replicate.mp h).2
theorem flat_rep {α : Type} {f : α → List Int} {y : α} (h : f y = []) : ∀ n, (List.replicate n y).flatMap f = []
  | 0 => rfl
  | n + 1 => by rw [List.replicate_succ, List.flatMap_cons, h, flat_rep h n]; rfl
theorem flat_nil : ∀ n : Nat, (List.replicate n ([] : List Int)).flatten = []
  | 0 => rfl
  | n + 1 => by rw [List.replicate_succ, List.flatten_cons, flat_nil n]; rfl
theorem inv_first {c : Cfg} (L : Lim c) : Inv2 c (firstS c) ∧ (firstS c).isBad = false ∧ keptS (firstS c) = [] := by
  cases ho : c.own with
  | E o =>
    have e : firstS c = .E (eFirst o c) := by unfold firstS; rw [ho]
    have ok := L.ow
    rw [ho] at ok
    have h0 := ep_rng ok
    rw [e]
    have hh : (eFirst o c).ts.flatMap heldT = [] := flat_rep (by show oL none ++ (List.replicate o.epochs.toNat []).flatten = []; rw [flat_nil]; rfl) _
    refine ⟨⟨o, ho, { ep := ⟨Int.le_refl 0, by show (0 : Int) < _; omega⟩, nr := List.length_replicate, nt := List.length_replicate, ns := List.length_replicate, rs := fun r hr => ?_, ts := fun r hr => ?_, hs := fun r hr => ?_, sp := ⟨Int.le_refl 0, by show (0 : Int) ≤ _; omega⟩, so := .nil, pm := ?_ }⟩, rfl, ?_⟩
    · rw [mem_rep hr]
      exact .inl rfl
    · rw [mem_rep hr]
      exact etk (.inl rfl) (by rw [List.length_replicate]; omega) (by simp (decide := true)) (fun h => absurd h n_ir) (fun h => by simp (decide := true) at h)
    · rw [mem_rep hr]
      exact ehk (.inl rfl) (by decide) (by decide)
    · rw [hh]
      exact .refl _
    · show srt ((eFirst o c).ts.flatMap heldT) = []
      rw [hh]
      rfl
  | L o =>
    have e : firstS c = .L (lFirst c) := by unfold firstS; rw [ho]
    rw [e]
    have hh : (lFirst c).ts.flatMap LT.bag = [] := flat_rep rfl _
    refine ⟨⟨o, ho, { nr := List.length_replicate, nt := List.length_replicate, rs := fun r hr => ?_, ts := fun r hr => ?_, sp := ⟨Int.le_refl 0, by show (0 : Int) ≤ _; omega⟩, so := .nil, pm := ?_ }⟩, rfl, ?_⟩
    · rw [mem_rep hr]
      exact .inl rfl
    · rw [mem_rep hr]
      exact ltk (Nat.zero_le _) (by decide)
    · rw [hh]
      exact .refl _
    · show srt ((lFirst c).ts.flatMap LT.bag) = []
      rw [hh]
      rfl
  | S o =>
    have e : firstS c = .S (sFirst c) := by unfold firstS; rw [ho]
    rw [e]
    have hh : (sFirst c).ts.flatMap heldS' = [] := flat_rep rfl _
    refine ⟨⟨o, ho, { nr := List.length_replicate, nt := List.length_replicate, ts := fun r hr => ?_, sp := ⟨Int.le_refl 0, by show (0 : Int) ≤ _; omega⟩, so := .nil, pm := ?_ }⟩, rfl, ?_⟩
    · rw [mem_rep hr]
      exact sti_idle
    · rw [hh]
      exact .refl _
    · show srt ((sFirst c).ts.flatMap heldS') = []
      rw [hh]
      rfl
end Ep
set_option maxHeartbeats 4000000
/-! dicts that grow; _law_choices -/
namespace Ep
open PySem PySem.Spec PyProof.Rows L2 Evl
/-- a list made behind H0 -/
def LN (K : PySem.W.Frag) (H0 : Hp) (ds : List PyData) : Ab := ⟨fun H v => ∃ p vs, v = .ref p ∧ H0 p = none ∧ H p = some (.lst vs) ∧ DtL K H vs ds, fun e ⟨p, vs, h1, h2, h3, h4⟩ => ⟨p, vs, h1, h2, e _ _ h3, h4.mono (.of e)⟩, false, fun z => by cases z⟩
theorem dks_LN {K : PySem.W.Frag} {H0 : Hp} {ds : List PyData} : DkS (LN K H0 ds) := fun H v p kvs kvs' h ⟨l, vs, h1, h0, h2, h3⟩ => ⟨l, vs, h1, h0, by rw [upd_ne (ne_of h2 h (by intro z; cases z))]; exact h2, h3.mono (Tk.dK h).tex⟩
/-- a dict that is tracked -/
def mDk (H0 : Hp) (pd : Addr) (kas : List (Str × Ab)) : Mb := ⟨fun H => Ex H0 H ∧ H0 pd = none ∧ ∃ kvs, H pd = some (.dK kvs) ∧ KvA kas H kvs, fun e ⟨h1, h2, kvs, h3, h4⟩ => ⟨h1.trans e, h2, kvs, e _ _ h3, h4.mono e⟩⟩
theorem KvA.put {H : Hp} {z : Str} {A : Ab} {v : V} {kas : List (Str × Ab)} {kvs : List (Key × V)} (h : KvA kas H kvs) (hv : A.P H v) (hn : kas.lookup z = Option.none) : KvA (kas ++ [(z, A)]) H (putK kvs (Sum.inr z) v) := by
  rw [putK_new _ (h.none hn)]
  clear hn
  induction h with
  | nil => exact .cons hv .nil
  | cons h r ih => exact .cons h (ih hv)
theorem mDk_put {H0 H : Hp} {pd : Addr} {kas : List (Str × Ab)} {z : Str} {A : Ab} {v : V} (m : (mDk H0 pd kas).P H) (hv : A.P H v) (hn : kas.lookup z = none) (hd : DkS A) (hs : ∀ ka ∈ kas, DkS ka.2) :
    ∃ kvs, H pd = some (.dK kvs) ∧ kvs.length = kas.length ∧ (mDk H0 pd (kas ++ [(z, A)])).P (upd H pd (.dK (putK kvs (Sum.inr z) v))) := by
  obtain ⟨h1, h2, kvs, h3, h4⟩ := m
  refine ⟨kvs, h3, h4.length, Ex.mut h1 h2, h2, _, upd_same, ?_⟩
  refine KvA.dk h3 ?_ (h4.put hv hn)
  intro ka hk
  rcases List.mem_append.mp hk with hk | hk
  · exact hs ka hk
  · rw [List.mem_singleton] at hk
    rw [hk]
    exact hd
section
variable {X : Cx} {M M' : Mb} {ρ ρ' : List Sl} {e e1 e2 o1 o2 i1 i2 a b o i : Expr} {A B C : Ab} {pos pos1 pos2 p1 p2 apos : Pos} {kas : List (Str × Ab)} {z z1 z2 : Str} {H0 H1 : Hp} {pd : Addr} {D : Ends} {rest : List Stmt} {kk kk2 : Nat} {ds : List PyData} {es : List Expr}
theorem al_lst (h : AD X M ρ es ds) (hM : ∀ H, M.P H → Ex H0 H) (hl : ds.length ≤ 1000 := by first | decide | (simp; done) | (simp; omega)) : AE X M ρ (.List es pos) (LN X.K H0 ds) :=
  weakE (an_lst h hl) fun σ H Q ⟨m, sl, q⟩ => ⟨m, sl, fun v H' ex r => by
    obtain ⟨p, vs, h1, h2, h3, h4⟩ := r
    exact q v H' ex ⟨p, vs, h1, fresh_back (hM H m) h2, h3, h4⟩⟩
/-- d[k] = value -/
theorem as_dk (hu : X.A.units + 1 < cLine) (hv : AE X (mDk H0 pd kas) ρ e A) (ho : AE X (mDk H0 pd kas) ρ o (Rf pd)) (hi : AE X (mDk H0 pd kas) ρ i (aS X.K z)) (hn : kas.lookup z = none) (hd : DkS A) (hs : ∀ ka ∈ kas, DkS ka.2) (hl : kas.length < 1000)
    (k : AS X (mDk H0 pd (kas ++ [(z, A)])) (keepT ρ) rest D) (hw : swapsWith e (some (.Subscript o i p1)) pos.line X.env = pure false := by rfl) : AS X (mDk H0 pd kas) ρ (.Assign [.Subscript o i p1] e pos :: rest) D :=
  as_dput (M1 := mDk H0 pd kas) hu (am_of hv) ho hi (fun H v m av => by
    obtain ⟨kvs, h1, h2, h3⟩ := mDk_put m av hn hd hs
    exact ⟨kvs, h1, by omega, h3⟩) k hw
/-- d[k], d[k'] = value, value' -/
theorem as_dk2 (hu : X.A.units + 1 < cLine) (hv : AA X (mDk H0 pd kas) ρ [e1, e2] [A, B]) (ho1 : AE X (mDk H0 pd kas) ρ o1 (Rf pd)) (hi1 : AE X (mDk H0 pd kas) ρ i1 (aS X.K z1)) (ho2 : AE X (mDk H0 pd (kas ++ [(z1, A)])) (keepT ρ) o2 (Rf pd)) (hi2 : AE X (mDk H0 pd (kas ++ [(z1, A)])) (keepT ρ) i2 (aS X.K z2))
    (hn1 : kas.lookup z1 = none) (hn2 : (kas ++ [(z1, A)]).lookup z2 = none) (hdA : DkS A) (hdB : DkS B) (hs : ∀ ka ∈ kas, DkS ka.2) (hl : kas.length < 900)
    (k : AS X (mDk H0 pd ((kas ++ [(z1, A)]) ++ [(z2, B)])) (keepT (keepT ρ)) rest D) (hc : X.calm = true := by rfl)
    (ha1 : ∀ v, assign (.Subscript o1 i1 p1) X.env v = (do
      let ov ← holding [v] (eval o1 X.env)
      let iv ← holding [v, ov] (eval i1 X.env)
      standAt p1
      holding [v, ov, iv] (setItem ov iv v)
      release [v, ov, iv] []) := by intro _; rfl)
    (ha2 : ∀ v, assign (.Subscript o2 i2 p2) X.env v = (do
      let ov ← holding [v] (eval o2 X.env)
      let iv ← holding [v, ov] (eval i2 X.env)
      standAt p2
      holding [v, ov, iv] (setItem ov iv v)
      release [v, ov, iv] []) := by intro _; rfl)
    (hp1 : (assignEach [.Subscript o1 i1 p1, .Subscript o2 i2 p2] X.env).map (·.2) = assign (.Subscript o1 i1 p1) X.env :: (assignEach [.Subscript o2 i2 p2] X.env).map (·.2) := by rfl)
    (hp2 : (assignEach [.Subscript o2 i2 p2] X.env).map (·.2) = assign (.Subscript o2 i2 p2) X.env :: (assignEach [] X.env).map (·.2) := by rfl)
    (hpn : (assignEach [.Subscript o1 i1 p1, .Subscript o2 i2 p2] X.env).length = 2 := by rfl) (hst : (assignEach [.Subscript o1 i1 p1, .Subscript o2 i2 p2] X.env).findIdx? (·.1) = none := by rfl)
    (hw1 : swapsWithSole [.Tuple [.Subscript o1 i1 p1, .Subscript o2 i2 p2] kk pos1] (.Tuple [e1, e2] kk2 pos2) pos.line X.env = pure false := by rfl) (hw2 : swappedStores [.Tuple [.Subscript o1 i1 p1, .Subscript o2 i2 p2] kk pos1] (.Tuple [e1, e2] kk2 pos2) X.env = pure none := by rfl)
    (hw3 : (assignEach [.Tuple [.Subscript o1 i1 p1, .Subscript o2 i2 p2] kk pos1] X.env).map (·.2) = [assign (.Tuple [.Subscript o1 i1 p1, .Subscript o2 i2 p2] kk pos1) X.env] := by rfl) :
    AS X (mDk H0 pd kas) ρ (.Assign [.Tuple [.Subscript o1 i1 p1, .Subscript o2 i2 p2] kk pos1] (.Tuple [e1, e2] kk2 pos2) pos :: rest) D :=
  pss_then (ps_asg (pe_tup hv) (pg_tup hc (pgs_cons (pg_sub ho1 hi1 (set_dict hu) ha1) (pgs_cons (pg_sub ho2 hi2 (set_dict hu) ha2) pgs_nil hp2) hp1) hpn hst) hw1 hw2 hw3) k fun σ H m sl => ⟨m, sl, fun vs H1 ex1 av => by
    cases av with
    | cons g1 r =>
      cases r with
      | cons g2 r =>
        cases r
        rename_i v1 v2
        refine ⟨sz_of (by show (2 : Nat) ≤ 100000; decide), fun p hp => ⟨p, _, rfl, st_of upd_same, rfl, v1, _, rfl, ?_⟩⟩
        have ex2 := ex1.trans (Ex.new (o := .tup [v1, v2]) hp)
        have m2 := (mDk H0 pd kas).mono ex2 m
        refine ⟨m2, sl.mono ex2, fun x H3 e3 hx => ⟨(mDk H0 pd kas).mono e3 m2, (sl.mono ex2).mono e3, fun y H4 e4 hy => ?_⟩⟩
        have e34 := e3.trans e4
        have m4 := (mDk H0 pd kas).mono e34 m2
        have gA : A.P H4 v1 := A.mono ((Ex.new hp).trans e34) g1
        have gB : B.P H4 v2 := B.mono ((Ex.new hp).trans e34) g2
        obtain ⟨kvs, h1, h2, h3⟩ := mDk_put m4 gA hn1 hdA hs
        cases (show x = .ref pd from hx)
        cases hy.str_inv
        refine ⟨pd, _, rfl, DPut.k (k := Sum.inr z1) h1 (sz_lt (by omega)), v2, _, rfl, ?_⟩
        have gB' : B.P (upd H4 pd (.dK (putK kvs (Sum.inr z1) v1))) v2 := hdB H4 v2 pd _ kvs h1 gB
        have sl5 := ((sl.mono ex2).mono e34).keep (Tk.dK h1 (u := .dK (putK kvs (Sum.inr z1) v1)))
        refine ⟨h3, sl5, fun x H6 e6 hx => ⟨(mDk H0 pd (kas ++ [(z1, A)])).mono e6 h3, sl5.mono e6, fun y H7 e7 hy => ?_⟩⟩
        have e67 := e6.trans e7
        obtain ⟨kvs2, j1, j2, j3⟩ := mDk_put ((mDk H0 pd (kas ++ [(z1, A)])).mono e67 h3) (B.mono e67 gB') hn2 hdB (fun ka hk => by
          rcases List.mem_append.mp hk with hk | hk
          · exact hs ka hk
          · rw [List.mem_singleton] at hk
            rw [hk]
            exact hdA)
        cases (show x = .ref pd from hx)
        cases hy.str_inv
        rw [List.length_append, List.length_singleton] at j2
        exact ⟨pd, _, rfl, DPut.k (k := Sum.inr z2) j1 (sz_lt (by omega)), rfl, rfl, j3, (sl5.mono e67).keep (Tk.dK j1)⟩⟩
/-- d.get(k, x) -/
theorem ae_dkget2 (hu : X.A.units + 1 < cLine) (ho : AE X (mDk H0 pd kas) ρ o (Rf pd)) (hi : AE X (mDk H0 pd kas) ρ a (aS X.K z)) (hx : AE X (mDk H0 pd kas) ρ b C) (h : (∃ B, kas.lookup z = some B ∧ ∀ H v, B.P H v → A.P H v) ∨ (kas.lookup z = none ∧ ∀ H v, C.P H v → A.P H v)) (m : M2 X o "get" apos a b pos) : AE X (mDk H0 pd kas) ρ (.Call (.Attribute o "get" apos) [a, b] [] pos) A :=
  weakE (pe_dget2 hu ho hi hx m) fun σ H Q ⟨m, sl, q⟩ => ⟨m, sl, fun x H1 e1 hx => by
    have m1 := (mDk H0 pd kas).mono e1 m
    obtain ⟨_, _, kvs, h3, h4⟩ := id m1
    refine ⟨pd, hx, .inl ⟨kvs, .inl h3⟩, m1, sl.mono e1, fun y H2 e2 hy => ⟨(mDk H0 pd kas).mono e2 m1, (sl.mono e1).mono e2, fun w H3 e3 hw => ?_⟩⟩
    cases hy.str_inv
    refine ⟨valV kvs (Sum.inr z), DGet.k (k := Sum.inr z) (e3 _ _ (e2 _ _ h3)), ?_⟩
    have h4' := h4.mono (e2.trans e3)
    rcases h with ⟨B, hB, hw2⟩ | ⟨hN, hw2⟩
    · obtain ⟨u, g1, g2⟩ := h4'.get hB
      rw [g1]
      exact q u H3 ((e1.trans e2).trans e3) (hw2 _ _ g2)
    · rw [h4'.none hN]
      exact q w H3 ((e1.trans e2).trans e3) (hw2 _ _ hw)⟩
end
end Ep
set_option maxHeartbeats 4000000
/-! _law_choices -/
namespace Ep
open PySem PySem.Spec PyProof.Rows L2 Evl
def allW : List Str := ["epochs", "behind", "check", "fetch", "mark", "test", "step", "told", "look", "chain", "counts", "still", "read", "sleep"]
def chS (w : Str) (E : Int) : List PyData := if w = "epochs" then rgD 2 7 else if w = "behind" then rgD 1 (E + 1) else if w = "counts" then rgD 1 5 else ordTab w
structure ChI where
  (w : Str) (E : Int) (kas : List (Str × Ab))
theorem rgD_up (n : Nat) : (rngD n).map (fun d => match d with | .int i => PyData.int (i + 1) | d => d) = rgD 1 ((n : Int) + 1) := by
  unfold rngD rgD
  rw [List.map_map]
  have e : ((n : Int) + 1 - 1).toNat = n := by omega
  rw [e]
  refine List.map_congr_left fun i _ => ?_
  show PyData.int ((i : Int) + 1) = .int (1 + (i : Int))
  rw [Int.add_comm]
def up1 : PyData → PyData
  | .int i => .int (i + 1) | d => d
section
variable {P : Program} {w : World} {K : PySem.W.Frag} {mg : Str → Option Value} {base : Heap} {a : Adr}
abbrev s_ch : Stmt := top 67
abbrev n_ch : List Str := ["_law_word", "_law_own_here", "_law_found", "_law_at"]
theorem sc_ch : FnScope n_ch ["_law_word", "_law_own_here"] (defScope s_ch) := ⟨rfl, rfl, rfl, by decide +kernel, rfl, by decide +kernel, by decide +kernel⟩
abbrev sp_ch (K : PySem.W.Frag) : Sp := spG (ι := ChI) (fun i => i.w ∈ allW ∧ (0 ≤ i.E ∧ i.E ≤ 100) ∧ (i.w = "behind" → i.kas.lookup ("epochs" : Str) = some (aI K i.E))) (fun i => [aS K i.w, aDK i.kas]) fun i => rN K (chS i.w i.E)
abbrev kasC (K : PySem.W.Frag) (H0 : Hp) : List (Str × Ab) := [(("fetch" : Str), LN K H0 [.str "ahead", .str "behind"]), (("mark" : Str), LN K H0 [.str "own", .str "fresh"]), (("test" : Str), LN K H0 [.str "last", .str "equal"])]
theorem LN.back {K : PySem.W.Frag} {H0 H : Hp} {v : V} {ds : List PyData} (h : (LN K H0 ds).P H v) : rN K ds H0 H v := h
theorem ok_ch {f : Addr} {fd : FuncData} (F : Fun K "_law_choices" "_law_choices" s_ch f fd) (br : mg "range" = none) : FnOk P w K mg base CX0 1 f fd ["_law_word", "_law_own_here"] (sp_ch K) := by
  refine fn_G F sc_ch (fun _ => rfl) fun cdv A outer s H E hr i hi => ?_
  obtain ⟨z, Ep, kas⟩ := i
  have hz : z ∈ allW := hi.1
  have hE : 0 ≤ Ep ∧ Ep ≤ 100 := hi.2.1
  have hk : z = "behind" → kas.lookup ("epochs" : Str) = some (aI K Ep) := hi.2.2
  have hu := hu_of hr
  have nd := sc_ch.nd
  refine as_if (at_cmpC (ac_eqS (av 0) ae_str)) (fun c1 => ?_) (fun c1 => ?_)
  · rw [eqD_str] at c1
    have h1 : z = "epochs" := by simpa using c1
    subst h1
    exact as_retR (R := rN K (chS "epochs" Ep)) (an_lst (ds := [.int 2, .int 3, .int 4, .int 5, .int 6]) (ad_cons ae_int (ad_cons ae_int (ad_cons ae_int (ad_cons ae_int (ad_cons ae_int ad_nil))))) (by show (5 : Nat) ≤ 1000; decide)) (fun H0 v H1 m ex r => ⟨m.trans ex, rN_back m r⟩)
  refine as_end ?_
  rw [eqD_str] at c1
  have c1 : ¬ z = "epochs" := by simpa using c1
  refine as_if (at_cmpC (ac_eqS (av 0) ae_str)) (fun c2 => ?_) (fun c2 => ?_)
  · rw [eqD_str] at c2
    have h2 : z = "behind" := by simpa using c2
    have hk := hk h2
    have e : chS z Ep = rgD 1 (Ep + 1) := by unfold chS; rw [if_neg c1, if_pos h2]
    have eN : ((Ep.toNat : Nat) : Int) = Ep := by omega
    refine as_retR (R := rN K (chS z Ep)) (ar_imp (an_lc (j := 3) [("_law_at", 3)] (rngD Ep.toNat) (fun _ => true) up1 (pi_range1 rfl br (aa_cons (ae_dat (d' := .int (Ep.toNat : Nat)) (ae_dkget hu (av 1) ae_str hk) (congrArg PyData.int eN.symm)) aa_nil)) (wi_rng (by omega)) (by rw [rngD_len]; omega) nd (blkOk_by (N := n_ch) (sc := defScope s_ch) (by decide +kernel)) (by decide)
      (fun _ _ _ _ _ => pg_name (i := 3) nd rfl (Or.inl rfl)) (fun _ _ _ _ _ d hd => ats_nil) (fun _ _ _ _ _ d hd _ => ?he)) fun H0 H1 v m ex r => ?hb) (fun H0 v H1 m ex r => ⟨m.trans ex, rN_back m r⟩)
    case he =>
      unfold rngD at hd
      obtain ⟨j, _, rfl⟩ := List.mem_map.mp hd
      exact ae_add (av 3) ae_int
    case hb =>
      rw [e, ← eN, ← rgD_up]
      rw [List.filter_eq_self.mpr (fun _ _ => rfl)] at r
      exact r
  refine as_end ?_
  rw [eqD_str] at c2
  have c2 : ¬ z = "behind" := by simpa using c2
  refine as_if (at_cmpC (ac_eqS (av 0) ae_str)) (fun c3 => ?_) (fun c3 => ?_)
  · rw [eqD_str] at c3
    have h3 : z = "counts" := by simpa using c3
    subst h3
    exact as_retR (R := rN K (chS "counts" Ep)) (an_lst (ds := [.int 1, .int 2, .int 3, .int 4]) (ad_cons ae_int (ad_cons ae_int (ad_cons ae_int (ad_cons ae_int ad_nil)))) (by show (4 : Nat) ≤ 1000; decide)) (fun H0 v H1 m ex r => ⟨m.trans ex, rN_back m r⟩)
  refine as_end ?_
  rw [eqD_str] at c3
  have c3 : ¬ z = "counts" := by simpa using c3
  have eO : chS z Ep = ordTab z := by unfold chS; rw [if_neg c1, if_neg c2, if_neg c3]
  have l2 : ∀ x y : PyData, [x, y].length ≤ 1000 := fun _ _ => by show (2 : Nat) ≤ 1000; decide
  refine as_asgR (i := 2) (R := rDK (kasC K H)) (ar_disp (kas := kasC K H) (aps_cons ae_str (al_lst (ds := [.str "ahead", .str "behind"]) (ad_cons ae_str (ad_cons ae_str ad_nil)) (fun _ m => m) (l2 _ _)) (aps_cons ae_str (al_lst (ds := [.str "own", .str "fresh"]) (ad_cons ae_str (ad_cons ae_str ad_nil)) (fun _ m => m) (l2 _ _)) (aps_cons ae_str (al_lst (ds := [.str "last", .str "equal"]) (ad_cons ae_str (ad_cons ae_str ad_nil)) (fun _ m => m) (l2 _ _)) aps_nil))) (by show (["fetch", "mark", "test"] : List Str).Nodup; decide +kernel) (by show (3 : Nat) ≤ 15; decide) (fun ka hk => by
    simp only [List.mem_cons, List.not_mem_nil, or_false] at hk
    rcases hk with rfl | rfl | rfl <;> exact dks_LN)) (fun H0 H1 v m ex r => ?_) nd
  obtain ⟨pd, kvs, rfl, hp0, hp1, hkv⟩ := r
  have m : Ex H H0 := m
  have hpH : H pd = none := fresh_back m hp0
  refine as_preM (M' := mDk H pd (kasC K H)) ?_ (fun H2 m2 => ⟨(m.trans ex).trans m2, hpH, kvs, m2 _ _ hp1, hkv.mono m2⟩)
  have dk : ∀ {l : List (Str × Ab)}, (∀ ka ∈ l, ∃ ds, ka.2 = LN K H ds) → ∀ ka ∈ l, DkS ka.2 := fun h ka hk => by
    obtain ⟨ds, e⟩ := h ka hk
    rw [e]
    exact dks_LN
  have eX : ∀ {kas : List (Str × Ab)} (H2 : Hp), (mDk H pd kas).P H2 → Ex H H2 := fun H2 m => m.1
  refine as_dk2 hu (aa_cons (al_lst (ds := [.str "add", .str "set", .str "still"]) (ad_cons ae_str (ad_cons ae_str (ad_cons ae_str ad_nil))) eX (by show (3 : Nat) ≤ 1000; decide)) (aa_cons (al_lst (ds := [.str "ahead", .str "behind"]) (ad_cons ae_str (ad_cons ae_str ad_nil)) eX (l2 _ _)) aa_nil)) (av 2) ae_str (av 2) ae_str rfl rfl dks_LN dks_LN (dk ?_) (by show (3 : Nat) < 900; decide) ?_
  · intro ka hk
    simp only [List.mem_cons, List.not_mem_nil, or_false] at hk
    rcases hk with rfl | rfl | rfl <;> exact ⟨_, rfl⟩
  refine as_dk2 hu (aa_cons (al_lst (ds := [.str "next", .str "both", .str "none"]) (ad_cons ae_str (ad_cons ae_str (ad_cons ae_str ad_nil))) eX (by show (3 : Nat) ≤ 1000; decide)) (aa_cons (al_lst (ds := [.str "anywhere", .str "outside"]) (ad_cons ae_str (ad_cons ae_str ad_nil)) eX (l2 _ _)) aa_nil)) (av 2) ae_str (av 2) ae_str rfl rfl dks_LN dks_LN (dk ?_) (by show (5 : Nat) < 900; decide) ?_
  · intro ka hk
    simp only [List.mem_append, List.mem_cons, List.not_mem_nil, or_false] at hk
    rcases hk with ((rfl | rfl | rfl) | rfl) | rfl <;> exact ⟨_, rfl⟩
  refine as_dk hu (al_lst (ds := [.str "ahead", .str "behind"]) (ad_cons ae_str (ad_cons ae_str ad_nil)) eX (l2 _ _)) (av 2) ae_str rfl dks_LN (dk ?_) (by show (7 : Nat) < 1000; decide) ?_
  · intro ka hk
    simp only [List.mem_append, List.mem_cons, List.not_mem_nil, or_false] at hk
    rcases hk with ((((rfl | rfl | rfl) | rfl) | rfl) | rfl) | rfl <;> exact ⟨_, rfl⟩
  refine as_dk hu (al_lst (ds := [.str "inside", .str "late", .str "outside", .str "none"]) (ad_cons ae_str (ad_cons ae_str (ad_cons ae_str (ad_cons ae_str ad_nil)))) eX (by show (4 : Nat) ≤ 1000; decide)) (av 2) ae_str rfl dks_LN (dk ?_) (by show (8 : Nat) < 1000; decide) ?_
  · intro ka hk
    simp only [List.mem_append, List.mem_cons, List.not_mem_nil, or_false] at hk
    rcases hk with (((((rfl | rfl | rfl) | rfl) | rfl) | rfl) | rfl) | rfl <;> exact ⟨_, rfl⟩
  refine as_ret (A := LN K H (ordTab z)) (ae_dkget2 (C := LN K H [.bool false, .bool true]) hu (av 2) (av 0) (al_lst (ds := [.bool false, .bool true]) (ad_cons ae_bl (ad_cons ae_bl ad_nil)) eX (l2 _ _)) ?_ ⟨rfl, rfl, rfl, rfl⟩) (fun v H1 m h => ⟨m.1, by rw [eO]; exact h⟩)
  simp only [allW, List.mem_cons, List.not_mem_nil, or_false] at hz
  rcases hz with rfl | rfl | rfl | rfl | rfl | rfl | rfl | rfl | rfl | rfl | rfl | rfl | rfl | rfl
  · exact absurd rfl c1
  · exact absurd rfl c2
  · exact .inr ⟨rfl, fun _ _ h => h⟩
  · exact .inl ⟨_, rfl, fun _ _ h => h⟩
  · exact .inl ⟨_, rfl, fun _ _ h => h⟩
  · exact .inl ⟨_, rfl, fun _ _ h => h⟩
  · exact .inl ⟨_, rfl, fun _ _ h => h⟩
  · exact .inr ⟨rfl, fun _ _ h => h⟩
  · exact .inl ⟨_, rfl, fun _ _ h => h⟩
  · exact .inl ⟨_, rfl, fun _ _ h => h⟩
  · exact absurd rfl c3
  · exact .inl ⟨_, rfl, fun _ _ h => h⟩
  · exact .inl ⟨_, rfl, fun _ _ h => h⟩
  · exact .inl ⟨_, rfl, fun _ _ h => h⟩
end
end Ep
set_option maxHeartbeats 4000000
/-! plain: switches drawn one by one; the pool and a dict together -/
namespace Ep
open PySem PySem.Spec PyProof.Rows L2 Evl
def epK (kvs : List (Str × PyData)) : Int := match kvs.lookup ("epochs" : Str) with
  | some (.int e) => e
  | _ => 0
structure Cho (ws : List Str) (n : Nat) (kvs : List (Str × PyData)) : Prop where
  ks : kvs.map (·.1) = ws.take n
  vs : ∀ p ∈ kvs, p.2 ∈ chS p.1 (epK kvs)
theorem lookup_snoc {α : Type} {z w : Str} {d : α} : ∀ {kvs : List (Str × α)}, ¬ w = z → (kvs ++ [(z, d)]).lookup w = kvs.lookup w
  | [], h => by
    rw [List.nil_append, List.lookup_cons, beq_false_of_ne h]
  | (k, x) :: kvs, h => by
    rw [List.cons_append, List.lookup_cons, List.lookup_cons, lookup_snoc h]
theorem cho_step {ws : List Str} {n : Nat} {kvs : List (Str × PyData)} {z : Str} {d : PyData} (h0 : ∀ m, ws[m]? = some ("epochs" : Str) → m = 0) (c : Cho ws n kvs) (hz : ws[n]? = some z) (hd : d ∈ chS z (epK kvs)) : Cho ws (n + 1) (kvs ++ [(z, d)]) := by
  have hk : (kvs ++ [(z, d)]).map (·.1) = ws.take (n + 1) := by
    rw [List.map_append, c.ks, List.take_add_one, hz]
    rfl
  refine ⟨hk, fun p hp => ?_⟩
  by_cases e : z = "epochs"
  · rw [e] at hz
    have n0 := h0 n hz
    subst n0
    have hn : kvs = [] := by
      have := c.ks
      rw [List.take_zero] at this
      exact List.map_eq_nil_iff.mp this
    subst hn
    rw [List.nil_append, List.mem_singleton] at hp
    subst hp
    subst e
    exact hd
  · have e2 : epK (kvs ++ [(z, d)]) = epK kvs := by
      unfold epK
      rw [lookup_snoc (fun q => e q.symm)]
    rw [e2]
    rcases List.mem_append.mp hp with hp | hp
    · exact c.vs p hp
    · rw [List.mem_singleton] at hp
      subst hp
      exact hd
theorem lookup_in {α : Type} {z : Str} {d : α} : ∀ {kvs : List (Str × α)}, kvs.lookup z = some d → (z, d) ∈ kvs
  | [], h => by cases h
  | (k, x) :: kvs, h => by
    rw [List.lookup_cons] at h
    by_cases e : z = k
    · subst e
      rw [beq_self_eq_true] at h
      cases h
      exact List.mem_cons_self ..
    · rw [beq_false_of_ne e] at h
      exact List.mem_cons_of_mem _ (lookup_in h)
theorem lookup_no {α : Type} {z : Str} : ∀ {kvs : List (Str × α)}, z ∉ kvs.map (·.1) → kvs.lookup z = none
  | [], h => rfl
  | (k, x) :: kvs, h => by
    rw [List.map_cons, List.mem_cons, not_or] at h
    rw [List.lookup_cons, beq_false_of_ne h.1]
    exact lookup_no h.2
theorem cho_ep {ws : List Str} {n : Nat} {kvs : List (Str × PyData)} (c : Cho ws n kvs) : 0 ≤ epK kvs ∧ epK kvs ≤ 100 := by
  unfold epK
  split
  · rename_i e h
    have h1 := c.vs _ (lookup_in h)
    obtain ⟨i, q, h2, h3⟩ := mem_rgD (show PyData.int e ∈ rgD 2 7 from h1)
    cases q
    omega
  · exact ⟨by decide, by decide⟩
def ways : List Str := ["epochs", "looks", "still"]
def wsE : List Str := ["epochs", "behind", "check", "fetch", "mark", "test", "step", "told"]
def wsL : List Str := ["check", "look", "chain"]
def wsS : List Str := ["counts", "still", "read", "sleep"]
theorem ww_E : wordsW "epochs" = wsE := rfl
theorem ww_L : wordsW "looks" = wsL := rfl
theorem ww_S : wordsW "still" = wsS := rfl
theorem ww_ep {z : Str} (h : z ∈ ways) : ∀ m, (wordsW z)[m]? = some ("epochs" : Str) → m = 0 := by
  simp only [ways, List.mem_cons, List.not_mem_nil, or_false] at h
  intro m hm
  rcases h with rfl | rfl | rfl
  · rw [ww_E] at hm
    match m, hm with
    | 0, _ => rfl
    | 1, q | 2, q | 3, q | 4, q | 5, q | 6, q | 7, q => exact absurd (Option.some.inj q) (by decide)
    | m + 8, q => cases q
  · rw [ww_L] at hm
    match m, hm with
    | 0, q | 1, q | 2, q => exact absurd (Option.some.inj q) (by decide)
    | m + 3, q => cases q
  · rw [ww_S] at hm
    match m, hm with
    | 0, q | 1, q | 2, q | 3, q => exact absurd (Option.some.inj q) (by decide)
    | m + 4, q => cases q
theorem ww_all {z w : Str} (h : z ∈ ways) (hw : w ∈ wordsW z) : w ∈ allW ∧ ¬ w = "way" := by
  simp only [ways, List.mem_cons, List.not_mem_nil, or_false] at h
  have key : ∀ l : List Str, (∀ x ∈ l, x ∈ allW ∧ ¬ x = "way") → w ∈ l → w ∈ allW ∧ ¬ w = "way" := fun l hl q => hl w q
  rcases h with rfl | rfl | rfl
  · exact key wsE (by decide) hw
  · exact key wsL (by decide) hw
  · exact key wsS (by decide) hw
theorem ww_nd {z : Str} (h : z ∈ ways) : (wordsW z).Nodup := by
  simp only [ways, List.mem_cons, List.not_mem_nil, or_false] at h
  rcases h with rfl | rfl | rfl
  · exact (by decide : wsE.Nodup)
  · exact (by decide : wsL.Nodup)
  · exact (by decide : wsS.Nodup)
theorem ww_len {z : Str} (h : z ∈ ways) : (wordsW z).length ≤ 8 := by
  simp only [ways, List.mem_cons, List.not_mem_nil, or_false] at h
  rcases h with rfl | rfl | rfl
  · exact (by decide : wsE.length ≤ 8)
  · exact (by decide : wsL.length ≤ 8)
  · exact (by decide : wsS.length ≤ 8)
/-- ahead of behind stands epochs -/
theorem cho_be {z : Str} {n : Nat} {kvs : List (Str × PyData)} (h : z ∈ ways) (c : Cho (wordsW z) n kvs) (hn : (wordsW z)[n]? = some ("behind" : Str)) : kvs.lookup ("epochs" : Str) = some (.int (epK kvs)) := by
  simp only [ways, List.mem_cons, List.not_mem_nil, or_false] at h
  rcases h with rfl | rfl | rfl
  · rw [ww_E] at hn c
    have n1 : n = 1 := by
      match n, hn with
      | 1, _ => rfl
      | 0, q | 2, q | 3, q | 4, q | 5, q | 6, q | 7, q => exact absurd (Option.some.inj q) (by decide)
      | m + 8, q => cases q
    subst n1
    have hk : kvs.map (·.1) = (["epochs"] : List Str) := c.ks
    match kvs, hk, c with
    | [(k, d)], hk, c =>
      have e : k = "epochs" := by
        have : ([k] : List Str) = (["epochs"] : List Str) := hk
        exact List.head_eq_of_cons_eq this
      subst e
      have h1 := c.vs _ (List.mem_singleton.mpr rfl)
      obtain ⟨i, q, h2, h3⟩ := mem_rgD (show d ∈ rgD 2 7 from h1)
      subst q
      rfl
  · rw [ww_L] at hn
    match n, hn with
    | 0, q | 1, q | 2, q => exact absurd (Option.some.inj q) (by decide)
    | m + 3, q => cases q
  · rw [ww_S] at hn
    match n, hn with
    | 0, q | 1, q | 2, q | 3, q => exact absurd (Option.some.inj q) (by decide)
    | m + 4, q => cases q
theorem two_b {x y d : PyData} (h : d ∈ [x, y]) : d = x ∨ d = y := by simpa using h
theorem mem_bool {d : PyData} (h : d ∈ [PyData.bool false, .bool true]) : ∃ b, d = .bool b := by
  rcases two_b h with rfl | rfl
  · exact ⟨_, rfl⟩
  · exact ⟨_, rfl⟩
theorem mem_strs {d : PyData} {l : List Str} (h : d ∈ l.map PyData.str) : ∃ x, d = .str x := by
  obtain ⟨x, _, rfl⟩ := List.mem_map.mp h
  exact ⟨x, rfl⟩
theorem cons_keys {kvs : List (Str × PyData)} {w : Str} {ws : List Str} (h : kvs.map (·.1) = w :: ws) : ∃ d r, kvs = (w, d) :: r ∧ r.map (·.1) = ws := by
  cases kvs with
  | nil => cases h
  | cons p r =>
    obtain ⟨k, d⟩ := p
    rw [List.map_cons] at h
    injection h with h1 h2
    exact ⟨d, r, by rw [show k = w from h1], h2⟩
theorem nil_keys {kvs : List (Str × PyData)} (h : kvs.map (·.1) = []) : kvs = [] := List.map_eq_nil_iff.mp h
theorem cho_end {z : Str} {kvs : List (Str × PyData)} (h : z ∈ ways) (c : Cho (wordsW z) (wordsW z).length kvs) : ∃ o : Own, o.way = z ∧ kvs = o.words.map (fun w => (w, o.get w)) ∧ OkOwn o ∧ EpOk o := by
  simp only [ways, List.mem_cons, List.not_mem_nil, or_false] at h
  have hk := c.ks
  rw [List.take_length] at hk
  have hv := c.vs
  have fin : ∀ o : Own, kvs = o.words.map (fun w => (w, o.get w)) → epK kvs = o.ep → OkOwn o := fun o e1 e2 w hw => by
    have := hv (w, o.get w) (by rw [e1]; exact List.mem_map.mpr ⟨w, hw, rfl⟩)
    rw [e2] at this
    exact this
  rcases h with rfl | rfl | rfl
  · rw [ww_E] at hk
    obtain ⟨d1, r1, rfl, hk1⟩ := cons_keys hk
    obtain ⟨d2, r2, rfl, hk2⟩ := cons_keys hk1
    obtain ⟨d3, r3, rfl, hk3⟩ := cons_keys hk2
    obtain ⟨d4, r4, rfl, hk4⟩ := cons_keys hk3
    obtain ⟨d5, r5, rfl, hk5⟩ := cons_keys hk4
    obtain ⟨d6, r6, rfl, hk6⟩ := cons_keys hk5
    obtain ⟨d7, r7, rfl, hk7⟩ := cons_keys hk6
    obtain ⟨d8, r8, rfl, hk8⟩ := cons_keys hk7
    cases nil_keys hk8
    obtain ⟨i1, rfl, q1, q2⟩ := mem_rgD (show d1 ∈ rgD 2 7 from hv (("epochs" : Str), d1) (by simp))
    obtain ⟨i2, rfl, _⟩ := mem_rgD (show d2 ∈ rgD 1 (i1 + 1) from hv (("behind" : Str), d2) (by simp))
    obtain ⟨b3, rfl⟩ := mem_bool (show d3 ∈ [PyData.bool false, .bool true] from hv (("check" : Str), d3) (by simp))
    obtain ⟨x4, rfl⟩ := mem_strs (l := ["ahead", "behind"]) (show d4 ∈ _ from hv (("fetch" : Str), d4) (by simp))
    obtain ⟨x5, rfl⟩ := mem_strs (l := ["own", "fresh"]) (show d5 ∈ _ from hv (("mark" : Str), d5) (by simp))
    obtain ⟨x6, rfl⟩ := mem_strs (l := ["last", "equal"]) (show d6 ∈ _ from hv (("test" : Str), d6) (by simp))
    obtain ⟨x7, rfl⟩ := mem_strs (l := ["add", "set", "still"]) (show d7 ∈ _ from hv (("step" : Str), d7) (by simp))
    obtain ⟨b8, rfl⟩ := mem_bool (show d8 ∈ [PyData.bool false, .bool true] from hv (("told" : Str), d8) (by simp))
    exact ⟨.E ⟨i1, i2, b3, x4, x5, x6, x7, b8⟩, rfl, rfl, fin (.E ⟨i1, i2, b3, x4, x5, x6, x7, b8⟩) rfl rfl, by show 0 ≤ i1; omega, by show i1 ≤ 100; omega⟩
  · rw [ww_L] at hk
    obtain ⟨d1, r1, rfl, hk1⟩ := cons_keys hk
    obtain ⟨d2, r2, rfl, hk2⟩ := cons_keys hk1
    obtain ⟨d3, r3, rfl, hk3⟩ := cons_keys hk2
    cases nil_keys hk3
    obtain ⟨b1, rfl⟩ := mem_bool (show d1 ∈ [PyData.bool false, .bool true] from hv (("check" : Str), d1) (by simp))
    obtain ⟨x2, rfl⟩ := mem_strs (l := ["ahead", "behind"]) (show d2 ∈ _ from hv (("look" : Str), d2) (by simp))
    obtain ⟨x3, rfl⟩ := mem_strs (l := ["next", "both", "none"]) (show d3 ∈ _ from hv (("chain" : Str), d3) (by simp))
    exact ⟨.L ⟨b1, x2, x3⟩, rfl, rfl, fin (.L ⟨b1, x2, x3⟩) rfl rfl, by show (0 : Int) ≤ 0; decide, by show (0 : Int) ≤ 100; decide⟩
  · rw [ww_S] at hk
    obtain ⟨d1, r1, rfl, hk1⟩ := cons_keys hk
    obtain ⟨d2, r2, rfl, hk2⟩ := cons_keys hk1
    obtain ⟨d3, r3, rfl, hk3⟩ := cons_keys hk2
    obtain ⟨d4, r4, rfl, hk4⟩ := cons_keys hk3
    cases nil_keys hk4
    obtain ⟨i1, rfl, q1, q2⟩ := mem_rgD (show d1 ∈ rgD 1 5 from hv (("counts" : Str), d1) (by simp))
    obtain ⟨x2, rfl⟩ := mem_strs (l := ["anywhere", "outside"]) (show d2 ∈ _ from hv (("still" : Str), d2) (by simp))
    obtain ⟨x3, rfl⟩ := mem_strs (l := ["ahead", "behind"]) (show d3 ∈ _ from hv (("read" : Str), d3) (by simp))
    obtain ⟨x4, rfl⟩ := mem_strs (l := ["inside", "late", "outside", "none"]) (show d4 ∈ _ from hv (("sleep" : Str), d4) (by simp))
    exact ⟨.S ⟨i1, x2, x3, x4⟩, rfl, rfl, fin (.S ⟨i1, x2, x3, x4⟩) rfl rfl, by show (0 : Int) ≤ 0; decide, by show (0 : Int) ≤ 100; decide⟩
end Ep
set_option maxHeartbeats 4000000
/-! _law_own, _law_any_own -/
namespace Ep
open PySem PySem.Spec PyProof.Rows L2 Evl
def kasD (K : PySem.W.Frag) (dl : List (Str × PyData)) : List (Str × Ab) := dl.map fun p => (p.1, D K p.2)
theorem kasD_lookup {K : PySem.W.Frag} {z : Str} : ∀ {dl : List (Str × PyData)}, (kasD K dl).lookup z = (dl.lookup z).map (D K)
  | [] => rfl
  | (k, d) :: dl => by
    show ((k, D K d) :: kasD K dl).lookup z = _
    rw [List.lookup_cons, List.lookup_cons]
    by_cases e : z = k
    · subst e
      rw [beq_self_eq_true]
      rfl
    · rw [beq_false_of_ne e]
      exact kasD_lookup
theorem KvA.tk {K : PySem.W.Frag} {H H' : Hp} (t : Tk H H') : ∀ {dl : List (Str × PyData)} {kvs : List (Key × V)}, KvA (kasD K dl) H kvs → KvA (kasD K dl) H' kvs
  | [], _, .nil => .nil
  | (k, d) :: dl, _, .cons h r => .cons (Dt.mono t.tex h) (KvA.tk t r)
theorem kasD_snoc {K : PySem.W.Frag} {dl : List (Str × PyData)} {z : Str} {d : PyData} : kasD K (dl ++ [(z, d)]) = kasD K dl ++ [(z, D K d)] := by unfold kasD; rw [List.map_append]; rfl
/-- a pool and a dict -/
def mPD (K : PySem.W.Frag) (H0 : Hp) (l pd : Addr) (dl : List (Str × PyData)) : Mb := ⟨fun H => Ex H0 H ∧ H0 l = none ∧ H0 pd = none ∧ l ≠ pd ∧ (∃ x y : Int, H l = some (.lst [.int x, .int y])) ∧ ∃ kvs, H pd = some (.dK kvs) ∧ KvA (kasD K dl) H kvs,
  fun e ⟨h1, h2, h3, h4, ⟨x, y, h5⟩, kvs, h6, h7⟩ => ⟨h1.trans e, h2, h3, h4, ⟨x, y, e _ _ h5⟩, kvs, e _ _ h6, h7.mono e⟩⟩
theorem mPD_put {K : PySem.W.Frag} {H0 H : Hp} {l pd : Addr} {dl : List (Str × PyData)} {z : Str} {d : PyData} {v : V} (m : (mPD K H0 l pd dl).P H) (hv : Dt K H v d) (hn : dl.lookup z = none) :
    ∃ kvs, H pd = some (.dK kvs) ∧ kvs.length = dl.length ∧ (mPD K H0 l pd (dl ++ [(z, d)])).P (upd H pd (.dK (putK kvs (Sum.inr z) v))) := by
  obtain ⟨h1, h2, h3, h4, ⟨x, y, h5⟩, kvs, h6, h7⟩ := m
  refine ⟨kvs, h6, by rw [h7.length]; unfold kasD; rw [List.length_map], Ex.mut h1 h3, h2, h3, h4, ⟨x, y, by rw [upd_ne h4]; exact h5⟩, _, upd_same, ?_⟩
  refine KvA.tk (Tk.dK h6) ?_
  rw [kasD_snoc]
  exact h7.put (A := D K d) hv (by rw [kasD_lookup, hn]; rfl)
theorem ex_era {H0 H : Hp} {l : Addr} (e : Ex H0 H) (h : H0 l = none) : Ex H0 (era H [l]) := fun a o q => by
  rw [era_at]
  · exact e _ _ q
  · intro hm
    rw [List.mem_singleton] at hm
    rw [hm, h] at q
    cases q
theorem ex_era2 {H0 H : Hp} {l p : Addr} (e : Ex H0 H) (h : H0 l = none) (h2 : H0 p = none) : Ex H0 (era H [l, p]) := fun a o q => by
  rw [era_at]
  · exact e _ _ q
  · intro hm
    simp only [List.mem_cons, List.not_mem_nil, or_false] at hm
    rcases hm with hm | hm
    · rw [hm, h] at q
      cases q
    · rw [hm, h2] at q
      cases q
/-- the pool drawn from -/
theorem mPD_po {K : PySem.W.Frag} {H0 H H' : Hp} {l pd : Addr} {dl : List (Str × PyData)} {x y : Int} (m : (mPD K H0 l pd dl).P H) (m' : (mPo (era H [l]) l x y).P H') : (mPD K H0 l pd dl).P H' := by
  obtain ⟨h1, h2, h3, h4, ⟨x0, y0, h5⟩, kvs, h6, h7⟩ := m
  obtain ⟨g1, g2, g3⟩ := m'
  have t : Tk H H' := era_tk (fun p hp => by
    rw [List.mem_singleton] at hp
    subst hp
    exact ⟨_, h5, rfl⟩) g1
  refine ⟨(ex_era h1 h2).trans g1, h2, h3, h4, ⟨x, y, g3⟩, kvs, g1 _ _ ?_, h7.tk t⟩
  rw [era_at]
  · exact h6
  · intro hm
    rw [List.mem_singleton] at hm
    exact h4 hm.symm
/-- whole numbers from lo to below hi -/
def aIn (lo hi : Int) : Ab := ⟨fun _ v => ∃ i : Int, v = .int i ∧ lo ≤ i ∧ i < hi, fun _ h => h, true, fun _ _ _ _ _ h => h⟩
/-- one of ds -/
def aOf (K : PySem.W.Frag) (ds : List PyData) : Ab := ⟨fun H v => ∃ d ∈ ds, Dt K H v d, fun e ⟨d, h1, h2⟩ => ⟨d, h1, h2.mono (.of e)⟩, true, fun _ _ _ _ t ⟨d, h1, h2⟩ => ⟨d, h1, h2.mono t.tex⟩⟩
/-- a list elsewhere -/
def LE (K : PySem.W.Frag) (l : Addr) (ds : List PyData) : Ab := ⟨fun H v => ∃ p vs, v = .ref p ∧ p ≠ l ∧ H p = some (.lst vs) ∧ DtL K H vs ds, fun e ⟨p, vs, h1, h2, h3, h4⟩ => ⟨p, vs, h1, h2, e _ _ h3, h4.mono (.of e)⟩, false, fun z => by cases z⟩
theorem one_in' {x y : Int} {ds : List PyData} (h : 0 < ds.length) : oneS x y ds ∈ ds := by
  have := one_at (x := x) (y := y) h
  unfold atI at this
  cases e : ixN ds.length (takeS x y ds.length).2 with
  | none => rw [e] at this; cases this
  | some j =>
    rw [e] at this
    exact List.mem_of_getElem? this
section
variable {X : Cx} {Hs H0 : Hp} {M M' : Mb} {ρ ρ' : List Sl} {e e2 a b : Expr} {l pd : Addr} {dl : List (Str × PyData)} {n lo hi lo2 hi2 : Int} {p pos : Pos} {ds : List PyData} {A B C : Ab} {k : Nat} {As : List Ab} {es : List Expr} {x1}
theorem ae_le (h : AN X M ρ e ds) (hM : ∀ H, M.P H → ∃ o, H l = some o) : AE X M ρ e (LE X.K l ds) := weakE h fun σ H Q ⟨m, sl, q⟩ => ⟨m, sl, fun v H' ex r => by
  obtain ⟨p, vs, h1, h2, h3, h4⟩ := r
  obtain ⟨o, ho⟩ := hM H m
  exact q v H' ex ⟨p, vs, h1, fun z => (by rw [← z, h2] at ho; cases ho), h3, h4⟩⟩
theorem am_take (G : GFn X.prog X.w X.K X.mg X.base k "_law_take" (sp_tk X.K)) (hr : Room k X.A) (h1 : AE X (mK Hs (mPD X.K H0 l pd dl)) ρ e (Rf l)) (h2 : AE X (mK Hs (mPD X.K H0 l pd dl)) ρ e2 (aI X.K n)) (hn : 0 < n ∧ n < 1073741824) (hg : Gl X "_law_take" := by rfl) (he : starEach (e :: [e2]) X.env = (false, eval e X.env) :: starEach [e2] X.env := by rfl) (hs : starEach [e2] X.env = (false, eval e2 X.env) :: starEach [] X.env := by rfl) (hpl : (backTo pos (starEach [e2] X.env)).any (·.1) = false := by rfl) :
    AM X (mK Hs (mPD X.K H0 l pd dl)) ρ (.Call (.Name "_law_take" p) [e, e2] [] pos) (mK Hs (mPD X.K H0 l pd dl)) (keepT ρ) (aIn 0 n) :=
  km_call (M' := mPD X.K H0 l pd dl) G hr (aa_cons h1 (aa_cons h2 aa_nil hs) he) (fun H vs m hv => by
    obtain ⟨h1', h2', h3', h4', ⟨x, y, h5'⟩, h6⟩ := id m
    refine ⟨⟨era H [l], l, x, y, n⟩, hn, ⟨era_ex _ _, era_no (List.mem_singleton.mpr rfl), h5'⟩, hv, fun v H' m' r => ⟨mPD_po m m', _, r.int_inv, take_rng x y hn.1⟩⟩) hg (by decide) he hpl
theorem am_one (G : GFn X.prog X.w X.K X.mg X.base k "_law_one" (sp_on X.K)) (hr : Room k X.A) (h1 : AE X (mK Hs (mPD X.K H0 l pd dl)) ρ e (Rf l)) (h2 : AE X (mK Hs (mPD X.K H0 l pd dl)) ρ e2 (LE X.K l ds)) (hn : 0 < ds.length ∧ ds.length ≤ 1000) (hg : Gl X "_law_one" := by rfl) (he : starEach (e :: [e2]) X.env = (false, eval e X.env) :: starEach [e2] X.env := by rfl) (hs : starEach [e2] X.env = (false, eval e2 X.env) :: starEach [] X.env := by rfl) (hpl : (backTo pos (starEach [e2] X.env)).any (·.1) = false := by rfl) :
    AM X (mK Hs (mPD X.K H0 l pd dl)) ρ (.Call (.Name "_law_one" p) [e, e2] [] pos) (mK Hs (mPD X.K H0 l pd dl)) (keepT ρ) (aOf X.K ds) :=
  km_call (M' := mPD X.K H0 l pd dl) G hr (aa_cons h1 (aa_cons h2 aa_nil hs) he) (fun H vs m hv => by
    obtain ⟨h1', h2', h3', h4', ⟨x, y, h5'⟩, h6⟩ := id m
    have t : Tk H (era H [l]) := era_tk (fun p hp => by
      rw [List.mem_singleton] at hp
      subst hp
      exact ⟨_, h5', rfl⟩) (Ex.refl _)
    refine ⟨⟨era H [l], l, x, y, ds⟩, hn, ⟨era_ex _ _, era_no (List.mem_singleton.mpr rfl), h5'⟩, ?_, fun v H' m' r => ⟨mPD_po m m', _, one_in' hn.1, r⟩⟩
    obtain ⟨v1, r1, rfl, q1, hv⟩ := abl_cons hv
    obtain ⟨v2, r2, rfl, q2, hv⟩ := abl_cons hv
    cases abl_nil hv
    obtain ⟨p, vs, g1, g2, g3, g4⟩ := (show (LE X.K l ds).P H v2 from q2)
    refine .cons q1 (.cons ?_ .nil)
    show (LD X.K ds).P (era H [l]) v2
    exact ⟨p, vs, g1, by rw [era_at (by rw [List.mem_singleton]; exact g2)]; exact g3, g4.mono t.tex⟩) hg (by decide) he hpl
/-- c + b, where b draws -/
theorem am_add {i : Int} (ha : AE X M ρ a (aI X.K i)) (hb : AM X M ρ b M' ρ' (aIn lo hi)) : AM X M ρ (.BinOp a .Add b pos) M' ρ' (aIn (i + lo) (i + hi)) :=
  weakE (pe_op op_add ha hb) fun σ H Q ⟨m, sl, q⟩ => ⟨m, sl, fun x H1 e1 hx => ⟨M.mono e1 m, sl.mono e1, fun y H2 m2 sl2 hy => by
    cases hx.int_inv
    obtain ⟨j, rfl, h1, h2⟩ := hy
    exact ⟨i, j, rfl, rfl, q _ H2 m2 sl2 ⟨i + j, rfl, by omega, by omega⟩⟩⟩⟩
/-- a draw times 0 or 1 -/
theorem am_mulB {t : Bool} (ha : AM X M ρ a M' ρ' (aIn 0 hi)) (hb : AE X M' ρ' b (aI X.K (if t then 1 else 0))) : AM X M ρ (.BinOp a .Mult b pos) M' ρ' (⟨fun _ v => ∃ i : Int, v = .int i ∧ 0 ≤ i ∧ (i < hi ∨ i = 0) ∧ (t = false → i = 0), fun _ h => h, true, fun _ _ _ _ _ h => h⟩) :=
  weakE (pe_op op_mul ha hb) fun σ H Q ⟨m, sl, q⟩ => ⟨m, sl, fun x H1 m1 sl1 hx => ⟨m1, sl1, fun y H2 e2 hy => by
    obtain ⟨i, rfl, h1, h2⟩ := hx
    cases hy.int_inv
    cases t with
    | true => exact ⟨i, 1, rfl, rfl, .inr ⟨by decide, by decide⟩, q _ H2 (M'.mono e2 m1) (sl1.mono e2) ⟨i * 1, rfl, by omega, .inl (by omega), fun z => by cases z⟩⟩
    | false => exact ⟨i, 0, rfl, rfl, .inr ⟨by decide, by decide⟩, q _ H2 (M'.mono e2 m1) (sl1.mono e2) ⟨i * 0, rfl, by omega, .inr (by omega), fun _ => by omega⟩⟩⟩⟩
/-- arguments that draw: their values stand whatever changes -/
def PureA (A : Ab) : Prop := ∀ (H H' : Hp) (v : V), A.P H v → A.P H' v
def tMA (M : Mb) (ρ : List Sl) (M' : Mb) (ρ' : List Sl) (As : List Ab) : TA := fun σ H Q => M.P H ∧ Slots ρ H σ ∧ ∀ vs H', M'.P H' → Slots ρ' H' σ → AbL As H' vs → Q vs H'
theorem ama_nil : PA X [] (tMA M ρ M ρ []) := weakA pa_nil fun σ H Q ⟨m, sl, q⟩ => q [] H m sl .nil
theorem ama_cons {M1 M2 : Mb} {ρ1 ρ2 : List Sl} (h : AM X M ρ e M1 ρ1 A) (hp : PureA A) (hr : PA X es (tMA M1 ρ1 M2 ρ2 As)) (hs : starEach (e :: es) X.env = (false, eval e X.env) :: starEach es X.env := by rfl) : PA X (e :: es) (tMA M ρ M2 ρ2 (A :: As)) :=
  weakA (pa_cons h hr hs) fun σ H Q ⟨m, sl, q⟩ => ⟨m, sl, fun v H1 m1 sl1 a1 => ⟨m1, sl1, fun vs H2 m2 sl2 a2 => q (v :: vs) H2 m2 sl2 (.cons (hp _ _ _ a1) a2)⟩⟩
theorem am_tup (h : PA X es (tMA M ρ M' ρ' As)) (hl : As.length ≤ 1000) (hC : ∀ H vs, M'.P H → AbL As H vs → ∀ p, H p = none → C.P (upd H p (.tup vs)) (.ref p)) : AM X M ρ (.Tuple es x1 pos) M' ρ' C :=
  weakE (pe_tup h) fun σ H Q ⟨m, sl, q⟩ => ⟨m, sl, fun vs H1 m1 sl1 a1 => ⟨by rw [← a1.length]; exact sz_of (by omega), fun p hp => q _ _ (M'.mono (Ex.new hp) m1) (sl1.mono (Ex.new hp)) (hC H1 vs m1 a1 p hp)⟩⟩
/-- one of many -/
def mX {ι : Type} (pc : ι → Prop) (F : ι → Mb) : Mb := ⟨fun H => ∃ i, pc i ∧ (F i).P H, fun e ⟨i, h, q⟩ => ⟨i, h, (F i).mono e q⟩⟩
theorem as_exK {ι : Type} {pc : ι → Prop} {F : ι → Mb} {sts : List Stmt} {D : Ends} (h : ∀ i, pc i → AS X (mK Hs (F i)) ρ sts D) : AS X (mK Hs (mX pc F)) ρ sts D := ⟨fun pins s σ H D' I ⟨e, ⟨t, i, hi, m⟩, sl⟩ => (h i hi).run pins s σ H D' I ⟨e, ⟨t, m⟩, sl⟩⟩
theorem as_ex {ι : Type} {pc : ι → Prop} {F : ι → Mb} {sts : List Stmt} {D : Ends} (h : ∀ i, pc i → AS X (F i) ρ sts D) : AS X (mX pc F) ρ sts D := ⟨fun pins s σ H D' I ⟨e, ⟨i, hi, m⟩, sl⟩ => (h i hi).run pins s σ H D' I ⟨e, m, sl⟩⟩
end
end Ep
set_option maxHeartbeats 4000000
/-! _law_own, _law_any_own -/
namespace Ep
open PySem PySem.Spec PyProof.Rows L2 Evl
def mPoX (H0 : Hp) (l : Addr) : Mb := ⟨fun H => ∃ x y, (mPo H0 l x y).P H, fun e ⟨x, y, h⟩ => ⟨x, y, (mPo H0 l x y).mono e h⟩⟩
/-- the law's own dict, of some setting -/
def aOwnX (K : PySem.W.Frag) : Ab := ⟨fun H v => ∃ c, Lim c ∧ (aDK (kasO K c.own (hD c) c.nth)).P H v, fun e ⟨c, h1, h2⟩ => ⟨c, h1, (aDK _).mono e h2⟩, false, fun z => by cases z⟩
def hT (q : Nat × Nat × Nat) : PyData := .tuple [.int (q.1 : Nat), .int (q.2.1 : Nat), .int (q.2.2 : Nat)]
def HdOk (z : Str) (q : Nat × Nat × Nat) : Prop := (1 ≤ q.1 ∧ q.1 ≤ 2) ∧ (1 ≤ q.2.1 ∧ q.2.1 ≤ 2) ∧ q.2.2 ≤ 2 ∧ (z = "epochs" ∨ q.2.2 = 0)
def aHd (K : PySem.W.Frag) (z : Str) : Ab := ⟨fun H v => ∃ q, HdOk z q ∧ Dt K H v (hT q), fun e ⟨q, h1, h2⟩ => ⟨q, h1, h2.mono (.of e)⟩, true, fun _ _ _ _ t ⟨q, h1, h2⟩ => ⟨q, h1, h2.mono t.tex⟩⟩
theorem w_nh : ∀ x ∈ allW, ¬ x = "hands" ∧ ¬ x = "most" := by decide
theorem look_way {kvs : List (Str × PyData)} {z w : Str} (h : ¬ z = "way") : ((("way" : Str), PyData.str w) :: kvs).lookup z = kvs.lookup z := by rw [List.lookup_cons, beq_false_of_ne h]
abbrev dlO (o : Own) : List (Str × PyData) := (("way" : Str), PyData.str o.way) :: o.words.map fun w => (w, o.get w)
abbrev dlH (o : Own) (q : Nat × Nat × Nat) : List (Str × PyData) := dlO o ++ [(("hands" : Str), hT q)]
abbrev dlM (o : Own) (q : Nat × Nat × Nat) (n : Nat) : List (Str × PyData) := dlH o q ++ [(("most" : Str), PyData.int (n : Nat))]
theorem kasO_eq {K : PySem.W.Frag} {o : Own} {hd : PyData} {m : Int} : kasD K (((("way" : Str), PyData.str o.way) :: o.words.map (fun w => (w, o.get w))) ++ [(("hands" : Str), hd)] ++ [(("most" : Str), PyData.int m)]) = kasO K o hd m := by
  unfold kasD kasO
  simp only [List.map_append, List.map_cons, List.map_nil, List.map_map, List.cons_append, List.append_assoc, List.nil_append]
  rfl
section
variable {P : Program} {w : World} {K : PySem.W.Frag} {mg : Str → Option Value} {base : Heap} {a : Adr}
abbrev s_ow : Stmt := top 68
abbrev n_ow : List Str := ["_law_pool_here", "_law_way", "_law_own_here", "_law_word"]
theorem sc_ow : FnScope n_ow ["_law_pool_here", "_law_way"] (defScope s_ow) := ⟨rfl, rfl, rfl, by decide +kernel, rfl, by decide +kernel, by decide +kernel⟩
structure OwI where
  (H0 : Hp) (l : Addr) (z : Str)
abbrev sp_ow (K : PySem.W.Frag) : Sp := spK (ι := OwI) (fun i => i.z ∈ ways) (fun i => [Rf i.l, aS K i.z]) (fun i => mPoX i.H0 i.l) (fun i => mE i.H0) fun _ => aOwnX K
theorem ok_ow {f : Addr} {fd : FuncData} (F : Fun K "_law_own" "_law_own" s_ow f fd) (Gs : GFn P w K mg base 1 "_law_switches" (sp_sw K)) (Gc : GFn P w K mg base 1 "_law_choices" (sp_ch K)) (Go : GFn P w K mg base 2 "_law_one" (sp_on K)) (Gt : GFn P w K mg base 1 "_law_take" (sp_tk K)) (bi : mg "int" = none) : FnOk P w K mg base CX0 3 f fd ["_law_pool_here", "_law_way"] (sp_ow K) := by
  refine fn_K F sc_ow (fun _ => rfl) fun cdv A outer st0 H E hr i hi => ?_
  obtain ⟨H0, l, z⟩ := i
  have hz : z ∈ ways := hi
  have hu := hu_of hr
  have nd := sc_ow.nd
  have hr1 : Room 1 _ := hr.mono (by decide)
  refine as_asgR (i := 2) (R := rDK (kasD K [("way", .str z)])) (ar_disp (kas := kasD K [("way", .str z)]) (aps_cons ae_str (av 1) aps_nil) (by show (["way"] : List Str).Nodup; decide +kernel) (by show (1 : Nat) ≤ 15; decide) (fun ka hk => by
    rw [List.mem_singleton.mp hk]
    exact dks_D)) (fun Ha H1 v m ex r => ?_) nd
  obtain ⟨pd, kvs, rfl, hp0, hp1, hkv⟩ := r
  obtain ⟨t0, x0, y0, m1, m2, m3⟩ := (show (mK H (mPoX H0 l)).P Ha from m)
  have hlp : l ≠ pd := fun q => by rw [q, hp0] at m3; cases m3
  have hpd0 : H0 pd = none := fresh_back m1 hp0
  refine as_preM (M' := mK H (mPD K H0 l pd [("way", .str z)])) ?_ (fun H2 e2 => ⟨(t0.trans (.of ex)).trans (.of e2), (m1.trans ex).trans e2, m2, hpd0, hlp, ⟨x0, y0, e2 _ _ (ex _ _ m3)⟩, kvs, e2 _ _ hp1, hkv.mono e2⟩)
  refine as_forL (items := (wordsW z).map .str) (R := rN K ((wordsW z).map .str)) (an_call (ds := (wordsW z).map .str) Gs hr1 z trivial (aa_cons (av 1) aa_nil)) (fun _ H1 _ i => mK H (mX (fun kvs => Cho (wordsW z) i kvs) fun kvs => mPD K (era H1 [l, pd]) l pd (("way", .str z) :: kvs)))
    [.val (Rf l), .val (aS K z), .val (Vl (.ref pd)), .any] (fun d => [.val (Rf l), .val (aS K z), .val (Vl (.ref pd)), .val (D K d)]) ?_ ?_ (.same (.same (.same (.same .nil)))) (fun M d => ag_name (i := 3) nd) ?_ ?_
  · rintro Hb Hc v ⟨mb, eb, r⟩
    obtain ⟨tc, j1, j2, j3, j4, ⟨x, y, j5⟩, kvs', j6, j7⟩ := (mK H (mPD K H0 l pd [("way", .str z)])).mono eb mb
    exact ⟨tc, [], ⟨rfl, fun p hp => by cases hp⟩, era_ex _ _, era_no (by simp), era_no (by simp), hlp, ⟨x, y, j5⟩, kvs', j6, j7⟩
  · rintro Hb Hc v ⟨mb, eb, p, vs, rfl, r0, r1, r2⟩
    obtain ⟨tb, b1, b2, b3, b4, ⟨x, y, b5⟩, kvs', b6, b7⟩ := id mb
    have n1 : p ≠ l := fun q => by rw [q, b5] at r0; cases r0
    have n2 : p ≠ pd := fun q => by rw [q, b6] at r0; cases r0
    refine ⟨p, vs, rfl, by rw [r2.length], fun i H2 m2 => ?_⟩
    obtain ⟨_, kvs2, _, g1, _⟩ := m2
    have t : Tk Hc H2 := era_tk (fun q hq => by
      simp only [List.mem_cons, List.not_mem_nil, or_false] at hq
      rcases hq with rfl | rfl
      · exact ⟨_, eb _ _ b5, rfl⟩
      · exact ⟨_, eb _ _ b6, rfl⟩) g1
    refine ⟨.of (g1 _ _ ?_), r2.mono t.tex⟩
    rw [era_at (by simp [n1, n2])]
    exact r1
  · rintro Hb Hc v hL i d hd
    rw [List.getElem?_map] at hd
    obtain ⟨y, hy, rfl⟩ := Option.map_eq_some_iff.mp hd
    have hyw : y ∈ wordsW z := List.mem_of_getElem? hy
    obtain ⟨ya, yw⟩ := ww_all hz hyw
    refine as_exK fun kvs2 hc => ?_
    have hlen : kvs2.length ≤ 8 := by
      have := congrArg List.length hc.ks
      rw [List.length_map, List.length_take] at this
      have := ww_len hz
      omega
    have hno : ((("way" : Str), PyData.str z) :: kvs2).lookup y = none := by
      rw [look_way yw]
      refine lookup_no ?_
      rw [hc.ks]
      intro q
      have nd := ww_nd hz
      have e1 : (wordsW z).take (i + 1) = (wordsW z).take i ++ [y] := by rw [List.take_add_one, hy]; rfl
      have e2 := (List.take_sublist (i + 1) (wordsW z)).nodup nd
      rw [e1, List.nodup_append] at e2
      exact e2.2.2 _ q y (List.mem_singleton.mpr rfl) rfl
    refine as_dput (M1 := mK H (mPD K (era Hc [l, pd]) l pd (("way", .str z) :: kvs2))) (M' := mK H (mX (fun kvs => Cho (wordsW z) (i + 1) kvs) fun kvs => mPD K (era Hc [l, pd]) l pd (("way", .str z) :: kvs))) (A := aOf K (chS y (epK kvs2))) hu
      (am_one Go hr (av 0) (ae_le (an_call (ds := chS y (epK kvs2)) Gc hr1 ⟨y, epK kvs2, kasD K (("way", .str z) :: kvs2)⟩ ⟨ya, cho_ep hc, fun e => ?h1⟩ (aa_cons (av 3) (aa_cons (ae_view (B := aDK (kasD K (("way", .str z) :: kvs2))) (av 2) fun H2 v m e => ?h2) aa_nil))) fun H2 m => ?h3) ?h4)
      (ae_view (B := Rf pd) (av 2) fun _ _ _ e => e) (av 3) (fun H2 v m av2 => ?h5) ?h6
    case h1 =>
      have e : y = "behind" := e
      subst e
      rw [kasD_lookup, look_way (by decide), cho_be hz hc hy]
      rfl
    case h2 =>
      obtain ⟨_, _, _, _, _, _, kvs3, g1, g2⟩ := m
      exact ⟨pd, kvs3, e, g1, g2⟩
    case h3 =>
      obtain ⟨_, _, _, _, _, ⟨x, y, g⟩, _⟩ := m
      exact ⟨_, g⟩
    case h4 =>
      have key : ∀ w ∈ allW, (0 < (ordTab w).length ∧ (ordTab w).length ≤ 1000) := by decide
      unfold chS
      split
      · decide
      · split
        · rename_i e
          have hb := cho_be hz hc (e ▸ hy)
          have := hc.vs _ (lookup_in hb)
          obtain ⟨q, e3, q1, q2⟩ := mem_rgD (show PyData.int (epK kvs2) ∈ rgD 2 7 from this)
          cases e3
          unfold rgD
          rw [List.length_map, List.length_range]
          omega
        · split
          · decide
          · exact key y ya
    case h5 =>
      obtain ⟨d, hd, hv⟩ := av2
      obtain ⟨kvs3, g1, g2, g3⟩ := mPD_put m.2 hv hno
      refine ⟨kvs3, g1, by rw [g2]; simp; omega, m.1.trans (Tk.dK g1), kvs2 ++ [(y, d)], cho_step (ww_ep hz) hc hy hd, ?_⟩
      exact g3
    case h6 =>
      exact as_lp (fun H2 m2 => m2) (.same (.same (.same (.any .nil))))
  · rintro Hb Hc v ⟨mb, eb, r⟩
    obtain ⟨tb, b1, b2, b3, b4, ⟨x, y, b5⟩, kvs', b6, b7⟩ := id mb
    have eF : Ex H0 (era Hc [l, pd]) := ex_era2 (b1.trans eb) b2 b3
    rw [List.length_map]
    refine as_exK fun kvs2 hc => ?_
    obtain ⟨o, ow, rfl, oo, oe⟩ := cho_end hz hc
    subst ow
    have hw8 : o.words.length ≤ 8 := by cases o <;> (show _ ≤ 8) <;> (first | exact (by decide : (8 : Nat) ≤ 8) | exact (by decide : (3 : Nat) ≤ 8) | exact (by decide : (4 : Nat) ≤ 8))
    have hnl : ∀ y : Str, ¬ y = "way" → (∀ x ∈ allW, ¬ x = y) → ((("way" : Str), PyData.str o.way) :: o.words.map fun w => (w, o.get w)).lookup y = none := fun y h1 h2 => by
      rw [look_way h1]
      refine lookup_no ?_
      rw [List.map_map]
      intro q
      obtain ⟨x, hx, e⟩ := List.mem_map.mp q
      have e : x = y := e
      rw [← words_way] at hx
      exact h2 x (ww_all hz hx).1 e
    refine as_dput (M1 := mK H (mPD K (era Hc [l, pd]) l pd (dlO o))) (M' := mK H (mX (HdOk o.way) fun q => mPD K (era Hc [l, pd]) l pd (dlH o q))) (A := aHd K o.way) hu
      (am_tup (ama_cons (am_add ae_int (am_take (n := 2) Gt hr1 (av 0) ae_int ⟨by decide, by decide⟩)) (fun _ _ _ h => h) (ama_cons (am_add ae_int (am_take (n := 2) Gt hr1 (av 0) ae_int ⟨by decide, by decide⟩)) (fun _ _ _ h => h) (ama_cons (am_mulB (am_take (n := 3) Gt hr1 (av 0) ae_int ⟨by decide, by decide⟩) (ae_tointB bi (ae_cmpC (ac_eqS (av 1) ae_str)))) (fun _ _ _ h => h) ama_nil))) (by show (3 : Nat) ≤ 1000; decide) (fun H2 vs m hv p hp => ?t1))
      (ae_view (B := Rf pd) (av 2) fun _ _ _ e => e) ae_str (fun H2 v m av2 => ?t2) ?t3
    case t1 =>
      obtain ⟨v1, r1, rfl, ⟨i1, rfl, p1, p2⟩, hv1⟩ := abl_cons hv
      obtain ⟨v2, r2, rfl, ⟨i2, rfl, p3, p4⟩, hv2⟩ := abl_cons hv1
      obtain ⟨v3, r3, rfl, ⟨i3, rfl, p5, p6, p7⟩, hv3⟩ := abl_cons hv2
      cases abl_nil hv3
      refine ⟨(i1.toNat, i2.toNat, i3.toNat), ⟨by show 1 ≤ i1.toNat ∧ i1.toNat ≤ 2; omega, by show 1 ≤ i2.toNat ∧ i2.toNat ≤ 2; omega, by show i3.toNat ≤ 2; omega, ?_⟩, .tup (st_of upd_same) ?_⟩
      · by_cases e : o.way = "epochs"
        · exact .inl e
        · refine .inr ?_
          have := p7 (by rw [eqD_str]; exact decide_eq_false e)
          show i3.toNat = 0
          omega
      · have e1 : ((i1.toNat : Nat) : Int) = i1 := by omega
        have e2 : ((i2.toNat : Nat) : Int) = i2 := by omega
        have e3 : ((i3.toNat : Nat) : Int) = i3 := by omega
        show DtL K _ [.int i1, .int i2, .int i3] [.int (i1.toNat : Nat), .int (i2.toNat : Nat), .int (i3.toNat : Nat)]
        rw [e1, e2, e3]
        exact .cons (.int _) (.cons (.int _) (.cons (.int _) .nil))
    case t2 =>
      obtain ⟨q, hq, hv⟩ := av2
      obtain ⟨kvs3, g1, g2, g3⟩ := mPD_put (z := "hands") m.2 hv (hnl "hands" (by decide) fun x hx => (w_nh x hx).1)
      exact ⟨kvs3, g1, by rw [g2]; simp; omega, m.1.trans (Tk.dK g1), q, hq, g3⟩
    case t3 =>
      refine as_exK fun q hq => ?_
      refine as_dput (M1 := mK H (mPD K (era Hc [l, pd]) l pd (dlH o q))) (M' := mK H (mX (fun n : Nat => 1 ≤ n ∧ n ≤ 6) fun n => mPD K (era Hc [l, pd]) l pd (dlM o q n))) (A := aIn (1 + 0) (1 + 6)) hu
        (am_add ae_int (am_take (n := 6) Gt hr1 (av 0) ae_int ⟨by decide, by decide⟩)) (ae_view (B := Rf pd) (av 2) fun _ _ _ e => e) ae_str (fun H2 v m av2 => ?u2) ?u3
      case u2 =>
        obtain ⟨i, rfl, p1, p2⟩ := av2
        have e1 : ((i.toNat : Nat) : Int) = i := by omega
        obtain ⟨kvs3, g1, g2, g3⟩ := mPD_put (z := "most") (d := .int (i.toNat : Nat)) (v := .int i) m.2 (by rw [e1]; exact .int _) (by
          rw [lookup_snoc (by decide)]
          exact hnl "most" (by decide) fun x hx => (w_nh x hx).2)
        exact ⟨kvs3, g1, by rw [g2]; simp; omega, m.1.trans (Tk.dK g1), i.toNat, ⟨by omega, by omega⟩, g3⟩
      case u3 =>
        refine as_exK fun n hn => ?_
        refine as_retC (am_of (ae_view (B := Rf pd) (av 2) fun _ _ _ e => e)) (fun H2 v m h => ⟨⟨m.1, eF.trans m.2.1⟩, ⟨o, q.1, q.2.1, q.2.2, n⟩, ?_, ?_⟩)
        · refine ⟨oe, oo, hq.1, hq.2.1, hq.2.2.1, ?_, hn⟩
          rcases hq.2.2.2 with e | e
          · cases o with
            | E o => exact .inl ⟨o, rfl⟩
            | L o => exact absurd (show ("looks" : Str) = "epochs" from e) n_le
            | S o => exact absurd (show ("still" : Str) = "epochs" from e) n_se
          · exact .inr e
        · obtain ⟨_, _, _, _, _, _, kvs3, g1, g2⟩ := m
          rw [kasO_eq] at g2
          exact ⟨pd, kvs3, h, g1, g2⟩
end
end Ep
set_option maxHeartbeats 4000000
/-! _law_any_own -/
namespace Ep
open PySem PySem.Spec PyProof.Rows L2 Evl
section
variable {X : Cx} {Hs H0 : Hp} {M M' M2 : Mb} {ρ ρ' ρ2 : List Sl} {e a b : Expr} {es : List Expr} {A : Ab} {As : List Ab} {pos : Pos} {x : Str} {p : Pos} {k : Nat} {ι : Type} {pc : ι → Prop} {pre : ι → List Ab} {Ma Mz : ι → Mb} {res : ι → Ab} {l : Addr} {n : Int} {ds : List PyData}
/-- the last argument -/
theorem ama_last {M1 M2 : Mb} {ρ1 ρ2 : List Sl} (h : AM X M1 ρ1 e M2 ρ2 A) (hs : starEach [e] X.env = (false, eval e X.env) :: starEach [] X.env := by rfl) : PA X [e] (tMA M1 ρ1 M2 ρ2 [A]) :=
  weakA (pa_cons h pa_nil hs) fun σ H Q ⟨m, sl, q⟩ => ⟨m, sl, fun v H1 m1 sl1 a1 => q [v] H1 m1 sl1 (.cons a1 .nil)⟩
/-- a call whose arguments draw -/
theorem km_callM (G : GFn X.prog X.w X.K X.mg X.base k x (spK pc pre Ma Mz res)) (hr : Room k X.A) (ha : PA X (e :: es) (tMA (mK Hs M) ρ (mK Hs M2) ρ2 As))
    (hM : ∀ H vs, M2.P H → AbL As H vs → ∃ i, pc i ∧ (Ma i).P H ∧ AbL (pre i) H vs ∧ ∀ v H', (Mz i).P H' → (res i).P H' v → M'.P H' ∧ A.P H' v)
    (hg : Gl X x := by rfl) (hdb : (x == ("__debug__" : Str)) = false := by decide) (he : starEach (e :: es) X.env = (false, eval e X.env) :: starEach es X.env := by rfl) (hpl : (backTo pos (starEach es X.env)).any (·.1) = false := by rfl) :
    AM X (mK Hs M) ρ (.Call (.Name x p) (e :: es) [] pos) (mK Hs M') (keepT ρ2) A := by
  obtain ⟨f, fd, ps, F, hm, kp, bb⟩ := G
  refine weakE (pe_call F hr hg hm kp bb .nil pass0 ha hdb he hpl) fun σ H Q ⟨m, sl, q⟩ => ⟨m, sl, fun vs H1 m1 sl1 a1 => ?_⟩
  obtain ⟨i, h1, h2, h3, h4⟩ := hM H1 vs m1.2 a1
  rw [List.append_nil]
  exact ⟨i, h1, h2, h3, fun v H' t m' r => by
    obtain ⟨g1, g2⟩ := h4 v H' m' r
    exact q v H' ⟨m1.1.trans t, g1⟩ (sl1.keep t) g2⟩
theorem po_take (G : GFn X.prog X.w X.K X.mg X.base k "_law_take" (sp_tk X.K)) (hr : Room k X.A) (h1 : AE X (mK Hs (mPoX H0 l)) ρ a (Rf l)) (h2 : AE X (mK Hs (mPoX H0 l)) ρ b (aI X.K n)) (hn : 0 < n ∧ n < 1073741824) (hg : Gl X "_law_take" := by rfl) (he : starEach (a :: [b]) X.env = (false, eval a X.env) :: starEach [b] X.env := by rfl) (hs : starEach [b] X.env = (false, eval b X.env) :: starEach [] X.env := by rfl) (hpl : (backTo pos (starEach [b] X.env)).any (·.1) = false := by rfl) :
    AM X (mK Hs (mPoX H0 l)) ρ (.Call (.Name "_law_take" p) [a, b] [] pos) (mK Hs (mPoX H0 l)) (keepT ρ) (aIn 0 n) :=
  km_call (M' := mPoX H0 l) G hr (aa_cons h1 (aa_cons h2 aa_nil hs) he) (fun H vs ⟨x, y, m⟩ hv => ⟨⟨H0, l, x, y, n⟩, hn, m, hv, fun v H' m' r => ⟨⟨_, _, m'⟩, _, r.int_inv, take_rng x y hn.1⟩⟩) hg (by decide) he hpl
/-- a written list's item, drawn -/
theorem po_ix (ha : AN X (mK Hs (mPoX H0 l)) ρ a ds) (hb : ∀ G, AM X (mK Hs (mPoX G l)) ρ b (mK Hs (mPoX G l)) (keepT ρ) (aIn 0 ds.length)) (hs : PlainIx b := by exact fun _ _ => rfl) : AM X (mK Hs (mPoX H0 l)) ρ (.Subscript a b pos) (mK Hs (mPoX H0 l)) (keepT ρ) (aOf X.K ds) := by
  have B : PE X b (fun σ H Q => ∃ G, tM (mK Hs (mPoX G l)) ρ (mK Hs (mPoX G l)) (keepT ρ) (aIn 0 ds.length) σ H Q) := ⟨fun pins s σ H Q I ⟨G, h⟩ => (hb G).run pins s σ H Q I h⟩
  refine weakE (pe_ix ix_list ha B hs) fun σ H Q ⟨m, sl, q⟩ => ⟨m, sl, fun v H1 e1 r => ?_⟩
  obtain ⟨p, vs, rfl, r0, r1, r2⟩ := r
  obtain ⟨t0, x, y, m1, m2, m3⟩ := m
  have n1 : p ≠ l := fun z => by rw [z, m3] at r0; cases r0
  have t1 : Tk H1 (era H1 [l]) := era_tk (fun q hq => by
    rw [List.mem_singleton] at hq
    subst hq
    exact ⟨_, e1 _ _ m3, rfl⟩) (Ex.refl _)
  refine ⟨era H1 [l], ⟨t0.trans (.of e1), x, y, era_ex _ _, era_no (List.mem_singleton.mpr rfl), e1 _ _ m3⟩, sl.mono e1, fun u H2 mm sl2 hu => ?_⟩
  obtain ⟨t2, x2, y2, g1, g2, g3⟩ := mm
  obtain ⟨i, rfl, i0, i1⟩ := hu
  have hp : H2 p = some (.lst vs) := g1 _ _ (by rw [era_at (by rw [List.mem_singleton]; exact n1)]; exact r1)
  have hd : DtL X.K H2 vs ds := (r2.mono t1.tex).mono (.of g1)
  have hl : i.toNat < vs.length := by rw [hd.length]; omega
  have hat : atI vs i = some (vs[i.toNat]) := by
    unfold atI ixN
    have c1 : i < (vs.length : Int) := by omega
    rw [if_pos i0, if_pos c1]
    simp [List.getElem?_eq_getElem hl]
  obtain ⟨d, d1, d2⟩ := hd.getV (List.getElem?_eq_getElem hl)
  exact ⟨p, vs, i, _, rfl, rfl, .of hp, hat, q _ H2 ⟨t2, x2, y2, (ex_era (m1.trans e1) m2).trans g1, m2, g3⟩ sl2 ⟨d, List.mem_of_getElem? d1, d2⟩⟩
end
section
variable {P : Program} {w : World} {K : PySem.W.Frag} {mg : Str → Option Value} {base : Heap} {a : Adr}
abbrev s_ao : Stmt := top 69
theorem sc_ao : FnScope ["_law_pool_here"] ["_law_pool_here"] (defScope s_ao) := ⟨rfl, rfl, rfl, by decide +kernel, rfl, by decide +kernel, by decide +kernel⟩
abbrev sp_ao (K : PySem.W.Frag) : Sp := spK (ι := Hp × Addr) (fun _ => True) (fun i => [Rf i.2]) (fun i => mPoX i.1 i.2) (fun i => mE i.1) fun _ => aOwnX K
theorem ok_ao {f : Addr} {fd : FuncData} (F : Fun K "_law_any_own" "_law_any_own" s_ao f fd) (Go : GFn P w K mg base 3 "_law_own" (sp_ow K)) (Gt : GFn P w K mg base 1 "_law_take" (sp_tk K)) : FnOk P w K mg base CX0 4 f fd ["_law_pool_here"] (sp_ao K) := by
  refine fn_K F sc_ao (fun _ => rfl) fun cdv A outer st0 H E hr i hi => ?_
  obtain ⟨H0, l⟩ := i
  have hr1 : Room 1 _ := hr.mono (by decide)
  refine as_retC (km_callM (M2 := mPoX H0 l) (M' := mE H0) (A := aOwnX K) Go hr (ama_cons (am_of (av 0)) (fun _ _ _ h => h) (ama_last (po_ix (ds := [.str "epochs", .str "looks", .str "still", .str "epochs"]) (an_lst (ad_cons ae_str (ad_cons ae_str (ad_cons ae_str (ad_cons ae_str ad_nil)))) (by show (4 : Nat) ≤ 1000; decide)) (fun G => po_take Gt hr1 (av 0) ae_int ⟨by decide, by decide⟩)))) (fun H2 vs m hv => ?_)) (fun H2 v m h => ⟨m, h⟩)
  obtain ⟨v1, r1, rfl, q1, hv1⟩ := abl_cons hv
  obtain ⟨v2, r2, rfl, q2, hv2⟩ := abl_cons hv1
  cases abl_nil hv2
  obtain ⟨d, hd, hv⟩ := q2
  have key : ∃ z, d = .str z ∧ z ∈ ways := by
    simp only [List.mem_cons, List.not_mem_nil, or_false] at hd
    rcases hd with rfl | rfl | rfl | rfl
    · exact ⟨_, rfl, by decide⟩
    · exact ⟨_, rfl, by decide⟩
    · exact ⟨_, rfl, by decide⟩
    · exact ⟨_, rfl, by decide⟩
  obtain ⟨z, rfl, hz⟩ := key
  exact ⟨⟨H0, l, z⟩, hz, m, .cons q1 (.cons hv .nil), fun v H' m' r => ⟨m', r⟩⟩
end
end Ep
set_option maxHeartbeats 4000000
/-! _law_book -/
namespace Ep
open PySem PySem.Spec PyProof.Rows L2 Evl
theorem fold_ok {o0 o2 : Own} (hl : o0.like o2) (he : o0.ep = o2.ep) (h0 : OkOwn o0) (h2 : OkOwn o2) : ∀ ws : List Str, (ws.foldl (fun o z => o.put o2 z) o0).like o2 ∧ (ws.foldl (fun o z => o.put o2 z) o0).ep = o2.ep ∧ OkOwn (ws.foldl (fun o z => o.put o2 z) o0) := by
  intro ws
  induction ws generalizing o0 with
  | nil => exact ⟨hl, he, h0⟩
  | cons z ws ih => exact ih (like_put z hl) (ep_put z hl he) (ok_put z hl he h0 h2)
section
variable {P : Program} {w : World} {K : PySem.W.Frag} {mg : Str → Option Value} {base : Heap} {a : Adr}
abbrev s_lk : Stmt := top 70
abbrev n_lk : List Str := ["_law_own_here", "_law_book_here", "_law_word"]
theorem sc_lk : FnScope n_lk ["_law_own_here"] (defScope s_lk) := ⟨rfl, rfl, rfl, by decide +kernel, rfl, by decide +kernel, by decide +kernel⟩
theorem ok_lk {f : Addr} {fd : FuncData} (F : Fun K "_law_book" "_law_book" s_lk f fd) (Gs : GFn P w K mg base 1 "_law_switches" (sp_sw K)) (Gb : GBk P w K mg base a) (Gi : GSetO P w K mg base a 5) : FnOk P w K mg base CX0 12 f fd ["_law_own_here"] (sp_lk K a) := by
  refine fn_G F sc_lk (fun _ => rfl) fun cdv A outer s H E hr c hi => ?_
  have hr1 : Room 1 _ := hr.mono (by decide)
  have hr5 : Room 5 _ := hr.mono (by decide)
  have hr9 : Room 9 _ := hr.mono (by decide)
  have hu := hu_of hr
  have nd := sc_lk.nd
  have oe : EpOk c.own := hi.1
  have oo : OkOwn c.own := hi.2.1
  refine as_at 0 (A := aDK (kasO K c.own (hD c) c.nth)) rfl fun Hb v0 mb h0 => ?_
  have mb : Ex H Hb := mb
  have tail : ∀ (o0 : Own) (Ha Hx : Hp) (b : Addr), o0.like c.own → o0.ep = c.own.ep → OkOwn o0 → Ex Hb Ha → Ex Ha Hx → Ha b = none → IsBook a Hx b o0 → AS (cxOf CX0 P w K mg base n_lk "_law_book" (defScope s_lk) f cdv A outer s H E).nox (mE Hx) [.val (Vl v0), .val (Vl (.ref b)), .any] ((defBody s_lk).drop 1) (rtG H (rBk a c.own)) := by
    intro o0 Ha Hx b hl he h0' e1 e2 nb hb
    have nb' : Hb b = none := fresh_back e1 nb
    refine as_forL (items := (wordsW c.own.way).map .str) (R := rN K ((wordsW c.own.way).map .str)) (an_call (ds := (wordsW c.own.way).map .str) Gs hr1 c.own.way trivial (aa_cons (ae_dkget hu (ae_at (A := aDK (kasO K c.own (hD c) c.nth)) (av 0) (fun H2 m2 => (e1.trans e2).trans m2) h0) ae_str kas_way) aa_nil))
      (fun _ H1 _ i => mK H1 (mBk a (era H1 [b]) b (((wordsW c.own.way).take i).foldl (fun o z => o.put c.own z) o0)))
      [.val (Vl v0), .val (Rf b), .any] (fun d => [.val (Vl v0), .val (Rf b), .val (D K d)]) ?_ ?_ (.same (.same (.any .nil))) (fun M d => ag_name (i := 2) nd) ?_ ?_
    · rintro Hc Hd v ⟨mc, ec, r⟩
      exact ⟨Tk.refl _, era_ex _ _, era_no (List.mem_singleton.mpr rfl), hb.mono ((show Ex Hx Hc from mc).trans ec)⟩
    · rintro Hc Hd v ⟨mc, ec, p, vs, rfl, r0, r1, r2⟩
      obtain ⟨dx, d', l', q1, q2⟩ := id hb
      have n1 : p ≠ b := fun z => by rw [z, (show Ex Hx Hc from mc) _ _ q1] at r0; cases r0
      refine ⟨p, vs, rfl, by rw [r2.length], fun i H2 m2 => ⟨.of (m2.2.1 _ _ ?_), r2.mono m2.1.tex⟩⟩
      rw [era_at (by rw [List.mem_singleton]; exact n1)]
      exact r1
    · rintro Hc Hd v ⟨mc, ec, r⟩ i d hd
      rw [List.getElem?_map] at hd
      obtain ⟨y, hy, rfl⟩ := Option.map_eq_some_iff.mp hd
      have hyw : y ∈ c.own.words := by rw [← words_way]; exact List.mem_of_getElem? hy
      obtain ⟨g1, g2, g3⟩ := fold_ok hl he h0' oo ((wordsW c.own.way).take i)
      have ex0 : ∀ H2, (mK Hd (mBk a (era Hd [b]) b (((wordsW c.own.way).take i).foldl (fun o z => o.put c.own z) o0))).P H2 → Ex Hb H2 := fun H2 m2 => (ex_era (((e1.trans e2).trans mc).trans ec) nb').trans m2.2.1
      refine as_tgt (am_of (ae_dkget hu (ae_at (A := aDK (kasO K c.own (hD c) c.nth)) (av 0) ex0 h0) (av 2) (kas_word hyw)))
        (ag_setO (M := mE H) (M' := mE H) Gi hr5 (av 1) (av 2) g1 (by rw [words_like g1]; exact hyw) ⟨?_, ok_put y g1 g2 g3 oo⟩) ?_
      · have := ep_put y g1 g2
        show 0 ≤ _ ∧ _ ≤ 100
        rw [this]
        exact oe
      · refine as_lp (fun H2 m2 => ?_) (.same (.same (.any .nil)))
        have e : (wordsW c.own.way).take (i + 1) = (wordsW c.own.way).take i ++ [y] := by rw [List.take_add_one, hy]; rfl
        show (mK Hd (mBk a (era Hd [b]) b (((wordsW c.own.way).take (i + 1)).foldl (fun o z => o.put c.own z) o0))).P H2
        rw [e, List.foldl_append]
        exact m2
    · rintro Hc Hd v ⟨mc, ec, r⟩
      rw [List.length_map, List.take_length, words_way, put_all hl]
      refine as_ret (av 1) (fun v H2 m h => ?_)
      have m1 : Ex Hb H2 := (ex_era (((e1.trans e2).trans mc).trans ec) nb').trans m.2.1
      exact ⟨mb.trans m1, b, h, fresh_back mb nb', m.2.2.2⟩
  have own0 : ∀ {X : Cx} {e : Expr}, X.K = K → AE X (mE Hb) [.val (Vl v0), .any, .any] e (Vl v0) → AE X (mE Hb) [.val (Vl v0), .any, .any] e (aDK (kasO K c.own (hD c) c.nth)) := fun _ h => ae_at (A := aDK (kasO K c.own (hD c) c.nth)) h (fun H2 m2 => m2) h0
  cases ho : c.own with
  | E o =>
    obtain ⟨g, fd2, f2, F2, hm, mk, FS⟩ := Gb.E
    obtain ⟨ds, hv, bb⟩ := bd_xe FS
    have kw : (kasO K c.own (hD c) c.nth).lookup ("way" : Str) = some (aS K "epochs") := by rw [kas_way, ho]; rfl
    have k1 : (kasO K c.own (hD c) c.nth).lookup ("epochs" : Str) = some (aI K o.epochs) := by rw [ho]; rfl
    have k2 : (kasO K c.own (hD c) c.nth).lookup ("behind" : Str) = some (aI K o.behind) := by rw [ho]; rfl
    rw [ho] at oo oe
    have of := ok_firstE oo
    have oe' : EpOk (.E (firstE o)) := oe
    refine as_if (at_cmpC (ac_eqS (ae_dkget hu (own0 rfl (av 0)) ae_str kw) ae_str)) (fun _ => ?_) (fun z => (str_yes z).elim)
    refine as_asgR (i := 1) (R := rBk a (.E (firstE o))) (ar_bkD (As := [aI K o.epochs, aI K o.behind]) (Bs := [aB K true, aS K "behind", aS K "fresh", aS K "equal", aS K "still", aB K true]) mk (spB_E F2 ⟨oe', of⟩) hr9 hm bb hv (fun _ => .cons (.bl _) (.cons (.str _) (.cons (.str _) (.cons (.str _) (.cons (.str _) (.cons (.bl _) .nil)))))) (aa_cons (ae_dkget hu (own0 rfl (av 0)) ae_str k1) (aa_cons (ae_dkget hu (own0 rfl (av 0)) ae_str k2) aa_nil))) (fun Ha Hx v m ex r => ?_) nd
    obtain ⟨b, rfl, nb, hb⟩ := r
    rw [ho] at tail
    exact as_end (tail (.E (firstE o)) Ha Hx b trivial rfl of m ex nb hb)
  | L o =>
    obtain ⟨g, fd2, f2, F2, hm, mk, FS⟩ := Gb.L
    obtain ⟨ds, hv, bb⟩ := bd_xl FS
    have kw : (kasO K c.own (hD c) c.nth).lookup ("way" : Str) = some (aS K "looks") := by rw [kas_way, ho]; rfl
    rw [ho] at oo oe
    have oe' : EpOk (.L firstL) := oe
    refine as_if (at_cmpC (ac_eqS (ae_dkget hu (own0 rfl (av 0)) ae_str kw) ae_str)) (fun z => (str_no z n_le).elim) (fun _ => ?_)
    refine as_asgR (i := 1) (R := rBk a (.L firstL)) (ar_if (at_cmpC (ac_eqS (ae_dkget hu (own0 rfl (av 0)) ae_str kw) ae_str)) (fun _ => ar_bkD0 mk (spB_L F2 ⟨oe', ok_firstL⟩) hr9 hm bb hv (fun _ => .cons (.bl _) (.cons (.str _) (.cons (.str _) .nil)))) (fun z => (str_yes z).elim) (fun _ _ _ _ e h => rBk_back e h)) (fun Ha Hx v m ex r => ?_) nd
    obtain ⟨b, rfl, nb, hb⟩ := r
    rw [ho] at tail
    exact as_end (tail (.L firstL) Ha Hx b trivial rfl ok_firstL m ex nb hb)
  | S o =>
    obtain ⟨g, fd2, f2, F2, hm, mk, FS⟩ := Gb.S
    obtain ⟨ds, hv, bb⟩ := bd_xs FS
    have kw : (kasO K c.own (hD c) c.nth).lookup ("way" : Str) = some (aS K "still") := by rw [kas_way, ho]; rfl
    have k1 : (kasO K c.own (hD c) c.nth).lookup ("counts" : Str) = some (aI K o.counts) := by rw [ho]; rfl
    rw [ho] at oo oe
    have of := ok_firstS oo
    have oe' : EpOk (.S (firstSt o)) := oe
    refine as_if (at_cmpC (ac_eqS (ae_dkget hu (own0 rfl (av 0)) ae_str kw) ae_str)) (fun z => (str_no z n_se).elim) (fun _ => ?_)
    refine as_asgR (i := 1) (R := rBk a (.S (firstSt o))) (ar_if (at_cmpC (ac_eqS (ae_dkget hu (own0 rfl (av 0)) ae_str kw) ae_str)) (fun z => (str_no z n_sl).elim) (fun _ => ar_bkD (As := [aI K o.counts]) (Bs := [aS K "outside", aS K "behind", aS K "none"]) mk (spB_S F2 ⟨oe', of⟩) hr9 hm bb hv (fun _ => .cons (.str _) (.cons (.str _) (.cons (.str _) .nil))) (aa_cons (ae_dkget hu (own0 rfl (av 0)) ae_str k1) aa_nil)) (fun _ _ _ _ e h => rBk_back e h)) (fun Ha Hx v m ex r => ?_) nd
    obtain ⟨b, rfl, nb, hb⟩ := r
    rw [ho] at tail
    exact as_end (tail (.S (firstSt o)) Ha Hx b trivial rfl of m ex nb hb)
end
end Ep
set_option maxHeartbeats 4000000
/-! _law_right -/
namespace Ep
open PySem PySem.Spec PyProof.Rows L2 Evl
theorem eqv_intsL : ∀ l : List Int, PyData.eqv (.list (l.map .int)) (.list (l.map .int)) = true
  | [] => by simp [PyData.eqv, PyData.eqvAll]
  | x :: l => by
    have := eqv_intsL l
    simp only [PyData.eqv] at this
    simp [PyData.eqv, PyData.eqvAll, this]
theorem sh_ints (l : List Int) : SeqAt.shaped (.list (l.map PyData.int)) = true := sh_okS fun d hd => by
  obtain ⟨x, _, rfl⟩ := List.mem_map.mp hd
  rfl
theorem kb_ll : kitB "list" "list" = some true := by decide +kernel
theorem tyA_LD {K : PySem.W.Frag} {M : Mb} {ds : List PyData} : TyA K M (LD K ds) (.type "list") := fun H v _ ⟨p, vs, e, h, _⟩ => by
  rw [e]
  exact .base (.lst h)
theorem rngD_I (n : Nat) : rngD n = (rngI n).map .int := by unfold rngD rngI; rw [List.map_map]; rfl
theorem cut_last (ds : List PyData) (d : PyData) : cutD (ds ++ [d]) none (some (-1)) = ds := by
  unfold cutD
  have e1 : HT.sIx (ds ++ [d]).length 0 none = 0 := rfl
  have e2 : HT.sIx (ds ++ [d]).length (ds ++ [d]).length (some (-1)) = ds.length := by
    show (if (-1 : Int) < 0 then ((-1 : Int) + ((ds ++ [d]).length : Int)).toNat else min (-1 : Int).toNat (ds ++ [d]).length) = _
    rw [if_pos (by decide), List.length_append, List.length_singleton]
    omega
  rw [e1, e2, Nat.sub_zero, List.drop_zero, List.take_left]
theorem st_last {s : Sta} (h : s.isBad = false) : ∃ ds, s.d = .tuple ds ∧ atI ds (-1) = some (tI (freedS s)) := by
  cases s with
  | E s => exact ⟨_, rfl, rfl⟩
  | L s => exact ⟨_, rfl, rfl⟩
  | S s => exact ⟨_, rfl, rfl⟩
  | bad k th => cases h
structure RiI where
  (c : Cfg) (ss : List Sta) (s : Sta) (fr : List Int) (m : Mv)
section
variable {P : Program} {w : World} {K : PySem.W.Frag} {mg : Str → Option Value} {base : Heap} {a : Adr}
abbrev s_ri : Stmt := top 72
abbrev n_ri : List Str := ["_law_setting_here", "_law_bench", "_law_ahead", "_law_move", "_law_state", "_law_freed", "_law_found", "_law_thing"]
theorem sc_ri : FnScope n_ri ["_law_setting_here", "_law_bench", "_law_ahead", "_law_move"] (defScope s_ri) := ⟨rfl, rfl, rfl, by decide +kernel, rfl, by decide +kernel, by decide +kernel⟩
abbrev sp_ri (K : PySem.W.Frag) (a : Adr) : Sp := spG (ι := RiI) (fun i => Lim i.c ∧ Inv2 i.c i.s ∧ i.s.isBad = false ∧ Grow i.fr (freedS i.s) i.m ∧ i.fr.length ≤ 6) (fun i => [aSet K a i.c, aBN K a i.c (i.ss ++ [i.s]), D K (tI i.fr), D K (mvD i.m)]) fun _ => rA (aB K true)
theorem ok_ri {f : Addr} {fd : FuncData} (F : Fun K "_law_right" "_law_right" s_ri f fd) (Gst : GMt P w K mg base 1 a.BE "state" (sp_b_st K a)) (Gk : GFn P w K mg base 4 "kept" (sp_kp K a)) (Gp : GPr P w K mg base 3 a.BE "place" (sp_b_pl K a))
    (bi : mg "isinstance" = none) (bl : mg "list" = none) (br : mg "range" = none) (bs : mg "sorted" = none) (bn : mg "int" = none) (be : mg "len" = none) : FnOk P w K mg base CX0 5 f fd ["_law_setting_here", "_law_bench", "_law_ahead", "_law_move"] (sp_ri K a) := by
  refine fn_G F sc_ri (fun _ => rfl) fun cdv A outer st0 H E hr i hi => ?_
  obtain ⟨c, ss, s, fr0, mv⟩ := i
  obtain ⟨L, iv, hb, gr, g6⟩ : Lim c ∧ Inv2 c s ∧ s.isBad = false ∧ Grow fr0 (freedS s) mv ∧ fr0.length ≤ 6 := hi
  obtain ⟨n, n6, nsp, nh, nk, ns, nf⟩ := inv_kept L iv hb
  have fit : Fits c s := (inv_mv L iv).1.1
  obtain ⟨dsS, eS, lS⟩ := st_last hb
  have hr1 : Room 1 _ := hr.mono (by decide)
  have nd := sc_ri.nd
  refine as_at 0 (A := aSet K a c) rfl fun Hb0 v0 m0 h0 => ?_
  refine as_at 1 (A := aBN K a c (ss ++ [s])) rfl fun Hb v1 m1 h1 => ?_
  have m0 : Ex H Hb0 := m0
  have m1 : Ex Hb0 Hb := m1
  have aSt : ∀ {X : Cx} {M : Mb} {ρ : List Sl} {e : Expr}, AE X M ρ e (Vl v0) → (∀ H2, M.P H2 → Ex Hb H2) → AE X M ρ e (aSet K a c) := fun h hM => ae_at (A := aSet K a c) h (fun H2 m2 => m1.trans (hM H2 m2)) h0
  have aBn : ∀ {X : Cx} {M : Mb} {ρ : List Sl} {e : Expr}, AE X M ρ e (Vl v1) → (∀ H2, M.P H2 → Ex Hb H2) → AE X M ρ e (aBN K a c (ss ++ [s])) := fun h hM => ae_at (A := aBN K a c (ss ++ [s])) h hM h1
  refine as_asg (i := 4) (A := D K s.d) (ae_meth0 (aBn (av 1) fun _ m => m) (recv_bn (by decide)) Gst hr1 (c, ss, s) trivial rfl) ?_ nd
  refine as_asg (i := 5) (A := D K (tI (freedS s))) (ae_ixT (ae_dat (av 4) eS) (ae_neg ae_int) lS) ?_ nd
  refine as_asgN (i := 6) (ds := (keptS s).map .int) (an_call (ds := (keptS s).map .int) Gk hr (c, s) ⟨fit, nh⟩ (aa_cons (aSt (av 0) fun _ m => m) (aa_cons (av 4) aa_nil))) (fun Hc p vs mc hp => ?_) nd
  have mc : Ex Hb Hc := mc
  have hM : ∀ H2, (mN K Hc p vs ((keptS s).map .int)).P H2 → Ex Hb H2 := fun H2 m2 => mc.trans m2.1
  have fnd : ∀ {X : Cx} {ρ : List Sl} {e : Expr}, AE X (mN K Hc p vs ((keptS s).map .int)) ρ e (Rf p) → AE X (mN K Hc p vs ((keptS s).map .int)) ρ e (LD K ((keptS s).map .int)) := fun h => ae_view h fun H2 v m e => ⟨p, vs, e, m.2.1, m.2.2⟩
  have eF : ((rngD n).filter fun d => !inD d ((freedS s).map .int)).map (fun d => d) = (keptS s).map .int := by
    rw [rngD_I, nk]
    exact filt_ints (rngI n) (fun x => !decide (x ∈ freedS s)) _ fun x => by rw [inD_some]
  refine as_if (aw_or (b1 := false) (b2 := false) (at_eq (at_not (at_val (ae_isi bi (fnd (av 6)) tyA_LD (pe_bltn (v := .ty "list") (by rfl) bl (by decide +kernel) rfl) (.ty "list") (kit_ty kb_ll)))) rfl) (fun _ => aw_or1 (at_cmpC (ac_eq (ac_neDp (d1 := .list ((keptS s).map .int)) (d2 := .list ((keptS s).map .int)) hr.units (fnd (av 6))
      (ae_eq (an_ae (an_lc (j := 7) [("_law_thing", 7)] (rngD n) (fun d => !inD d ((freedS s).map .int)) (fun d => d) (pi_range1 (by rfl) br (aa_cons (ae_dat (d' := .int (n : Nat)) (ae_prop (Z := aI K (spotS s)) (aBn (av 1) hM) bn_prop Gp (hr.mono (by decide)) (c, ss, s) ⟨fit, hb⟩ rfl) (congrArg PyData.int nsp)) aa_nil)) (wi_rng (by omega)) (by rw [rngD_len]; omega) nd (blkOk_by (N := n_ri) (sc := defScope s_ri) (by decide +kernel)) (by decide)
        (fun _ _ _ _ _ => pg_name (i := 7) nd rfl (Or.inl rfl)) (fun _ _ _ _ _ d hd => ats_one (at_cmpC (ac_notIn (av 7) (av 5) sqA_tup (by unfold rngD at hd; obtain ⟨x, _, rfl⟩ := List.mem_map.mp hd; rfl) (flat_ints _)))) (fun _ _ _ _ _ d hd _ => av 7))) (congrArg (LD K) eF))
      (fun H2 v _ h => LD.dp h) (fun H2 v _ h => LD.dp h) (sh_ints _) (sh_ints _)) (by rw [eqv_intsL]; rfl))))).pt (fun z => by cases z) (fun _ => as_end ?_)
  refine as_exprM (am_append (l := p) (M' := mN K Hc p (vs ++ [.int 0]) ((keptS s).map .int ++ [.int 0])) (av 6) ae_int (fun H2 m2 => ⟨vs, m2.2.1⟩) (fun H2 v xs m2 hv hx => ?_)) ?_
  · rw [m2.2.1] at hx
    cases hx
    cases hv.int_inv
    have hl := m2.2.2.length
    rw [List.length_map] at hl
    have hk : (keptS s).length < 60 := by unfold keptS; rw [srt_len]; exact nh
    exact ⟨by omega, Ex.mut m2.1 hp, upd_same, (m2.2.2.append (.cons (.int 0) .nil)).mono (Tk.lst m2.2.1).tex⟩
  have hM2 : ∀ H2, (mN K Hc p (vs ++ [.int 0]) ((keptS s).map .int ++ [.int 0])).P H2 → Ex Hb H2 := fun H2 m2 => mc.trans m2.1
  have fnd2 : ∀ {X : Cx} {ρ : List Sl} {e : Expr}, AE X (mN K Hc p (vs ++ [.int 0]) ((keptS s).map .int ++ [.int 0])) ρ e (Rf p) → AE X (mN K Hc p (vs ++ [.int 0]) ((keptS s).map .int ++ [.int 0])) ρ e (LD K ((keptS s).map .int ++ [.int 0])) := fun h => ae_view h fun H2 v m e => ⟨p, _, e, m.2.1, m.2.2⟩
  refine as_if (aw_or (b1 := false) (b2 := false) (at_cmpC (ac_eq (ac_neDp (d1 := .list ((keptS s).map .int)) (d2 := .list ((keptS s).map .int)) hr.units (an_ae (an_call (ds := (keptS s).map .int) Gk hr (c, s) ⟨fit, nh⟩ (aa_cons (aSt (av 0) hM2) (aa_cons (av 4) aa_nil))))
      (ae_eq (ae_slL (ds := (keptS s).map .int ++ [.int 0]) (fnd2 (av 6)) ao_none (ao_some (ae_neg ae_int))) (congrArg (LD K) (cut_last _ _)))
      (fun H2 v _ h => LD.dp h) (fun H2 v _ h => LD.dp h) (sh_ints _) (sh_ints _)) (by rw [eqv_intsL]; rfl)))
    (fun _ => aw_or1 (at_cmpC (ac_eq (ac_neDp (d1 := .list ((freedS s).map .int)) (d2 := .list ((freedS s).map .int)) hr.units (ae_list (ds := (freedS s).map .int) bl (av 5) sqA_tup) (ae_eq (ae_sorted (ns := freedS s) bs bn (av 5) sqA_tup (by omega)) (congrArg (fun l : List Int => LD K (l.map .int)) ns)) (fun H2 v _ h => LD.dp h) (fun H2 v _ h => LD.dp h) (sh_ints _) (sh_ints _)) (by rw [eqv_intsL]; rfl))))).pt (fun z => by cases z) (fun _ => as_end ?_)
  have eA : ((fr0.map PyData.int).filter fun d => !inD d ((freedS s).map .int)).map (fun d => d) = [] := by
    rw [filt_ints fr0 (fun x => !decide (x ∈ freedS s)) _ fun x => by rw [inD_some]]
    have : fr0.filter (fun x => !decide (x ∈ freedS s)) = [] := by
      rw [List.filter_eq_nil_iff]
      intro x hx
      simp [gr.1 x hx]
    rw [this]
    rfl
  refine as_if (at_cmpC (ac_eq (k' := false) (ac_neDp (d1 := .list []) (d2 := .list []) hr.units (ae_eq (an_ae (an_lc (j := 7) [("_law_thing", 7)] (fr0.map .int) (fun d => !inD d ((freedS s).map .int)) (fun d => d) (pi_tup (av 2)) wi_tup (by rw [List.length_map]; omega) nd (blkOk_by (N := n_ri) (sc := defScope s_ri) (by decide +kernel)) (by decide)
        (fun _ _ _ _ _ => pg_name (i := 7) nd rfl (Or.inl rfl)) (fun _ _ _ _ _ d hd => ats_one (at_cmpC (ac_notIn (av 7) (av 5) sqA_tup (by obtain ⟨x, _, rfl⟩ := List.mem_map.mp hd; rfl) (flat_ints _)))) (fun _ _ _ _ _ d hd _ => av 7))) (congrArg (LD K) eA)) (ae_lst ad_nil) (fun H2 v _ h => LD.dp h) (fun H2 v _ h => LD.dp h) rfl rfl) (by rw [eqv_nil]; rfl))) (fun z => by cases z) (fun _ => as_end ?_)
  refine as_ret (A := aB K (decide (((fr0.map PyData.int).length : Int) = ((freedS s).map PyData.int).length) || (decide (mv.1 = "taker") && inD (.str mv.2.2) (five.map .str)))) (ae_or (ae_cmpC (ac_eqS (ae_len (ds := fr0.map .int) be (av 2) sqA_tup) (ae_len (ds := (freedS s).map .int) be (av 5) sqA_tup))) (fun _ => ae_one (ae_and (ae_cmpC (ac_eqS (ae_ixT (d := .str mv.1) (av 3) ae_int rfl) ae_str)) (fun _ => ae_one (ae_cmpC (ac_in (ae_ixT (d := .str mv.2.2) (av 3) ae_int rfl) (ae_lst (ds := five.map .str) (ad_cons ae_str (ad_cons ae_str (ad_cons ae_str (ad_cons ae_str (ad_cons ae_str ad_nil))))) (by show (5 : Nat) ≤ 1000; decide)) sqA_lst rfl (flat_strs _))))))) (fun v H2 m h => ⟨m0.trans (m1.trans (hM2 H2 m)), d_cl h ?_⟩)
  have hin : ∀ (x : Str) (l : List Str), x ∈ l → inD (.str x) (l.map .str) = true := fun x l hx => by
    unfold inD
    rw [List.any_map, List.any_eq_true]
    exact ⟨x, hx, by show (x == x) = true; simp⟩
  rcases gr.2 with e | ⟨e1, e2⟩
  · rw [List.length_map, List.length_map, e]
    simp
  · rw [hin _ _ e2, e1]
    simp
end
end Ep
set_option maxHeartbeats 4000000
/-! law -/
namespace Ep
open PySem PySem.Spec PyProof.Rows L2 Evl
def aAI : Ab := ⟨fun _ v => ∃ i : Int, v = .int i, fun _ h => h, true, fun _ _ _ _ _ h => h⟩
section
variable {X : Cx} {Hs : Hp} {M M' : Mb} {ρ ρ' : List Sl} {D : Ends} {sts : List Stmt} {A B : Ab} {o e : Expr} {es : List Expr} {As : List Ab} {pos : Pos} {k : Nat}
theorem as_weak (i : Nat) (hA : ρ[i]? = some (.val A)) (w : ∀ H v, A.P H v → B.P H v) (h : AS X M (ρ.set i (.val B)) sts D) : AS X M ρ sts D := as_pre h fun H σ m sl => ⟨m, ⟨by simpa using sl.1, fun j b e => by
  by_cases hj : i = j
  · subst hj
    have hl : i < ρ.length := by
      have := (List.getElem?_eq_some_iff.mp e).1
      simpa using this
    rw [List.getElem?_set_self hl] at e
    cases e
    obtain ⟨v, h1, h2⟩ := sl.2 i A hA
    exact ⟨v, h1, w _ _ h2⟩
  · rw [List.getElem?_set_ne hj] at e
    exact sl.2 j b e⟩⟩
theorem as_int (i : Nat) (hA : ρ[i]? = some (.val aAI)) (h : ∀ x : Int, AS X M (ρ.set i (.val (aI X.K x))) sts D) : AS X M ρ sts D := ⟨fun pins s σ H D' I ⟨e, m, sl⟩ => by
  obtain ⟨v, h1, x, rfl⟩ := sl.2 i aAI hA
  have sl' : Slots (ρ.set i (.val (aI X.K x))) H σ := ⟨by simpa using sl.1, fun j b e => by
    by_cases hj : i = j
    · subst hj
      have hl : i < ρ.length := by
        have := (List.getElem?_eq_some_iff.mp e).1
        simpa using this
      rw [List.getElem?_set_self hl] at e
      cases e
      exact ⟨_, h1, .int x⟩
    · rw [List.getElem?_set_ne hj] at e
      exact sl.2 j b e⟩
  exact (h x).run pins s σ H D' I ⟨e, m, sl'⟩⟩
/-- o(..) that keeps spK -/
theorem km_callO {ι : Type} {pc : ι → Prop} {pre : ι → List Ab} {Ma Mz : ι → Mb} {res : ι → Ab} {C g : Addr} {fd : FuncData} {ps : List Str} (ho : AE X (mK Hs M) ρ o A) (hA : ∀ H v, M.P H → A.P H v → ∃ a dx fs, v = .ref a ∧ H a = some (.ins C dx fs)) (c : StX.CallO X.K C g) (F : FnOk X.prog X.w X.K X.mg X.base CX0 k g fd ps (spK pc pre Ma Mz res)) (bb : Binds X.K fd ps []) (hr : Room k X.A) (ha : AA X (mK Hs M) ρ (e :: es) As)
    (hM : ∀ H v vs, M.P H → A.P H v → AbL As H vs → ∃ i, pc i ∧ (Ma i).P H ∧ AbL (pre i) H (v :: vs) ∧ ∀ v H', (Mz i).P H' → (res i).P H' v → M'.P H' ∧ B.P H' v)
    (ht : eval (.Call o (e :: es) [] pos) X.env = (do callWith pos (← eval o X.env) [] (backTo pos (starEach (e :: es) X.env)) (backToKw pos (keywordEach [] X.env))) := by rfl)
    (he : starEach (e :: es) X.env = (false, eval e X.env) :: starEach es X.env := by rfl) (hpl : (backTo pos (starEach es X.env)).any (·.1) = false := by rfl) :
    AM X (mK Hs M) ρ (.Call o (e :: es) [] pos) (mK Hs M') (keepT ρ) B := by
  have FR0 : FnR X.prog X.w X.K X.mg X.base CX0 k g (fun vs H Q E => spK pc pre Ma Mz res (vs ++ []) H Q E) := F.raw bb .nil
  refine weakE (StX.pe_callO ho c FR0 hr pass0 ha ht he hpl) fun σ H Q ⟨m, sl, q⟩ => ⟨m, sl, fun v H1 e1 a1 => ?_⟩
  obtain ⟨a, dx, fs, ev, h1⟩ := hA H1 v (M.mono e1 m.2) a1
  refine ⟨a, ev, (mK Hs M).mono e1 m, sl.mono e1, fun vs H2 e2 a2 => ⟨.inr ⟨dx, fs, e2 _ _ h1⟩, ?_⟩⟩
  obtain ⟨i, g1, g2, g3, g4⟩ := hM H2 v vs (M.mono (e1.trans e2) m.2) (A.mono e2 a1) a2
  rw [← ev, List.append_nil]
  exact ⟨i, g1, g2, g3, fun v H' t m' r => by
    obtain ⟨j1, j2⟩ := g4 v H' m' r
    exact q v H' ⟨(m.1.trans (.of (e1.trans e2))).trans t, j1⟩ ((sl.mono (e1.trans e2)).keep t) j2⟩
end
/-- a new bench -/
def rBn (K : PySem.W.Frag) (a : Adr) (c : Cfg) : RR := fun H H' v => ∃ (H0 : Hp) (q : Bad5), Ex H H0 ∧ v = .ref q.p ∧ BCore K a H0 q c [] [firstS c] H'
theorem rBn_back {K : PySem.W.Frag} {a : Adr} {c : Cfg} {H H1 H' : Hp} {v : V} (e : Ex H H1) (h : rBn K a c H1 H' v) : rBn K a c H H' v := by
  obtain ⟨H0, q, h1, h2⟩ := h
  exact ⟨H0, q, e.trans h1, h2⟩
theorem ex_era3 {H0 H : Hp} {p q r : Addr} (e : Ex H0 H) (h1 : H0 p = none) (h2 : H0 q = none) (h3 : H0 r = none) : Ex H0 (era H [p, q, r]) := fun a o z => by
  rw [era_at]
  · exact e _ _ z
  · intro hm
    simp only [List.mem_cons, List.not_mem_nil, or_false] at hm
    rcases hm with hm | hm | hm
    · rw [hm, h1] at z; cases z
    · rw [hm, h2] at z; cases z
    · rw [hm, h3] at z; cases z
/-- the bench seen from the heap as it stands -/
theorem BCore.now {K : PySem.W.Frag} {a : Adr} {H0 H : Hp} {q : Bad5} {c : Cfg} {dn : List Mv} {ss : List Sta} (h : BCore K a H0 q c dn ss H) : BCore K a (era H [q.p, q.ld, q.ls]) q c dn ss H :=
  { ex := era_ex _ _, set := h.set.mono (ex_era3 h.ex h.np h.nd h.ns), np := era_no (by simp), nd := era_no (by simp), ns := era_no (by simp), ne := h.ne, ins := h.ins, dns := h.dns, sts := h.sts }
structure RunI where
  (dn : List Mv) (ss : List Sta) (s : Sta)
def RunOk (c : Cfg) (n : Nat) (r : RunI) : Prop := Inv2 c r.s ∧ r.dn.length ≤ n ∧ r.ss.length ≤ n
def mRun (K : PySem.W.Frag) (a : Adr) (G : Hp) (q : Bad5) (c : Cfg) (n : Nat) : Mb := mX (RunOk c n) fun r => mBN K a G q c r.dn (r.ss ++ [r.s])
theorem cut_len' (ds : List PyData) (l h : Option Int) : (cutD ds l h).length ≤ ds.length := by
  unfold cutD
  rw [List.length_take, List.length_drop]
  omega
theorem cut_mem {ds : List PyData} {l h : Option Int} {d : PyData} (hd : d ∈ cutD ds l h) : d ∈ ds := List.mem_of_mem_drop (List.mem_of_mem_take hd)
theorem sh_mvs {l : List Mv} (h : ∀ x ∈ l, okM x) : SeqAt.shaped (.list (l.map mvD)) = true := sh_of (by simp only [PyData.canLay0]; exact (lay_mvs h).1) (by have := (lay_mvs h).2; simp only [PyData.depth]; omega)
theorem lim_set {c : Cfg} (L : Lim c) : SetOk c := by
  obtain ⟨h1, h2⟩ := L.nr
  obtain ⟨h3, h4⟩ := L.nt
  obtain ⟨h5, h6⟩ := L.nth
  have h7 := L.ns
  refine ⟨L.ep, L.ow, ⟨h1, by omega⟩, ⟨h3, h4⟩, ?_, h5, by omega⟩
  unfold mostS
  rcases L.nse with ⟨o, e⟩ | e
  · rw [e]
    show (c.ns : Int) ≤ if ("epochs" : Str) = "epochs" then 7 else 0
    rw [if_pos rfl]
    omega
  · rw [e]
    split <;> decide
theorem at_pick {ms : List Mv} {x : Int} (h : ms ≠ []) : ∃ m ∈ ms, atI (ms.map mvD) (x % (ms.map mvD).length) = some (mvD m) := by
  have hl : 0 < ms.length := by
    cases ms with
    | nil => exact absurd rfl h
    | cons _ _ => simp
  have h1 := Int.emod_nonneg x (show (ms.length : Int) ≠ 0 by omega)
  have h2 := Int.emod_lt_of_pos x (show (0 : Int) < ms.length by omega)
  have hk : (x % (ms.length : Int)).toNat < ms.length := by omega
  refine ⟨ms[(x % (ms.length : Int)).toNat], List.getElem_mem hk, ?_⟩
  rw [List.length_map]
  unfold atI ixN
  rw [if_pos h1, List.length_map, if_pos h2]
  show (ms.map mvD)[(x % (ms.length : Int)).toNat]? = _
  rw [List.getElem?_map, List.getElem?_eq_getElem hk]
  rfl
end Ep
set_option maxHeartbeats 8000000
/-! law: its walk -/
namespace Ep
open PySem PySem.Spec PyProof.Rows L2 Evl
theorem an_ln {X : Cx} {M : Mb} {ρ : List Sl} {e : Expr} {ds : List PyData} {H0 : Hp} (h : AN X M ρ e ds) (hM : ∀ H, M.P H → Ex H0 H) : AE X M ρ e (LN X.K H0 ds) :=
  weakE h fun σ H Q ⟨m, sl, q⟩ => ⟨m, sl, fun v H' ex r => by
    obtain ⟨p, vs, h1, h2, h3, h4⟩ := r
    exact q v H' ex ⟨p, vs, h1, fresh_back (hM H m) h2, h3, h4⟩⟩
section
variable {P : Program} {w : World} {K : PySem.W.Frag} {mg : Str → Option Value} {base : Heap} {a : Adr}
abbrev s_law : Stmt := top 73
abbrev n_law : List Str := ["_law_script", "_law_own_here", "_law_setting_here", "_law_bench", "_law_cell", "_law_turn", "_law_some", "_law_ahead", "_law_move"]
theorem sc_law : FnScope n_law ["_law_script"] (defScope s_law) := ⟨rfl, rfl, rfl, by decide +kernel, rfl, by decide +kernel, by decide +kernel⟩
abbrev sp_law (K : PySem.W.Frag) : Sp := spG (ι := List Int) (fun ns => ns.length ≤ 63) (fun ns => [aSq K ns]) fun _ => rA (aB K true)
/-- a bench, called -/
def GCa (P : Program) (w : World) (K : PySem.W.Frag) (mg : Str → Option Value) (base : Heap) (a : Adr) : Prop := ∃ g fd ps, FnOk P w K mg base CX0 8 g fd ps (sp_b_ca K a) ∧ StX.CallO K a.BE g ∧ Binds K fd ps []
theorem ok_law {f : Addr} {fd : FuncData} (F : Fun K "law" "law" s_law f fd) (Gpo : GFn P w K mg base 1 "_law_pool" (sp_po K)) (Gao : GFn P w K mg base 4 "_law_any_own" (sp_ao K)) (Gls : GFn P w K mg base 13 "_law_setting" (sp_lset K a)) (Gbn : GMk P w K mg base 6 "Bench" a.BE (sp_b_in K a)) (Gk : GFn P w K mg base 4 "kept" (sp_kp K a))
    (Gst : GMt P w K mg base 1 a.BE "state" (sp_b_st K a)) (Gmv : GMt P w K mg base 6 a.BE "moves" (sp_b_mv K a)) (Gun : GPr P w K mg base 2 a.BE "unsafe" (sp_b_un K a)) (Gca : GCa P w K mg base a) (Gri : GFn P w K mg base 5 "_law_right" (sp_ri K a)) (br : mg "range" = none) (be : mg "len" = none) (bn : mg "int" = none) : FnOk P w K mg base CX0 14 f fd ["_law_script"] (sp_law K) := by
  refine fn_G F sc_law (fun _ => rfl) fun cdv A outer st0 H E hr ns hi => ?_
  have hi : ns.length ≤ 63 := hi
  have nd := sc_law.nd
  have hr1 : Room 1 _ := hr.mono (by decide)
  have hr3 : Room 3 _ := hr.mono (by decide)
  have hr4 : Room 4 _ := hr.mono (by decide)
  have hr5 : Room 5 _ := hr.mono (by decide)
  have hr6 : Room 6 _ := hr.mono (by decide)
  have hr7 : Room 7 _ := hr.mono (by decide)
  have hr8 : Room 8 _ := hr.mono (by decide)
  obtain ⟨gC, fdC, psC, FC, cO, bC⟩ := Gca
  refine as_at 0 (A := aSq K ns) rfl fun Hb v0 m0 h0 => ?_
  have m0 : Ex H Hb := m0
  refine as_preM (M' := mK Hb (mE Hb)) ?_ (fun H2 m => ⟨.of m, m⟩)
  refine as_asgM (i := 1) (km_call (M' := mE Hb) (A := aOwnX K) Gao hr4 (aa_cons (an_ln (H0 := Hb) (an_call (ds := [.int (poolS ns).1, .int (poolS ns).2]) Gpo hr1 ns trivial (aa_cons (ae_at (A := aSq K ns) (av 0) (fun H2 m => m.2) h0) (aa_cons ae_int aa_nil))) (fun H2 m => m.2)) aa_nil) (fun H2 vs m hv => ?g1)) ?_ nd
  case g1 =>
    obtain ⟨v1, r1, rfl, q1, hv1⟩ := abl_cons hv
    cases abl_nil hv1
    obtain ⟨p, vs, rfl, p0, p1, p2⟩ := (show (LN K Hb [.int (poolS ns).1, .int (poolS ns).2]).P H2 v1 from q1)
    have ev : vs = [.int (poolS ns).1, .int (poolS ns).2] := DtL.ints (ns := [(poolS ns).1, (poolS ns).2]) p2
    subst ev
    exact ⟨(era H2 [p], p), trivial, ⟨_, _, era_ex _ _, era_no (List.mem_singleton.mpr rfl), p1⟩, .cons rfl .nil, fun v H' m' r => ⟨(ex_era m p0).trans m', r⟩⟩
  refine as_at 1 (A := aOwnX K) rfl fun Hc v1 mc hc => ?_
  have mc : Ex Hb Hc := mc.2
  obtain ⟨c, L, hdk⟩ := hc
  refine as_asgR (i := 2) (R := rSt K a c) (ar_call Gls hr c (lim_set L) (aa_cons (ae_at (A := aDK (kasO K c.own (hD c) c.nth)) (av 1) (fun _ m => m) hdk) aa_nil) (fun _ _ _ _ e h => rSt_back e h)) (fun Hd He v md ed r => ?_) nd
  obtain ⟨sS, rfl, sn, hs⟩ := r
  have md : Ex Hc Hd := md
  have hset : ∀ {X : Cx} {M : Mb} {ρ : List Sl} {e : Expr}, AE X M ρ e (Vl (.ref sS)) → (∀ H2, M.P H2 → Ex He H2) → AE X M ρ e (aSet K a c) := fun h hM => ae_at (A := aSet K a c) h hM ⟨sS, rfl, hs⟩
  have few : FewC c := ⟨by have := L.nr; omega, by have := L.nt; omega, by have := L.ns; omega⟩
  refine as_asgR (i := 3) (R := rBn K a c) (ar_make Gbn hr7 (aa_cons (hset (av 2) (fun _ m => m)) aa_nil) (fun H1 vs q dx m hvs h1 h2 h3 => ?g2) (fun _ _ _ _ e h => rBn_back e h)) (fun Hf Hg v mf ef r => ?_) nd
  case g2 =>
    obtain ⟨x, rest, rfl, hx, hvs'⟩ := abl_cons hvs
    cases abl_nil hvs'
    exact ⟨⟨H1, q, dx, c⟩, ⟨h1, few, L.ep⟩, ⟨era_new h1 h2 h3, upd_same⟩, .cons rfl (.cons hx .nil), fun v H2 ⟨qw, e1, e2⟩ hv => ⟨hv.non_inv, e2.ex, H1, qw, Ex.refl _, by rw [e1], e2⟩⟩
  obtain ⟨G0, q, g0, rfl, core⟩ := r
  have mf : Ex He Hf := mf
  obtain ⟨iv0, nb0, kf⟩ := inv_first L
  have fit0 : Fits c (firstS c) := (inv_mv L iv0).1.1
  obtain ⟨n0, _, _, nh0, _⟩ := inv_kept L iv0 nb0
  have eS0 : Ex He G0 := mf.trans g0
  have eH0 : Ex H G0 := ((m0.trans mc).trans (md.trans ed)).trans eS0
  have nb : ∀ {X : Cx} {M : Mb} {ρ : List Sl} {e : Expr}, AE X M ρ e (Vl (.ref q.p)) → (∀ H2, M.P H2 → Ex Hg H2) → AE X M ρ e (aBN K a c ([] ++ [firstS c])) := fun h hM => ae_at (A := aBN K a c ([] ++ [firstS c])) h hM ⟨G0, q, [], rfl, core⟩
  refine as_if (at_cmpC (ac_eq (k' := false) (ac_neDp (d1 := .list []) (d2 := .list []) hr.units (ae_eq (an_ae (an_call (ds := (keptS (firstS c)).map .int) Gk hr4 (c, firstS c) ⟨fit0, nh0⟩ (aa_cons (hset (av 2) fun H2 m => (mf.trans ef).trans m) (aa_cons (ae_meth0 (Z := D K (firstS c).d) (nb (av 3) fun _ m => m) (recv_bn (by decide)) Gst hr1 (c, [], firstS c) trivial rfl) aa_nil)))) (by rw [kf]; rfl)) (ae_lst ad_nil) (fun H2 v _ h => LD.dp h) (fun H2 v _ h => LD.dp h) rfl rfl) (by rw [eqv_nil]; rfl))) (fun z => by cases z) (fun _ => as_end ?_)
  refine as_forL (items := cutD (ns.map .int) (some 1) (some 63)) (R := rN K (cutD (ns.map .int) (some 1) (some 63))) (an_slL (B := aSq K ns) (ae_at (A := aSq K ns) (av 0) (fun H2 m => (((mc.trans (md.trans ed)).trans mf).trans ef).trans m) h0) (fun H2 v h => ?g3) (ao_some ae_int) (ao_some ae_int))
    (fun _ H1 _ i => mK H1 (mRun K a (era H1 [q.p, q.ld, q.ls]) q c (2 * i)))
    [.val (Vl v0), .any, .val (Vl (.ref sS)), .val (Vl (.ref q.p)), .any, .any, .any, .any, .any] (fun d => [.val (Vl v0), .any, .val (Vl (.ref sS)), .val (Vl (.ref q.p)), .val (D K d), .any, .any, .any, .any]) ?_ ?_ (.same (.any (.same (.same (.same (.same (.same (.same (.same .nil))))))))) (fun M d => ag_name (i := 4) nd) ?_ ?_
  case g3 =>
    obtain ⟨p, e, h1⟩ := h
    exact ⟨p, _, e, h1, DtL.ofInts⟩
  · rintro Hx Hy v ⟨mx, ex, r⟩
    exact ⟨Tk.refl _, ⟨[], [], firstS c⟩, ⟨iv0, Nat.zero_le _, Nat.zero_le _⟩, ((core.mono (show Ex Hg Hx from mx)).mono ex).now⟩
  · rintro Hx Hy v ⟨mx, ex, p, vs, rfl, r0, r1, r2⟩
    have cx := core.mono (show Ex Hg Hx from mx)
    obtain ⟨vd, hd1, _⟩ := cx.dns
    obtain ⟨vs1, hs1, _⟩ := cx.sts
    have n1 : p ≠ q.p := fun z => by rw [z, cx.ins] at r0; cases r0
    have n2 : p ≠ q.ld := fun z => by rw [z, hd1] at r0; cases r0
    have n3 : p ≠ q.ls := fun z => by rw [z, hs1] at r0; cases r0
    refine ⟨p, vs, rfl, by rw [r2.length], fun i H2 m2 => ?_⟩
    obtain ⟨t2, rr, _, mm⟩ := m2
    refine ⟨.of (mm.ex _ _ ?_), r2.mono t2.tex⟩
    rw [era_at (by simp [n1, n2, n3])]
    exact r1
  · rintro Hx Hy v ⟨mx, ex, r⟩ i d hd
    have hil : i < 63 := by
      have h1 := (List.getElem?_eq_some_iff.mp hd).1
      have h2 := cut_len' (ns.map PyData.int) (some 1) (some 63)
      rw [List.length_map] at h2
      omega
    obtain ⟨x0, _, rfl⟩ := List.mem_map.mp (cut_mem (List.mem_of_getElem? hd))
    have eG : Ex G0 (era Hy [q.p, q.ld, q.ls]) := ex_era3 ((core.ex.trans mx).trans ex) core.np core.nd core.ns
    refine as_weak 4 (A := D K (.int x0)) (B := aAI) rfl (fun _ _ h => ⟨x0, h.int_inv⟩) ?_
    refine as_forR (n := 2) br ae_int (by decide) (fun _ _ _ j => mK Hy (mRun K a (era Hy [q.p, q.ld, q.ls]) q c (2 * i + j)))
      [.val (Vl v0), .any, .val (Vl (.ref sS)), .val (Vl (.ref q.p)), .val aAI, .any, .any, .any, .any] (fun d => [.val (Vl v0), .any, .val (Vl (.ref sS)), .val (Vl (.ref q.p)), .val aAI, .val (D K d), .any, .any, .any]) (fun H1 H2 v h => (mK Hy (mRun K a (era Hy [q.p, q.ld, q.ls]) q c (2 * i))).mono h.2.1 h.1) (SlW.refl _) (fun M d => ag_name (i := 5) nd) ?_ ?_
    · rintro Ha1 Ha2 va hL j hj
      refine as_exK fun rr hrr => ?_
      obtain ⟨dn, ss, s⟩ := rr
      obtain ⟨iv, l1, l2⟩ : Inv2 c s ∧ dn.length ≤ 2 * i + j ∧ ss.length ≤ 2 * i + j := hrr
      obtain ⟨mo, om, me, ml⟩ := inv_mv L iv
      refine as_int 4 rfl fun x => ?_
      have bnS : ∀ {X : Cx} {ρ : List Sl} {e : Expr} {dn : List Mv} {st : List Sta}, AE X (mK Hy (mBN K a (era Hy [q.p, q.ld, q.ls]) q c dn st)) ρ e (Vl (.ref q.p)) → AE X (mK Hy (mBN K a (era Hy [q.p, q.ld, q.ls]) q c dn st)) ρ e (aBN K a c st) := fun h => ae_view h fun H2 v m e => ⟨_, q, _, e, m.2⟩
      have exM : ∀ {dn : List Mv} {st : List Sta} (H2 : Hp), (mK Hy (mBN K a (era Hy [q.p, q.ld, q.ls]) q c dn st)).P H2 → Ex G0 H2 := fun H2 m => eG.trans m.2.ex
      refine as_asg (i := 6) (A := LD K ((movesS c s).map mvD)) (ae_meth0 (bnS (av 3)) (recv_bn (by decide)) Gmv hr6 (c, ss, s) mo rfl) ?_ nd
      refine as_if (at_cmpC (ac_eqDp (d1 := .list ((movesS c s).map mvD)) (d2 := .list []) hr.units (av 6) (ae_lst ad_nil) (fun H2 v _ h => LD.dp h) (fun H2 v _ h => LD.dp h) (sh_mvs om) rfl)) (fun c1 => ?_) (fun c1 => ?_)
      · rw [eqv_nil] at c1
        have hz : movesS c s = [] := by
          cases e : movesS c s with
          | nil => rfl
          | cons _ _ => rw [e] at c1; cases c1
        have hbd := me hz
        cases s with
        | bad k th => exact as_ret (ae_cmpC (ac_notN (ae_prop (Z := D K (unsD (.bad k th))) (bnS (av 3)) bn_prop Gun hr3 (c, ss, .bad k th) trivial rfl))) (fun v H2 m h => ⟨eH0.trans (exM H2 m), d_cl h rfl⟩)
        | E s => cases hbd
        | L s => cases hbd
        | S s => cases hbd
      · rw [eqv_nil] at c1
        have hne : movesS c s ≠ [] := fun e => by rw [e] at c1; cases c1
        have hbd : s.isBad = false := by
          cases e : s.isBad with
          | false => rfl
          | true => exact absurd (bad_mv e) hne
        obtain ⟨dsS, eS, lS⟩ := st_last hbd
        obtain ⟨m, hm, hpick⟩ := at_pick (x := x) hne
        obtain ⟨dok, iv', gr⟩ := inv_step L iv hm
        obtain ⟨n6, _, _, _, _, _, nf⟩ := inv_kept L iv hbd
        have hpos : (0 : Int) < ((movesS c s).map mvD).length := by
          rw [List.length_map]
          cases e : movesS c s with
          | nil => exact absurd e hne
          | cons _ _ => simp
        have hsml : ((((movesS c s).map mvD).length : Nat) : Int) < 1073741824 := by
          rw [List.length_map]
          omega
        refine as_end ?_
        refine as_par (i := 7) (j := 8) (A := D K (tI (freedS s))) (B := D K (mvD m)) (aa_cons (ae_ixT (ae_dat (ae_meth0 (Z := D K s.d) (bnS (av 3)) (recv_bn (by decide)) Gst hr1 (c, ss, s) trivial rfl) eS) (ae_neg ae_int) lS) (aa_cons (ae_ixL (av 6) (ae_mod (ae_toint bn (av 4)) (ae_len be (av 6) sqA_lst) hpos) hpick) aa_nil)) ?_ nd
        refine as_asg (i := 4) (ae_fdiv (av 4) (ae_len be (av 6) sqA_lst) (wide_div (b := 30) hpos (by omega) (by decide) (by decide))) ?_ nd
        refine as_exprM (km_callO (M' := mBN K a (era Hy [q.p, q.ld, q.ls]) q c (dn ++ [m]) ((ss ++ [s]) ++ [stepS c s m])) (B := D K (stepS c s m).d) (ae_view (B := Rf q.p) (av 3) fun _ _ _ e => e) (fun H2 v mm h => ⟨_, _, _, h, mm.ins⟩) cO FC bC hr8 (aa_cons (av 8) aa_nil) (fun H2 v vs mm hv hvs => ⟨⟨_, q, c, dn, ss, s, m⟩, ⟨⟨mo, om, hm⟩, dok, by show dn.length < 1000; omega, by show ss.length < 999; omega⟩, mm, .cons hv hvs, fun v' H3 m' r => ⟨m', r⟩⟩)) ?_
        have hpc : eqD (unsD (stepS c s m)) .none = true → Lim c ∧ Inv2 c (stepS c s m) ∧ (stepS c s m).isBad = false ∧ Grow (freedS s) (freedS (stepS c s m)) m ∧ (freedS s).length ≤ 6 := fun hb => by
          have hb2 : (stepS c s m).isBad = false := by
            cases e : stepS c s m with
            | bad k th => rw [e] at hb; cases hb
            | _ => rfl
          exact ⟨L, iv', hb2, gr hb2, nf⟩
        refine as_if (aw_and (b1 := eqD (unsD (stepS c s m)) .none) (b2 := false) (at_cmpC (ac_isN (ae_prop (Z := D K (unsD (stepS c s m))) (bnS (av 3)) bn_prop Gun hr3 (c, ss ++ [s], stepS c s m) trivial rfl))) (fun hb => aw_and1 (at_eq (at_not (at_val (ae_call (A := aB K true) Gri hr5 (⟨c, ss ++ [s], stepS c s m, freedS s, m⟩ : RiI) (hpc hb) (aa_cons (hset (av 2) fun H2 mm => eS0.trans (exM H2 mm)) (aa_cons (bnS (av 3)) (aa_cons (av 7) (aa_cons (av 8) aa_nil))))))) rfl))).pt (fun z => by rw [Bool.and_false] at z; cases z) (fun _ => as_end ?_)
        refine as_weak 4 (B := aAI) rfl (fun _ _ h => ⟨_, h.int_inv⟩) ?_
        exact as_lp (fun H2 mm => ⟨mm.1, ⟨dn ++ [m], ss ++ [s], stepS c s m⟩, ⟨iv', by show (dn ++ [m]).length ≤ _; rw [List.length_append, List.length_singleton]; omega, by show (ss ++ [s]).length ≤ _; rw [List.length_append, List.length_singleton]; omega⟩, mm.2⟩) (.same (.same (.same (.same (.same (.any (.any (.any (.any .nil)))))))))
    · rintro Ha1 Ha2 va hL
      exact as_lp (fun H2 m => m) (.same (.same (.same (.same (.any (.same (.same (.same (.same .nil)))))))))
  · rintro Hx Hy v ⟨mx, ex, r⟩
    have eG : Ex G0 (era Hy [q.p, q.ld, q.ls]) := ex_era3 ((core.ex.trans mx).trans ex) core.np core.nd core.ns
    exact as_ret ae_bl (fun v H2 m h => by
      obtain ⟨t2, rr, _, mm⟩ := m
      exact ⟨(eH0.trans eG).trans mm.ex, h⟩)
end
end Ep
set_option maxHeartbeats 2000000
/-! looks at the head, and what they say -/
namespace EpH
open PySem PySem.Spec PyProof.Rows L2 He Ep
variable {K : Fr} {h : Heap} {mg : Str → Option Value} {P : Program} {w : World} {base : Heap}
theorem clsB_ok {C : Str} {fs : List Str} (c : clsB C fs K = true) : TxC K (ga K C) fs := by
  obtain ⟨c1, c2⟩ := ba c
  exact ⟨cls_ok c1, fun f hf => eqO_ok (List.all_eq_true.mp c2 f hf)⟩
theorem methB_ok {C m : Str} {f : Fr → Addr} (c : methB C m f K = true) : Meth K (ga K C) m (f K) := by
  obtain ⟨c1, c⟩ := ba c
  obtain ⟨c2, c3⟩ := ba c
  exact ⟨eqO_ok c1, c2, c3⟩
theorem mkB_ok {C : Str} {f : Fr → Addr} (c : mkB C f K = true) : Mk K (ga K C) (f K) := by
  obtain ⟨c1, c⟩ := ba c
  obtain ⟨c2, c⟩ := ba c
  obtain ⟨c3, c4⟩ := ba c
  exact ⟨c1, eqO_ok c2, c3, c4⟩
theorem propB_ok {C m : Str} {g : Fr → Addr} (c : propB C m g K = true) : PropOf K (ga K C) m (ma K (ga K C) m) (g K) := by
  obtain ⟨c1, c⟩ := ba c
  obtain ⟨c2, c⟩ := ba c
  obtain ⟨c3, c4⟩ := ba c
  refine ⟨eqO_ok c1, eqO_ok c2, of_decide_eq_true c3, ?_⟩
  cases e : PySem.W.recIn K (ma K (ga K C) m) "property" with
  | none => rw [e] at c4; cases c4
  | some l =>
    rw [e] at c4
    cases l with
    | nil => cases c4
    | cons v r =>
      cases v with
      | ref g' =>
        have e2 : g' = g K := of_decide_eq_true c4
        exact ⟨r, by rw [e2]⟩
      | _ => cases c4
theorem getB_ok {C : Str} {g : Fr → Addr} (c : getB C g K = true) : GetO K (ga K C) (g K) := by
  obtain ⟨c1, c⟩ := ba c
  obtain ⟨c2, c3⟩ := ba c
  exact ⟨eqO_ok c1, c2, c3⟩
theorem setB_ok {C : Str} {g : Fr → Addr} (c : setB C g K = true) : SetO K (ga K C) (g K) := by
  obtain ⟨c1, c⟩ := ba c
  obtain ⟨c2, c3⟩ := ba c
  exact ⟨eqO_ok c1, c2, c3⟩
theorem callB_ok {C : Str} {g : Fr → Addr} (c : callB C g K = true) : StX.CallO K (ga K C) (g K) := by
  obtain ⟨c1, c⟩ := ba c
  obtain ⟨c2, c3⟩ := ba c
  exact ⟨eqO_ok c1, c2, c3⟩
theorem dtl_of {H : Hp} : ∀ {l : List PyData}, l.all scP = true → DtL K H (l.map vOf) l
  | [], _ => .nil
  | d :: l, h => by
    obtain ⟨h1, h2⟩ := ba (show (scP d && l.all scP) = true from h)
    refine .cons ?_ (dtl_of h2)
    cases d with
    | bool b => exact .bl b
    | int i => exact .int i
    | str x => exact .str x
    | _ => cases h1
theorem wordsB_ok {C : Str} {ws : List Str} {way : Str} (c : wordsB C ws way K = true) (t : TxC K (ga K C) ["own", "order"]) : TxB K (ga K C) ws way := by
  obtain ⟨c1, c⟩ := ba c
  obtain ⟨c2, c3⟩ := ba c
  obtain ⟨u, hu⟩ := conB_ok c1
  obtain ⟨u2, hu2⟩ := conB_ok c3
  exact ⟨t, ⟨_, u, hu, fun H => .tup (tupAt_ok c2 H) (DtL.map ws fun x _ => .str x)⟩, ⟨u2, hu2⟩⟩
theorem tabvB_ok {x : Str} {l : List (Str × List PyData)} (c : tabvB x l K = true) (t : ∃ es n, KDict K w (ga K x) es n) {z : Str} {d : List PyData} (hz : (z, d) ∈ l) : ∃ v, KDct K w (ga K x) z v ∧ ∀ H, Dt K H v (.tuple d) := by
  obtain ⟨es, n, T⟩ := t
  obtain ⟨c1, c2⟩ := ba (List.all_eq_true.mp c (z, d) hz)
  obtain ⟨c3, c4⟩ := ba c2
  exact ⟨.ref (refAt K (ga K x) z), ⟨es, n, _, T.at_, T.lit, eqO_ok c1, rfl⟩, fun H => .tup (tupAt_ok c3 H) (dtl_of c4)⟩
theorem isiB_ok {C : Str} (c : isiB C K = true) (t : Cls K (ga K C)) : TxI K (ga K C) := by
  obtain ⟨c1, c⟩ := ba c
  obtain ⟨c2, c⟩ := ba c
  obtain ⟨c3, c4⟩ := ba c
  exact ⟨t, eqO_ok c1, eqO_ok c2, of_decide_eq_true c3, of_decide_eq_true c4⟩
theorem superB_ok {C qual : Str} {st : Stmt} {kws : List (Str × V)} {d : DefP} (c : superB C K = true) (e : fnP K (d.ad K) = d.val) (ck : d.ok K = true) (h1 : d.ad = me C "__init__") (h2 : d.name = "__init__") (h3 : d.qual = qual) (h4 : d.params = defArgs st) (h5 : d.body = defBody st) (h6 : d.scope = defScope st) (h7 : d.cl = true) (h8 : d.dfl = []) (h9 : d.kws K = kws) (hf : P.main.file = fileP) (hm : mg "super" = none) (ht : (P.main.scope.names.lookup ("super" : Str)).isSome = false) :
    ∃ fd, FunS K mg P "__init__" qual st kws (ga K C) (me "Book" "__init__" K) (me C "__init__" K) fd := by
  obtain ⟨kp, oc, od, fd, osl, lk, g1, g2, g3, g4, g5, g6, g7, g8, k1, k3, k4⟩ := DefP.fn e ck
  obtain ⟨c1, c⟩ := ba c
  obtain ⟨c2, c⟩ := ba c
  obtain ⟨c3, c⟩ := ba c
  obtain ⟨c4, c⟩ := ba c
  obtain ⟨c5, c⟩ := ba c
  obtain ⟨c6, c7⟩ := ba c
  rw [h1] at lk
  rw [lk] at c1
  obtain ⟨c8, c9⟩ := ba (show (cellIs K fd.closure (ga K C) && codeFile K fd.code) = true from c1)
  rw [h7] at g7
  obtain ⟨n1, n2, n3, n4, n5, n6, n7, n8, n9, n10, n11, n12, n13, n14, n15⟩ := fd
  dsimp only at g1 g2 g3 g4 g5 g6 g7 g8 k1 k3 k4 c8 c9
  rw [h2] at g1
  rw [h3] at g2 k1
  rw [h4] at g3
  rw [h5] at g4
  rw [h6] at g5
  have k3 : n8 = .none := by
    have e8 : d.dvs K = [] := by unfold DefP.dvs; rw [h8]; rfl
    rw [e8] at k3
    rcases k3 with ⟨_, q⟩ | ⟨q, _⟩
    · exact q
    · exact absurd rfl q
  rw [h9] at k4
  subst g1 g2 g3 g4 g5 g6 g8 k3
  match n7, g7, c8 with
  | [(nm, cc)], g7, c8 =>
    have enm : nm = "__class__" := by
      have : ([nm] : List Str) = (["__class__"] : List Str) := g7
      exact List.head_eq_of_cons_eq this
    subst enm
    cases n13 with
    | ref cd =>
      refine ⟨_, ⟨oc, od, .none, n9, n10, n11, n12, cd, n14, cc, osl, rfl, lk, k1, ?_, rfl, k4⟩⟩
      have cell : ∃ cl cld csl, K.lookup cc = some ⟨cl, cld, .cell (some (.ref (ga K C))), csl⟩ := by
        unfold cellIs at c8
        dsimp only at c8
        cases q : K.lookup cc with
        | none => rw [q] at c8; cases c8
        | some o =>
          obtain ⟨a1, a2, dt, a4⟩ := o
          rw [q] at c8
          cases dt with
          | cell v =>
            cases v with
            | none => cases c8
            | some v =>
              cases v with
              | ref D' =>
                have e2 : D' = ga K C := of_decide_eq_true c8
                exact ⟨a1, a2, a4, by rw [e2]⟩
              | _ => cases c8
          | _ => cases c8
      have code : ∃ ccl cdd vs ccs file tf, K.lookup cd = some ⟨ccl, cdd, .fields vs, ccs⟩ ∧ vs[2]? = some (.str file tf) ∧ ((P.main.file : Str) == file) = true := by
        unfold codeFile at c9
        dsimp only at c9
        cases q : K.lookup cd with
        | none => rw [q] at c9; cases c9
        | some o =>
          obtain ⟨a1, a2, dt, a4⟩ := o
          rw [q] at c9
          cases dt with
          | fields vs =>
            dsimp only at c9
            cases q2 : vs[2]? with
            | none => rw [q2] at c9; cases c9
            | some v =>
              rw [q2] at c9
              cases v with
              | str file tf => exact ⟨a1, a2, vs, a4, file, tf, rfl, q2, by rw [hf]; exact c9⟩
              | _ => cases c9
          | _ => cases c9
      exact { cell := cell, isD := c2, sub := of_decide_eq_true c3, up := eqO_ok c4, ty := of_decide_eq_true c5, fi := c6, op := eqO_ok c7, code := code, glb := hm, top := ht }
    | _ => cases k1
/-! promises lifted -/
theorem GFn.up {j k : Nat} {x : Str} {sp : Sp} (G : GFn P w K mg base j x sp) (h : j ≤ k) : GFn P w K mg base k x sp := by
  obtain ⟨f, fd, ps, F, a, b, c⟩ := G
  exact ⟨f, fd, ps, F.mono h, a, b, c⟩
theorem GMt.up {j k : Nat} {C : Addr} {m : Str} {sp : Sp} (G : GMt P w K mg base j C m sp) (h : j ≤ k) : GMt P w K mg base k C m sp := by
  obtain ⟨f, fd, ps, F, a, b, c⟩ := G
  exact ⟨f, fd, ps, F.mono h, a, b, c⟩
theorem GPr.up {j k : Nat} {C : Addr} {m : Str} {sp : Sp} (G : GPr P w K mg base j C m sp) (h : j ≤ k) : GPr P w K mg base k C m sp := by
  obtain ⟨p, g, fd, ps, F, a, b, c⟩ := G
  exact ⟨p, g, fd, ps, F.mono h, a, b, c⟩
theorem GMk.up {j k : Nat} {C : Addr} {m : Str} {sp : Sp} (G : GMk P w K mg base j m C sp) (h : j ≤ k) : GMk P w K mg base k m C sp := by
  obtain ⟨f, fd, ps, F, a, b, c⟩ := G
  exact ⟨f, fd, ps, F.mono h, a, b, c⟩
end EpH
set_option maxHeartbeats 4000000
/-! the law's promise from the head's data (printed by tools/join.py) -/
namespace EpH
open PySem PySem.Spec PyProof.Rows L2 He Ep
abbrev PR : Program := PySem.Challenge.pw_epochrooms_k63_whole_kept_things_counted
def adr (K : Fr) : Adr := ⟨ga K "EpochBook", ga K "LookBook", ga K "StillBook", ga K "EpochWorld", ga K "LookWorld", ga K "StillWorld", ga K "Setting", ga K "Bench"⟩
structure Ctx (w : World) (K : Fr) (mg : Str → Option Value) : Prop where
  ns : ∃ h : Heap, K.In h ∧ h.Ns mainGlobals mg
  c : SaysK chk fn ts w K
variable {w : World} {K : Fr} {mg : Str → Option Value} {base : Heap}
theorem b_int (Φ : Ctx w K mg) : mg "int" = none := by
  obtain ⟨⟨h, X, G⟩, c⟩ := Φ
  exact free_ok X G (c.ck 0)
theorem b_max (Φ : Ctx w K mg) : mg "max" = none := by
  obtain ⟨⟨h, X, G⟩, c⟩ := Φ
  exact free_ok X G (c.ck 1)
theorem b_len (Φ : Ctx w K mg) : mg "len" = none := by
  obtain ⟨⟨h, X, G⟩, c⟩ := Φ
  exact free_ok X G (c.ck 2)
theorem F_ok_po (Φ : Ctx w K mg) : ∃ fd, Fun K "_law_pool" "_law_pool" s_po (gl "_law_pool" K) fd := by
  obtain ⟨e, k⟩ := Φ.c.def_ 0
  obtain ⟨fd, F⟩ := DefP.funD e k rfl
  exact ⟨fd, fun_of F⟩
theorem O_ok_po (Φ : Ctx w K mg) : ∃ fd, Fun K "_law_pool" "_law_pool" s_po (gl "_law_pool" K) fd ∧ FnOk PR w K mg base CX0 1 (gl "_law_pool" K) fd ["_law_script", "_law_k"] (sp_po K) := by
  obtain ⟨fd, F⟩ := F_ok_po Φ
  exact ⟨fd, F, ok_po F (b_int Φ) (b_max Φ) (b_len Φ)⟩
theorem m__law_pool (Φ : Ctx w K mg) : mg "_law_pool" = some (.ref (ga K "_law_pool")) := by
  obtain ⟨⟨h, X, G⟩, c⟩ := Φ
  exact glo_ok X G (c.ck 3)
theorem GF__law_pool (Φ : Ctx w K mg) : GFn PR w K mg base 1 "_law_pool" (sp_po K) := by
  obtain ⟨fd, F, O⟩ := O_ok_po Φ
  exact ⟨_, fd, _, O, m__law_pool Φ, F.kp, F.binds (ps := ["_law_script", "_law_k"]) fun _ _ _ _ _ _ us hl => match us, hl with | [_, _], _ => rfl⟩
theorem F_ok_sw (Φ : Ctx w K mg) : ∃ fd, Fun K "_law_switches" "_law_switches" s_sw (gl "_law_switches" K) fd := by
  obtain ⟨e, k⟩ := Φ.c.def_ 1
  obtain ⟨fd, F⟩ := DefP.funD e k rfl
  exact ⟨fd, fun_of F⟩
theorem O_ok_sw (Φ : Ctx w K mg) : ∃ fd, Fun K "_law_switches" "_law_switches" s_sw (gl "_law_switches" K) fd ∧ FnOk PR w K mg base CX0 1 (gl "_law_switches" K) fd ["_law_way"] (sp_sw K) := by
  obtain ⟨fd, F⟩ := F_ok_sw Φ
  exact ⟨fd, F, ok_sw F ⟩
theorem m__law_switches (Φ : Ctx w K mg) : mg "_law_switches" = some (.ref (ga K "_law_switches")) := by
  obtain ⟨⟨h, X, G⟩, c⟩ := Φ
  exact glo_ok X G (c.ck 4)
theorem GF__law_switches (Φ : Ctx w K mg) : GFn PR w K mg base 1 "_law_switches" (sp_sw K) := by
  obtain ⟨fd, F, O⟩ := O_ok_sw Φ
  exact ⟨_, fd, _, O, m__law_switches Φ, F.kp, F.binds (ps := ["_law_way"]) fun _ _ _ _ _ _ us hl => match us, hl with | [_], _ => rfl⟩
theorem b_range (Φ : Ctx w K mg) : mg "range" = none := by
  obtain ⟨⟨h, X, G⟩, c⟩ := Φ
  exact free_ok X G (c.ck 5)
theorem F_ok_ch (Φ : Ctx w K mg) : ∃ fd, Fun K "_law_choices" "_law_choices" s_ch (gl "_law_choices" K) fd := by
  obtain ⟨e, k⟩ := Φ.c.def_ 2
  obtain ⟨fd, F⟩ := DefP.funD e k rfl
  exact ⟨fd, fun_of F⟩
theorem O_ok_ch (Φ : Ctx w K mg) : ∃ fd, Fun K "_law_choices" "_law_choices" s_ch (gl "_law_choices" K) fd ∧ FnOk PR w K mg base CX0 1 (gl "_law_choices" K) fd ["_law_word", "_law_own_here"] (sp_ch K) := by
  obtain ⟨fd, F⟩ := F_ok_ch Φ
  exact ⟨fd, F, ok_ch F (b_range Φ)⟩
theorem m__law_choices (Φ : Ctx w K mg) : mg "_law_choices" = some (.ref (ga K "_law_choices")) := by
  obtain ⟨⟨h, X, G⟩, c⟩ := Φ
  exact glo_ok X G (c.ck 6)
theorem GF__law_choices (Φ : Ctx w K mg) : GFn PR w K mg base 1 "_law_choices" (sp_ch K) := by
  obtain ⟨fd, F, O⟩ := O_ok_ch Φ
  exact ⟨_, fd, _, O, m__law_choices Φ, F.kp, F.binds (ps := ["_law_word", "_law_own_here"]) fun _ _ _ _ _ _ us hl => match us, hl with | [_, _], _ => rfl⟩
theorem F_ok_tk (Φ : Ctx w K mg) : ∃ fd, Fun K "_law_take" "_law_take" s_tk (gl "_law_take" K) fd := by
  obtain ⟨e, k⟩ := Φ.c.def_ 3
  obtain ⟨fd, F⟩ := DefP.funD e k rfl
  exact ⟨fd, fun_of F⟩
theorem O_ok_tk (Φ : Ctx w K mg) : ∃ fd, Fun K "_law_take" "_law_take" s_tk (gl "_law_take" K) fd ∧ FnOk PR w K mg base CX0 1 (gl "_law_take" K) fd ["_law_pool_here", "_law_many"] (sp_tk K) := by
  obtain ⟨fd, F⟩ := F_ok_tk Φ
  exact ⟨fd, F, ok_tk F (b_int Φ)⟩
theorem m__law_take (Φ : Ctx w K mg) : mg "_law_take" = some (.ref (ga K "_law_take")) := by
  obtain ⟨⟨h, X, G⟩, c⟩ := Φ
  exact glo_ok X G (c.ck 7)
theorem GF__law_take (Φ : Ctx w K mg) : GFn PR w K mg base 1 "_law_take" (sp_tk K) := by
  obtain ⟨fd, F, O⟩ := O_ok_tk Φ
  exact ⟨_, fd, _, O, m__law_take Φ, F.kp, F.binds (ps := ["_law_pool_here", "_law_many"]) fun _ _ _ _ _ _ us hl => match us, hl with | [_, _], _ => rfl⟩
theorem F_ok_on (Φ : Ctx w K mg) : ∃ fd, Fun K "_law_one" "_law_one" s_on (gl "_law_one" K) fd := by
  obtain ⟨e, k⟩ := Φ.c.def_ 4
  obtain ⟨fd, F⟩ := DefP.funD e k rfl
  exact ⟨fd, fun_of F⟩
theorem O_ok_on (Φ : Ctx w K mg) : ∃ fd, Fun K "_law_one" "_law_one" s_on (gl "_law_one" K) fd ∧ FnOk PR w K mg base CX0 2 (gl "_law_one" K) fd ["_law_pool_here", "_law_some"] (sp_on K) := by
  obtain ⟨fd, F⟩ := F_ok_on Φ
  exact ⟨fd, F, ok_on F (EpH.GFn.up (GF__law_take Φ) (by decide)) (b_len Φ)⟩
theorem m__law_one (Φ : Ctx w K mg) : mg "_law_one" = some (.ref (ga K "_law_one")) := by
  obtain ⟨⟨h, X, G⟩, c⟩ := Φ
  exact glo_ok X G (c.ck 8)
theorem GF__law_one (Φ : Ctx w K mg) : GFn PR w K mg base 2 "_law_one" (sp_on K) := by
  obtain ⟨fd, F, O⟩ := O_ok_on Φ
  exact ⟨_, fd, _, O, m__law_one Φ, F.kp, F.binds (ps := ["_law_pool_here", "_law_some"]) fun _ _ _ _ _ _ us hl => match us, hl with | [_, _], _ => rfl⟩
theorem F_ok_ow (Φ : Ctx w K mg) : ∃ fd, Fun K "_law_own" "_law_own" s_ow (gl "_law_own" K) fd := by
  obtain ⟨e, k⟩ := Φ.c.def_ 5
  obtain ⟨fd, F⟩ := DefP.funD e k rfl
  exact ⟨fd, fun_of F⟩
theorem O_ok_ow (Φ : Ctx w K mg) : ∃ fd, Fun K "_law_own" "_law_own" s_ow (gl "_law_own" K) fd ∧ FnOk PR w K mg base CX0 3 (gl "_law_own" K) fd ["_law_pool_here", "_law_way"] (sp_ow K) := by
  obtain ⟨fd, F⟩ := F_ok_ow Φ
  exact ⟨fd, F, ok_ow F (EpH.GFn.up (GF__law_switches Φ) (by decide)) (EpH.GFn.up (GF__law_choices Φ) (by decide)) (EpH.GFn.up (GF__law_one Φ) (by decide)) (EpH.GFn.up (GF__law_take Φ) (by decide)) (b_int Φ)⟩
theorem m__law_own (Φ : Ctx w K mg) : mg "_law_own" = some (.ref (ga K "_law_own")) := by
  obtain ⟨⟨h, X, G⟩, c⟩ := Φ
  exact glo_ok X G (c.ck 9)
theorem GF__law_own (Φ : Ctx w K mg) : GFn PR w K mg base 3 "_law_own" (sp_ow K) := by
  obtain ⟨fd, F, O⟩ := O_ok_ow Φ
  exact ⟨_, fd, _, O, m__law_own Φ, F.kp, F.binds (ps := ["_law_pool_here", "_law_way"]) fun _ _ _ _ _ _ us hl => match us, hl with | [_, _], _ => rfl⟩
theorem F_ok_ao (Φ : Ctx w K mg) : ∃ fd, Fun K "_law_any_own" "_law_any_own" s_ao (gl "_law_any_own" K) fd := by
  obtain ⟨e, k⟩ := Φ.c.def_ 6
  obtain ⟨fd, F⟩ := DefP.funD e k rfl
  exact ⟨fd, fun_of F⟩
theorem O_ok_ao (Φ : Ctx w K mg) : ∃ fd, Fun K "_law_any_own" "_law_any_own" s_ao (gl "_law_any_own" K) fd ∧ FnOk PR w K mg base CX0 4 (gl "_law_any_own" K) fd ["_law_pool_here"] (sp_ao K) := by
  obtain ⟨fd, F⟩ := F_ok_ao Φ
  exact ⟨fd, F, ok_ao F (EpH.GFn.up (GF__law_own Φ) (by decide)) (EpH.GFn.up (GF__law_take Φ) (by decide))⟩
theorem m__law_any_own (Φ : Ctx w K mg) : mg "_law_any_own" = some (.ref (ga K "_law_any_own")) := by
  obtain ⟨⟨h, X, G⟩, c⟩ := Φ
  exact glo_ok X G (c.ck 10)
theorem GF__law_any_own (Φ : Ctx w K mg) : GFn PR w K mg base 4 "_law_any_own" (sp_ao K) := by
  obtain ⟨fd, F, O⟩ := O_ok_ao Φ
  exact ⟨_, fd, _, O, m__law_any_own Φ, F.kp, F.binds (ps := ["_law_pool_here"]) fun _ _ _ _ _ _ us hl => match us, hl with | [_], _ => rfl⟩
theorem t_EpochBook (Φ : Ctx w K mg) : TxC K (ga K "EpochBook") ["own", "order"] := clsB_ok (Φ.c.ck 11)
theorem t_LookBook (Φ : Ctx w K mg) : TxC K (ga K "LookBook") ["own", "order"] := clsB_ok (Φ.c.ck 13)
theorem t_StillBook (Φ : Ctx w K mg) : TxC K (ga K "StillBook") ["own", "order"] := clsB_ok (Φ.c.ck 15)
theorem txbs (Φ : Ctx w K mg) : TxBs K (adr K) := fun o => match o with
  | .E _ => wordsB_ok (Φ.c.ck 12) (t_EpochBook Φ)
  | .L _ => wordsB_ok (Φ.c.ck 14) (t_LookBook Φ)
  | .S _ => wordsB_ok (Φ.c.ck 16) (t_StillBook Φ)
theorem i_LEAST_EPOCHS (Φ : Ctx w K mg) : ∃ t, mg "LEAST_EPOCHS" = some (.int 2 t) := by
  obtain ⟨⟨h, X, G⟩, c⟩ := Φ
  exact int_ok X G (c.ck 17)
theorem i_MOST_EPOCHS (Φ : Ctx w K mg) : ∃ t, mg "MOST_EPOCHS" = some (.int 6 t) := by
  obtain ⟨⟨h, X, G⟩, c⟩ := Φ
  exact int_ok X G (c.ck 18)
theorem i_MOST_COUNTS (Φ : Ctx w K mg) : ∃ t, mg "MOST_COUNTS" = some (.int 4 t) := by
  obtain ⟨⟨h, X, G⟩, c⟩ := Φ
  exact int_ok X G (c.ck 19)
theorem m_ORDERS (Φ : Ctx w K mg) : mg "ORDERS" = some (.ref (ga K "ORDERS")) := by
  obtain ⟨⟨h, X, G⟩, c⟩ := Φ
  exact glo_ok X G (c.ck 20)
theorem tb_ORDERS (Φ : Ctx w K mg) : TabD K w mg "ORDERS" ordKeys ordTab := ⟨_, m_ORDERS Φ, fun z hz => tabvB_ok (l := ordKeys.map fun z => (z, ordTab z)) (Φ.c.ck 21) (Φ.c.tab 0) (List.mem_map.mpr ⟨z, hz, rfl⟩)⟩
theorem b_tuple (Φ : Ctx w K mg) : mg "tuple" = none := by
  obtain ⟨⟨h, X, G⟩, c⟩ := Φ
  exact free_ok X G (c.ck 22)
theorem F_ok_va (Φ : Ctx w K mg) : ∃ fd, Fun K "values_at" "values_at" s_va (gl "values_at" K) fd := by
  obtain ⟨e, k⟩ := Φ.c.def_ 7
  obtain ⟨fd, F⟩ := DefP.funD e k rfl
  exact ⟨fd, fun_of F⟩
theorem O_ok_va (Φ : Ctx w K mg) : ∃ fd, Fun K "values_at" "values_at" s_va (gl "values_at" K) fd ∧ FnOk PR w K mg base CX0 1 (gl "values_at" K) fd ["word", "own"] (sp_va K) := by
  obtain ⟨fd, F⟩ := F_ok_va Φ
  exact ⟨fd, F, ok_va F ⟨i_LEAST_EPOCHS Φ, i_MOST_EPOCHS Φ, i_MOST_COUNTS Φ⟩ (tb_ORDERS Φ) (b_tuple Φ) (b_range Φ)⟩
theorem m_values_at (Φ : Ctx w K mg) : mg "values_at" = some (.ref (ga K "values_at")) := by
  obtain ⟨⟨h, X, G⟩, c⟩ := Φ
  exact glo_ok X G (c.ck 23)
theorem GF_values_at (Φ : Ctx w K mg) : GFn PR w K mg base 1 "values_at" (sp_va K) := by
  obtain ⟨fd, F, O⟩ := O_ok_va Φ
  exact ⟨_, fd, _, O, m_values_at Φ, F.kp, F.binds (ps := ["word", "own"]) fun _ _ _ _ _ _ us hl => match us, hl with | [_, _], _ => rfl⟩
theorem b_isinstance (Φ : Ctx w K mg) : mg "isinstance" = none := by
  obtain ⟨⟨h, X, G⟩, c⟩ := Φ
  exact free_ok X G (c.ck 24)
theorem b_bool (Φ : Ctx w K mg) : mg "bool" = none := by
  obtain ⟨⟨h, X, G⟩, c⟩ := Φ
  exact free_ok X G (c.ck 25)
theorem F_ok_wh (Φ : Ctx w K mg) : ∃ fd, Fun K "is_whole" "is_whole" s_wh (gl "is_whole" K) fd := by
  obtain ⟨e, k⟩ := Φ.c.def_ 8
  obtain ⟨fd, F⟩ := DefP.funD e k rfl
  exact ⟨fd, fun_of F⟩
theorem O_ok_wh (Φ : Ctx w K mg) : ∃ fd, Fun K "is_whole" "is_whole" s_wh (gl "is_whole" K) fd ∧ FnOk PR w K mg base CX0 1 (gl "is_whole" K) fd ["value"] (sp_wh K) := by
  obtain ⟨fd, F⟩ := F_ok_wh Φ
  exact ⟨fd, F, ok_wh F (b_isinstance Φ) (b_int Φ) (b_bool Φ)⟩
theorem m_is_whole (Φ : Ctx w K mg) : mg "is_whole" = some (.ref (ga K "is_whole")) := by
  obtain ⟨⟨h, X, G⟩, c⟩ := Φ
  exact glo_ok X G (c.ck 26)
theorem GF_is_whole (Φ : Ctx w K mg) : GFn PR w K mg base 1 "is_whole" (sp_wh K) := by
  obtain ⟨fd, F, O⟩ := O_ok_wh Φ
  exact ⟨_, fd, _, O, m_is_whole Φ, F.kp, F.binds (ps := ["value"]) fun _ _ _ _ _ _ us hl => match us, hl with | [_], _ => rfl⟩
theorem b_str (Φ : Ctx w K mg) : mg "str" = none := by
  obtain ⟨⟨h, X, G⟩, c⟩ := Φ
  exact free_ok X G (c.ck 27)
theorem F_ok_sm (Φ : Ctx w K mg) : ∃ fd, Fun K "is_same" "is_same" s_sm (gl "is_same" K) fd := by
  obtain ⟨e, k⟩ := Φ.c.def_ 9
  obtain ⟨fd, F⟩ := DefP.funD e k rfl
  exact ⟨fd, fun_of F⟩
theorem O_ok_sm (Φ : Ctx w K mg) : ∃ fd, Fun K "is_same" "is_same" s_sm (gl "is_same" K) fd ∧ FnOk PR w K mg base CX0 2 (gl "is_same" K) fd ["value", "one"] (sp_sm K) := by
  obtain ⟨fd, F⟩ := F_ok_sm Φ
  exact ⟨fd, F, ok_sm F (EpH.GFn.up (GF_is_whole Φ) (by decide)) (b_isinstance Φ) (b_str Φ) (b_bool Φ)⟩
theorem m_is_same (Φ : Ctx w K mg) : mg "is_same" = some (.ref (ga K "is_same")) := by
  obtain ⟨⟨h, X, G⟩, c⟩ := Φ
  exact glo_ok X G (c.ck 28)
theorem GF_is_same (Φ : Ctx w K mg) : GFn PR w K mg base 2 "is_same" (sp_sm K) := by
  obtain ⟨fd, F, O⟩ := O_ok_sm Φ
  exact ⟨_, fd, _, O, m_is_same Φ, F.kp, F.binds (ps := ["value", "one"]) fun _ _ _ _ _ _ us hl => match us, hl with | [_, _], _ => rfl⟩
theorem F_ok_iv (Φ : Ctx w K mg) : ∃ fd, Fun K "is_value" "is_value" s_iv (gl "is_value" K) fd := by
  obtain ⟨e, k⟩ := Φ.c.def_ 10
  obtain ⟨fd, F⟩ := DefP.funD e k rfl
  exact ⟨fd, fun_of F⟩
theorem O_ok_iv (Φ : Ctx w K mg) : ∃ fd, Fun K "is_value" "is_value" s_iv (gl "is_value" K) fd ∧ FnOk PR w K mg base CX0 3 (gl "is_value" K) fd ["word", "own"] (sp_iv K) := by
  obtain ⟨fd, F⟩ := F_ok_iv Φ
  exact ⟨fd, F, ok_iv F (EpH.GFn.up (GF_values_at Φ) (by decide)) (EpH.GFn.up (GF_is_same Φ) (by decide))⟩
theorem m_is_value (Φ : Ctx w K mg) : mg "is_value" = some (.ref (ga K "is_value")) := by
  obtain ⟨⟨h, X, G⟩, c⟩ := Φ
  exact glo_ok X G (c.ck 29)
theorem GF_is_value (Φ : Ctx w K mg) : GFn PR w K mg base 3 "is_value" (sp_iv K) := by
  obtain ⟨fd, F, O⟩ := O_ok_iv Φ
  exact ⟨_, fd, _, O, m_is_value Φ, F.kp, F.binds (ps := ["word", "own"]) fun _ _ _ _ _ _ us hl => match us, hl with | [_, _], _ => rfl⟩
theorem F_ok_fw (Φ : Ctx w K mg) : ∃ fd, Fun K "first_wrong" "Book.first_wrong" s_fw (me "Book" "first_wrong" K) fd := by
  obtain ⟨e, k⟩ := Φ.c.def_ 11
  obtain ⟨fd, F⟩ := DefP.funD e k rfl
  exact ⟨fd, fun_of F⟩
theorem O_ok_fw (Φ : Ctx w K mg) : ∃ fd, Fun K "first_wrong" "Book.first_wrong" s_fw (me "Book" "first_wrong" K) fd ∧ FnOk PR w K mg base CX0 4 (me "Book" "first_wrong" K) fd ["self", "own"] (sp_fw K (adr K)) := by
  obtain ⟨fd, F⟩ := F_ok_fw Φ
  exact ⟨fd, F, ok_fw (a := adr K) F (txbs Φ) (EpH.GFn.up (GF_is_value Φ) (by decide))⟩
theorem GM_ok_fw_EpochBook (Φ : Ctx w K mg) : GMt PR w K mg base 4 (ga K "EpochBook") "first_wrong" (sp_fw K (adr K)) := by
  obtain ⟨fd, F, O⟩ := O_ok_fw Φ
  exact ⟨_, fd, _, O, (t_EpochBook Φ).cl, methB_ok (Φ.c.ck 30), F.binds (ps := ["self", "own"]) fun _ _ _ _ _ _ us hl => match us, hl with | [_, _], _ => rfl⟩
theorem GM_ok_fw_LookBook (Φ : Ctx w K mg) : GMt PR w K mg base 4 (ga K "LookBook") "first_wrong" (sp_fw K (adr K)) := by
  obtain ⟨fd, F, O⟩ := O_ok_fw Φ
  exact ⟨_, fd, _, O, (t_LookBook Φ).cl, methB_ok (Φ.c.ck 31), F.binds (ps := ["self", "own"]) fun _ _ _ _ _ _ us hl => match us, hl with | [_, _], _ => rfl⟩
theorem GM_ok_fw_StillBook (Φ : Ctx w K mg) : GMt PR w K mg base 4 (ga K "StillBook") "first_wrong" (sp_fw K (adr K)) := by
  obtain ⟨fd, F, O⟩ := O_ok_fw Φ
  exact ⟨_, fd, _, O, (t_StillBook Φ).cl, methB_ok (Φ.c.ck 32), F.binds (ps := ["self", "own"]) fun _ _ _ _ _ _ us hl => match us, hl with | [_, _], _ => rfl⟩
theorem own_ok_fw_4 (Φ : Ctx w K mg) : ∀ o : Own, GMt PR w K mg base 4 (o.cls (adr K)) "first_wrong" (sp_fw K (adr K)) := fun o => match o with
  | .E _ => (EpH.GMt.up (GM_ok_fw_EpochBook Φ) (by decide))
  | .L _ => (EpH.GMt.up (GM_ok_fw_LookBook Φ) (by decide))
  | .S _ => (EpH.GMt.up (GM_ok_fw_StillBook Φ) (by decide))
theorem b_list (Φ : Ctx w K mg) : mg "list" = none := by
  obtain ⟨⟨h, X, G⟩, c⟩ := Φ
  exact free_ok X G (c.ck 33)
theorem F_ok_bi (Φ : Ctx w K mg) : ∃ fd, Fun K "__init__" "Book.__init__" s_bi (me "Book" "__init__" K) fd := by
  obtain ⟨e, k⟩ := Φ.c.def_ 12
  obtain ⟨fd, F⟩ := DefP.funD e k rfl
  exact ⟨fd, fun_of F⟩
theorem O_ok_bi (Φ : Ctx w K mg) : ∃ fd, Fun K "__init__" "Book.__init__" s_bi (me "Book" "__init__" K) fd ∧ FnOk PR w K mg base CX0 5 (me "Book" "__init__" K) fd ["self", "own"] (sp_bi K (adr K)) := by
  obtain ⟨fd, F⟩ := F_ok_bi Φ
  exact ⟨fd, F, ok_bi (a := adr K) F (txbs Φ) (own_ok_fw_4 Φ) (b_list Φ)⟩
theorem b_super (Φ : Ctx w K mg) : mg "super" = none := by
  obtain ⟨⟨h, X, G⟩, c⟩ := Φ
  exact free_ok X G (c.ck 35)
theorem S_xe (Φ : Ctx w K mg) : ∃ fd, FunS K mg PR "__init__" "EpochBook.__init__" s_xe kws_xe (ga K "EpochBook") (me "Book" "__init__" K) (me "EpochBook" "__init__" K) fd := by
  obtain ⟨e, k⟩ := Φ.c.def_ 13
  exact superB_ok (Φ.c.ck 34) e k rfl rfl rfl rfl rfl rfl rfl rfl rfl rfl (b_super Φ) (by decide +kernel)
theorem m_EpochBook (Φ : Ctx w K mg) : mg "EpochBook" = some (.ref (ga K "EpochBook")) := by
  obtain ⟨⟨h, X, G⟩, c⟩ := Φ
  exact glo_ok X G (c.ck 36)
theorem gbk_E (Φ : Ctx w K mg) : ∃ f fd f2, FnOk PR w K mg base CX0 8 f fd ps_xe (sp_xe K (adr K)) ∧ mg "EpochBook" = some (.ref (ga K "EpochBook")) ∧ Mk K (ga K "EpochBook") f ∧ FunS K mg PR "__init__" "EpochBook.__init__" s_xe kws_xe (ga K "EpochBook") f2 f fd := by
  obtain ⟨fd, FS⟩ := S_xe Φ
  obtain ⟨fd2, F, O⟩ := O_ok_bi Φ
  exact ⟨_, fd, _, ok_xe (a := adr K) FS O (F.binds (ps := ["self", "own"]) fun _ _ _ _ _ _ us hl => match us, hl with | [_, _], _ => rfl), m_EpochBook Φ, mkB_ok (Φ.c.ck 37), FS⟩
theorem S_xl (Φ : Ctx w K mg) : ∃ fd, FunS K mg PR "__init__" "LookBook.__init__" s_xl kws_xl (ga K "LookBook") (me "Book" "__init__" K) (me "LookBook" "__init__" K) fd := by
  obtain ⟨e, k⟩ := Φ.c.def_ 14
  exact superB_ok (Φ.c.ck 38) e k rfl rfl rfl rfl rfl rfl rfl rfl rfl rfl (b_super Φ) (by decide +kernel)
theorem m_LookBook (Φ : Ctx w K mg) : mg "LookBook" = some (.ref (ga K "LookBook")) := by
  obtain ⟨⟨h, X, G⟩, c⟩ := Φ
  exact glo_ok X G (c.ck 39)
theorem gbk_L (Φ : Ctx w K mg) : ∃ f fd f2, FnOk PR w K mg base CX0 8 f fd ps_xl (sp_xl K (adr K)) ∧ mg "LookBook" = some (.ref (ga K "LookBook")) ∧ Mk K (ga K "LookBook") f ∧ FunS K mg PR "__init__" "LookBook.__init__" s_xl kws_xl (ga K "LookBook") f2 f fd := by
  obtain ⟨fd, FS⟩ := S_xl Φ
  obtain ⟨fd2, F, O⟩ := O_ok_bi Φ
  exact ⟨_, fd, _, ok_xl (a := adr K) FS O (F.binds (ps := ["self", "own"]) fun _ _ _ _ _ _ us hl => match us, hl with | [_, _], _ => rfl), m_LookBook Φ, mkB_ok (Φ.c.ck 40), FS⟩
theorem S_xs (Φ : Ctx w K mg) : ∃ fd, FunS K mg PR "__init__" "StillBook.__init__" s_xs kws_xs (ga K "StillBook") (me "Book" "__init__" K) (me "StillBook" "__init__" K) fd := by
  obtain ⟨e, k⟩ := Φ.c.def_ 15
  exact superB_ok (Φ.c.ck 41) e k rfl rfl rfl rfl rfl rfl rfl rfl rfl rfl (b_super Φ) (by decide +kernel)
theorem m_StillBook (Φ : Ctx w K mg) : mg "StillBook" = some (.ref (ga K "StillBook")) := by
  obtain ⟨⟨h, X, G⟩, c⟩ := Φ
  exact glo_ok X G (c.ck 42)
theorem gbk_S (Φ : Ctx w K mg) : ∃ f fd f2, FnOk PR w K mg base CX0 8 f fd ps_xs (sp_xs K (adr K)) ∧ mg "StillBook" = some (.ref (ga K "StillBook")) ∧ Mk K (ga K "StillBook") f ∧ FunS K mg PR "__init__" "StillBook.__init__" s_xs kws_xs (ga K "StillBook") f2 f fd := by
  obtain ⟨fd, FS⟩ := S_xs Φ
  obtain ⟨fd2, F, O⟩ := O_ok_bi Φ
  exact ⟨_, fd, _, ok_xs (a := adr K) FS O (F.binds (ps := ["self", "own"]) fun _ _ _ _ _ _ us hl => match us, hl with | [_, _], _ => rfl), m_StillBook Φ, mkB_ok (Φ.c.ck 43), FS⟩
theorem gbk (Φ : Ctx w K mg) : GBk PR w K mg base (adr K) := ⟨gbk_E Φ, gbk_L Φ, gbk_S Φ⟩
theorem F_ok_lw (Φ : Ctx w K mg) : ∃ fd, Fun K "look_at_word" "Book.look_at_word" s_lw (me "Book" "look_at_word" K) fd := by
  obtain ⟨e, k⟩ := Φ.c.def_ 16
  obtain ⟨fd, F⟩ := DefP.funD e k rfl
  exact ⟨fd, fun_of F⟩
theorem O_ok_lw (Φ : Ctx w K mg) : ∃ fd, Fun K "look_at_word" "Book.look_at_word" s_lw (me "Book" "look_at_word" K) fd ∧ FnOk PR w K mg base CX0 1 (me "Book" "look_at_word" K) fd ["self", "word"] (sp_lw K (adr K)) := by
  obtain ⟨fd, F⟩ := F_ok_lw Φ
  exact ⟨fd, F, ok_lw (a := adr K) F (txbs Φ) (b_isinstance Φ) (b_str Φ)⟩
theorem GM_ok_lw_EpochBook (Φ : Ctx w K mg) : GMt PR w K mg base 1 (ga K "EpochBook") "look_at_word" (sp_lw K (adr K)) := by
  obtain ⟨fd, F, O⟩ := O_ok_lw Φ
  exact ⟨_, fd, _, O, (t_EpochBook Φ).cl, methB_ok (Φ.c.ck 44), F.binds (ps := ["self", "word"]) fun _ _ _ _ _ _ us hl => match us, hl with | [_, _], _ => rfl⟩
theorem GM_ok_lw_LookBook (Φ : Ctx w K mg) : GMt PR w K mg base 1 (ga K "LookBook") "look_at_word" (sp_lw K (adr K)) := by
  obtain ⟨fd, F, O⟩ := O_ok_lw Φ
  exact ⟨_, fd, _, O, (t_LookBook Φ).cl, methB_ok (Φ.c.ck 45), F.binds (ps := ["self", "word"]) fun _ _ _ _ _ _ us hl => match us, hl with | [_, _], _ => rfl⟩
theorem GM_ok_lw_StillBook (Φ : Ctx w K mg) : GMt PR w K mg base 1 (ga K "StillBook") "look_at_word" (sp_lw K (adr K)) := by
  obtain ⟨fd, F, O⟩ := O_ok_lw Φ
  exact ⟨_, fd, _, O, (t_StillBook Φ).cl, methB_ok (Φ.c.ck 46), F.binds (ps := ["self", "word"]) fun _ _ _ _ _ _ us hl => match us, hl with | [_, _], _ => rfl⟩
theorem own_ok_lw_1 (Φ : Ctx w K mg) : ∀ o : Own, GMt PR w K mg base 1 (o.cls (adr K)) "look_at_word" (sp_lw K (adr K)) := fun o => match o with
  | .E _ => (EpH.GMt.up (GM_ok_lw_EpochBook Φ) (by decide))
  | .L _ => (EpH.GMt.up (GM_ok_lw_LookBook Φ) (by decide))
  | .S _ => (EpH.GMt.up (GM_ok_lw_StillBook Φ) (by decide))
theorem F_ok_si (Φ : Ctx w K mg) : ∃ fd, Fun K "__setitem__" "Book.__setitem__" s_si (me "Book" "__setitem__" K) fd := by
  obtain ⟨e, k⟩ := Φ.c.def_ 17
  obtain ⟨fd, F⟩ := DefP.funD e k rfl
  exact ⟨fd, fun_of F⟩
theorem O_ok_si (Φ : Ctx w K mg) : ∃ fd, Fun K "__setitem__" "Book.__setitem__" s_si (me "Book" "__setitem__" K) fd ∧ FnOk PR w K mg base CX0 5 (me "Book" "__setitem__" K) fd ["self", "word", "value"] (sp_si K (adr K)) := by
  obtain ⟨fd, F⟩ := F_ok_si Φ
  exact ⟨fd, F, ok_si (a := adr K) F (txbs Φ) (own_ok_lw_1 Φ) (own_ok_fw_4 Φ)⟩
theorem gseto_EpochBook (Φ : Ctx w K mg) : ∃ g fd ps, FnOk PR w K mg base CX0 5 g fd ps (sp_si K (adr K)) ∧ SetO K (ga K "EpochBook") g ∧ Binds K fd ps [] := by
  obtain ⟨fd, F, O⟩ := O_ok_si Φ
  exact ⟨_, fd, _, O, setB_ok (Φ.c.ck 47), F.binds (ps := ["self", "word", "value"]) fun _ _ _ _ _ _ us hl => match us, hl with | [_, _, _], _ => rfl⟩
theorem gseto_LookBook (Φ : Ctx w K mg) : ∃ g fd ps, FnOk PR w K mg base CX0 5 g fd ps (sp_si K (adr K)) ∧ SetO K (ga K "LookBook") g ∧ Binds K fd ps [] := by
  obtain ⟨fd, F, O⟩ := O_ok_si Φ
  exact ⟨_, fd, _, O, setB_ok (Φ.c.ck 48), F.binds (ps := ["self", "word", "value"]) fun _ _ _ _ _ _ us hl => match us, hl with | [_, _, _], _ => rfl⟩
theorem gseto_StillBook (Φ : Ctx w K mg) : ∃ g fd ps, FnOk PR w K mg base CX0 5 g fd ps (sp_si K (adr K)) ∧ SetO K (ga K "StillBook") g ∧ Binds K fd ps [] := by
  obtain ⟨fd, F, O⟩ := O_ok_si Φ
  exact ⟨_, fd, _, O, setB_ok (Φ.c.ck 49), F.binds (ps := ["self", "word", "value"]) fun _ _ _ _ _ _ us hl => match us, hl with | [_, _, _], _ => rfl⟩
theorem gseto (Φ : Ctx w K mg) : GSetO PR w K mg base (adr K) 5 := fun o => match o with
  | .E _ => gseto_EpochBook Φ
  | .L _ => gseto_LookBook Φ
  | .S _ => gseto_StillBook Φ
theorem F_ok_lk (Φ : Ctx w K mg) : ∃ fd, Fun K "_law_book" "_law_book" s_lk (gl "_law_book" K) fd := by
  obtain ⟨e, k⟩ := Φ.c.def_ 18
  obtain ⟨fd, F⟩ := DefP.funD e k rfl
  exact ⟨fd, fun_of F⟩
theorem O_ok_lk (Φ : Ctx w K mg) : ∃ fd, Fun K "_law_book" "_law_book" s_lk (gl "_law_book" K) fd ∧ FnOk PR w K mg base CX0 12 (gl "_law_book" K) fd ["_law_own_here"] (sp_lk K (adr K)) := by
  obtain ⟨fd, F⟩ := F_ok_lk Φ
  exact ⟨fd, F, ok_lk (a := adr K) F (EpH.GFn.up (GF__law_switches Φ) (by decide)) (gbk Φ) (gseto Φ)⟩
theorem m__law_book (Φ : Ctx w K mg) : mg "_law_book" = some (.ref (ga K "_law_book")) := by
  obtain ⟨⟨h, X, G⟩, c⟩ := Φ
  exact glo_ok X G (c.ck 50)
theorem GF__law_book (Φ : Ctx w K mg) : GFn PR w K mg base 12 "_law_book" (sp_lk K (adr K)) := by
  obtain ⟨fd, F, O⟩ := O_ok_lk Φ
  exact ⟨_, fd, _, O, m__law_book Φ, F.kp, F.binds (ps := ["_law_own_here"]) fun _ _ _ _ _ _ us hl => match us, hl with | [_], _ => rfl⟩
theorem m_Setting (Φ : Ctx w K mg) : mg "Setting" = some (.ref (ga K "Setting")) := by
  obtain ⟨⟨h, X, G⟩, c⟩ := Φ
  exact glo_ok X G (c.ck 51)
theorem t_Setting (Φ : Ctx w K mg) : TxC K (ga K "Setting") fsSE := clsB_ok (Φ.c.ck 53)
theorem i_MOST_READERS (Φ : Ctx w K mg) : ∃ t, mg "MOST_READERS" = some (.int 3 t) := by
  obtain ⟨⟨h, X, G⟩, c⟩ := Φ
  exact int_ok X G (c.ck 54)
theorem i_MOST_TAKERS (Φ : Ctx w K mg) : ∃ t, mg "MOST_TAKERS" = some (.int 2 t) := by
  obtain ⟨⟨h, X, G⟩, c⟩ := Φ
  exact int_ok X G (c.ck 55)
theorem i_MOST_STEPPERS (Φ : Ctx w K mg) : ∃ t, mg "MOST_STEPPERS" = some (.int 7 t) := by
  obtain ⟨⟨h, X, G⟩, c⟩ := Φ
  exact int_ok X G (c.ck 56)
theorem i_MOST_THINGS (Φ : Ctx w K mg) : ∃ t, mg "MOST_THINGS" = some (.int 40 t) := by
  obtain ⟨⟨h, X, G⟩, c⟩ := Φ
  exact int_ok X G (c.ck 57)
theorem txi_EpochBook (Φ : Ctx w K mg) : TxI K (ga K "EpochBook") := isiB_ok (Φ.c.ck 58) (t_EpochBook Φ).cl
theorem txi_LookBook (Φ : Ctx w K mg) : TxI K (ga K "LookBook") := isiB_ok (Φ.c.ck 60) (t_LookBook Φ).cl
theorem txi_StillBook (Φ : Ctx w K mg) : TxI K (ga K "StillBook") := isiB_ok (Φ.c.ck 62) (t_StillBook Φ).cl
theorem txbi (Φ : Ctx w K mg) : TxBI K (adr K) := fun o => match o with
  | .E _ => ⟨txi_EpochBook Φ, of_decide_eq_true (Φ.c.ck 59)⟩
  | .L _ => ⟨txi_LookBook Φ, of_decide_eq_true (Φ.c.ck 61)⟩
  | .S _ => ⟨txi_StillBook Φ, of_decide_eq_true (Φ.c.ck 63)⟩
theorem F_ok_ib (Φ : Ctx w K mg) : ∃ fd, Fun K "is_book" "is_book" s_ib (gl "is_book" K) fd := by
  obtain ⟨e, k⟩ := Φ.c.def_ 20
  obtain ⟨fd, F⟩ := DefP.funD e k rfl
  exact ⟨fd, fun_of F⟩
theorem O_ok_ib (Φ : Ctx w K mg) : ∃ fd, Fun K "is_book" "is_book" s_ib (gl "is_book" K) fd ∧ FnOk PR w K mg base CX0 1 (gl "is_book" K) fd ["value"] (sp_ib K (adr K)) := by
  obtain ⟨fd, F⟩ := F_ok_ib Φ
  exact ⟨fd, F, ok_ib (a := adr K) F (txbi Φ) (b_isinstance Φ) (m_EpochBook Φ) (m_LookBook Φ) (m_StillBook Φ)⟩
theorem m_is_book (Φ : Ctx w K mg) : mg "is_book" = some (.ref (ga K "is_book")) := by
  obtain ⟨⟨h, X, G⟩, c⟩ := Φ
  exact glo_ok X G (c.ck 64)
theorem GF_is_book (Φ : Ctx w K mg) : GFn PR w K mg base 1 "is_book" (sp_ib K (adr K)) := by
  obtain ⟨fd, F, O⟩ := O_ok_ib Φ
  exact ⟨_, fd, _, O, m_is_book Φ, F.kp, F.binds (ps := ["value"]) fun _ _ _ _ _ _ us hl => match us, hl with | [_], _ => rfl⟩
theorem F_ok_lb (Φ : Ctx w K mg) : ∃ fd, Fun K "look_at_book" "look_at_book" s_lb (gl "look_at_book" K) fd := by
  obtain ⟨e, k⟩ := Φ.c.def_ 21
  obtain ⟨fd, F⟩ := DefP.funD e k rfl
  exact ⟨fd, fun_of F⟩
theorem O_ok_lb (Φ : Ctx w K mg) : ∃ fd, Fun K "look_at_book" "look_at_book" s_lb (gl "look_at_book" K) fd ∧ FnOk PR w K mg base CX0 2 (gl "look_at_book" K) fd ["value"] (sp_lb K (adr K)) := by
  obtain ⟨fd, F⟩ := F_ok_lb Φ
  exact ⟨fd, F, ok_lb (a := adr K) F (EpH.GFn.up (GF_is_book Φ) (by decide))⟩
theorem m_look_at_book (Φ : Ctx w K mg) : mg "look_at_book" = some (.ref (ga K "look_at_book")) := by
  obtain ⟨⟨h, X, G⟩, c⟩ := Φ
  exact glo_ok X G (c.ck 65)
theorem GF_look_at_book (Φ : Ctx w K mg) : GFn PR w K mg base 2 "look_at_book" (sp_lb K (adr K)) := by
  obtain ⟨fd, F, O⟩ := O_ok_lb Φ
  exact ⟨_, fd, _, O, m_look_at_book Φ, F.kp, F.binds (ps := ["value"]) fun _ _ _ _ _ _ us hl => match us, hl with | [_], _ => rfl⟩
theorem F_ok_nu (Φ : Ctx w K mg) : ∃ fd, Fun K "is_number" "is_number" s_nu (gl "is_number" K) fd := by
  obtain ⟨e, k⟩ := Φ.c.def_ 22
  obtain ⟨fd, F⟩ := DefP.funD e k rfl
  exact ⟨fd, fun_of F⟩
theorem O_ok_nu (Φ : Ctx w K mg) : ∃ fd, Fun K "is_number" "is_number" s_nu (gl "is_number" K) fd ∧ FnOk PR w K mg base CX0 2 (gl "is_number" K) fd ["value", "low", "high"] (sp_nu K) := by
  obtain ⟨fd, F⟩ := F_ok_nu Φ
  exact ⟨fd, F, ok_nu F (EpH.GFn.up (GF_is_whole Φ) (by decide))⟩
theorem m_is_number (Φ : Ctx w K mg) : mg "is_number" = some (.ref (ga K "is_number")) := by
  obtain ⟨⟨h, X, G⟩, c⟩ := Φ
  exact glo_ok X G (c.ck 66)
theorem GF_is_number (Φ : Ctx w K mg) : GFn PR w K mg base 2 "is_number" (sp_nu K) := by
  obtain ⟨fd, F, O⟩ := O_ok_nu Φ
  exact ⟨_, fd, _, O, m_is_number Φ, F.kp, F.binds (ps := ["value", "low", "high"]) fun _ _ _ _ _ _ us hl => match us, hl with | [_, _, _], _ => rfl⟩
theorem F_ok_wy (Φ : Ctx w K mg) : ∃ fd, Fun K "way" "Book.way" s_wy (pr "Book" "way" K) fd := by
  obtain ⟨e, k⟩ := Φ.c.def_ 23
  obtain ⟨fd, F⟩ := DefP.funD e k rfl
  exact ⟨fd, fun_of F⟩
theorem O_ok_wy (Φ : Ctx w K mg) : ∃ fd, Fun K "way" "Book.way" s_wy (pr "Book" "way" K) fd ∧ FnOk PR w K mg base CX0 1 (pr "Book" "way" K) fd ["self"] (sp_wy K (adr K)) := by
  obtain ⟨fd, F⟩ := F_ok_wy Φ
  exact ⟨fd, F, ok_wy (a := adr K) F (txbs Φ)⟩
theorem GP_ok_wy_EpochBook (Φ : Ctx w K mg) : GPr PR w K mg base 1 (ga K "EpochBook") "way" (sp_wy K (adr K)) := by
  obtain ⟨fd, F, O⟩ := O_ok_wy Φ
  exact ⟨_, _, fd, _, O, (t_EpochBook Φ).cl, propB_ok (Φ.c.ck 67), F.binds (ps := ["self"]) fun _ _ _ _ _ _ us hl => match us, hl with | [_], _ => rfl⟩
theorem GP_ok_wy_LookBook (Φ : Ctx w K mg) : GPr PR w K mg base 1 (ga K "LookBook") "way" (sp_wy K (adr K)) := by
  obtain ⟨fd, F, O⟩ := O_ok_wy Φ
  exact ⟨_, _, fd, _, O, (t_LookBook Φ).cl, propB_ok (Φ.c.ck 68), F.binds (ps := ["self"]) fun _ _ _ _ _ _ us hl => match us, hl with | [_], _ => rfl⟩
theorem GP_ok_wy_StillBook (Φ : Ctx w K mg) : GPr PR w K mg base 1 (ga K "StillBook") "way" (sp_wy K (adr K)) := by
  obtain ⟨fd, F, O⟩ := O_ok_wy Φ
  exact ⟨_, _, fd, _, O, (t_StillBook Φ).cl, propB_ok (Φ.c.ck 69), F.binds (ps := ["self"]) fun _ _ _ _ _ _ us hl => match us, hl with | [_], _ => rfl⟩
theorem gway (Φ : Ctx w K mg) : GWay PR w K mg base (adr K) := fun o => match o with
  | .E _ => (GP_ok_wy_EpochBook Φ)
  | .L _ => (GP_ok_wy_LookBook Φ)
  | .S _ => (GP_ok_wy_StillBook Φ)
theorem b_dict (Φ : Ctx w K mg) : mg "dict" = none := by
  obtain ⟨⟨h, X, G⟩, c⟩ := Φ
  exact free_ok X G (c.ck 70)
theorem F_ok_et (Φ : Ctx w K mg) : ∃ fd, Fun K "twin" "EpochBook.twin" s_et (me "EpochBook" "twin" K) fd := by
  obtain ⟨e, k⟩ := Φ.c.def_ 24
  obtain ⟨fd, F⟩ := DefP.funD e k rfl
  exact ⟨fd, fun_of F⟩
theorem O_ok_et (Φ : Ctx w K mg) : ∃ fd, Fun K "twin" "EpochBook.twin" s_et (me "EpochBook" "twin" K) fd ∧ FnOk PR w K mg base CX0 10 (me "EpochBook" "twin" K) fd ["self"] (sp_tw K (adr K) fun o => ∃ l, o = .E l) := by
  obtain ⟨fd, F⟩ := F_ok_et Φ
  exact ⟨fd, F, ok_et (a := adr K) F (gbk Φ) (t_EpochBook Φ) (b_dict Φ)⟩
theorem GM_ok_et_EpochBook (Φ : Ctx w K mg) : GMt PR w K mg base 10 (ga K "EpochBook") "twin" (sp_tw K (adr K) fun o => ∃ l, o = .E l) := by
  obtain ⟨fd, F, O⟩ := O_ok_et Φ
  exact ⟨_, fd, _, O, (t_EpochBook Φ).cl, methB_ok (Φ.c.ck 71), F.binds (ps := ["self"]) fun _ _ _ _ _ _ us hl => match us, hl with | [_], _ => rfl⟩
theorem F_ok_lt (Φ : Ctx w K mg) : ∃ fd, Fun K "twin" "LookBook.twin" s_lt (me "LookBook" "twin" K) fd := by
  obtain ⟨e, k⟩ := Φ.c.def_ 25
  obtain ⟨fd, F⟩ := DefP.funD e k rfl
  exact ⟨fd, fun_of F⟩
theorem O_ok_lt (Φ : Ctx w K mg) : ∃ fd, Fun K "twin" "LookBook.twin" s_lt (me "LookBook" "twin" K) fd ∧ FnOk PR w K mg base CX0 10 (me "LookBook" "twin" K) fd ["self"] (sp_tw K (adr K) fun o => ∃ l, o = .L l) := by
  obtain ⟨fd, F⟩ := F_ok_lt Φ
  exact ⟨fd, F, ok_lt (a := adr K) F (gbk Φ) (t_LookBook Φ)⟩
theorem GM_ok_lt_LookBook (Φ : Ctx w K mg) : GMt PR w K mg base 10 (ga K "LookBook") "twin" (sp_tw K (adr K) fun o => ∃ l, o = .L l) := by
  obtain ⟨fd, F, O⟩ := O_ok_lt Φ
  exact ⟨_, fd, _, O, (t_LookBook Φ).cl, methB_ok (Φ.c.ck 72), F.binds (ps := ["self"]) fun _ _ _ _ _ _ us hl => match us, hl with | [_], _ => rfl⟩
theorem F_ok_st2 (Φ : Ctx w K mg) : ∃ fd, Fun K "twin" "StillBook.twin" s_st2 (me "StillBook" "twin" K) fd := by
  obtain ⟨e, k⟩ := Φ.c.def_ 26
  obtain ⟨fd, F⟩ := DefP.funD e k rfl
  exact ⟨fd, fun_of F⟩
theorem O_ok_st2 (Φ : Ctx w K mg) : ∃ fd, Fun K "twin" "StillBook.twin" s_st2 (me "StillBook" "twin" K) fd ∧ FnOk PR w K mg base CX0 10 (me "StillBook" "twin" K) fd ["self"] (sp_tw K (adr K) fun o => ∃ l, o = .S l) := by
  obtain ⟨fd, F⟩ := F_ok_st2 Φ
  exact ⟨fd, F, ok_st2 (a := adr K) F (gbk Φ) (t_StillBook Φ)⟩
theorem GM_ok_st2_StillBook (Φ : Ctx w K mg) : GMt PR w K mg base 10 (ga K "StillBook") "twin" (sp_tw K (adr K) fun o => ∃ l, o = .S l) := by
  obtain ⟨fd, F, O⟩ := O_ok_st2 Φ
  exact ⟨_, fd, _, O, (t_StillBook Φ).cl, methB_ok (Φ.c.ck 73), F.binds (ps := ["self"]) fun _ _ _ _ _ _ us hl => match us, hl with | [_], _ => rfl⟩
theorem gtw (Φ : Ctx w K mg) : GTw PR w K mg base (adr K) := fun o => match o with
  | .E _ => ⟨fun o => ∃ l, o = .E l, ⟨_, rfl⟩, GM_ok_et_EpochBook Φ⟩
  | .L _ => ⟨fun o => ∃ l, o = .L l, ⟨_, rfl⟩, GM_ok_lt_LookBook Φ⟩
  | .S _ => ⟨fun o => ∃ l, o = .S l, ⟨_, rfl⟩, GM_ok_st2_StillBook Φ⟩
theorem gst (Φ : Ctx w K mg) : GSt PR w K mg base (adr K) := by
  obtain ⟨e, k⟩ := Φ.c.def_ 19
  obtain ⟨fd, F⟩ := DefP.funD e k rfl
  exact ⟨⟨_, fd, ok_se (a := adr K) F (t_Setting Φ) ⟨i_MOST_READERS Φ, i_MOST_TAKERS Φ, i_MOST_STEPPERS Φ, i_MOST_THINGS Φ⟩ (EpH.GFn.up (GF_look_at_book Φ) (by decide)) (EpH.GFn.up (GF_is_number Φ) (by decide)) (gway Φ) (gtw Φ), m_Setting Φ, mkB_ok (Φ.c.ck 52), F⟩⟩
theorem F_ok_lset (Φ : Ctx w K mg) : ∃ fd, Fun K "_law_setting" "_law_setting" s_lset (gl "_law_setting" K) fd := by
  obtain ⟨e, k⟩ := Φ.c.def_ 27
  obtain ⟨fd, F⟩ := DefP.funD e k rfl
  exact ⟨fd, fun_of F⟩
theorem O_ok_lset (Φ : Ctx w K mg) : ∃ fd, Fun K "_law_setting" "_law_setting" s_lset (gl "_law_setting" K) fd ∧ FnOk PR w K mg base CX0 13 (gl "_law_setting" K) fd ["_law_own_here"] (sp_lset K (adr K)) := by
  obtain ⟨fd, F⟩ := F_ok_lset Φ
  exact ⟨fd, F, ok_lset (a := adr K) F (EpH.GFn.up (GF__law_book Φ) (by decide)) (gst Φ)⟩
theorem m__law_setting (Φ : Ctx w K mg) : mg "_law_setting" = some (.ref (ga K "_law_setting")) := by
  obtain ⟨⟨h, X, G⟩, c⟩ := Φ
  exact glo_ok X G (c.ck 74)
theorem GF__law_setting (Φ : Ctx w K mg) : GFn PR w K mg base 13 "_law_setting" (sp_lset K (adr K)) := by
  obtain ⟨fd, F, O⟩ := O_ok_lset Φ
  exact ⟨_, fd, _, O, m__law_setting Φ, F.kp, F.binds (ps := ["_law_own_here"]) fun _ _ _ _ _ _ us hl => match us, hl with | [_], _ => rfl⟩
theorem t_Bench (Φ : Ctx w K mg) : TxC K (ga K "Bench") fsBN := clsB_ok (Φ.c.ck 75)
theorem txi_Setting (Φ : Ctx w K mg) : TxI K (ga K "Setting") := isiB_ok (Φ.c.ck 76) (t_Setting Φ).cl
theorem F_ok_ls (Φ : Ctx w K mg) : ∃ fd, Fun K "look_at_setting" "look_at_setting" s_ls (gl "look_at_setting" K) fd := by
  obtain ⟨e, k⟩ := Φ.c.def_ 28
  obtain ⟨fd, F⟩ := DefP.funD e k rfl
  exact ⟨fd, fun_of F⟩
theorem O_ok_ls (Φ : Ctx w K mg) : ∃ fd, Fun K "look_at_setting" "look_at_setting" s_ls (gl "look_at_setting" K) fd ∧ FnOk PR w K mg base CX0 1 (gl "look_at_setting" K) fd ["value"] (sp_ls K (adr K)) := by
  obtain ⟨fd, F⟩ := F_ok_ls Φ
  exact ⟨fd, F, ok_ls (a := adr K) F (txi_Setting Φ) (b_isinstance Φ) (m_Setting Φ)⟩
theorem m_look_at_setting (Φ : Ctx w K mg) : mg "look_at_setting" = some (.ref (ga K "look_at_setting")) := by
  obtain ⟨⟨h, X, G⟩, c⟩ := Φ
  exact glo_ok X G (c.ck 77)
theorem GF_look_at_setting (Φ : Ctx w K mg) : GFn PR w K mg base 1 "look_at_setting" (sp_ls K (adr K)) := by
  obtain ⟨fd, F, O⟩ := O_ok_ls Φ
  exact ⟨_, fd, _, O, m_look_at_setting Φ, F.kp, F.binds (ps := ["value"]) fun _ _ _ _ _ _ us hl => match us, hl with | [_], _ => rfl⟩
theorem F_ok_set2 (Φ : Ctx w K mg) : ∃ fd, Fun K "readers" "Setting.readers" (s_set 2) (pr "Setting" "readers" K) fd := by
  obtain ⟨e, k⟩ := Φ.c.def_ 29
  obtain ⟨fd, F⟩ := DefP.funD e k rfl
  exact ⟨fd, fun_of F⟩
theorem O_ok_set2 (Φ : Ctx w K mg) : ∃ fd, Fun K "readers" "Setting.readers" (s_set 2) (pr "Setting" "readers" K) fd ∧ FnOk PR w K mg base CX0 1 (pr "Setting" "readers" K) fd ["self"] (spProp K (adr K) fun c => .int (c.nr : Nat)) := by
  obtain ⟨fd, F⟩ := F_ok_set2 Φ
  exact ⟨fd, F, ok_set2 (a := adr K) F (t_Setting Φ)⟩
theorem GP_ok_set2_Setting (Φ : Ctx w K mg) : GPr PR w K mg base 1 (ga K "Setting") "readers" (spProp K (adr K) fun c => .int (c.nr : Nat)) := by
  obtain ⟨fd, F, O⟩ := O_ok_set2 Φ
  exact ⟨_, _, fd, _, O, (t_Setting Φ).cl, propB_ok (Φ.c.ck 78), F.binds (ps := ["self"]) fun _ _ _ _ _ _ us hl => match us, hl with | [_], _ => rfl⟩
theorem F_ok_set3 (Φ : Ctx w K mg) : ∃ fd, Fun K "takers" "Setting.takers" (s_set 3) (pr "Setting" "takers" K) fd := by
  obtain ⟨e, k⟩ := Φ.c.def_ 30
  obtain ⟨fd, F⟩ := DefP.funD e k rfl
  exact ⟨fd, fun_of F⟩
theorem O_ok_set3 (Φ : Ctx w K mg) : ∃ fd, Fun K "takers" "Setting.takers" (s_set 3) (pr "Setting" "takers" K) fd ∧ FnOk PR w K mg base CX0 1 (pr "Setting" "takers" K) fd ["self"] (spProp K (adr K) fun c => .int (c.nt : Nat)) := by
  obtain ⟨fd, F⟩ := F_ok_set3 Φ
  exact ⟨fd, F, ok_set3 (a := adr K) F (t_Setting Φ)⟩
theorem GP_ok_set3_Setting (Φ : Ctx w K mg) : GPr PR w K mg base 1 (ga K "Setting") "takers" (spProp K (adr K) fun c => .int (c.nt : Nat)) := by
  obtain ⟨fd, F, O⟩ := O_ok_set3 Φ
  exact ⟨_, _, fd, _, O, (t_Setting Φ).cl, propB_ok (Φ.c.ck 79), F.binds (ps := ["self"]) fun _ _ _ _ _ _ us hl => match us, hl with | [_], _ => rfl⟩
theorem F_ok_set4 (Φ : Ctx w K mg) : ∃ fd, Fun K "steppers" "Setting.steppers" (s_set 4) (pr "Setting" "steppers" K) fd := by
  obtain ⟨e, k⟩ := Φ.c.def_ 31
  obtain ⟨fd, F⟩ := DefP.funD e k rfl
  exact ⟨fd, fun_of F⟩
theorem O_ok_set4 (Φ : Ctx w K mg) : ∃ fd, Fun K "steppers" "Setting.steppers" (s_set 4) (pr "Setting" "steppers" K) fd ∧ FnOk PR w K mg base CX0 1 (pr "Setting" "steppers" K) fd ["self"] (spProp K (adr K) fun c => .int (c.ns : Nat)) := by
  obtain ⟨fd, F⟩ := F_ok_set4 Φ
  exact ⟨fd, F, ok_set4 (a := adr K) F (t_Setting Φ)⟩
theorem GP_ok_set4_Setting (Φ : Ctx w K mg) : GPr PR w K mg base 1 (ga K "Setting") "steppers" (spProp K (adr K) fun c => .int (c.ns : Nat)) := by
  obtain ⟨fd, F, O⟩ := O_ok_set4 Φ
  exact ⟨_, _, fd, _, O, (t_Setting Φ).cl, propB_ok (Φ.c.ck 80), F.binds (ps := ["self"]) fun _ _ _ _ _ _ us hl => match us, hl with | [_], _ => rfl⟩
theorem F_ok_set5 (Φ : Ctx w K mg) : ∃ fd, Fun K "things" "Setting.things" (s_set 5) (pr "Setting" "things" K) fd := by
  obtain ⟨e, k⟩ := Φ.c.def_ 32
  obtain ⟨fd, F⟩ := DefP.funD e k rfl
  exact ⟨fd, fun_of F⟩
theorem O_ok_set5 (Φ : Ctx w K mg) : ∃ fd, Fun K "things" "Setting.things" (s_set 5) (pr "Setting" "things" K) fd ∧ FnOk PR w K mg base CX0 1 (pr "Setting" "things" K) fd ["self"] (spProp K (adr K) fun c => .int (c.nth : Nat)) := by
  obtain ⟨fd, F⟩ := F_ok_set5 Φ
  exact ⟨fd, F, ok_set5 (a := adr K) F (t_Setting Φ)⟩
theorem GP_ok_set5_Setting (Φ : Ctx w K mg) : GPr PR w K mg base 1 (ga K "Setting") "things" (spProp K (adr K) fun c => .int (c.nth : Nat)) := by
  obtain ⟨fd, F, O⟩ := O_ok_set5 Φ
  exact ⟨_, _, fd, _, O, (t_Setting Φ).cl, propB_ok (Φ.c.ck 81), F.binds (ps := ["self"]) fun _ _ _ _ _ _ us hl => match us, hl with | [_], _ => rfl⟩
theorem F_ok_gi (Φ : Ctx w K mg) : ∃ fd, Fun K "__getitem__" "Book.__getitem__" s_gi (me "Book" "__getitem__" K) fd := by
  obtain ⟨e, k⟩ := Φ.c.def_ 33
  obtain ⟨fd, F⟩ := DefP.funD e k rfl
  exact ⟨fd, fun_of F⟩
theorem O_ok_gi (Φ : Ctx w K mg) : ∃ fd, Fun K "__getitem__" "Book.__getitem__" s_gi (me "Book" "__getitem__" K) fd ∧ FnOk PR w K mg base CX0 2 (me "Book" "__getitem__" K) fd ["self", "word"] (sp_gi K (adr K)) := by
  obtain ⟨fd, F⟩ := F_ok_gi Φ
  exact ⟨fd, F, ok_gi (a := adr K) F (txbs Φ) (own_ok_lw_1 Φ)⟩
theorem gget_EpochBook (Φ : Ctx w K mg) : ∃ g fd ps, FnOk PR w K mg base CX0 2 g fd ps (sp_gi K (adr K)) ∧ GetO K (ga K "EpochBook") g ∧ Binds K fd ps [] := by
  obtain ⟨fd, F, O⟩ := O_ok_gi Φ
  exact ⟨_, fd, _, O, getB_ok (Φ.c.ck 82), F.binds (ps := ["self", "word"]) fun _ _ _ _ _ _ us hl => match us, hl with | [_, _], _ => rfl⟩
theorem gget_LookBook (Φ : Ctx w K mg) : ∃ g fd ps, FnOk PR w K mg base CX0 2 g fd ps (sp_gi K (adr K)) ∧ GetO K (ga K "LookBook") g ∧ Binds K fd ps [] := by
  obtain ⟨fd, F, O⟩ := O_ok_gi Φ
  exact ⟨_, fd, _, O, getB_ok (Φ.c.ck 83), F.binds (ps := ["self", "word"]) fun _ _ _ _ _ _ us hl => match us, hl with | [_, _], _ => rfl⟩
theorem gget_StillBook (Φ : Ctx w K mg) : ∃ g fd ps, FnOk PR w K mg base CX0 2 g fd ps (sp_gi K (adr K)) ∧ GetO K (ga K "StillBook") g ∧ Binds K fd ps [] := by
  obtain ⟨fd, F, O⟩ := O_ok_gi Φ
  exact ⟨_, fd, _, O, getB_ok (Φ.c.ck 84), F.binds (ps := ["self", "word"]) fun _ _ _ _ _ _ us hl => match us, hl with | [_, _], _ => rfl⟩
theorem gget (Φ : Ctx w K mg) : GGet PR w K mg base (adr K) 2 := fun o => match o with
  | .E _ => gget_EpochBook Φ
  | .L _ => gget_LookBook Φ
  | .S _ => gget_StillBook Φ
theorem F_ok_fe (Φ : Ctx w K mg) : ∃ fd, Fun K "first_epochs" "first_epochs" s_fe (gl "first_epochs" K) fd := by
  obtain ⟨e, k⟩ := Φ.c.def_ 34
  obtain ⟨fd, F⟩ := DefP.funD e k rfl
  exact ⟨fd, fun_of F⟩
theorem O_ok_fe (Φ : Ctx w K mg) : ∃ fd, Fun K "first_epochs" "first_epochs" s_fe (gl "first_epochs" K) fd ∧ FnOk PR w K mg base CX0 4 (gl "first_epochs" K) fd ["setting"] (sp_fe K (adr K)) := by
  obtain ⟨fd, F⟩ := F_ok_fe Φ
  exact ⟨fd, F, ok_fe (a := adr K) F (t_Setting Φ) ⟨GP_ok_set2_Setting Φ, GP_ok_set3_Setting Φ, GP_ok_set4_Setting Φ, GP_ok_set5_Setting Φ⟩ (gget Φ)⟩
theorem m_first_epochs (Φ : Ctx w K mg) : mg "first_epochs" = some (.ref (ga K "first_epochs")) := by
  obtain ⟨⟨h, X, G⟩, c⟩ := Φ
  exact glo_ok X G (c.ck 85)
theorem GF_first_epochs (Φ : Ctx w K mg) : GFn PR w K mg base 4 "first_epochs" (sp_fe K (adr K)) := by
  obtain ⟨fd, F, O⟩ := O_ok_fe Φ
  exact ⟨_, fd, _, O, m_first_epochs Φ, F.kp, F.binds (ps := ["setting"]) fun _ _ _ _ _ _ us hl => match us, hl with | [_], _ => rfl⟩
theorem F_ok_fl (Φ : Ctx w K mg) : ∃ fd, Fun K "first_looks" "first_looks" s_fl (gl "first_looks" K) fd := by
  obtain ⟨e, k⟩ := Φ.c.def_ 35
  obtain ⟨fd, F⟩ := DefP.funD e k rfl
  exact ⟨fd, fun_of F⟩
theorem O_ok_fl (Φ : Ctx w K mg) : ∃ fd, Fun K "first_looks" "first_looks" s_fl (gl "first_looks" K) fd ∧ FnOk PR w K mg base CX0 3 (gl "first_looks" K) fd ["setting"] (sp_fl K (adr K)) := by
  obtain ⟨fd, F⟩ := F_ok_fl Φ
  exact ⟨fd, F, ok_fl (a := adr K) F ⟨GP_ok_set2_Setting Φ, GP_ok_set3_Setting Φ, GP_ok_set4_Setting Φ, GP_ok_set5_Setting Φ⟩⟩
theorem m_first_looks (Φ : Ctx w K mg) : mg "first_looks" = some (.ref (ga K "first_looks")) := by
  obtain ⟨⟨h, X, G⟩, c⟩ := Φ
  exact glo_ok X G (c.ck 86)
theorem GF_first_looks (Φ : Ctx w K mg) : GFn PR w K mg base 3 "first_looks" (sp_fl K (adr K)) := by
  obtain ⟨fd, F, O⟩ := O_ok_fl Φ
  exact ⟨_, fd, _, O, m_first_looks Φ, F.kp, F.binds (ps := ["setting"]) fun _ _ _ _ _ _ us hl => match us, hl with | [_], _ => rfl⟩
theorem F_ok_fs (Φ : Ctx w K mg) : ∃ fd, Fun K "first_stills" "first_stills" s_fs (gl "first_stills" K) fd := by
  obtain ⟨e, k⟩ := Φ.c.def_ 36
  obtain ⟨fd, F⟩ := DefP.funD e k rfl
  exact ⟨fd, fun_of F⟩
theorem O_ok_fs (Φ : Ctx w K mg) : ∃ fd, Fun K "first_stills" "first_stills" s_fs (gl "first_stills" K) fd ∧ FnOk PR w K mg base CX0 3 (gl "first_stills" K) fd ["setting"] (sp_fs K (adr K)) := by
  obtain ⟨fd, F⟩ := F_ok_fs Φ
  exact ⟨fd, F, ok_fs (a := adr K) F ⟨GP_ok_set2_Setting Φ, GP_ok_set3_Setting Φ, GP_ok_set4_Setting Φ, GP_ok_set5_Setting Φ⟩⟩
theorem m_first_stills (Φ : Ctx w K mg) : mg "first_stills" = some (.ref (ga K "first_stills")) := by
  obtain ⟨⟨h, X, G⟩, c⟩ := Φ
  exact glo_ok X G (c.ck 87)
theorem GF_first_stills (Φ : Ctx w K mg) : GFn PR w K mg base 3 "first_stills" (sp_fs K (adr K)) := by
  obtain ⟨fd, F, O⟩ := O_ok_fs Φ
  exact ⟨_, fd, _, O, m_first_stills Φ, F.kp, F.binds (ps := ["setting"]) fun _ _ _ _ _ _ us hl => match us, hl with | [_], _ => rfl⟩
theorem F_ok_f1 (Φ : Ctx w K mg) : ∃ fd, Fun K "first_state" "first_state" s_f1 (gl "first_state" K) fd := by
  obtain ⟨e, k⟩ := Φ.c.def_ 37
  obtain ⟨fd, F⟩ := DefP.funD e k rfl
  exact ⟨fd, fun_of F⟩
theorem O_ok_f1 (Φ : Ctx w K mg) : ∃ fd, Fun K "first_state" "first_state" s_f1 (gl "first_state" K) fd ∧ FnOk PR w K mg base CX0 5 (gl "first_state" K) fd ["setting"] (sp_f1 K (adr K)) := by
  obtain ⟨fd, F⟩ := F_ok_f1 Φ
  exact ⟨fd, F, ok_f1 (a := adr K) F (t_Setting Φ) (EpH.GFn.up (GF_look_at_setting Φ) (by decide)) (gway Φ) (EpH.GFn.up (GF_first_epochs Φ) (by decide)) (EpH.GFn.up (GF_first_looks Φ) (by decide)) (EpH.GFn.up (GF_first_stills Φ) (by decide))⟩
theorem m_first_state (Φ : Ctx w K mg) : mg "first_state" = some (.ref (ga K "first_state")) := by
  obtain ⟨⟨h, X, G⟩, c⟩ := Φ
  exact glo_ok X G (c.ck 88)
theorem GF_first_state (Φ : Ctx w K mg) : GFn PR w K mg base 5 "first_state" (sp_f1 K (adr K)) := by
  obtain ⟨fd, F, O⟩ := O_ok_f1 Φ
  exact ⟨_, fd, _, O, m_first_state Φ, F.kp, F.binds (ps := ["setting"]) fun _ _ _ _ _ _ us hl => match us, hl with | [_], _ => rfl⟩
theorem F_ok_b_in (Φ : Ctx w K mg) : ∃ fd, Fun K "__init__" "Bench.__init__" s_b_in (me "Bench" "__init__" K) fd := by
  obtain ⟨e, k⟩ := Φ.c.def_ 38
  obtain ⟨fd, F⟩ := DefP.funD e k rfl
  exact ⟨fd, fun_of F⟩
theorem O_ok_b_in (Φ : Ctx w K mg) : ∃ fd, Fun K "__init__" "Bench.__init__" s_b_in (me "Bench" "__init__" K) fd ∧ FnOk PR w K mg base CX0 6 (me "Bench" "__init__" K) fd ["self", "setting"] (sp_b_in K (adr K)) := by
  obtain ⟨fd, F⟩ := F_ok_b_in Φ
  exact ⟨fd, F, ok_b_in (a := adr K) F (t_Bench Φ) (EpH.GFn.up (GF_look_at_setting Φ) (by decide)) (EpH.GFn.up (GF_first_state Φ) (by decide))⟩
theorem m_Bench (Φ : Ctx w K mg) : mg "Bench" = some (.ref (ga K "Bench")) := by
  obtain ⟨⟨h, X, G⟩, c⟩ := Φ
  exact glo_ok X G (c.ck 89)
theorem GK_Bench (Φ : Ctx w K mg) : GMk PR w K mg base 6 "Bench" (ga K "Bench") (sp_b_in K (adr K)) := by
  obtain ⟨fd, F, O⟩ := O_ok_b_in Φ
  exact ⟨_, fd, _, O, m_Bench Φ, mkB_ok (Φ.c.ck 90), F.binds (ps := ["self", "setting"]) fun _ _ _ _ _ _ us hl => match us, hl with | [_, _], _ => rfl⟩
theorem F_ok_un (Φ : Ctx w K mg) : ∃ fd, Fun K "is_unsafe" "is_unsafe" s_un (gl "is_unsafe" K) fd := by
  obtain ⟨e, k⟩ := Φ.c.def_ 39
  obtain ⟨fd, F⟩ := DefP.funD e k rfl
  exact ⟨fd, fun_of F⟩
theorem O_ok_un (Φ : Ctx w K mg) : ∃ fd, Fun K "is_unsafe" "is_unsafe" s_un (gl "is_unsafe" K) fd ∧ FnOk PR w K mg base CX0 1 (gl "is_unsafe" K) fd ["state"] (sp_un K) := by
  obtain ⟨fd, F⟩ := F_ok_un Φ
  exact ⟨fd, F, ok_un F ⟩
theorem m_is_unsafe (Φ : Ctx w K mg) : mg "is_unsafe" = some (.ref (ga K "is_unsafe")) := by
  obtain ⟨⟨h, X, G⟩, c⟩ := Φ
  exact glo_ok X G (c.ck 91)
theorem GF_is_unsafe (Φ : Ctx w K mg) : GFn PR w K mg base 1 "is_unsafe" (sp_un K) := by
  obtain ⟨fd, F, O⟩ := O_ok_un Φ
  exact ⟨_, fd, _, O, m_is_unsafe Φ, F.kp, F.binds (ps := ["state"]) fun _ _ _ _ _ _ us hl => match us, hl with | [_], _ => rfl⟩
theorem F_ok_hb (Φ : Ctx w K mg) : ∃ fd, Fun K "held_by" "held_by" s_hb (gl "held_by" K) fd := by
  obtain ⟨e, k⟩ := Φ.c.def_ 40
  obtain ⟨fd, F⟩ := DefP.funD e k rfl
  exact ⟨fd, fun_of F⟩
theorem O_ok_hb (Φ : Ctx w K mg) : ∃ fd, Fun K "held_by" "held_by" s_hb (gl "held_by" K) fd ∧ FnOk PR w K mg base CX0 1 (gl "held_by" K) fd ["way", "taker"] (sp_hb K) := by
  obtain ⟨fd, F⟩ := F_ok_hb Φ
  exact ⟨fd, F, ok_hb F (b_list Φ)⟩
theorem m_held_by (Φ : Ctx w K mg) : mg "held_by" = some (.ref (ga K "held_by")) := by
  obtain ⟨⟨h, X, G⟩, c⟩ := Φ
  exact glo_ok X G (c.ck 92)
theorem GF_held_by (Φ : Ctx w K mg) : GFn PR w K mg base 1 "held_by" (sp_hb K) := by
  obtain ⟨fd, F, O⟩ := O_ok_hb Φ
  exact ⟨_, fd, _, O, m_held_by Φ, F.kp, F.binds (ps := ["way", "taker"]) fun _ _ _ _ _ _ us hl => match us, hl with | [_, _], _ => rfl⟩
theorem b_sorted (Φ : Ctx w K mg) : mg "sorted" = none := by
  obtain ⟨⟨h, X, G⟩, c⟩ := Φ
  exact free_ok X G (c.ck 93)
theorem F_ok_kp (Φ : Ctx w K mg) : ∃ fd, Fun K "kept" "kept" s_kp (gl "kept" K) fd := by
  obtain ⟨e, k⟩ := Φ.c.def_ 41
  obtain ⟨fd, F⟩ := DefP.funD e k rfl
  exact ⟨fd, fun_of F⟩
theorem O_ok_kp (Φ : Ctx w K mg) : ∃ fd, Fun K "kept" "kept" s_kp (gl "kept" K) fd ∧ FnOk PR w K mg base CX0 3 (gl "kept" K) fd ["setting", "state"] (sp_kp K (adr K)) := by
  obtain ⟨fd, F⟩ := F_ok_kp Φ
  exact ⟨fd, F, ok_kp (a := adr K) F (t_Setting Φ) (EpH.GFn.up (GF_look_at_setting Φ) (by decide)) (EpH.GFn.up (GF_is_unsafe Φ) (by decide)) (gway Φ) (EpH.GFn.up (GF_held_by Φ) (by decide)) (b_sorted Φ) (b_int Φ)⟩
theorem m_kept (Φ : Ctx w K mg) : mg "kept" = some (.ref (ga K "kept")) := by
  obtain ⟨⟨h, X, G⟩, c⟩ := Φ
  exact glo_ok X G (c.ck 94)
theorem GF_kept (Φ : Ctx w K mg) : GFn PR w K mg base 3 "kept" (sp_kp K (adr K)) := by
  obtain ⟨fd, F, O⟩ := O_ok_kp Φ
  exact ⟨_, fd, _, O, m_kept Φ, F.kp, F.binds (ps := ["setting", "state"]) fun _ _ _ _ _ _ us hl => match us, hl with | [_, _], _ => rfl⟩
theorem F_ok_b_st (Φ : Ctx w K mg) : ∃ fd, Fun K "state" "Bench.state" s_b_st (me "Bench" "state" K) fd := by
  obtain ⟨e, k⟩ := Φ.c.def_ 42
  obtain ⟨fd, F⟩ := DefP.funD e k rfl
  exact ⟨fd, fun_of F⟩
theorem O_ok_b_st (Φ : Ctx w K mg) : ∃ fd, Fun K "state" "Bench.state" s_b_st (me "Bench" "state" K) fd ∧ FnOk PR w K mg base CX0 1 (me "Bench" "state" K) fd ["self"] (sp_b_st K (adr K)) := by
  obtain ⟨fd, F⟩ := F_ok_b_st Φ
  exact ⟨fd, F, ok_b_st (a := adr K) F (t_Bench Φ)⟩
theorem GM_ok_b_st_Bench (Φ : Ctx w K mg) : GMt PR w K mg base 1 (ga K "Bench") "state" (sp_b_st K (adr K)) := by
  obtain ⟨fd, F, O⟩ := O_ok_b_st Φ
  exact ⟨_, fd, _, O, (t_Bench Φ).cl, methB_ok (Φ.c.ck 95), F.binds (ps := ["self"]) fun _ _ _ _ _ _ us hl => match us, hl with | [_], _ => rfl⟩
theorem t_EpochWorld (Φ : Ctx w K mg) : TxC K (ga K "EpochWorld") fsEW := clsB_ok (Φ.c.ck 96)
theorem F_ok_e_in (Φ : Ctx w K mg) : ∃ fd, Fun K "__init__" "EpochWorld.__init__" s_e_in (me "EpochWorld" "__init__" K) fd := by
  obtain ⟨e, k⟩ := Φ.c.def_ 43
  obtain ⟨fd, F⟩ := DefP.funD e k rfl
  exact ⟨fd, fun_of F⟩
theorem O_ok_e_in (Φ : Ctx w K mg) : ∃ fd, Fun K "__init__" "EpochWorld.__init__" s_e_in (me "EpochWorld" "__init__" K) fd ∧ FnOk PR w K mg base CX0 1 (me "EpochWorld" "__init__" K) fd ["self", "setting", "state"] (sp_e_in K (adr K)) := by
  obtain ⟨fd, F⟩ := F_ok_e_in Φ
  exact ⟨fd, F, ok_e_in (a := adr K) F (t_EpochWorld Φ) (t_Setting Φ) (t_EpochBook Φ) (b_list Φ)⟩
theorem m_EpochWorld (Φ : Ctx w K mg) : mg "EpochWorld" = some (.ref (ga K "EpochWorld")) := by
  obtain ⟨⟨h, X, G⟩, c⟩ := Φ
  exact glo_ok X G (c.ck 97)
theorem GK_EpochWorld (Φ : Ctx w K mg) : GMk PR w K mg base 1 "EpochWorld" (ga K "EpochWorld") (sp_e_in K (adr K)) := by
  obtain ⟨fd, F, O⟩ := O_ok_e_in Φ
  exact ⟨_, fd, _, O, m_EpochWorld Φ, mkB_ok (Φ.c.ck 98), F.binds (ps := ["self", "setting", "state"]) fun _ _ _ _ _ _ us hl => match us, hl with | [_, _, _], _ => rfl⟩
theorem t_LookWorld (Φ : Ctx w K mg) : TxC K (ga K "LookWorld") fsTW := clsB_ok (Φ.c.ck 99)
theorem F_ok_l_in (Φ : Ctx w K mg) : ∃ fd, Fun K "__init__" "LookWorld.__init__" s_l_in (me "LookWorld" "__init__" K) fd := by
  obtain ⟨e, k⟩ := Φ.c.def_ 44
  obtain ⟨fd, F⟩ := DefP.funD e k rfl
  exact ⟨fd, fun_of F⟩
theorem O_ok_l_in (Φ : Ctx w K mg) : ∃ fd, Fun K "__init__" "LookWorld.__init__" s_l_in (me "LookWorld" "__init__" K) fd ∧ FnOk PR w K mg base CX0 1 (me "LookWorld" "__init__" K) fd ["self", "setting", "state"] (sp_l_in K (adr K)) := by
  obtain ⟨fd, F⟩ := F_ok_l_in Φ
  exact ⟨fd, F, ok_l_in (a := adr K) F (t_LookWorld Φ) (t_Setting Φ) (t_LookBook Φ) (b_list Φ)⟩
theorem m_LookWorld (Φ : Ctx w K mg) : mg "LookWorld" = some (.ref (ga K "LookWorld")) := by
  obtain ⟨⟨h, X, G⟩, c⟩ := Φ
  exact glo_ok X G (c.ck 100)
theorem GK_LookWorld (Φ : Ctx w K mg) : GMk PR w K mg base 1 "LookWorld" (ga K "LookWorld") (sp_l_in K (adr K)) := by
  obtain ⟨fd, F, O⟩ := O_ok_l_in Φ
  exact ⟨_, fd, _, O, m_LookWorld Φ, mkB_ok (Φ.c.ck 101), F.binds (ps := ["self", "setting", "state"]) fun _ _ _ _ _ _ us hl => match us, hl with | [_, _, _], _ => rfl⟩
theorem t_StillWorld (Φ : Ctx w K mg) : TxC K (ga K "StillWorld") fsTW := clsB_ok (Φ.c.ck 102)
theorem F_ok_s_in (Φ : Ctx w K mg) : ∃ fd, Fun K "__init__" "StillWorld.__init__" s_s_in (me "StillWorld" "__init__" K) fd := by
  obtain ⟨e, k⟩ := Φ.c.def_ 45
  obtain ⟨fd, F⟩ := DefP.funD e k rfl
  exact ⟨fd, fun_of F⟩
theorem O_ok_s_in (Φ : Ctx w K mg) : ∃ fd, Fun K "__init__" "StillWorld.__init__" s_s_in (me "StillWorld" "__init__" K) fd ∧ FnOk PR w K mg base CX0 1 (me "StillWorld" "__init__" K) fd ["self", "setting", "state"] (sp_s_in K (adr K)) := by
  obtain ⟨fd, F⟩ := F_ok_s_in Φ
  exact ⟨fd, F, ok_s_in (a := adr K) F (t_StillWorld Φ) (t_Setting Φ) (t_StillBook Φ) (b_list Φ)⟩
theorem m_StillWorld (Φ : Ctx w K mg) : mg "StillWorld" = some (.ref (ga K "StillWorld")) := by
  obtain ⟨⟨h, X, G⟩, c⟩ := Φ
  exact glo_ok X G (c.ck 103)
theorem GK_StillWorld (Φ : Ctx w K mg) : GMk PR w K mg base 1 "StillWorld" (ga K "StillWorld") (sp_s_in K (adr K)) := by
  obtain ⟨fd, F, O⟩ := O_ok_s_in Φ
  exact ⟨_, fd, _, O, m_StillWorld Φ, mkB_ok (Φ.c.ck 104), F.binds (ps := ["self", "setting", "state"]) fun _ _ _ _ _ _ us hl => match us, hl with | [_, _, _], _ => rfl⟩
theorem F_ok_wo (Φ : Ctx w K mg) : ∃ fd, Fun K "world_of" "world_of" s_wo (gl "world_of" K) fd := by
  obtain ⟨e, k⟩ := Φ.c.def_ 46
  obtain ⟨fd, F⟩ := DefP.funD e k rfl
  exact ⟨fd, fun_of F⟩
theorem O_ok_wo (Φ : Ctx w K mg) : ∃ fd, Fun K "world_of" "world_of" s_wo (gl "world_of" K) fd ∧ FnOk PR w K mg base CX0 3 (gl "world_of" K) fd ["setting", "state"] (sp_wo K (adr K)) := by
  obtain ⟨fd, F⟩ := F_ok_wo Φ
  exact ⟨fd, F, ok_wo (a := adr K) F (t_Setting Φ) (gway Φ) (EpH.GMk.up (GK_EpochWorld Φ) (by decide)) (EpH.GMk.up (GK_LookWorld Φ) (by decide)) (EpH.GMk.up (GK_StillWorld Φ) (by decide))⟩
theorem m_world_of (Φ : Ctx w K mg) : mg "world_of" = some (.ref (ga K "world_of")) := by
  obtain ⟨⟨h, X, G⟩, c⟩ := Φ
  exact glo_ok X G (c.ck 105)
theorem GF_world_of (Φ : Ctx w K mg) : GFn PR w K mg base 3 "world_of" (sp_wo K (adr K)) := by
  obtain ⟨fd, F, O⟩ := O_ok_wo Φ
  exact ⟨_, fd, _, O, m_world_of Φ, F.kp, F.binds (ps := ["setting", "state"]) fun _ _ _ _ _ _ us hl => match us, hl with | [_, _], _ => rfl⟩
theorem b_enumerate (Φ : Ctx w K mg) : mg "enumerate" = none := by
  obtain ⟨⟨h, X, G⟩, c⟩ := Φ
  exact free_ok X G (c.ck 106)
theorem m_READER_DEEDS (Φ : Ctx w K mg) : mg "READER_DEEDS" = some (.ref (ga K "READER_DEEDS")) := by
  obtain ⟨⟨h, X, G⟩, c⟩ := Φ
  exact glo_ok X G (c.ck 107)
theorem tb_READER_DEEDS (Φ : Ctx w K mg) : Tab K w mg "READER_DEEDS" rdKeys rdTab := ⟨_, m_READER_DEEDS Φ, fun z hz => tabvB_ok (l := rdKeys.map fun z => (z, (rdTab z).map PyData.str)) (Φ.c.ck 108) (Φ.c.tab 1) (List.mem_map.mpr ⟨z, hz, rfl⟩)⟩
theorem F_ok_e_rd (Φ : Ctx w K mg) : ∃ fd, Fun K "reader_deeds" "EpochWorld.reader_deeds" s_e_rd (me "EpochWorld" "reader_deeds" K) fd := by
  obtain ⟨e, k⟩ := Φ.c.def_ 47
  obtain ⟨fd, F⟩ := DefP.funD e k rfl
  exact ⟨fd, fun_of F⟩
theorem O_ok_e_rd (Φ : Ctx w K mg) : ∃ fd, Fun K "reader_deeds" "EpochWorld.reader_deeds" s_e_rd (me "EpochWorld" "reader_deeds" K) fd ∧ FnOk PR w K mg base CX0 1 (me "EpochWorld" "reader_deeds" K) fd ["self", "reader"] (sp_e_rd K (adr K)) := by
  obtain ⟨fd, F⟩ := F_ok_e_rd Φ
  exact ⟨fd, F, ok_e_rd (a := adr K) F (t_EpochWorld Φ) (tb_READER_DEEDS Φ)⟩
theorem GM_ok_e_rd_EpochWorld (Φ : Ctx w K mg) : GMt PR w K mg base 1 (ga K "EpochWorld") "reader_deeds" (sp_e_rd K (adr K)) := by
  obtain ⟨fd, F, O⟩ := O_ok_e_rd Φ
  exact ⟨_, fd, _, O, (t_EpochWorld Φ).cl, methB_ok (Φ.c.ck 109), F.binds (ps := ["self", "reader"]) fun _ _ _ _ _ _ us hl => match us, hl with | [_, _], _ => rfl⟩
theorem m_TAKER_DEEDS (Φ : Ctx w K mg) : mg "TAKER_DEEDS" = some (.ref (ga K "TAKER_DEEDS")) := by
  obtain ⟨⟨h, X, G⟩, c⟩ := Φ
  exact glo_ok X G (c.ck 110)
theorem tb_TAKER_DEEDS (Φ : Ctx w K mg) : Tab K w mg "TAKER_DEEDS" tkKeys tkTab := ⟨_, m_TAKER_DEEDS Φ, fun z hz => tabvB_ok (l := tkKeys.map fun z => (z, (tkTab z).map PyData.str)) (Φ.c.ck 111) (Φ.c.tab 2) (List.mem_map.mpr ⟨z, hz, rfl⟩)⟩
theorem F_ok_e_td (Φ : Ctx w K mg) : ∃ fd, Fun K "taker_deeds" "EpochWorld.taker_deeds" s_e_td (me "EpochWorld" "taker_deeds" K) fd := by
  obtain ⟨e, k⟩ := Φ.c.def_ 48
  obtain ⟨fd, F⟩ := DefP.funD e k rfl
  exact ⟨fd, fun_of F⟩
theorem O_ok_e_td (Φ : Ctx w K mg) : ∃ fd, Fun K "taker_deeds" "EpochWorld.taker_deeds" s_e_td (me "EpochWorld" "taker_deeds" K) fd ∧ FnOk PR w K mg base CX0 3 (me "EpochWorld" "taker_deeds" K) fd ["self", "taker"] (sp_e_td K (adr K)) := by
  obtain ⟨fd, F⟩ := F_ok_e_td Φ
  exact ⟨fd, F, ok_e_td (a := adr K) F (t_EpochWorld Φ) (EpH.GPr.up (GP_ok_set5_Setting Φ) (by decide)) (tb_TAKER_DEEDS Φ)⟩
theorem GM_ok_e_td_EpochWorld (Φ : Ctx w K mg) : GMt PR w K mg base 3 (ga K "EpochWorld") "taker_deeds" (sp_e_td K (adr K)) := by
  obtain ⟨fd, F, O⟩ := O_ok_e_td Φ
  exact ⟨_, fd, _, O, (t_EpochWorld Φ).cl, methB_ok (Φ.c.ck 112), F.binds (ps := ["self", "taker"]) fun _ _ _ _ _ _ us hl => match us, hl with | [_, _], _ => rfl⟩
theorem m_STEPPER_DEEDS (Φ : Ctx w K mg) : mg "STEPPER_DEEDS" = some (.ref (ga K "STEPPER_DEEDS")) := by
  obtain ⟨⟨h, X, G⟩, c⟩ := Φ
  exact glo_ok X G (c.ck 113)
theorem tb_STEPPER_DEEDS (Φ : Ctx w K mg) : Tab K w mg "STEPPER_DEEDS" stKeys stTab := ⟨_, m_STEPPER_DEEDS Φ, fun z hz => tabvB_ok (l := stKeys.map fun z => (z, (stTab z).map PyData.str)) (Φ.c.ck 114) (Φ.c.tab 3) (List.mem_map.mpr ⟨z, hz, rfl⟩)⟩
theorem F_ok_e_sd (Φ : Ctx w K mg) : ∃ fd, Fun K "stepper_deeds" "EpochWorld.stepper_deeds" s_e_sd (me "EpochWorld" "stepper_deeds" K) fd := by
  obtain ⟨e, k⟩ := Φ.c.def_ 49
  obtain ⟨fd, F⟩ := DefP.funD e k rfl
  exact ⟨fd, fun_of F⟩
theorem O_ok_e_sd (Φ : Ctx w K mg) : ∃ fd, Fun K "stepper_deeds" "EpochWorld.stepper_deeds" s_e_sd (me "EpochWorld" "stepper_deeds" K) fd ∧ FnOk PR w K mg base CX0 1 (me "EpochWorld" "stepper_deeds" K) fd ["self", "stepper"] (sp_e_sd K (adr K)) := by
  obtain ⟨fd, F⟩ := F_ok_e_sd Φ
  exact ⟨fd, F, ok_e_sd (a := adr K) F (t_EpochWorld Φ) (tb_STEPPER_DEEDS Φ)⟩
theorem GM_ok_e_sd_EpochWorld (Φ : Ctx w K mg) : GMt PR w K mg base 1 (ga K "EpochWorld") "stepper_deeds" (sp_e_sd K (adr K)) := by
  obtain ⟨fd, F, O⟩ := O_ok_e_sd Φ
  exact ⟨_, fd, _, O, (t_EpochWorld Φ).cl, methB_ok (Φ.c.ck 115), F.binds (ps := ["self", "stepper"]) fun _ _ _ _ _ _ us hl => match us, hl with | [_, _], _ => rfl⟩
theorem F_ok_e_mv (Φ : Ctx w K mg) : ∃ fd, Fun K "moves" "EpochWorld.moves" s_e_mv (me "EpochWorld" "moves" K) fd := by
  obtain ⟨e, k⟩ := Φ.c.def_ 50
  obtain ⟨fd, F⟩ := DefP.funD e k rfl
  exact ⟨fd, fun_of F⟩
theorem O_ok_e_mv (Φ : Ctx w K mg) : ∃ fd, Fun K "moves" "EpochWorld.moves" s_e_mv (me "EpochWorld" "moves" K) fd ∧ FnOk PR w K mg base CX0 4 (me "EpochWorld" "moves" K) fd ["self"] (sp_e_mv K (adr K)) := by
  obtain ⟨fd, F⟩ := F_ok_e_mv Φ
  exact ⟨fd, F, ok_e_mv (a := adr K) F (t_EpochWorld Φ) (b_enumerate Φ) (EpH.GMt.up (GM_ok_e_rd_EpochWorld Φ) (by decide)) (EpH.GMt.up (GM_ok_e_td_EpochWorld Φ) (by decide)) (EpH.GMt.up (GM_ok_e_sd_EpochWorld Φ) (by decide))⟩
theorem GM_ok_e_mv_EpochWorld (Φ : Ctx w K mg) : GMt PR w K mg base 4 (ga K "EpochWorld") "moves" (sp_e_mv K (adr K)) := by
  obtain ⟨fd, F, O⟩ := O_ok_e_mv Φ
  exact ⟨_, fd, _, O, (t_EpochWorld Φ).cl, methB_ok (Φ.c.ck 116), F.binds (ps := ["self"]) fun _ _ _ _ _ _ us hl => match us, hl with | [_], _ => rfl⟩
theorem F_ok_l_rd (Φ : Ctx w K mg) : ∃ fd, Fun K "reader_deeds" "LookWorld.reader_deeds" s_l_rd (me "LookWorld" "reader_deeds" K) fd := by
  obtain ⟨e, k⟩ := Φ.c.def_ 51
  obtain ⟨fd, F⟩ := DefP.funD e k rfl
  exact ⟨fd, fun_of F⟩
theorem O_ok_l_rd (Φ : Ctx w K mg) : ∃ fd, Fun K "reader_deeds" "LookWorld.reader_deeds" s_l_rd (me "LookWorld" "reader_deeds" K) fd ∧ FnOk PR w K mg base CX0 1 (me "LookWorld" "reader_deeds" K) fd ["self", "reader"] (sp_l_rd K (adr K)) := by
  obtain ⟨fd, F⟩ := F_ok_l_rd Φ
  exact ⟨fd, F, ok_l_rd (a := adr K) F (t_LookWorld Φ)⟩
theorem GM_ok_l_rd_LookWorld (Φ : Ctx w K mg) : GMt PR w K mg base 1 (ga K "LookWorld") "reader_deeds" (sp_l_rd K (adr K)) := by
  obtain ⟨fd, F, O⟩ := O_ok_l_rd Φ
  exact ⟨_, fd, _, O, (t_LookWorld Φ).cl, methB_ok (Φ.c.ck 117), F.binds (ps := ["self", "reader"]) fun _ _ _ _ _ _ us hl => match us, hl with | [_, _], _ => rfl⟩
theorem F_ok_l_td (Φ : Ctx w K mg) : ∃ fd, Fun K "taker_deeds" "LookWorld.taker_deeds" s_l_td (me "LookWorld" "taker_deeds" K) fd := by
  obtain ⟨e, k⟩ := Φ.c.def_ 52
  obtain ⟨fd, F⟩ := DefP.funD e k rfl
  exact ⟨fd, fun_of F⟩
theorem O_ok_l_td (Φ : Ctx w K mg) : ∃ fd, Fun K "taker_deeds" "LookWorld.taker_deeds" s_l_td (me "LookWorld" "taker_deeds" K) fd ∧ FnOk PR w K mg base CX0 3 (me "LookWorld" "taker_deeds" K) fd ["self", "taker"] (sp_l_td K (adr K)) := by
  obtain ⟨fd, F⟩ := F_ok_l_td Φ
  exact ⟨fd, F, ok_l_td (a := adr K) F (t_LookWorld Φ) (EpH.GPr.up (GP_ok_set5_Setting Φ) (by decide))⟩
theorem GM_ok_l_td_LookWorld (Φ : Ctx w K mg) : GMt PR w K mg base 3 (ga K "LookWorld") "taker_deeds" (sp_l_td K (adr K)) := by
  obtain ⟨fd, F, O⟩ := O_ok_l_td Φ
  exact ⟨_, fd, _, O, (t_LookWorld Φ).cl, methB_ok (Φ.c.ck 118), F.binds (ps := ["self", "taker"]) fun _ _ _ _ _ _ us hl => match us, hl with | [_, _], _ => rfl⟩
theorem F_ok_l_mv (Φ : Ctx w K mg) : ∃ fd, Fun K "moves" "LookWorld.moves" s_l_mv (me "LookWorld" "moves" K) fd := by
  obtain ⟨e, k⟩ := Φ.c.def_ 53
  obtain ⟨fd, F⟩ := DefP.funD e k rfl
  exact ⟨fd, fun_of F⟩
theorem O_ok_l_mv (Φ : Ctx w K mg) : ∃ fd, Fun K "moves" "LookWorld.moves" s_l_mv (me "LookWorld" "moves" K) fd ∧ FnOk PR w K mg base CX0 4 (me "LookWorld" "moves" K) fd ["self"] (sp_l_mv K (adr K)) := by
  obtain ⟨fd, F⟩ := F_ok_l_mv Φ
  exact ⟨fd, F, ok_l_mv (a := adr K) F (t_LookWorld Φ) (b_enumerate Φ) (EpH.GMt.up (GM_ok_l_rd_LookWorld Φ) (by decide)) (EpH.GMt.up (GM_ok_l_td_LookWorld Φ) (by decide))⟩
theorem GM_ok_l_mv_LookWorld (Φ : Ctx w K mg) : GMt PR w K mg base 4 (ga K "LookWorld") "moves" (sp_l_mv K (adr K)) := by
  obtain ⟨fd, F, O⟩ := O_ok_l_mv Φ
  exact ⟨_, fd, _, O, (t_LookWorld Φ).cl, methB_ok (Φ.c.ck 119), F.binds (ps := ["self"]) fun _ _ _ _ _ _ us hl => match us, hl with | [_], _ => rfl⟩
theorem F_ok_s_rd (Φ : Ctx w K mg) : ∃ fd, Fun K "reader_deeds" "StillWorld.reader_deeds" s_s_rd (me "StillWorld" "reader_deeds" K) fd := by
  obtain ⟨e, k⟩ := Φ.c.def_ 54
  obtain ⟨fd, F⟩ := DefP.funD e k rfl
  exact ⟨fd, fun_of F⟩
theorem O_ok_s_rd (Φ : Ctx w K mg) : ∃ fd, Fun K "reader_deeds" "StillWorld.reader_deeds" s_s_rd (me "StillWorld" "reader_deeds" K) fd ∧ FnOk PR w K mg base CX0 1 (me "StillWorld" "reader_deeds" K) fd ["self", "reader"] (sp_s_rd K (adr K)) := by
  obtain ⟨fd, F⟩ := F_ok_s_rd Φ
  exact ⟨fd, F, ok_s_rd (a := adr K) F (t_StillWorld Φ)⟩
theorem GM_ok_s_rd_StillWorld (Φ : Ctx w K mg) : GMt PR w K mg base 1 (ga K "StillWorld") "reader_deeds" (sp_s_rd K (adr K)) := by
  obtain ⟨fd, F, O⟩ := O_ok_s_rd Φ
  exact ⟨_, fd, _, O, (t_StillWorld Φ).cl, methB_ok (Φ.c.ck 120), F.binds (ps := ["self", "reader"]) fun _ _ _ _ _ _ us hl => match us, hl with | [_, _], _ => rfl⟩
theorem F_ok_s_td (Φ : Ctx w K mg) : ∃ fd, Fun K "taker_deeds" "StillWorld.taker_deeds" s_s_td (me "StillWorld" "taker_deeds" K) fd := by
  obtain ⟨e, k⟩ := Φ.c.def_ 55
  obtain ⟨fd, F⟩ := DefP.funD e k rfl
  exact ⟨fd, fun_of F⟩
theorem O_ok_s_td (Φ : Ctx w K mg) : ∃ fd, Fun K "taker_deeds" "StillWorld.taker_deeds" s_s_td (me "StillWorld" "taker_deeds" K) fd ∧ FnOk PR w K mg base CX0 3 (me "StillWorld" "taker_deeds" K) fd ["self", "taker"] (sp_s_td K (adr K)) := by
  obtain ⟨fd, F⟩ := F_ok_s_td Φ
  exact ⟨fd, F, ok_s_td (a := adr K) F (t_StillWorld Φ) (EpH.GPr.up (GP_ok_set5_Setting Φ) (by decide))⟩
theorem GM_ok_s_td_StillWorld (Φ : Ctx w K mg) : GMt PR w K mg base 3 (ga K "StillWorld") "taker_deeds" (sp_s_td K (adr K)) := by
  obtain ⟨fd, F, O⟩ := O_ok_s_td Φ
  exact ⟨_, fd, _, O, (t_StillWorld Φ).cl, methB_ok (Φ.c.ck 121), F.binds (ps := ["self", "taker"]) fun _ _ _ _ _ _ us hl => match us, hl with | [_, _], _ => rfl⟩
theorem F_ok_s_mv (Φ : Ctx w K mg) : ∃ fd, Fun K "moves" "StillWorld.moves" s_s_mv (me "StillWorld" "moves" K) fd := by
  obtain ⟨e, k⟩ := Φ.c.def_ 56
  obtain ⟨fd, F⟩ := DefP.funD e k rfl
  exact ⟨fd, fun_of F⟩
theorem O_ok_s_mv (Φ : Ctx w K mg) : ∃ fd, Fun K "moves" "StillWorld.moves" s_s_mv (me "StillWorld" "moves" K) fd ∧ FnOk PR w K mg base CX0 4 (me "StillWorld" "moves" K) fd ["self"] (sp_s_mv K (adr K)) := by
  obtain ⟨fd, F⟩ := F_ok_s_mv Φ
  exact ⟨fd, F, ok_s_mv (a := adr K) F (t_StillWorld Φ) (b_enumerate Φ) (EpH.GMt.up (GM_ok_s_rd_StillWorld Φ) (by decide)) (EpH.GMt.up (GM_ok_s_td_StillWorld Φ) (by decide))⟩
theorem GM_ok_s_mv_StillWorld (Φ : Ctx w K mg) : GMt PR w K mg base 4 (ga K "StillWorld") "moves" (sp_s_mv K (adr K)) := by
  obtain ⟨fd, F, O⟩ := O_ok_s_mv Φ
  exact ⟨_, fd, _, O, (t_StillWorld Φ).cl, methB_ok (Φ.c.ck 122), F.binds (ps := ["self"]) fun _ _ _ _ _ _ us hl => match us, hl with | [_], _ => rfl⟩
theorem F_ok_mo (Φ : Ctx w K mg) : ∃ fd, Fun K "moves" "moves" s_mo (gl "moves" K) fd := by
  obtain ⟨e, k⟩ := Φ.c.def_ 57
  obtain ⟨fd, F⟩ := DefP.funD e k rfl
  exact ⟨fd, fun_of F⟩
theorem O_ok_mo (Φ : Ctx w K mg) : ∃ fd, Fun K "moves" "moves" s_mo (gl "moves" K) fd ∧ FnOk PR w K mg base CX0 5 (gl "moves" K) fd ["setting", "state"] (sp_mo K (adr K)) := by
  obtain ⟨fd, F⟩ := F_ok_mo Φ
  exact ⟨fd, F, ok_mo (a := adr K) F (EpH.GFn.up (GF_look_at_setting Φ) (by decide)) (EpH.GFn.up (GF_is_unsafe Φ) (by decide)) (EpH.GFn.up (GF_world_of Φ) (by decide)) (EpH.GMt.up (GM_ok_e_mv_EpochWorld Φ) (by decide)) (EpH.GMt.up (GM_ok_l_mv_LookWorld Φ) (by decide)) (EpH.GMt.up (GM_ok_s_mv_StillWorld Φ) (by decide))⟩
theorem m_moves_rules (Φ : Ctx w K mg) : mg "moves_rules" = some (.ref (ga K "moves")) := by
  obtain ⟨⟨h, X, G⟩, c⟩ := Φ
  exact PySem.W.mg_of X G (eqO_ok (c.ck 123))
theorem GF_moves_rules (Φ : Ctx w K mg) : GFn PR w K mg base 5 "moves_rules" (sp_mo K (adr K)) := by
  obtain ⟨fd, F, O⟩ := O_ok_mo Φ
  exact ⟨_, fd, _, O, m_moves_rules Φ, F.kp, F.binds (ps := ["setting", "state"]) fun _ _ _ _ _ _ us hl => match us, hl with | [_, _], _ => rfl⟩
theorem F_ok_b_mv (Φ : Ctx w K mg) : ∃ fd, Fun K "moves" "Bench.moves" s_b_mv (me "Bench" "moves" K) fd := by
  obtain ⟨e, k⟩ := Φ.c.def_ 58
  obtain ⟨fd, F⟩ := DefP.funD e k rfl
  exact ⟨fd, fun_of F⟩
theorem O_ok_b_mv (Φ : Ctx w K mg) : ∃ fd, Fun K "moves" "Bench.moves" s_b_mv (me "Bench" "moves" K) fd ∧ FnOk PR w K mg base CX0 6 (me "Bench" "moves" K) fd ["self"] (sp_b_mv K (adr K)) := by
  obtain ⟨fd, F⟩ := F_ok_b_mv Φ
  exact ⟨fd, F, ok_b_mv (a := adr K) F (t_Bench Φ) (EpH.GFn.up (GF_moves_rules Φ) (by decide))⟩
theorem GM_ok_b_mv_Bench (Φ : Ctx w K mg) : GMt PR w K mg base 6 (ga K "Bench") "moves" (sp_b_mv K (adr K)) := by
  obtain ⟨fd, F, O⟩ := O_ok_b_mv Φ
  exact ⟨_, fd, _, O, (t_Bench Φ).cl, methB_ok (Φ.c.ck 124), F.binds (ps := ["self"]) fun _ _ _ _ _ _ us hl => match us, hl with | [_], _ => rfl⟩
theorem F_ok_b_un (Φ : Ctx w K mg) : ∃ fd, Fun K "unsafe" "Bench.unsafe" s_b_un (pr "Bench" "unsafe" K) fd := by
  obtain ⟨e, k⟩ := Φ.c.def_ 59
  obtain ⟨fd, F⟩ := DefP.funD e k rfl
  exact ⟨fd, fun_of F⟩
theorem O_ok_b_un (Φ : Ctx w K mg) : ∃ fd, Fun K "unsafe" "Bench.unsafe" s_b_un (pr "Bench" "unsafe" K) fd ∧ FnOk PR w K mg base CX0 2 (pr "Bench" "unsafe" K) fd ["self"] (sp_b_un K (adr K)) := by
  obtain ⟨fd, F⟩ := F_ok_b_un Φ
  exact ⟨fd, F, ok_b_un (a := adr K) F (t_Bench Φ) (EpH.GFn.up (GF_is_unsafe Φ) (by decide))⟩
theorem GP_ok_b_un_Bench (Φ : Ctx w K mg) : GPr PR w K mg base 2 (ga K "Bench") "unsafe" (sp_b_un K (adr K)) := by
  obtain ⟨fd, F, O⟩ := O_ok_b_un Φ
  exact ⟨_, _, fd, _, O, (t_Bench Φ).cl, propB_ok (Φ.c.ck 125), F.binds (ps := ["self"]) fun _ _ _ _ _ _ us hl => match us, hl with | [_], _ => rfl⟩
theorem F_ok_hf (Φ : Ctx w K mg) : ∃ fd, Fun K "has_form" "has_form" s_hf (gl "has_form" K) fd := by
  obtain ⟨e, k⟩ := Φ.c.def_ 60
  obtain ⟨fd, F⟩ := DefP.funD e k rfl
  exact ⟨fd, fun_of F⟩
theorem O_ok_hf (Φ : Ctx w K mg) : ∃ fd, Fun K "has_form" "has_form" s_hf (gl "has_form" K) fd ∧ FnOk PR w K mg base CX0 1 (gl "has_form" K) fd ["move"] (sp_hf K) := by
  obtain ⟨fd, F⟩ := F_ok_hf Φ
  exact ⟨fd, F, ok_hf F (b_isinstance Φ) (b_tuple Φ) (b_int Φ) (b_bool Φ) (b_str Φ) (b_len Φ)⟩
theorem m_has_form (Φ : Ctx w K mg) : mg "has_form" = some (.ref (ga K "has_form")) := by
  obtain ⟨⟨h, X, G⟩, c⟩ := Φ
  exact glo_ok X G (c.ck 126)
theorem GF_has_form (Φ : Ctx w K mg) : GFn PR w K mg base 1 "has_form" (sp_hf K) := by
  obtain ⟨fd, F, O⟩ := O_ok_hf Φ
  exact ⟨_, fd, _, O, m_has_form Φ, F.kp, F.binds (ps := ["move"]) fun _ _ _ _ _ _ us hl => match us, hl with | [_], _ => rfl⟩
theorem F_ok_ip (Φ : Ctx w K mg) : ∃ fd, Fun K "is_possible" "is_possible" s_ip (gl "is_possible" K) fd := by
  obtain ⟨e, k⟩ := Φ.c.def_ 61
  obtain ⟨fd, F⟩ := DefP.funD e k rfl
  exact ⟨fd, fun_of F⟩
theorem O_ok_ip (Φ : Ctx w K mg) : ∃ fd, Fun K "is_possible" "is_possible" s_ip (gl "is_possible" K) fd ∧ FnOk PR w K mg base CX0 6 (gl "is_possible" K) fd ["setting", "state", "move"] (sp_ip K (adr K)) := by
  obtain ⟨fd, F⟩ := F_ok_ip Φ
  exact ⟨fd, F, ok_ip (a := adr K) F (EpH.GFn.up (GF_has_form Φ) (by decide)) (EpH.GFn.up (GF_moves_rules Φ) (by decide))⟩
theorem m_is_possible (Φ : Ctx w K mg) : mg "is_possible" = some (.ref (ga K "is_possible")) := by
  obtain ⟨⟨h, X, G⟩, c⟩ := Φ
  exact glo_ok X G (c.ck 127)
theorem GF_is_possible (Φ : Ctx w K mg) : GFn PR w K mg base 6 "is_possible" (sp_ip K (adr K)) := by
  obtain ⟨fd, F, O⟩ := O_ok_ip Φ
  exact ⟨_, fd, _, O, m_is_possible Φ, F.kp, F.binds (ps := ["setting", "state", "move"]) fun _ _ _ _ _ _ us hl => match us, hl with | [_, _, _], _ => rfl⟩
theorem F_ok_e_rdo (Φ : Ctx w K mg) : ∃ fd, Fun K "reader_does" "EpochWorld.reader_does" s_e_rdo (me "EpochWorld" "reader_does" K) fd := by
  obtain ⟨e, k⟩ := Φ.c.def_ 62
  obtain ⟨fd, F⟩ := DefP.funD e k rfl
  exact ⟨fd, fun_of F⟩
theorem O_ok_e_rdo (Φ : Ctx w K mg) : ∃ fd, Fun K "reader_does" "EpochWorld.reader_does" s_e_rdo (me "EpochWorld" "reader_does" K) fd ∧ FnOk PR w K mg base CX0 1 (me "EpochWorld" "reader_does" K) fd ["self", "k", "deed"] (sp_e_rdo K (adr K)) := by
  obtain ⟨fd, F⟩ := F_ok_e_rdo Φ
  exact ⟨fd, F, ok_e_rdo (a := adr K) F (t_EpochWorld Φ)⟩
theorem GM_ok_e_rdo_EpochWorld (Φ : Ctx w K mg) : GMt PR w K mg base 1 (ga K "EpochWorld") "reader_does" (sp_e_rdo K (adr K)) := by
  obtain ⟨fd, F, O⟩ := O_ok_e_rdo Φ
  exact ⟨_, fd, _, O, (t_EpochWorld Φ).cl, methB_ok (Φ.c.ck 128), F.binds (ps := ["self", "k", "deed"]) fun _ _ _ _ _ _ us hl => match us, hl with | [_, _, _], _ => rfl⟩
theorem F_ok_e_see (Φ : Ctx w K mg) : ∃ fd, Fun K "sees" "EpochWorld.sees" s_e_see (me "EpochWorld" "sees" K) fd := by
  obtain ⟨e, k⟩ := Φ.c.def_ 63
  obtain ⟨fd, F⟩ := DefP.funD e k rfl
  exact ⟨fd, fun_of F⟩
theorem O_ok_e_see (Φ : Ctx w K mg) : ∃ fd, Fun K "sees" "EpochWorld.sees" s_e_see (me "EpochWorld" "sees" K) fd ∧ FnOk PR w K mg base CX0 1 (me "EpochWorld" "sees" K) fd ["self", "seen", "bags"] (sp_e_see K (adr K)) := by
  obtain ⟨fd, F⟩ := F_ok_e_see Φ
  exact ⟨fd, F, ok_e_see (a := adr K) F (t_EpochWorld Φ) (b_sorted Φ) (b_int Φ) (b_list Φ)⟩
theorem GM_ok_e_see_EpochWorld (Φ : Ctx w K mg) : GMt PR w K mg base 1 (ga K "EpochWorld") "sees" (sp_e_see K (adr K)) := by
  obtain ⟨fd, F, O⟩ := O_ok_e_see Φ
  exact ⟨_, fd, _, O, (t_EpochWorld Φ).cl, methB_ok (Φ.c.ck 129), F.binds (ps := ["self", "seen", "bags"]) fun _ _ _ _ _ _ us hl => match us, hl with | [_, _, _], _ => rfl⟩
theorem F_ok_e_put (Φ : Ctx w K mg) : ∃ fd, Fun K "put" "EpochWorld.put" s_e_put (me "EpochWorld" "put" K) fd := by
  obtain ⟨e, k⟩ := Φ.c.def_ 64
  obtain ⟨fd, F⟩ := DefP.funD e k rfl
  exact ⟨fd, fun_of F⟩
theorem O_ok_e_put (Φ : Ctx w K mg) : ∃ fd, Fun K "put" "EpochWorld.put" s_e_put (me "EpochWorld" "put" K) fd ∧ FnOk PR w K mg base CX0 1 (me "EpochWorld" "put" K) fd ["self", "bags", "at", "thing"] (sp_e_put K (adr K)) := by
  obtain ⟨fd, F⟩ := F_ok_e_put Φ
  exact ⟨fd, F, ok_e_put (a := adr K) F (b_sorted Φ) (b_int Φ) (b_tuple Φ)⟩
theorem GM_ok_e_put_EpochWorld (Φ : Ctx w K mg) : GMt PR w K mg base 1 (ga K "EpochWorld") "put" (sp_e_put K (adr K)) := by
  obtain ⟨fd, F, O⟩ := O_ok_e_put Φ
  exact ⟨_, fd, _, O, (t_EpochWorld Φ).cl, methB_ok (Φ.c.ck 130), F.binds (ps := ["self", "bags", "at", "thing"]) fun _ _ _ _ _ _ us hl => match us, hl with | [_, _, _, _], _ => rfl⟩
theorem F_ok_e_tdo (Φ : Ctx w K mg) : ∃ fd, Fun K "taker_does" "EpochWorld.taker_does" s_e_tdo (me "EpochWorld" "taker_does" K) fd := by
  obtain ⟨e, k⟩ := Φ.c.def_ 65
  obtain ⟨fd, F⟩ := DefP.funD e k rfl
  exact ⟨fd, fun_of F⟩
theorem O_ok_e_tdo (Φ : Ctx w K mg) : ∃ fd, Fun K "taker_does" "EpochWorld.taker_does" s_e_tdo (me "EpochWorld" "taker_does" K) fd ∧ FnOk PR w K mg base CX0 2 (me "EpochWorld" "taker_does" K) fd ["self", "k", "deed"] (sp_e_tdo K (adr K)) := by
  obtain ⟨fd, F⟩ := F_ok_e_tdo Φ
  exact ⟨fd, F, ok_e_tdo (a := adr K) F (t_EpochWorld Φ) (EpH.GMt.up (GM_ok_e_see_EpochWorld Φ) (by decide)) (EpH.GMt.up (GM_ok_e_put_EpochWorld Φ) (by decide))⟩
theorem GM_ok_e_tdo_EpochWorld (Φ : Ctx w K mg) : GMt PR w K mg base 2 (ga K "EpochWorld") "taker_does" (sp_e_tdo K (adr K)) := by
  obtain ⟨fd, F, O⟩ := O_ok_e_tdo Φ
  exact ⟨_, fd, _, O, (t_EpochWorld Φ).cl, methB_ok (Φ.c.ck 131), F.binds (ps := ["self", "k", "deed"]) fun _ _ _ _ _ _ us hl => match us, hl with | [_, _, _], _ => rfl⟩
theorem F_ok_e_stp (Φ : Ctx w K mg) : ∃ fd, Fun K "steps" "EpochWorld.steps" s_e_stp (me "EpochWorld" "steps" K) fd := by
  obtain ⟨e, k⟩ := Φ.c.def_ 66
  obtain ⟨fd, F⟩ := DefP.funD e k rfl
  exact ⟨fd, fun_of F⟩
theorem O_ok_e_stp (Φ : Ctx w K mg) : ∃ fd, Fun K "steps" "EpochWorld.steps" s_e_stp (me "EpochWorld" "steps" K) fd ∧ FnOk PR w K mg base CX0 1 (me "EpochWorld" "steps" K) fd ["self", "read"] (sp_e_stp K (adr K)) := by
  obtain ⟨fd, F⟩ := F_ok_e_stp Φ
  exact ⟨fd, F, ok_e_stp (a := adr K) F (t_EpochWorld Φ)⟩
theorem GM_ok_e_stp_EpochWorld (Φ : Ctx w K mg) : GMt PR w K mg base 1 (ga K "EpochWorld") "steps" (sp_e_stp K (adr K)) := by
  obtain ⟨fd, F, O⟩ := O_ok_e_stp Φ
  exact ⟨_, fd, _, O, (t_EpochWorld Φ).cl, methB_ok (Φ.c.ck 132), F.binds (ps := ["self", "read"]) fun _ _ _ _ _ _ us hl => match us, hl with | [_, _], _ => rfl⟩
theorem F_ok_e_w (Φ : Ctx w K mg) : ∃ fd, Fun K "words" "EpochWorld.words" s_e_w (me "EpochWorld" "words" K) fd := by
  obtain ⟨e, k⟩ := Φ.c.def_ 67
  obtain ⟨fd, F⟩ := DefP.funD e k rfl
  exact ⟨fd, fun_of F⟩
theorem O_ok_e_w (Φ : Ctx w K mg) : ∃ fd, Fun K "words" "EpochWorld.words" s_e_w (me "EpochWorld" "words" K) fd ∧ FnOk PR w K mg base CX0 1 (me "EpochWorld" "words" K) fd ["self"] (sp_e_w K (adr K)) := by
  obtain ⟨fd, F⟩ := F_ok_e_w Φ
  exact ⟨fd, F, ok_e_w (a := adr K) F (t_EpochWorld Φ)⟩
theorem GM_ok_e_w_EpochWorld (Φ : Ctx w K mg) : GMt PR w K mg base 1 (ga K "EpochWorld") "words" (sp_e_w K (adr K)) := by
  obtain ⟨fd, F, O⟩ := O_ok_e_w Φ
  exact ⟨_, fd, _, O, (t_EpochWorld Φ).cl, methB_ok (Φ.c.ck 133), F.binds (ps := ["self"]) fun _ _ _ _ _ _ us hl => match us, hl with | [_], _ => rfl⟩
theorem F_ok_e_gb (Φ : Ctx w K mg) : ∃ fd, Fun K "goes_by" "EpochWorld.goes_by" s_e_gb (me "EpochWorld" "goes_by" K) fd := by
  obtain ⟨e, k⟩ := Φ.c.def_ 68
  obtain ⟨fd, F⟩ := DefP.funD e k rfl
  exact ⟨fd, fun_of F⟩
theorem O_ok_e_gb (Φ : Ctx w K mg) : ∃ fd, Fun K "goes_by" "EpochWorld.goes_by" s_e_gb (me "EpochWorld" "goes_by" K) fd ∧ FnOk PR w K mg base CX0 1 (me "EpochWorld" "goes_by" K) fd ["self", "word", "read"] (sp_e_gb K (adr K)) := by
  obtain ⟨fd, F⟩ := F_ok_e_gb Φ
  exact ⟨fd, F, ok_e_gb (a := adr K) F (t_EpochWorld Φ)⟩
theorem GM_ok_e_gb_EpochWorld (Φ : Ctx w K mg) : GMt PR w K mg base 1 (ga K "EpochWorld") "goes_by" (sp_e_gb K (adr K)) := by
  obtain ⟨fd, F, O⟩ := O_ok_e_gb Φ
  exact ⟨_, fd, _, O, (t_EpochWorld Φ).cl, methB_ok (Φ.c.ck 134), F.binds (ps := ["self", "word", "read"]) fun _ _ _ _ _ _ us hl => match us, hl with | [_, _, _], _ => rfl⟩
theorem F_ok_e_lk (Φ : Ctx w K mg) : ∃ fd, Fun K "looks" "EpochWorld.looks" s_e_lk (me "EpochWorld" "looks" K) fd := by
  obtain ⟨e, k⟩ := Φ.c.def_ 69
  obtain ⟨fd, F⟩ := DefP.funD e k rfl
  exact ⟨fd, fun_of F⟩
theorem O_ok_e_lk (Φ : Ctx w K mg) : ∃ fd, Fun K "looks" "EpochWorld.looks" s_e_lk (me "EpochWorld" "looks" K) fd ∧ FnOk PR w K mg base CX0 2 (me "EpochWorld" "looks" K) fd ["self", "stepper"] (sp_e_lk K (adr K)) := by
  obtain ⟨fd, F⟩ := F_ok_e_lk Φ
  exact ⟨fd, F, ok_e_lk (a := adr K) F (t_EpochWorld Φ) (b_len Φ) (EpH.GMt.up (GM_ok_e_w_EpochWorld Φ) (by decide)) (EpH.GMt.up (GM_ok_e_gb_EpochWorld Φ) (by decide))⟩
theorem GM_ok_e_lk_EpochWorld (Φ : Ctx w K mg) : GMt PR w K mg base 2 (ga K "EpochWorld") "looks" (sp_e_lk K (adr K)) := by
  obtain ⟨fd, F, O⟩ := O_ok_e_lk Φ
  exact ⟨_, fd, _, O, (t_EpochWorld Φ).cl, methB_ok (Φ.c.ck 135), F.binds (ps := ["self", "stepper"]) fun _ _ _ _ _ _ us hl => match us, hl with | [_, _], _ => rfl⟩
theorem F_ok_e_sdo (Φ : Ctx w K mg) : ∃ fd, Fun K "stepper_does" "EpochWorld.stepper_does" s_e_sdo (me "EpochWorld" "stepper_does" K) fd := by
  obtain ⟨e, k⟩ := Φ.c.def_ 70
  obtain ⟨fd, F⟩ := DefP.funD e k rfl
  exact ⟨fd, fun_of F⟩
theorem O_ok_e_sdo (Φ : Ctx w K mg) : ∃ fd, Fun K "stepper_does" "EpochWorld.stepper_does" s_e_sdo (me "EpochWorld" "stepper_does" K) fd ∧ FnOk PR w K mg base CX0 3 (me "EpochWorld" "stepper_does" K) fd ["self", "k", "deed"] (sp_e_sdo K (adr K)) := by
  obtain ⟨fd, F⟩ := F_ok_e_sdo Φ
  exact ⟨fd, F, ok_e_sdo (a := adr K) F (t_EpochWorld Φ) (EpH.GMt.up (GM_ok_e_stp_EpochWorld Φ) (by decide)) (EpH.GMt.up (GM_ok_e_lk_EpochWorld Φ) (by decide))⟩
theorem GM_ok_e_sdo_EpochWorld (Φ : Ctx w K mg) : GMt PR w K mg base 3 (ga K "EpochWorld") "stepper_does" (sp_e_sdo K (adr K)) := by
  obtain ⟨fd, F, O⟩ := O_ok_e_sdo Φ
  exact ⟨_, fd, _, O, (t_EpochWorld Φ).cl, methB_ok (Φ.c.ck 136), F.binds (ps := ["self", "k", "deed"]) fun _ _ _ _ _ _ us hl => match us, hl with | [_, _, _], _ => rfl⟩
theorem F_ok_e_do (Φ : Ctx w K mg) : ∃ fd, Fun K "do" "EpochWorld.do" s_e_do (me "EpochWorld" "do" K) fd := by
  obtain ⟨e, k⟩ := Φ.c.def_ 71
  obtain ⟨fd, F⟩ := DefP.funD e k rfl
  exact ⟨fd, fun_of F⟩
theorem O_ok_e_do (Φ : Ctx w K mg) : ∃ fd, Fun K "do" "EpochWorld.do" s_e_do (me "EpochWorld" "do" K) fd ∧ FnOk PR w K mg base CX0 4 (me "EpochWorld" "do" K) fd ["self", "move"] (sp_e_do K (adr K)) := by
  obtain ⟨fd, F⟩ := F_ok_e_do Φ
  exact ⟨fd, F, ok_e_do (a := adr K) F (EpH.GMt.up (GM_ok_e_rdo_EpochWorld Φ) (by decide)) (EpH.GMt.up (GM_ok_e_tdo_EpochWorld Φ) (by decide)) (EpH.GMt.up (GM_ok_e_sdo_EpochWorld Φ) (by decide))⟩
theorem GM_ok_e_do_EpochWorld (Φ : Ctx w K mg) : GMt PR w K mg base 4 (ga K "EpochWorld") "do" (sp_e_do K (adr K)) := by
  obtain ⟨fd, F, O⟩ := O_ok_e_do Φ
  exact ⟨_, fd, _, O, (t_EpochWorld Φ).cl, methB_ok (Φ.c.ck 137), F.binds (ps := ["self", "move"]) fun _ _ _ _ _ _ us hl => match us, hl with | [_, _], _ => rfl⟩
theorem F_ok_l_us (Φ : Ctx w K mg) : ∃ fd, Fun K "use" "LookWorld.use" s_l_us (me "LookWorld" "use" K) fd := by
  obtain ⟨e, k⟩ := Φ.c.def_ 72
  obtain ⟨fd, F⟩ := DefP.funD e k rfl
  exact ⟨fd, fun_of F⟩
theorem O_ok_l_us (Φ : Ctx w K mg) : ∃ fd, Fun K "use" "LookWorld.use" s_l_us (me "LookWorld" "use" K) fd ∧ FnOk PR w K mg base CX0 1 (me "LookWorld" "use" K) fd ["self", "k", "thing"] (sp_l_us K (adr K)) := by
  obtain ⟨fd, F⟩ := F_ok_l_us Φ
  exact ⟨fd, F, ok_l_us (a := adr K) F (t_LookWorld Φ)⟩
theorem GM_ok_l_us_LookWorld (Φ : Ctx w K mg) : GMt PR w K mg base 1 (ga K "LookWorld") "use" (sp_l_us K (adr K)) := by
  obtain ⟨fd, F, O⟩ := O_ok_l_us Φ
  exact ⟨_, fd, _, O, (t_LookWorld Φ).cl, methB_ok (Φ.c.ck 138), F.binds (ps := ["self", "k", "thing"]) fun _ _ _ _ _ _ us hl => match us, hl with | [_, _, _], _ => rfl⟩
theorem F_ok_l_rdo (Φ : Ctx w K mg) : ∃ fd, Fun K "reader_does" "LookWorld.reader_does" s_l_rdo (me "LookWorld" "reader_does" K) fd := by
  obtain ⟨e, k⟩ := Φ.c.def_ 73
  obtain ⟨fd, F⟩ := DefP.funD e k rfl
  exact ⟨fd, fun_of F⟩
theorem O_ok_l_rdo (Φ : Ctx w K mg) : ∃ fd, Fun K "reader_does" "LookWorld.reader_does" s_l_rdo (me "LookWorld" "reader_does" K) fd ∧ FnOk PR w K mg base CX0 2 (me "LookWorld" "reader_does" K) fd ["self", "k", "deed"] (sp_l_rdo K (adr K)) := by
  obtain ⟨fd, F⟩ := F_ok_l_rdo Φ
  exact ⟨fd, F, ok_l_rdo (a := adr K) F (t_LookWorld Φ) (EpH.GMt.up (GM_ok_l_us_LookWorld Φ) (by decide))⟩
theorem GM_ok_l_rdo_LookWorld (Φ : Ctx w K mg) : GMt PR w K mg base 2 (ga K "LookWorld") "reader_does" (sp_l_rdo K (adr K)) := by
  obtain ⟨fd, F, O⟩ := O_ok_l_rdo Φ
  exact ⟨_, fd, _, O, (t_LookWorld Φ).cl, methB_ok (Φ.c.ck 139), F.binds (ps := ["self", "k", "deed"]) fun _ _ _ _ _ _ us hl => match us, hl with | [_, _, _], _ => rfl⟩
theorem F_ok_l_w (Φ : Ctx w K mg) : ∃ fd, Fun K "words" "LookWorld.words" s_l_w (me "LookWorld" "words" K) fd := by
  obtain ⟨e, k⟩ := Φ.c.def_ 74
  obtain ⟨fd, F⟩ := DefP.funD e k rfl
  exact ⟨fd, fun_of F⟩
theorem O_ok_l_w (Φ : Ctx w K mg) : ∃ fd, Fun K "words" "LookWorld.words" s_l_w (me "LookWorld" "words" K) fd ∧ FnOk PR w K mg base CX0 1 (me "LookWorld" "words" K) fd ["self"] (sp_l_w K (adr K)) := by
  obtain ⟨fd, F⟩ := F_ok_l_w Φ
  exact ⟨fd, F, ok_l_w (a := adr K) F (t_LookWorld Φ)⟩
theorem GM_ok_l_w_LookWorld (Φ : Ctx w K mg) : GMt PR w K mg base 1 (ga K "LookWorld") "words" (sp_l_w K (adr K)) := by
  obtain ⟨fd, F, O⟩ := O_ok_l_w Φ
  exact ⟨_, fd, _, O, (t_LookWorld Φ).cl, methB_ok (Φ.c.ck 140), F.binds (ps := ["self"]) fun _ _ _ _ _ _ us hl => match us, hl with | [_], _ => rfl⟩
theorem F_ok_l_tdo (Φ : Ctx w K mg) : ∃ fd, Fun K "taker_does" "LookWorld.taker_does" s_l_tdo (me "LookWorld" "taker_does" K) fd := by
  obtain ⟨e, k⟩ := Φ.c.def_ 75
  obtain ⟨fd, F⟩ := DefP.funD e k rfl
  exact ⟨fd, fun_of F⟩
theorem O_ok_l_tdo (Φ : Ctx w K mg) : ∃ fd, Fun K "taker_does" "LookWorld.taker_does" s_l_tdo (me "LookWorld" "taker_does" K) fd ∧ FnOk PR w K mg base CX0 2 (me "LookWorld" "taker_does" K) fd ["self", "k", "deed"] (sp_l_tdo K (adr K)) := by
  obtain ⟨fd, F⟩ := F_ok_l_tdo Φ
  exact ⟨fd, F, ok_l_tdo (a := adr K) F (t_LookWorld Φ) (EpH.GMt.up (GM_ok_l_w_LookWorld Φ) (by decide)) (b_sorted Φ) (b_int Φ) (b_tuple Φ) (b_len Φ)⟩
theorem GM_ok_l_tdo_LookWorld (Φ : Ctx w K mg) : GMt PR w K mg base 2 (ga K "LookWorld") "taker_does" (sp_l_tdo K (adr K)) := by
  obtain ⟨fd, F, O⟩ := O_ok_l_tdo Φ
  exact ⟨_, fd, _, O, (t_LookWorld Φ).cl, methB_ok (Φ.c.ck 141), F.binds (ps := ["self", "k", "deed"]) fun _ _ _ _ _ _ us hl => match us, hl with | [_, _, _], _ => rfl⟩
theorem F_ok_l_do (Φ : Ctx w K mg) : ∃ fd, Fun K "do" "LookWorld.do" s_l_do (me "LookWorld" "do" K) fd := by
  obtain ⟨e, k⟩ := Φ.c.def_ 76
  obtain ⟨fd, F⟩ := DefP.funD e k rfl
  exact ⟨fd, fun_of F⟩
theorem O_ok_l_do (Φ : Ctx w K mg) : ∃ fd, Fun K "do" "LookWorld.do" s_l_do (me "LookWorld" "do" K) fd ∧ FnOk PR w K mg base CX0 3 (me "LookWorld" "do" K) fd ["self", "move"] (sp_l_do K (adr K)) := by
  obtain ⟨fd, F⟩ := F_ok_l_do Φ
  exact ⟨fd, F, ok_l_do (a := adr K) F (EpH.GMt.up (GM_ok_l_rdo_LookWorld Φ) (by decide)) (EpH.GMt.up (GM_ok_l_tdo_LookWorld Φ) (by decide))⟩
theorem GM_ok_l_do_LookWorld (Φ : Ctx w K mg) : GMt PR w K mg base 3 (ga K "LookWorld") "do" (sp_l_do K (adr K)) := by
  obtain ⟨fd, F, O⟩ := O_ok_l_do Φ
  exact ⟨_, fd, _, O, (t_LookWorld Φ).cl, methB_ok (Φ.c.ck 142), F.binds (ps := ["self", "move"]) fun _ _ _ _ _ _ us hl => match us, hl with | [_, _], _ => rfl⟩
theorem F_ok_s_rdo (Φ : Ctx w K mg) : ∃ fd, Fun K "reader_does" "StillWorld.reader_does" s_s_rdo (me "StillWorld" "reader_does" K) fd := by
  obtain ⟨e, k⟩ := Φ.c.def_ 77
  obtain ⟨fd, F⟩ := DefP.funD e k rfl
  exact ⟨fd, fun_of F⟩
theorem O_ok_s_rdo (Φ : Ctx w K mg) : ∃ fd, Fun K "reader_does" "StillWorld.reader_does" s_s_rdo (me "StillWorld" "reader_does" K) fd ∧ FnOk PR w K mg base CX0 1 (me "StillWorld" "reader_does" K) fd ["self", "k", "deed"] (sp_s_rdo K (adr K)) := by
  obtain ⟨fd, F⟩ := F_ok_s_rdo Φ
  exact ⟨fd, F, ok_s_rdo (a := adr K) F (t_StillWorld Φ)⟩
theorem GM_ok_s_rdo_StillWorld (Φ : Ctx w K mg) : GMt PR w K mg base 1 (ga K "StillWorld") "reader_does" (sp_s_rdo K (adr K)) := by
  obtain ⟨fd, F, O⟩ := O_ok_s_rdo Φ
  exact ⟨_, fd, _, O, (t_StillWorld Φ).cl, methB_ok (Φ.c.ck 143), F.binds (ps := ["self", "k", "deed"]) fun _ _ _ _ _ _ us hl => match us, hl with | [_, _, _], _ => rfl⟩
theorem F_ok_s_nt (Φ : Ctx w K mg) : ∃ fd, Fun K "noted" "StillWorld.noted" s_s_nt (me "StillWorld" "noted" K) fd := by
  obtain ⟨e, k⟩ := Φ.c.def_ 78
  obtain ⟨fd, F⟩ := DefP.funD e k rfl
  exact ⟨fd, fun_of F⟩
theorem O_ok_s_nt (Φ : Ctx w K mg) : ∃ fd, Fun K "noted" "StillWorld.noted" s_s_nt (me "StillWorld" "noted" K) fd ∧ FnOk PR w K mg base CX0 1 (me "StillWorld" "noted" K) fd ["self", "at", "noted"] (sp_s_nt K (adr K)) := by
  obtain ⟨fd, F⟩ := F_ok_s_nt Φ
  exact ⟨fd, F, ok_s_nt (a := adr K) F (t_StillWorld Φ) (b_len Φ)⟩
theorem GM_ok_s_nt_StillWorld (Φ : Ctx w K mg) : GMt PR w K mg base 1 (ga K "StillWorld") "noted" (sp_s_nt K (adr K)) := by
  obtain ⟨fd, F, O⟩ := O_ok_s_nt Φ
  exact ⟨_, fd, _, O, (t_StillWorld Φ).cl, methB_ok (Φ.c.ck 144), F.binds (ps := ["self", "at", "noted"]) fun _ _ _ _ _ _ us hl => match us, hl with | [_, _, _], _ => rfl⟩
theorem F_ok_s_lk (Φ : Ctx w K mg) : ∃ fd, Fun K "looked" "StillWorld.looked" s_s_lk (me "StillWorld" "looked" K) fd := by
  obtain ⟨e, k⟩ := Φ.c.def_ 79
  obtain ⟨fd, F⟩ := DefP.funD e k rfl
  exact ⟨fd, fun_of F⟩
theorem O_ok_s_lk (Φ : Ctx w K mg) : ∃ fd, Fun K "looked" "StillWorld.looked" s_s_lk (me "StillWorld" "looked" K) fd ∧ FnOk PR w K mg base CX0 1 (me "StillWorld" "looked" K) fd ["self", "at", "noted"] (sp_s_lk K (adr K)) := by
  obtain ⟨fd, F⟩ := F_ok_s_lk Φ
  exact ⟨fd, F, ok_s_lk (a := adr K) F (t_StillWorld Φ) (b_len Φ)⟩
theorem GM_ok_s_lk_StillWorld (Φ : Ctx w K mg) : GMt PR w K mg base 1 (ga K "StillWorld") "looked" (sp_s_lk K (adr K)) := by
  obtain ⟨fd, F, O⟩ := O_ok_s_lk Φ
  exact ⟨_, fd, _, O, (t_StillWorld Φ).cl, methB_ok (Φ.c.ck 145), F.binds (ps := ["self", "at", "noted"]) fun _ _ _ _ _ _ us hl => match us, hl with | [_, _, _], _ => rfl⟩
theorem F_ok_s_tdo (Φ : Ctx w K mg) : ∃ fd, Fun K "taker_does" "StillWorld.taker_does" s_s_tdo (me "StillWorld" "taker_does" K) fd := by
  obtain ⟨e, k⟩ := Φ.c.def_ 80
  obtain ⟨fd, F⟩ := DefP.funD e k rfl
  exact ⟨fd, fun_of F⟩
theorem O_ok_s_tdo (Φ : Ctx w K mg) : ∃ fd, Fun K "taker_does" "StillWorld.taker_does" s_s_tdo (me "StillWorld" "taker_does" K) fd ∧ FnOk PR w K mg base CX0 2 (me "StillWorld" "taker_does" K) fd ["self", "k", "deed"] (sp_s_tdo K (adr K)) := by
  obtain ⟨fd, F⟩ := F_ok_s_tdo Φ
  exact ⟨fd, F, ok_s_tdo (a := adr K) F (t_StillWorld Φ) (EpH.GMt.up (GM_ok_s_nt_StillWorld Φ) (by decide)) (EpH.GMt.up (GM_ok_s_lk_StillWorld Φ) (by decide)) (b_sorted Φ) (b_int Φ)⟩
theorem GM_ok_s_tdo_StillWorld (Φ : Ctx w K mg) : GMt PR w K mg base 2 (ga K "StillWorld") "taker_does" (sp_s_tdo K (adr K)) := by
  obtain ⟨fd, F, O⟩ := O_ok_s_tdo Φ
  exact ⟨_, fd, _, O, (t_StillWorld Φ).cl, methB_ok (Φ.c.ck 146), F.binds (ps := ["self", "k", "deed"]) fun _ _ _ _ _ _ us hl => match us, hl with | [_, _, _], _ => rfl⟩
theorem F_ok_s_do (Φ : Ctx w K mg) : ∃ fd, Fun K "do" "StillWorld.do" s_s_do (me "StillWorld" "do" K) fd := by
  obtain ⟨e, k⟩ := Φ.c.def_ 81
  obtain ⟨fd, F⟩ := DefP.funD e k rfl
  exact ⟨fd, fun_of F⟩
theorem O_ok_s_do (Φ : Ctx w K mg) : ∃ fd, Fun K "do" "StillWorld.do" s_s_do (me "StillWorld" "do" K) fd ∧ FnOk PR w K mg base CX0 3 (me "StillWorld" "do" K) fd ["self", "move"] (sp_s_do K (adr K)) := by
  obtain ⟨fd, F⟩ := F_ok_s_do Φ
  exact ⟨fd, F, ok_s_do (a := adr K) F (EpH.GMt.up (GM_ok_s_rdo_StillWorld Φ) (by decide)) (EpH.GMt.up (GM_ok_s_tdo_StillWorld Φ) (by decide))⟩
theorem GM_ok_s_do_StillWorld (Φ : Ctx w K mg) : GMt PR w K mg base 3 (ga K "StillWorld") "do" (sp_s_do K (adr K)) := by
  obtain ⟨fd, F, O⟩ := O_ok_s_do Φ
  exact ⟨_, fd, _, O, (t_StillWorld Φ).cl, methB_ok (Φ.c.ck 147), F.binds (ps := ["self", "move"]) fun _ _ _ _ _ _ us hl => match us, hl with | [_, _], _ => rfl⟩
theorem F_ok_e_st (Φ : Ctx w K mg) : ∃ fd, Fun K "state" "EpochWorld.state" s_e_st (me "EpochWorld" "state" K) fd := by
  obtain ⟨e, k⟩ := Φ.c.def_ 82
  obtain ⟨fd, F⟩ := DefP.funD e k rfl
  exact ⟨fd, fun_of F⟩
theorem O_ok_e_st (Φ : Ctx w K mg) : ∃ fd, Fun K "state" "EpochWorld.state" s_e_st (me "EpochWorld" "state" K) fd ∧ FnOk PR w K mg base CX0 1 (me "EpochWorld" "state" K) fd ["self"] (sp_e_st K (adr K)) := by
  obtain ⟨fd, F⟩ := F_ok_e_st Φ
  exact ⟨fd, F, ok_e_st (a := adr K) F (t_EpochWorld Φ) (b_tuple Φ)⟩
theorem GM_ok_e_st_EpochWorld (Φ : Ctx w K mg) : GMt PR w K mg base 1 (ga K "EpochWorld") "state" (sp_e_st K (adr K)) := by
  obtain ⟨fd, F, O⟩ := O_ok_e_st Φ
  exact ⟨_, fd, _, O, (t_EpochWorld Φ).cl, methB_ok (Φ.c.ck 148), F.binds (ps := ["self"]) fun _ _ _ _ _ _ us hl => match us, hl with | [_], _ => rfl⟩
theorem F_ok_l_st (Φ : Ctx w K mg) : ∃ fd, Fun K "state" "LookWorld.state" s_l_st (me "LookWorld" "state" K) fd := by
  obtain ⟨e, k⟩ := Φ.c.def_ 83
  obtain ⟨fd, F⟩ := DefP.funD e k rfl
  exact ⟨fd, fun_of F⟩
theorem O_ok_l_st (Φ : Ctx w K mg) : ∃ fd, Fun K "state" "LookWorld.state" s_l_st (me "LookWorld" "state" K) fd ∧ FnOk PR w K mg base CX0 1 (me "LookWorld" "state" K) fd ["self"] (sp_l_st K (adr K)) := by
  obtain ⟨fd, F⟩ := F_ok_l_st Φ
  exact ⟨fd, F, ok_l_st (a := adr K) F (t_LookWorld Φ) (b_tuple Φ)⟩
theorem GM_ok_l_st_LookWorld (Φ : Ctx w K mg) : GMt PR w K mg base 1 (ga K "LookWorld") "state" (sp_l_st K (adr K)) := by
  obtain ⟨fd, F, O⟩ := O_ok_l_st Φ
  exact ⟨_, fd, _, O, (t_LookWorld Φ).cl, methB_ok (Φ.c.ck 149), F.binds (ps := ["self"]) fun _ _ _ _ _ _ us hl => match us, hl with | [_], _ => rfl⟩
theorem F_ok_s_st (Φ : Ctx w K mg) : ∃ fd, Fun K "state" "StillWorld.state" s_s_st (me "StillWorld" "state" K) fd := by
  obtain ⟨e, k⟩ := Φ.c.def_ 84
  obtain ⟨fd, F⟩ := DefP.funD e k rfl
  exact ⟨fd, fun_of F⟩
theorem O_ok_s_st (Φ : Ctx w K mg) : ∃ fd, Fun K "state" "StillWorld.state" s_s_st (me "StillWorld" "state" K) fd ∧ FnOk PR w K mg base CX0 1 (me "StillWorld" "state" K) fd ["self"] (sp_s_st K (adr K)) := by
  obtain ⟨fd, F⟩ := F_ok_s_st Φ
  exact ⟨fd, F, ok_s_st (a := adr K) F (t_StillWorld Φ) (b_tuple Φ)⟩
theorem GM_ok_s_st_StillWorld (Φ : Ctx w K mg) : GMt PR w K mg base 1 (ga K "StillWorld") "state" (sp_s_st K (adr K)) := by
  obtain ⟨fd, F, O⟩ := O_ok_s_st Φ
  exact ⟨_, fd, _, O, (t_StillWorld Φ).cl, methB_ok (Φ.c.ck 150), F.binds (ps := ["self"]) fun _ _ _ _ _ _ us hl => match us, hl with | [_], _ => rfl⟩
theorem F_ok_sp (Φ : Ctx w K mg) : ∃ fd, Fun K "step" "step" s_sp (gl "step" K) fd := by
  obtain ⟨e, k⟩ := Φ.c.def_ 85
  obtain ⟨fd, F⟩ := DefP.funD e k rfl
  exact ⟨fd, fun_of F⟩
theorem O_ok_sp (Φ : Ctx w K mg) : ∃ fd, Fun K "step" "step" s_sp (gl "step" K) fd ∧ FnOk PR w K mg base CX0 7 (gl "step" K) fd ["setting", "state", "move"] (sp_sp K (adr K)) := by
  obtain ⟨fd, F⟩ := F_ok_sp Φ
  exact ⟨fd, F, ok_sp (a := adr K) F (EpH.GFn.up (GF_look_at_setting Φ) (by decide)) (EpH.GFn.up (GF_is_possible Φ) (by decide)) (EpH.GFn.up (GF_world_of Φ) (by decide)) (EpH.GMt.up (GM_ok_e_do_EpochWorld Φ) (by decide)) (EpH.GMt.up (GM_ok_l_do_LookWorld Φ) (by decide)) (EpH.GMt.up (GM_ok_s_do_StillWorld Φ) (by decide)) (EpH.GMt.up (GM_ok_e_st_EpochWorld Φ) (by decide)) (EpH.GMt.up (GM_ok_l_st_LookWorld Φ) (by decide)) (EpH.GMt.up (GM_ok_s_st_StillWorld Φ) (by decide))⟩
theorem m_step (Φ : Ctx w K mg) : mg "step" = some (.ref (ga K "step")) := by
  obtain ⟨⟨h, X, G⟩, c⟩ := Φ
  exact glo_ok X G (c.ck 151)
theorem GF_step (Φ : Ctx w K mg) : GFn PR w K mg base 7 "step" (sp_sp K (adr K)) := by
  obtain ⟨fd, F, O⟩ := O_ok_sp Φ
  exact ⟨_, fd, _, O, m_step Φ, F.kp, F.binds (ps := ["setting", "state", "move"]) fun _ _ _ _ _ _ us hl => match us, hl with | [_, _, _], _ => rfl⟩
theorem F_ok_b_ca (Φ : Ctx w K mg) : ∃ fd, Fun K "__call__" "Bench.__call__" s_b_ca (me "Bench" "__call__" K) fd := by
  obtain ⟨e, k⟩ := Φ.c.def_ 86
  obtain ⟨fd, F⟩ := DefP.funD e k rfl
  exact ⟨fd, fun_of F⟩
theorem O_ok_b_ca (Φ : Ctx w K mg) : ∃ fd, Fun K "__call__" "Bench.__call__" s_b_ca (me "Bench" "__call__" K) fd ∧ FnOk PR w K mg base CX0 8 (me "Bench" "__call__" K) fd ["self", "move"] (sp_b_ca K (adr K)) := by
  obtain ⟨fd, F⟩ := F_ok_b_ca Φ
  exact ⟨fd, F, ok_b_ca (a := adr K) F (t_Bench Φ) (EpH.GFn.up (GF_is_possible Φ) (by decide)) (EpH.GFn.up (GF_step Φ) (by decide))⟩
theorem gca (Φ : Ctx w K mg) : GCa PR w K mg base (adr K) := by
  obtain ⟨fd, F, O⟩ := O_ok_b_ca Φ
  exact ⟨_, fd, _, O, callB_ok (Φ.c.ck 152), F.binds (ps := ["self", "move"]) fun _ _ _ _ _ _ us hl => match us, hl with | [_, _], _ => rfl⟩
theorem F_ok_b_la (Φ : Ctx w K mg) : ∃ fd, Fun K "last" "Bench.last" s_b_la (me "Bench" "last" K) fd := by
  obtain ⟨e, k⟩ := Φ.c.def_ 87
  obtain ⟨fd, F⟩ := DefP.funD e k rfl
  exact ⟨fd, fun_of F⟩
theorem O_ok_b_la (Φ : Ctx w K mg) : ∃ fd, Fun K "last" "Bench.last" s_b_la (me "Bench" "last" K) fd ∧ FnOk PR w K mg base CX0 2 (me "Bench" "last" K) fd ["self"] (sp_b_la K (adr K)) := by
  obtain ⟨fd, F⟩ := F_ok_b_la Φ
  exact ⟨fd, F, ok_b_la (a := adr K) F (t_Bench Φ) (EpH.GFn.up (GF_is_unsafe Φ) (by decide))⟩
theorem GM_ok_b_la_Bench (Φ : Ctx w K mg) : GMt PR w K mg base 2 (ga K "Bench") "last" (sp_b_la K (adr K)) := by
  obtain ⟨fd, F, O⟩ := O_ok_b_la Φ
  exact ⟨_, fd, _, O, (t_Bench Φ).cl, methB_ok (Φ.c.ck 153), F.binds (ps := ["self"]) fun _ _ _ _ _ _ us hl => match us, hl with | [_], _ => rfl⟩
theorem F_ok_b_pl (Φ : Ctx w K mg) : ∃ fd, Fun K "place" "Bench.place" s_b_pl (pr "Bench" "place" K) fd := by
  obtain ⟨e, k⟩ := Φ.c.def_ 88
  obtain ⟨fd, F⟩ := DefP.funD e k rfl
  exact ⟨fd, fun_of F⟩
theorem O_ok_b_pl (Φ : Ctx w K mg) : ∃ fd, Fun K "place" "Bench.place" s_b_pl (pr "Bench" "place" K) fd ∧ FnOk PR w K mg base CX0 3 (pr "Bench" "place" K) fd ["self"] (sp_b_pl K (adr K)) := by
  obtain ⟨fd, F⟩ := F_ok_b_pl Φ
  exact ⟨fd, F, ok_b_pl (a := adr K) F (t_Bench Φ) (t_Setting Φ) (gway Φ) (EpH.GMt.up (GM_ok_b_la_Bench Φ) (by decide))⟩
theorem GP_ok_b_pl_Bench (Φ : Ctx w K mg) : GPr PR w K mg base 3 (ga K "Bench") "place" (sp_b_pl K (adr K)) := by
  obtain ⟨fd, F, O⟩ := O_ok_b_pl Φ
  exact ⟨_, _, fd, _, O, (t_Bench Φ).cl, propB_ok (Φ.c.ck 154), F.binds (ps := ["self"]) fun _ _ _ _ _ _ us hl => match us, hl with | [_], _ => rfl⟩
theorem F_ok_ri (Φ : Ctx w K mg) : ∃ fd, Fun K "_law_right" "_law_right" s_ri (gl "_law_right" K) fd := by
  obtain ⟨e, k⟩ := Φ.c.def_ 89
  obtain ⟨fd, F⟩ := DefP.funD e k rfl
  exact ⟨fd, fun_of F⟩
theorem O_ok_ri (Φ : Ctx w K mg) : ∃ fd, Fun K "_law_right" "_law_right" s_ri (gl "_law_right" K) fd ∧ FnOk PR w K mg base CX0 5 (gl "_law_right" K) fd ["_law_setting_here", "_law_bench", "_law_ahead", "_law_move"] (sp_ri K (adr K)) := by
  obtain ⟨fd, F⟩ := F_ok_ri Φ
  exact ⟨fd, F, ok_ri (a := adr K) F (EpH.GMt.up (GM_ok_b_st_Bench Φ) (by decide)) (EpH.GFn.up (GF_kept Φ) (by decide)) (EpH.GPr.up (GP_ok_b_pl_Bench Φ) (by decide)) (b_isinstance Φ) (b_list Φ) (b_range Φ) (b_sorted Φ) (b_int Φ) (b_len Φ)⟩
theorem m__law_right (Φ : Ctx w K mg) : mg "_law_right" = some (.ref (ga K "_law_right")) := by
  obtain ⟨⟨h, X, G⟩, c⟩ := Φ
  exact glo_ok X G (c.ck 155)
theorem GF__law_right (Φ : Ctx w K mg) : GFn PR w K mg base 5 "_law_right" (sp_ri K (adr K)) := by
  obtain ⟨fd, F, O⟩ := O_ok_ri Φ
  exact ⟨_, fd, _, O, m__law_right Φ, F.kp, F.binds (ps := ["_law_setting_here", "_law_bench", "_law_ahead", "_law_move"]) fun _ _ _ _ _ _ us hl => match us, hl with | [_, _, _, _], _ => rfl⟩
theorem F_ok_law (Φ : Ctx w K mg) : ∃ fd, Fun K "law" "law" s_law (gl "law" K) fd := by
  obtain ⟨e, k⟩ := Φ.c.def_ 90
  obtain ⟨fd, F⟩ := DefP.funD e k rfl
  exact ⟨fd, fun_of F⟩
theorem O_ok_law (Φ : Ctx w K mg) : ∃ fd, Fun K "law" "law" s_law (gl "law" K) fd ∧ FnOk PR w K mg base CX0 14 (gl "law" K) fd ["_law_script"] (sp_law K) := by
  obtain ⟨fd, F⟩ := F_ok_law Φ
  exact ⟨fd, F, ok_law (a := adr K) F (EpH.GFn.up (GF__law_pool Φ) (by decide)) (EpH.GFn.up (GF__law_any_own Φ) (by decide)) (EpH.GFn.up (GF__law_setting Φ) (by decide)) (EpH.GMk.up (GK_Bench Φ) (by decide)) (EpH.GFn.up (GF_kept Φ) (by decide)) (EpH.GMt.up (GM_ok_b_st_Bench Φ) (by decide)) (EpH.GMt.up (GM_ok_b_mv_Bench Φ) (by decide)) (EpH.GPr.up (GP_ok_b_un_Bench Φ) (by decide)) (gca Φ) (EpH.GFn.up (GF__law_right Φ) (by decide)) (b_range Φ) (b_len Φ) (b_int Φ)⟩
theorem m_law (Φ : Ctx w K mg) : mg "law" = some (.ref (ga K "law")) := by
  obtain ⟨⟨h, X, G⟩, c⟩ := Φ
  exact glo_ok X G (c.ck 156)
end EpH
set_option maxHeartbeats 0
/-! the law -/
namespace EpH
open PySem PySem.Spec PyProof.Rows L2 He Ep
theorem fun_one {K : Fr} {x q : Str} {st : Stmt} {f : Addr} {fd fd' : FuncData} (F : Fun K x q st f fd) (F' : Fun K x q st f fd') : fd = fd' := by
  obtain ⟨oc, od, kV, doc, pm, an, cdv, ct, osl, _, lk, _⟩ := F.ex
  obtain ⟨oc', od', kV', doc', pm', an', cdv', ct', osl', _, lk', _⟩ := F'.ex
  rw [lk] at lk'
  injection Option.some.inj lk' with _ _ e _
  injection e
theorem facts {w : World} {K : Fr} {mg : Str → Option Value} (Φ : Ctx w K mg) : ∃ fd : FuncData, (∀ (s : Shared) (u : Value), BindsTo s fd ⟨[u], []⟩ [("_law_script", u)]) ∧ ∀ base : Heap, FnOk PR w K mg base CX0 14 (ga K "law") fd ["_law_script"] (sp_law K) := by
  obtain ⟨fd, F⟩ := F_ok_law Φ
  refine ⟨fd, ?_, fun base => ?_⟩
  · obtain ⟨oc, od, kV, doc, pm, an, cdv, ct, osl, rfl, lk, hcd⟩ := F.ex
    exact fun s u => .of_eq rfl
  · obtain ⟨fd', F', O⟩ := O_ok_law (base := base) Φ
    rw [fun_one F F']
    exact O
end EpH
open PySem PySem.W PySem.Calls PyProof.Rows
theorem PySem.Challenge.cw_epochrooms_k63_whole_kept_things_counted_holds : PySem.Challenge.rw_epochrooms_k63_whole_kept_things_counted.Holds := by
  w_on; o_law
  refine HandSHeadRun.head_any (r := EpH.R) (q := EpH.qv) (H := EpH.hk) (ob := EpH.ob) (M := 16000) (loose := EpH.names) (d := HandSHeadRun.topDef EpH.R.prog 73) (kwd := []) EpH.ob_eq (by kernel_rfl) (fun s => by kernel_rfl) EpH.run (by kernel_rfl) (by kernel_rfl) (by kernel_rfl) (by rfl) (by first | assumption | decide +kernel) (by decide +kernel) ⟨rfl, rfl, rfl, rfl, rfl, by decide +kernel⟩ ?hw ?hc
  case hw => w_witness2
  case hc =>
    refine L2.walk_ofE (l := PySem.Challenge.rw_epochrooms_k63_whole_kept_things_counted) (n := 63) (k := 14) (x := "_law_script") (CX := L2.CX0) rfl (by decide) (by kernel_rfl) ⟨rfl, by decide, by decide⟩ ?F (fun _ _ _ _ z => z)
    intro w mg fa h Y G hmg0
    obtain ⟨K, KX, c⟩ := Y
    have hmg : mg ("law" : PySem.Str) = some (.ref fa) := by
      have e : (HandSHeadRun.topDef EpH.R.prog 73).name = ("law" : PySem.Str) := by kernel_rfl
      rw [← e]
      exact hmg0
    have Φ : EpH.Ctx w K mg := ⟨⟨h, KX, G⟩, c⟩
    have e := hmg.symm.trans (EpH.m_law Φ)
    cases e
    obtain ⟨fd, hb, hF⟩ := EpH.facts Φ
    exact ⟨K, fd, Ep.sp_law K, KX, hb, fun H a ns hl _ hS => ⟨ns, hl, .cons ⟨a, rfl, hS⟩ .nil, fun v H' ex r => Ep.Dt.bl_inv r⟩, fun base _ _ => hF base⟩
