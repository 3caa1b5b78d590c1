import PyProof.Rows.All
import Wide.All
import OpenK.AllK
import Wide.FinOn
import HandS.ForMost
import HandS.ForExc
import HandS.Defaults
import KE.KStateDown
import HandS.Head0
import HandS.Head1
import HandS.Head2
import HandS.HeadHook1
import HandS.HeadHook2
import HandS.Property
import HandS.CallSlots
import HandS.Wide
import HandS.WideBits
import HandS.Iter
import HandS.Flow
import HandS.Style
import HandS.IsInst
import HandS.FStr
import HandS.OwnEq
import HandS.Lambda
import HandS.ExcOwn
import HandS.MakeKw
import HandS.RaiseMore
import HandS.Small
import HandS.More
import PyProof.InstNe
import PyProof.ListMulRoad
import PyProof.ListMulRight
import HandS.ClsMeth
import HandS.MakeKwOnly
import KE.KOpsOwn
import KE.KCallOwn
import OpenK.KOps
import HandS.SetFor
import HandS.CallLocal
import HandS.Steps
import HandS.Codes
import HandS.Records
import PyProof.Conv_bool
import PyProof.ReprRoads
import HandS.Exc
import HandS.ExcInit
import HandS.ExcField
import HandS.ExcIs
import HandS.SuiteRaise
import KE.KExcIs
import HandS.HotCalls
import HandS.Deep
import HandS.TryOnly
import HandS.TupAny
import HandS.TupMul
import KE.KRevSl
import HandS.EndTab
import HandS.Star
import KE.GoesMore
import HandS.Text
import KE.KFmtOwn
import KE.KExcInit
import PyProof.DictUpdate
import PyProof.MeetsSeq2
import KE.KDictZip
import KE.KTurns
import PyProof.ListNew
import HandS.ListItems
import KE.DataFind
import HandS.DictComp
import HandS.Conv
import HandS.SortInts
import HandS.GenYield
import HandS.GenList
import PySem.Challenge.RW_loopbounds_k57_rounds_asked
set_option Elab.async false
set_option linter.all false
set_option maxRecDepth 100000
set_option maxHeartbeats 4000000
set_option exponentiation.threshold 100000
namespace PD
open PySem PySem.Spec PyProof.Rows L2
abbrev Fb : Type := PySem.W.Frag → Bool
abbrev FnO : Type := Option (Str × Str × Arguments × FuncBody × Scope × Addr × List (Str × Addr) × Addr)
/-- a def: where it stands, its text -/
structure DfK where
  at_ : PySem.W.Frag → Addr
  name : Str
  qual : Str
  params : Arguments
  body : List Stmt
  scope : Scope
  dfl : List V
def fnO (K : PySem.W.Frag) (a : Addr) : FnO := match K.lookup a with
  | some ⟨_, _, .func fd, _⟩ => some (fd.name, fd.qualname, fd.params, fd.body, fd.scope, fd.globals, fd.closure, fd.builtins)
  | _ => none
def DfK.val (d : DfK) : FnO := some (d.name, d.qual, d.params, .stmts d.body, d.scope, mainGlobals, [], builtinsNs)
def DfK.ok (K : PySem.W.Frag) (d : DfK) : Bool := PySem.W.keepIn K (.ref (d.at_ K)) && (match K.lookup (d.at_ K) with
  | some ⟨_, _, .func fd, _⟩ => PySem.W.codeIn K fd.code d.qual && He.dflB K fd.defaults d.dfl
  | _ => false)
theorem and2 {a b : Bool} (h : (a && b) = true) : a = true ∧ b = true := Bool.and_eq_true_iff.mp h
theorem DfK.fun_ {K : PySem.W.Frag} {d : DfK} (e : fnO K (d.at_ K) = d.val) (c : d.ok K = true) : ∃ fd, FunD K d.name d.qual d.params d.body d.scope d.dfl [] (d.at_ K) fd := by
  obtain ⟨kp, more⟩ := and2 c
  unfold fnO at e
  cases q : K.lookup (d.at_ K) with
  | none => rw [q] at more; cases more
  | some ob =>
    rw [q] at more e
    obtain ⟨oc, od, dt, osl⟩ := ob
    cases dt with
    | func fd =>
      obtain ⟨b1, b2, b3, b4, b5, b6, b7, b8, b9, b10, b11, b12, b13, b14, b15⟩ := fd
      have all : (some (b1, b2, b3, b4, b5, b6, b7, b15) : FnO) = some (d.name, d.qual, d.params, .stmts d.body, d.scope, mainGlobals, [], builtinsNs) := e
      simp only [Option.some.injEq, Prod.mk.injEq] at all
      obtain ⟨rfl, rfl, rfl, rfl, rfl, rfl, rfl, rfl⟩ := all
      obtain ⟨z1, z2⟩ := and2 (show (PySem.W.codeIn K b13 d.qual && He.dflB K b8 d.dfl) = true from more)
      exact ⟨_, ⟨oc, od, b8, b9, b10, b11, b12, b13, b14, osl, rfl, q, z1, He.dflB_ok z2, .inl rfl⟩, kp⟩
    | _ => cases more
theorem fun_ofD {K : PySem.W.Frag} {x qual : Str} {st : Stmt} {f : Addr} {fd : FuncData} (F : FunD K x qual (defArgs st) (defBody st) (defScope st) [] [] f fd) : Fun K x qual st f fd := by
  obtain ⟨oc, od, dV, kV, doc, pm, an, cdv, ct, osl, e, lk, hc, hd, _⟩ := F.ex
  rcases hd with ⟨z, _⟩ | ⟨z, _⟩
  · first
      | (subst z; exact ⟨⟨oc, od, kV, doc, pm, an, cdv, ct, osl, e, lk, hc⟩, F.kp⟩)
      | (rename_i zz; subst zz; exact ⟨⟨oc, od, kV, doc, pm, an, cdv, ct, osl, e, lk, hc⟩, F.kp⟩)
  · exact absurd rfl z
/-- a dict of the text with keys that are texts -/
structure DkK where
  at_ : PySem.W.Frag → Addr
  ks : List Str
def keysAre : List DictEntry → List Str → Bool
  | [], [] => true
  | e :: es, k :: ks => (match e.key with
    | .str x _ => decide (x = k)
    | _ => false) && keysAre es ks
  | _, _ => false
def DkK.ok (K : PySem.W.Frag) (d : DkK) : Bool := match K.lookup (d.at_ K) with
  | some ⟨.type t, none, .dict es _, sl⟩ => decide (t = "dict") && (decide (sl.size = 0) && (keysAre es.toList d.ks && !(d.at_ K == sysModules)))
  | _ => false
def DkK.hs (K : PySem.W.Frag) (d : DkK) : List Int := match K.lookup (d.at_ K) with
  | some ⟨_, _, .dict es _, _⟩ => es.toList.map (·.hash)
  | _ => []
theorem keysLit_of {P : Params} : ∀ {es : List DictEntry} {ks : List Str}, keysAre es ks = true → es.map (·.hash) = ks.map (PyData.keyHash P) → PySem.W.KeysLit P es
  | [], _, _, _ => trivial
  | e :: es, [], h, _ => by cases h
  | e :: es, k :: ks, h, q => by
    obtain ⟨h1, h2⟩ := and2 (show ((match e.key with | .str x _ => decide (x = k) | _ => false) && keysAre es ks) = true from h)
    simp only [List.map_cons, List.cons.injEq] at q
    refine ⟨?_, keysLit_of h2 q.2⟩
    cases z : e.key with
    | str x t =>
      rw [z] at h1
      exact ⟨x, t, rfl, by rw [q.1, show x = k from of_decide_eq_true h1]⟩
    | _ => rw [z] at h1; cases h1
theorem DkK.get {P : Params} {K : PySem.W.Frag} {d : DkK} (c : d.ok K = true) (q : d.hs K = d.ks.map (PyData.keyHash P)) :
    ∃ es n, K.lookup (d.at_ K) = some ⟨.type "dict", none, .dict es n, #[]⟩ ∧ PySem.W.KeysLit P es.toList ∧ (d.at_ K == sysModules) = false := by
  unfold DkK.ok at c
  unfold DkK.hs at q
  cases z : K.lookup (d.at_ K) with
  | none => rw [z] at c; cases c
  | some ob =>
    rw [z] at c q
    obtain ⟨oc, od, dt, osl⟩ := ob
    cases oc with
    | type t =>
      cases od with
      | none =>
        cases dt with
        | dict es n =>
          obtain ⟨c1, c2⟩ := and2 c
          obtain ⟨c3, c4⟩ := and2 c2
          obtain ⟨c5, c6⟩ := and2 c4
          rw [show t = "dict" from of_decide_eq_true c1, show osl = #[] from Array.eq_empty_of_size_eq_zero (of_decide_eq_true c3)]
          exact ⟨es, n, rfl, keysLit_of c5 q, by simpa using c6⟩
        | _ => cases c
      | some _ => cases dt <;> cases c
    | _ => cases od <;> cases dt <;> cases c
abbrev ObK : Type := Bool × List FnO × List (List Int)
def obK (fb : List Fb) (fn : List DfK) (dk : List DkK) (K : PySem.W.Frag) : ObK := ((fb.all fun f => f K) && ((fn.all fun d => d.ok K) && dk.all fun d => d.ok K), fn.map (fun d => fnO K (d.at_ K)), dk.map fun d => d.hs K)
def vlK (fn : List DfK) (dk : List DkK) (w : World) : ObK := (true, fn.map DfK.val, dk.map fun d => d.ks.map (PyData.keyHash w.params))
def SayK (fb : List Fb) (fn : List DfK) (dk : List DkK) (w : World) (K : PySem.W.Frag) : Prop := obK fb fn dk K = vlK fn dk w
def obG (as : List Addr) (fb : List Fb) (fn : List DfK) (dk : List DkK) (g : Addr → Option Obj) : ObK := obK fb fn dk (He.frG g as)
def hkK (as : List Addr) (fb : List Fb) (fn : List DfK) (dk : List DkK) : PySem.W.Hook where
  α := ObK
  obs := fun s => obG as fb fn dk s.heap.get?
  val := fun w => vlK fn dk w
  says := fun w h => ∃ K : PySem.W.Frag, K.In h ∧ SayK fb fn dk w K
  of := fun _ _ e => ⟨_, He.frG_in, e⟩
  keeps := fun _ _ _ ⟨K, hK, c⟩ st => ⟨K, PySem.W.Frag.In.keeps hK st, c⟩
theorem obG_eq {as : List Addr} {fb : List Fb} {fn : List DfK} {dk : List DkK} (s : PySem.W.SharedT) : obG as fb fn dk (HandSHeadRun.getT s) = (hkK as fb fn dk).obs s.abs :=
  congrArg (obG as fb fn dk) (funext fun a => HandSHeadRun.getT_eq s a)
section
variable {fb : List Fb} {fn : List DfK} {dk : List DkK} {w : World} {K : PySem.W.Frag}
theorem SayK.fst (c : SayK fb fn dk w K) : (fb.all fun f => f K) = true ∧ (fn.all fun d => d.ok K) = true ∧ (dk.all fun d => d.ok K) = true := by
  obtain ⟨a, b⟩ := and2 (show ((fb.all fun f => f K) && ((fn.all fun d => d.ok K) && dk.all fun d => d.ok K)) = true from congrArg Prod.fst c)
  exact ⟨a, and2 b⟩
theorem SayK.at_ (c : SayK fb fn dk w K) (i : Nat) {f : Fb} (h : fb[i]? = some f) : f K = true := List.all_eq_true.mp c.fst.1 f (List.mem_of_getElem? h)
theorem SayK.df (c : SayK fb fn dk w K) (i : Nat) {d : DfK} (h : fn[i]? = some d) : ∃ fd, FunD K d.name d.qual d.params d.body d.scope d.dfl [] (d.at_ K) fd := by
  have l := congrArg (fun z : List FnO => z[i]?) (show (fn.map fun d => fnO K (d.at_ K)) = fn.map DfK.val from congrArg (fun z : ObK => z.2.1) c)
  simp only [List.getElem?_map, h, Option.map_some, Option.some.injEq] at l
  exact DfK.fun_ l (List.all_eq_true.mp c.fst.2.1 d (List.mem_of_getElem? h))
theorem SayK.tab (c : SayK fb fn dk w K) (i : Nat) {d : DkK} (h : dk[i]? = some d) : ∃ es n, K.lookup (d.at_ K) = some ⟨.type "dict", none, .dict es n, #[]⟩ ∧ PySem.W.KeysLit w.params es.toList ∧ (d.at_ K == sysModules) = false := by
  have l := congrArg (fun z : List (List Int) => z[i]?) (show (dk.map fun d => d.hs K) = (dk.map fun d => d.ks.map (PyData.keyHash w.params)) from congrArg (fun z : ObK => z.2.2) c)
  simp only [List.getElem?_map, h, Option.map_some, Option.some.injEq] at l
  exact DkK.get (List.all_eq_true.mp c.fst.2.2 d (List.mem_of_getElem? h)) l
end
section
variable {K : PySem.W.Frag} {h : Heap} {mg : Str → Option Value}
def intB (x : Str) (i : Int) : Fb := fun K => match PySem.W.nsIn K mainGlobals x with
  | some (some (.int j _)) => decide (j = i)
  | _ => false
theorem intB_ok (X : K.In h) (G : h.Ns mainGlobals mg) {x : Str} {i : Int} (c : intB x i K = true) : ∃ t, mg x = some (.int i t) := He.int_ok X G (show (He.Fa.int x i).ok K = true from c)
theorem some_of {α : Type} {o : Option α} (h : o.isSome = true) : ∃ a, o = some a := Option.isSome_iff_exists.mp h
end
end PD
namespace PD
open PySem PySem.Spec PyProof.Rows L2
def smP (T : String) (K : PySem.W.Frag) (C : Addr) (m : Str) : Addr := match PySem.W.findCls K (.ref C) (.type "type") m with
  | some (.get (.builtin n) (.ref p) .none (.ref C')) => if n = T ++ ".__get__" ∧ C' = C then p else 0
  | _ => 0
def smOk (T : String) (K : PySem.W.Frag) (C : Addr) (m : Str) : Bool := match PySem.W.findCls K (.ref C) (.type "type") m with
  | some (.get (.builtin n) (.ref _) .none (.ref C')) => decide (n = T ++ ".__get__") && decide (C' = C)
  | _ => false
def smG (T : String) (K : PySem.W.Frag) (C : Addr) (m : Str) : Option Addr := match PySem.W.recIn K (smP T K C m) T with
  | some (.ref g :: _) => some g
  | _ => none
def smF (K : PySem.W.Frag) (C : Addr) (m : Str) : Addr := (smG "staticmethod" K C m).getD 0
def smB0 (T : String) (C : PySem.W.Frag → Addr) (m : Str) : Fb := fun K => smOk T K (C K) m && (smG T K (C K) m).isSome
def smB (C : PySem.W.Frag → Addr) (m : Str) : Fb := smB0 "staticmethod" C m
theorem smB0_ok {T : String} {C : PySem.W.Frag → Addr} {m : Str} {K : PySem.W.Frag} (c : smB0 T C m K = true) :
    ∃ p, PySem.W.findCls K (.ref (C K)) (.type "type") m = some (.get (.builtin (T ++ ".__get__")) (.ref p) .none (.ref (C K))) ∧ ∃ rest, PySem.W.recIn K p T = some (.ref ((smG T K (C K) m).getD 0) :: rest) := by
  obtain ⟨c1, c2⟩ := and2 c
  refine ⟨smP T K (C K) m, ?_, ?_⟩
  · unfold smOk at c1
    unfold smP
    split at c1
    · rename_i n p C' e
      obtain ⟨c3, c4⟩ := and2 c1
      have e3 := of_decide_eq_true c3
      have e4 := of_decide_eq_true c4
      rw [e, if_pos ⟨e3, e4⟩, e3, e4]
    · cases c1
  · unfold smG at c2 ⊢
    split at c2
    · rename_i g rest e
      exact ⟨rest, by rw [e]; rfl⟩
    · cases c2
theorem smB_ok {C : PySem.W.Frag → Addr} {m : Str} {K : PySem.W.Frag} (c : smB C m K = true) :
    ∃ p, PySem.W.findCls K (.ref (C K)) (.type "type") m = some (.get (.builtin "staticmethod.__get__") (.ref p) .none (.ref (C K))) ∧ ∃ rest, PySem.W.recIn K p "staticmethod" = some (.ref (smF K (C K) m) :: rest) := smB0_ok c
end PD
namespace PD
open PySem PySem.Spec PyProof.Rows L2
def prP (K : PySem.W.Frag) (C : Addr) (f : Str) : Addr := match PySem.W.findIn K (.ref C) f with
  | some (some (.ref p)) => p
  | _ => 0
def prG (K : PySem.W.Frag) (C : Addr) (f : Str) : Option Addr := match PySem.W.recIn K (prP K C f) "property" with
  | some (.ref g :: _) => some g
  | _ => none
def prF (K : PySem.W.Frag) (C : Addr) (f : Str) : Addr := (prG K C f).getD 0
def prB (C : PySem.W.Frag → Addr) (f : Str) : Fb := fun K =>
  decide (PySem.W.findIn K (.ref (C K)) f = some (some (.ref (prP K (C K) f)))) && (decide (PySem.W.specialIn K (.ref (prP K (C K) f)) "__get__" = some (some (.builtin "property.__get__"))) && (decide (PySem.W.takesIn K (.ref (prP K (C K) f)) = some true) && (prG K (C K) f).isSome))
theorem prB_ok {C : PySem.W.Frag → Addr} {f : Str} {K : PySem.W.Frag} (c : prB C f K = true) : ∃ p, PropOf K (C K) f p (prF K (C K) f) := by
  obtain ⟨c1, c⟩ := and2 c
  obtain ⟨c2, c⟩ := and2 c
  obtain ⟨c3, c4⟩ := and2 c
  refine ⟨prP K (C K) f, of_decide_eq_true c1, of_decide_eq_true c2, of_decide_eq_true c3, ?_⟩
  unfold prF
  unfold prG at c4 ⊢
  split at c4
  · rename_i g rest e
    exact ⟨rest, by rw [e]; rfl⟩
  · cases c4
end PD
namespace LX
open PySem PySem.Spec PyProof.Rows PySem.Calls L2 PD
def top (i : Nat) : Stmt := PySem.Challenge.pw_loopbounds_k57_rounds_asked.main.body.getD i (.Pass ⟨0, 0, 0, 0⟩)
abbrev s_is_integer : Stmt := top 12
abbrev s_check_ascending : Stmt := top 29
abbrev s_others_before : Stmt := top 30
abbrev s_Rounds___init__ : Stmt := inClass (top 27) 0
abbrev s_hits_at : Stmt := top 31
abbrev s_is_member : Stmt := top 32
abbrev s_common_multiple : Stmt := top 33
abbrev s_told_of : Stmt := top 35
abbrev s_joined : Stmt := top 34
abbrev s_Rounds___or__ : Stmt := inClass (top 27) 6
abbrev s_Rounds___sub__ : Stmt := inClass (top 27) 7
abbrev s_Rounds___xor__ : Stmt := inClass (top 27) 8
abbrev s_Rounds___eq__ : Stmt := inClass (top 27) 9
abbrev s_Rounds___bool__ : Stmt := inClass (top 27) 11
abbrev s_Rounds___contains__ : Stmt := inClass (top 27) 4
abbrev s_Rounds_told : Stmt := inClass (top 27) 1
abbrev s_Rounds_rests : Stmt := inClass (top 27) 2
abbrev s_check_number : Stmt := top 28
abbrev s_next_member : Stmt := top 36
abbrev s_Rounds_whole_from : Stmt := inClass (top 27) 3
abbrev s_Rounds_after : Stmt := inClass (top 27) 12
abbrev s_Rounds_members : Stmt := inClass (top 27) 13
abbrev s_greatest_common : Stmt := top 14
abbrev s_Ratio___init__ : Stmt := inClass (top 11) 0
abbrev s__law_purse : Stmt := top 38
abbrev s__law_take : Stmt := top 39
abbrev s__law_set : Stmt := top 40
abbrev s__law_holds : Stmt := top 41
abbrev s__law_formed : Stmt := top 42
abbrev s__law_members : Stmt := top 43
abbrev s__law_whole : Stmt := top 44
abbrev s__law_right : Stmt := top 45
abbrev s__law_several_right : Stmt := top 46
abbrev s_law : Stmt := top 47
def fb_0 : List Fb := [fun K => decide (PySem.W.nsIn K mainGlobals "Rounds" = some (some (.ref (He.ga K "Rounds")))), fun K => decide (PySem.W.nsIn K mainGlobals "Ratio" = some (some (.ref (He.ga K "Ratio")))), fun K => decide (PySem.W.nsIn K mainGlobals "_law_purse" = some (some (.ref (He.ga K "_law_purse")))), fun K => decide (PySem.W.nsIn K mainGlobals "_law_take" = some (some (.ref (He.ga K "_law_take")))), fun K => decide (PySem.W.nsIn K mainGlobals "is_integer" = some (some (.ref (He.ga K "is_integer")))), fun K => decide (PySem.W.nsIn K mainGlobals "check_ascending" = some (some (.ref (He.ga K "check_ascending")))), fun K => decide (PySem.W.nsIn K mainGlobals "others_before" = some (some (.ref (He.ga K "others_before")))), fun K => decide (PySem.W.findIn K (.ref (He.ga K "Rounds")) "__init__" = some (some (.ref (He.ma K (He.ga K "Rounds") "__init__"))))]
def fb_1 : List Fb := [fun K => PySem.W.isFn K (.ref (He.ma K (He.ga K "Rounds") "__init__")), fun K => PySem.W.makesIn K (He.ga K "Rounds"), fun K => PySem.W.keepIn K (.ref (He.ga K "Rounds")), fun K => PySem.W.readsIn K (He.ga K "Rounds") (.type "type"), fun K => decide (PySem.W.specialIn K (.ref (He.ga K "Rounds")) "__getattribute__" = some (some (.builtin "type.__getattribute__"))), smB (fun K => (He.ga K "Rounds")) "rests", smB (fun K => (He.ga K "Rounds")) "told", fun K => decide (PySem.W.nsIn K mainGlobals "check_number" = some (some (.ref (He.ga K "check_number"))))]
def fb_2 : List Fb := [fun K => decide (PySem.W.nsIn K mainGlobals "hits_at" = some (some (.ref (He.ga K "hits_at")))), fun K => decide (PySem.W.nsIn K mainGlobals "is_member" = some (some (.ref (He.ga K "is_member")))), fun K => decide (PySem.W.nsIn K mainGlobals "next_member" = some (some (.ref (He.ga K "next_member")))), fun K => decide (PySem.W.findIn K (.ref (He.ga K "Rounds")) "members" = some (some (.ref (He.ma K (He.ga K "Rounds") "members")))), fun K => PySem.W.isFn K (.ref (He.ma K (He.ga K "Rounds") "members")), fun K => decide (PySem.W.nsIn K mainGlobals "common_multiple" = some (some (.ref (He.ga K "common_multiple")))), fun K => decide (PySem.W.findIn K (.ref (He.ga K "Rounds")) "__eq__" = some (some (.ref (He.ma K (He.ga K "Rounds") "__eq__")))), fun K => PySem.W.isFn K (.ref (He.ma K (He.ga K "Rounds") "__eq__"))]
def fb_3 : List Fb := [fun K => decide (PySem.W.findIn K (.ref (He.ga K "Rounds")) "after" = some (some (.ref (He.ma K (He.ga K "Rounds") "after")))), fun K => PySem.W.isFn K (.ref (He.ma K (He.ga K "Rounds") "after")), fun K => decide (PySem.W.findIn K (.ref (He.ga K "Rounds")) "__bool__" = some (some (.ref (He.ma K (He.ga K "Rounds") "__bool__")))), fun K => PySem.W.isFn K (.ref (He.ma K (He.ga K "Rounds") "__bool__")), prB (fun K => (He.ga K "Rounds")) "whole_from", fun K => decide (PySem.W.nsIn K mainGlobals "_law_several_right" = some (some (.ref (He.ga K "_law_several_right")))), fun K => decide (PySem.W.nsIn K mainGlobals "_law_set" = some (some (.ref (He.ga K "_law_set")))), fun K => decide (PySem.W.nsIn K mainGlobals "told_of" = some (some (.ref (He.ga K "told_of"))))]
def fb_4 : List Fb := [fun K => decide (PySem.W.nsIn K mainGlobals "joined" = some (some (.ref (He.ga K "joined")))), fun K => decide (PySem.W.findIn K (.ref (He.ga K "Rounds")) "__or__" = some (some (.ref (He.ma K (He.ga K "Rounds") "__or__")))), fun K => PySem.W.isFn K (.ref (He.ma K (He.ga K "Rounds") "__or__")), fun K => decide (PySem.W.findIn K (.ref (He.ga K "Rounds")) "__xor__" = some (some (.ref (He.ma K (He.ga K "Rounds") "__xor__")))), fun K => PySem.W.isFn K (.ref (He.ma K (He.ga K "Rounds") "__xor__")), fun K => decide (PySem.W.nsIn K mainGlobals "_law_formed" = some (some (.ref (He.ga K "_law_formed")))), fun K => decide (PySem.W.nsIn K mainGlobals "_law_whole" = some (some (.ref (He.ga K "_law_whole")))), fun K => decide (PySem.W.findIn K (.ref (He.ga K "Rounds")) "__sub__" = some (some (.ref (He.ma K (He.ga K "Rounds") "__sub__"))))]
def fb_5 : List Fb := [fun K => PySem.W.isFn K (.ref (He.ma K (He.ga K "Rounds") "__sub__")), fun K => decide (PySem.W.nsIn K mainGlobals "greatest_common" = some (some (.ref (He.ga K "greatest_common")))), fun K => decide (PySem.W.findIn K (.ref (He.ga K "Ratio")) "__init__" = some (some (.ref (He.ma K (He.ga K "Ratio") "__init__")))), fun K => PySem.W.isFn K (.ref (He.ma K (He.ga K "Ratio") "__init__")), fun K => PySem.W.makesIn K (He.ga K "Ratio"), fun K => PySem.W.keepIn K (.ref (He.ga K "Ratio")), fun K => decide (PySem.W.findIn K (.ref (He.ga K "Rounds")) "__contains__" = some (some (.ref (He.ma K (He.ga K "Rounds") "__contains__")))), fun K => PySem.W.isFn K (.ref (He.ma K (He.ga K "Rounds") "__contains__"))]
def fb_6 : List Fb := [fun K => decide (PySem.W.nsIn K mainGlobals "_law_holds" = some (some (.ref (He.ga K "_law_holds")))), fun K => decide (PySem.W.nsIn K mainGlobals "_law_members" = some (some (.ref (He.ga K "_law_members")))), fun K => decide (PySem.W.nsIn K mainGlobals "_law_right" = some (some (.ref (He.ga K "_law_right")))), fun K => decide (PySem.W.nsIn K mainGlobals "law" = some (some (.ref (He.ga K "law")))), fun K => decide (PySem.W.nsIn K mainGlobals "max" = some none), fun K => decide (PySem.W.nsIn K mainGlobals "min" = some none), fun K => decide (PySem.W.nsIn K mainGlobals "len" = some none), fun K => decide (PySem.W.nsIn K mainGlobals "range" = some none)]
def fb_7 : List Fb := [fun K => decide (PySem.W.nsIn K mainGlobals "int" = some none), fun K => decide (PySem.W.nsIn K mainGlobals "abs" = some none), intB "GREATEST_MODULUS" 5040, fun K => decide (PySem.W.kitOne K (.type "int") (.type "bool") = some false), fun K => decide (PySem.W.kitOne K (.type "bool") (.type "bool") = some true), fun K => decide (PySem.W.kitOne K (.type "NoneType") (.type "bool") = some false), fun K => decide (PySem.W.kitOne K (.type "str") (.type "bool") = some false), fun K => decide (PySem.W.kitOne K (.type "tuple") (.type "bool") = some false)]
def fb_8 : List Fb := [fun K => decide (PySem.W.kitOne K (.type "list") (.type "bool") = some false), fun K => decide (PySem.W.kitOne K (.type "dict") (.type "bool") = some false), fun K => decide (PySem.W.kitOne K (.ref (He.ga K "Rounds")) (.type "bool") = some false), fun K => decide (PySem.W.kitOne K (.ref (He.ga K "Ratio")) (.type "bool") = some false), fun K => PySem.W.plainGet K (He.ga K "Rounds") Str.empty, fun K => PySem.W.hasDictIn K (He.ga K "Rounds"), fun K => PySem.W.plainOver K (He.ga K "Rounds"), fun K => decide (PySem.W.findIn K (.ref (He.ga K "Rounds")) "__setattr__" = some (some (.builtin "object.__setattr__")))]
def fb_9 : List Fb := [fun K => decide (PySem.W.findIn K (.ref (He.ga K "Rounds")) "__class__" = some (some (.builtin "object.__class__"))), fun K => decide (PySem.W.mroIn K (He.ga K "Rounds") (.type "object") = some true), fun K => decide (PySem.W.specialIn K (.builtin "object.__class__") "__get__" = some (some (.builtin "getset_descriptor.__get__"))), fun K => decide (PySem.W.takesIn K (.builtin "object.__class__") = some true), fun K => PySem.W.plainGet K (He.ga K "Ratio") Str.empty, fun K => PySem.W.hasDictIn K (He.ga K "Ratio"), fun K => PySem.W.plainOver K (He.ga K "Ratio"), fun K => decide (PySem.W.findIn K (.ref (He.ga K "Ratio")) "__setattr__" = some (some (.builtin "object.__setattr__")))]
def fb_10 : List Fb := [fun K => decide (PySem.W.findIn K (.ref (He.ga K "Ratio")) "__class__" = some (some (.builtin "object.__class__"))), fun K => decide (PySem.W.mroIn K (He.ga K "Ratio") (.type "object") = some true), fun K => decide (PySem.W.nsIn K mainGlobals "isinstance" = some none), fun K => decide (PySem.W.nsIn K mainGlobals "bool" = some none), fun K => decide (PySem.W.kitOne K (.type "int") (.type "int") = some true), fun K => decide (PySem.W.kitOne K (.type "bool") (.type "int") = some true), fun K => decide (PySem.W.kitOne K (.type "NoneType") (.type "int") = some false), fun K => decide (PySem.W.kitOne K (.type "str") (.type "int") = some false)]
def fb_11 : List Fb := [fun K => decide (PySem.W.kitOne K (.type "tuple") (.type "int") = some false), fun K => decide (PySem.W.kitOne K (.type "list") (.type "int") = some false), fun K => decide (PySem.W.kitOne K (.type "dict") (.type "int") = some false), fun K => decide (PySem.W.kitOne K (.ref (He.ga K "Rounds")) (.type "int") = some false), fun K => decide (PySem.W.kitOne K (.ref (He.ga K "Ratio")) (.type "int") = some false), fun K => decide (PySem.W.findIn K (.ref (He.ga K "Rounds")) "modulus" = some none), fun K => decide (PySem.W.findIn K (.ref (He.ga K "Rounds")) "hits" = some none), fun K => decide (PySem.W.nsIn K mainGlobals "tuple" = some none)]
def fb_12 : List Fb := [fun K => decide (PySem.W.findIn K (.ref (He.ga K "Rounds")) "others" = some none), fun K => decide (PySem.W.nsIn K mainGlobals "any" = some none), intB "GREATEST_MEMBER" 1000000, intB "GREATEST_FIRST" 1000000000, intB "MOST_MEMBERS" 1000, fun K => decide (PySem.W.nsIn K mainGlobals "list" = some none), fun K => decide (PySem.W.kitOne K (.type "int") (.ref (He.ga K "Rounds")) = some false), fun K => decide (PySem.W.kitOne K (.type "bool") (.ref (He.ga K "Rounds")) = some false)]
def fb_13 : List Fb := [fun K => decide (PySem.W.kitOne K (.type "NoneType") (.ref (He.ga K "Rounds")) = some false), fun K => decide (PySem.W.kitOne K (.type "str") (.ref (He.ga K "Rounds")) = some false), fun K => decide (PySem.W.kitOne K (.type "tuple") (.ref (He.ga K "Rounds")) = some false), fun K => decide (PySem.W.kitOne K (.type "list") (.ref (He.ga K "Rounds")) = some false), fun K => decide (PySem.W.kitOne K (.type "dict") (.ref (He.ga K "Rounds")) = some false), fun K => decide (PySem.W.kitOne K (.ref (He.ga K "Rounds")) (.ref (He.ga K "Rounds")) = some true), fun K => decide (PySem.W.kitOne K (.ref (He.ga K "Ratio")) (.ref (He.ga K "Rounds")) = some false), fun K => decide ((He.ga K "Ratio") ≠ (He.ga K "Rounds"))]
def fb_14 : List Fb := [fun K => decide (PySem.W.nsIn K mainGlobals "all" = some none), fun K => PySem.W.notFirst K (He.ga K "Rounds") (.type "int"), fun K => decide (PySem.W.subIn K (.ref (He.ga K "Rounds")) (.type "int") = some false), fun K => decide (PySem.W.findIn K (.ref (He.ga K "Rounds")) "__ne__" = some (some (.builtin "object.__ne__"))), fun K => decide (PySem.W.nsIn K mainGlobals "sorted" = some none), fun K => PySem.W.selfFirst K (He.ga K "Rounds"), fun K => decide (PySem.W.subIn K (.type "int") (.ref (He.ga K "Rounds")) = some false), fun K => (PySem.W.findIn K (.type "int") "__or__").isSome]
def fb_15 : List Fb := [fun K => (PySem.W.findIn K (.type "int") "__ror__").isSome, fun K => decide (PySem.W.findIn K (.ref (He.ga K "Rounds")) "__ror__" = some none), fun K => (PySem.W.findIn K (.type "int") "__xor__").isSome, fun K => (PySem.W.findIn K (.type "int") "__rxor__").isSome, fun K => decide (PySem.W.findIn K (.ref (He.ga K "Rounds")) "__rxor__" = some none), fun K => decide (PySem.W.nsIn K mainGlobals "repr" = some none), fun K => (PySem.W.findIn K (.type "int") "__sub__").isSome, fun K => (PySem.W.findIn K (.type "int") "__rsub__").isSome]
def fb_16 : List Fb := [fun K => decide (PySem.W.findIn K (.ref (He.ga K "Rounds")) "__rsub__" = some none), fun K => decide (PySem.W.findIn K (.ref (He.ga K "Ratio")) "top" = some none), fun K => decide (PySem.W.findIn K (.ref (He.ga K "Ratio")) "bottom" = some none)]
def fn_0 : List DfK := [⟨fun K => (He.ga K "_law_purse"), "_law_purse", "_law_purse", defArgs s__law_purse, defBody s__law_purse, defScope s__law_purse, []⟩, ⟨fun K => (He.ga K "_law_take"), "_law_take", "_law_take", defArgs s__law_take, defBody s__law_take, defScope s__law_take, []⟩, ⟨fun K => (He.ga K "is_integer"), "is_integer", "is_integer", defArgs s_is_integer, defBody s_is_integer, defScope s_is_integer, []⟩, ⟨fun K => (He.ga K "check_ascending"), "check_ascending", "check_ascending", defArgs s_check_ascending, defBody s_check_ascending, defScope s_check_ascending, []⟩, ⟨fun K => (He.ga K "others_before"), "others_before", "others_before", defArgs s_others_before, defBody s_others_before, defScope s_others_before, []⟩, ⟨fun K => (He.ma K (He.ga K "Rounds") "__init__"), "__init__", "Rounds.__init__", defArgs s_Rounds___init__, defBody s_Rounds___init__, defScope s_Rounds___init__, []⟩, ⟨fun K => (smF K (He.ga K "Rounds") "rests"), "rests", "Rounds.rests", defArgs s_Rounds_rests, defBody s_Rounds_rests, defScope s_Rounds_rests, []⟩, ⟨fun K => (smF K (He.ga K "Rounds") "told"), "told", "Rounds.told", defArgs s_Rounds_told, defBody s_Rounds_told, defScope s_Rounds_told, []⟩]
def fn_1 : List DfK := [⟨fun K => (He.ga K "check_number"), "check_number", "check_number", defArgs s_check_number, defBody s_check_number, defScope s_check_number, []⟩, ⟨fun K => (He.ga K "hits_at"), "hits_at", "hits_at", defArgs s_hits_at, defBody s_hits_at, defScope s_hits_at, []⟩, ⟨fun K => (He.ga K "is_member"), "is_member", "is_member", defArgs s_is_member, defBody s_is_member, defScope s_is_member, []⟩, ⟨fun K => (He.ga K "next_member"), "next_member", "next_member", defArgs s_next_member, defBody s_next_member, defScope s_next_member, []⟩, ⟨fun K => (He.ma K (He.ga K "Rounds") "members"), "members", "Rounds.members", defArgs s_Rounds_members, defBody s_Rounds_members, defScope s_Rounds_members, []⟩, ⟨fun K => (He.ga K "common_multiple"), "common_multiple", "common_multiple", defArgs s_common_multiple, defBody s_common_multiple, defScope s_common_multiple, []⟩, ⟨fun K => (He.ma K (He.ga K "Rounds") "__eq__"), "__eq__", "Rounds.__eq__", defArgs s_Rounds___eq__, defBody s_Rounds___eq__, defScope s_Rounds___eq__, []⟩, ⟨fun K => (He.ma K (He.ga K "Rounds") "after"), "after", "Rounds.after", defArgs s_Rounds_after, defBody s_Rounds_after, defScope s_Rounds_after, []⟩]
def fn_2 : List DfK := [⟨fun K => (He.ma K (He.ga K "Rounds") "__bool__"), "__bool__", "Rounds.__bool__", defArgs s_Rounds___bool__, defBody s_Rounds___bool__, defScope s_Rounds___bool__, []⟩, ⟨fun K => (prF K (He.ga K "Rounds") "whole_from"), "whole_from", "Rounds.whole_from", defArgs s_Rounds_whole_from, defBody s_Rounds_whole_from, defScope s_Rounds_whole_from, []⟩, ⟨fun K => (He.ga K "_law_several_right"), "_law_several_right", "_law_several_right", defArgs s__law_several_right, defBody s__law_several_right, defScope s__law_several_right, []⟩, ⟨fun K => (He.ga K "_law_set"), "_law_set", "_law_set", defArgs s__law_set, defBody s__law_set, defScope s__law_set, []⟩, ⟨fun K => (He.ga K "told_of"), "told_of", "told_of", defArgs s_told_of, defBody s_told_of, defScope s_told_of, []⟩, ⟨fun K => (He.ga K "joined"), "joined", "joined", defArgs s_joined, defBody s_joined, defScope s_joined, []⟩, ⟨fun K => (He.ma K (He.ga K "Rounds") "__or__"), "__or__", "Rounds.__or__", defArgs s_Rounds___or__, defBody s_Rounds___or__, defScope s_Rounds___or__, []⟩, ⟨fun K => (He.ma K (He.ga K "Rounds") "__xor__"), "__xor__", "Rounds.__xor__", defArgs s_Rounds___xor__, defBody s_Rounds___xor__, defScope s_Rounds___xor__, []⟩]
def fn_3 : List DfK := [⟨fun K => (He.ga K "_law_formed"), "_law_formed", "_law_formed", defArgs s__law_formed, defBody s__law_formed, defScope s__law_formed, []⟩, ⟨fun K => (He.ga K "_law_whole"), "_law_whole", "_law_whole", defArgs s__law_whole, defBody s__law_whole, defScope s__law_whole, []⟩, ⟨fun K => (He.ma K (He.ga K "Rounds") "__sub__"), "__sub__", "Rounds.__sub__", defArgs s_Rounds___sub__, defBody s_Rounds___sub__, defScope s_Rounds___sub__, []⟩, ⟨fun K => (He.ga K "greatest_common"), "greatest_common", "greatest_common", defArgs s_greatest_common, defBody s_greatest_common, defScope s_greatest_common, []⟩, ⟨fun K => (He.ma K (He.ga K "Ratio") "__init__"), "__init__", "Ratio.__init__", defArgs s_Ratio___init__, defBody s_Ratio___init__, defScope s_Ratio___init__, [.int 1]⟩, ⟨fun K => (He.ma K (He.ga K "Rounds") "__contains__"), "__contains__", "Rounds.__contains__", defArgs s_Rounds___contains__, defBody s_Rounds___contains__, defScope s_Rounds___contains__, []⟩, ⟨fun K => (He.ga K "_law_holds"), "_law_holds", "_law_holds", defArgs s__law_holds, defBody s__law_holds, defScope s__law_holds, []⟩, ⟨fun K => (He.ga K "_law_members"), "_law_members", "_law_members", defArgs s__law_members, defBody s__law_members, defScope s__law_members, []⟩]
def fn_4 : List DfK := [⟨fun K => (He.ga K "_law_right"), "_law_right", "_law_right", defArgs s__law_right, defBody s__law_right, defScope s__law_right, []⟩, ⟨fun K => (He.ga K "law"), "law", "law", defArgs s_law, defBody s_law, defScope s_law, []⟩]
def fbs : List Fb := fb_0 ++ (fb_1 ++ (fb_2 ++ (fb_3 ++ (fb_4 ++ (fb_5 ++ (fb_6 ++ (fb_7 ++ (fb_8 ++ (fb_9 ++ (fb_10 ++ (fb_11 ++ (fb_12 ++ (fb_13 ++ (fb_14 ++ (fb_15 ++ (fb_16 ++ ([])))))))))))))))))
def fns : List DfK := fn_0 ++ (fn_1 ++ (fn_2 ++ (fn_3 ++ (fn_4 ++ ([])))))
def dks : List DkK := []
def nm_0 : List PySem.Str := ["__name__", "InputError", "InvalidNumber", "InvalidValues", "InvalidText", "ZeroDivisor", "LimitError", "TooMany", "DIGITS", "POWER", "Ratio", "is_integer", "is_between", "greatest_common", "power_of", "is_number"]
def nm_1 : List PySem.Str := ["parts_of", "whole_part", "is_decimal", "parse_integer", "parse_ratio", "GREATEST_MODULUS", "GREATEST_MEMBER", "GREATEST_FIRST", "MOST_MEMBERS", "Rounds", "check_number", "check_ascending", "others_before", "hits_at", "is_member", "common_multiple"]
def nm_2 : List PySem.Str := ["joined", "told_of", "next_member", "_law_purse", "_law_take", "_law_set", "_law_holds", "_law_formed", "_law_members", "_law_whole", "_law_right", "_law_several_right"]
def as_0 : List Addr := [3, 2, 23, 24, 25, 40, 43, 44, 59, 62, 63, 78, 81, 82, 93, 94]
def as_1 : List Addr := [105, 106, 107, 122, 125, 126, 142, 149, 151, 152, 153, 159, 166, 173, 180, 187]
def as_2 : List Addr := [194, 201, 208, 215, 222, 229, 236, 243, 250, 257, 264, 271, 278, 285, 292, 299]
def as_3 : List Addr := [302, 303, 304, 305, 313, 320, 327, 334, 341, 348, 355, 360, 367, 374, 386, 393]
def as_4 : List Addr := [395, 396, 397, 403, 405, 406, 407, 413, 415, 421, 428, 435, 442, 449, 454, 461]
def as_5 : List Addr := [468, 475, 482, 485, 486, 487, 488, 496, 503, 508, 515, 522, 529, 534, 541, 548]
def as_6 : List Addr := [555, 562, 567, 574, 581, 586, 593, 598, 605, 612, 143, 136, 314, 328, 387, 394]
def as_7 : List Addr := [404, 414, 422, 436, 443, 450, 455, 469, 476, 483, 497, 504, 509, 516, 523, 530]
def as_8 : List Addr := [535, 542, 549, 556, 563, 568, 575, 582, 587, 594, 599, 606, 613, 22, 42, 61]
def as_9 : List Addr := [80, 92, 104, 124]
def nms : List PySem.Str := nm_0 ++ (nm_1 ++ (nm_2 ++ ([])))
def ads : List Addr := as_0 ++ (as_1 ++ (as_2 ++ (as_3 ++ (as_4 ++ (as_5 ++ (as_6 ++ (as_7 ++ (as_8 ++ (as_9 ++ ([]))))))))))
abbrev RR : PySem.W.OpenRow := PySem.W.OpenLaw.row PySem.Challenge.rw_loopbounds_k57_rounds_asked
abbrev HK : PySem.W.Hook := hkK ads fbs fns dks
def OB (s : PySem.W.SharedT) : ObK := obG ads fbs fns dks (HandSHeadRun.getT s)
abbrev RE (w : World) : Prop := HandSHeadRun.RunEq RR (PySem.W.view RR.prog [47]) HK OB 9000 nms w
set_option maxHeartbeats 0 in
theorem run_f (w : World) : RE (w.withFollow "special-get-raises" false) := by
  intro os; kernel_rfl
set_option maxHeartbeats 0 in
theorem run_t (w : World) : RE (w.withFollow "special-get-raises" true) := by
  intro os; kernel_rfl
theorem run_e (w : World) : RE w := PySem.W.byRow2 "special-get-raises" (P := RE) run_f run_t w
abbrev QV : Program := PySem.W.view RR.prog [47]
set_option maxHeartbeats 0 in
theorem head_g (hcl : PySem.W.WalkO QV nms (PySem.W.XL QV []) HK.says RR.toRowW (HandSHeadRun.topDef RR.prog 47) [] fun f vs => PySem.call f vs) : PySem.Challenge.rw_loopbounds_k57_rounds_asked.Holds := by
  w_on; o_law
  refine HandSHeadRun.head_any (r := RR) (q := QV) (H := HK) (ob := OB) (M := 9000) (loose := nms) (d := HandSHeadRun.topDef RR.prog 47) (kwd := []) obG_eq
    (by kernel_rfl) (fun s => by kernel_rfl) run_e (by kernel_rfl) (by kernel_rfl) (by kernel_rfl) (by rfl) (by first | assumption | decide +kernel) (by decide +kernel) ⟨rfl, rfl, rfl, rfl, rfl, by decide +kernel⟩ ?hw ?hc
  case hw => w_witness2
  case hc => exact hcl
theorem head_n : (HandSHeadRun.topDef RR.prog 47).name = ("law" : PySem.Str) := by kernel_rfl
theorem head_d : (HandSHeadRun.topDef RR.prog 47).params.defaults = [] := by kernel_rfl
end LX
namespace PD
open PySem PySem.Spec PyProof.Rows L2
structure RoomG (k : Nat) (A : Around) : Prop where
  r : Room k A
  g : A.guards = some []
namespace RoomG
variable {j k : Nat} {A : Around}
theorem hd (z : RoomG k A) : A.handled = none := z.r.hd
theorem mono (z : RoomG k A) (h : j ≤ k) : RoomG j A := ⟨z.r.mono h, z.g⟩
theorem units (z : RoomG k A) : A.units + 64 < cLine := z.r.units
theorem units0 (z : RoomG k A) : A.units < cLine := z.r.units0
theorem depth (z : RoomG k A) : A.depth < recursionLimit := z.r.depth
theorem in1 (z : RoomG (k + 1) A) : RoomG k A.in1 := ⟨z.r.in1, z.g⟩
theorem deeper (z : RoomG (k + 1) A) (env : Env) : RoomG k (A.deeper env) := ⟨z.r.deeper env, z.g⟩
theorem make (z : RoomG (k + 1) A) (C : Addr) (us : List Value) (kw : List (Str × Value)) : RoomG k (A.under (.builtin "type.__call__" ⟨.ref C :: us, kw⟩)) :=
  ⟨z.r.make C us kw, by first | exact z.g | (have q := z.g; simpa [Around.under, Code.guards, pushGuards] using q)⟩
end RoomG
theorem hu_of {A : Around} {k : Nat} (z : RoomG k A) : A.units + 1 < cLine := L2.hu_of z.r
/-- a def keeps a promise wherever there is room and no repr is under way -/
structure FnG (prog : Program) (w : World) (K : PySem.W.Frag) (mg : Str → Option Value) (base : Heap) (CX : CXT) (lvl : Nat) (f : Addr) (fd : FuncData) (names : List Str) (sp : Sp) : Prop where
  len : ∀ xs H Q E, sp xs H Q E → xs.length = names.length
  run : ∀ (A : Around) (frames : List Env) (s : Shared) (H : Hp) (given : Args) (us : List Value) (xs : List V) (Q : VK) (E : XK), RoomG lvl A → Env0 prog w K mg base A frames s H →
    BindsTo s fd given (names.zip us) → Vals xs us → sp xs H Q E → codeAny (model prog w) A (.call (.ref f) given) (CR CX frames prog w H s Q E) s
section
variable {prog : Program} {w : World} {K : PySem.W.Frag} {mg : Str → Option Value} {base : Heap} {CX : CXT} {i lvl : Nat} {f : Addr} {fd : FuncData} {names : List Str} {sp sp2 : Sp}
theorem FnG.mono (g : FnG prog w K mg base CX i f fd names sp) (h : i ≤ lvl) : FnG prog w K mg base CX lvl f fd names sp where
  len := g.len
  run := fun A fr s H gv us xs Q E room => g.run A fr s H gv us xs Q E (room.mono h)
theorem FnG.imp (g : FnG prog w K mg base CX lvl f fd names sp) (h : ∀ xs H Q E, sp2 xs H Q E → sp xs H Q E) : FnG prog w K mg base CX lvl f fd names sp2 where
  len := fun xs H Q E q => g.len xs H Q E (h xs H Q E q)
  run := fun A fr s H gv us xs Q E room e b r q => g.run A fr s H gv us xs Q E room e b r (h xs H Q E q)
/-- called with plain values, some of them its defaults -/
def FnRG (prog : Program) (w : World) (K : PySem.W.Frag) (mg : Str → Option Value) (base : Heap) (CX : CXT) (lvl : Nat) (f : Addr) (sp : Sp) : Prop :=
  ∀ (A : Around) (frames : List Env) (s : Shared) (H : Hp) (us : List Value) (xs : List V) (Q : VK) (E : XK), RoomG lvl A → Env0 prog w K mg base A frames s H → Vals xs us → sp xs H Q E →
    codeAny (model prog w) A (.call (.ref f) ⟨us, []⟩) (CR CX frames prog w H s Q E) s
theorem FnG.raw {more : List Value} {dvs : List V} (g : FnG prog w K mg base CX lvl f fd names sp) (hb : Binds K fd names more) (hd : Vals dvs more) : FnRG prog w K mg base CX lvl f (fun xs H Q E => sp (xs ++ dvs) H Q E) :=
  fun A fr s H us xs Q E room e r q => by
    have all : Vals (xs ++ dvs) (us ++ more) := r.append hd
    exact g.run A fr s H ⟨us, []⟩ (us ++ more) (xs ++ dvs) Q E room e (hb s us (e.mod.kin.keeps fun b o z => (e.bs b o z).1) (by rw [← all.length]; exact g.len _ _ _ _ q)) all q
theorem FnRG.imp (g : FnRG prog w K mg base CX lvl f sp) (h : ∀ xs H Q E, sp2 xs H Q E → sp xs H Q E) : FnRG prog w K mg base CX lvl f sp2 :=
  fun A fr s H us xs Q E room e r q => g A fr s H us xs Q E room e r (h xs H Q E q)
end
/-- a def's body walked to its promise -/
theorem fnG_of {CX : CXT} {prog : Program} {w : World} {K : PySem.W.Frag} {mg : Str → Option Value} {base : Heap} {lvl : Nat} {f : Addr} {nm qual : Str} {params : Arguments} {bd : List Stmt} {sc : Scope} {dV kV doc pm cdv ct oc : Value} {an od : Option Addr} {osl : Array (Option Value)} {N names : List Str} {sp : Sp}
    (look : K.lookup f = some ⟨oc, od, .func (PySem.W.fnOf nm qual params bd sc dV kV doc pm an cdv ct), osl⟩) (cod : PySem.W.codeIn K cdv qual = true) (S : FnScope N names sc) (len : ∀ xs H Q E, sp xs H Q E → xs.length = names.length)
    (walk : ∀ (A : Around) (frames : List Env) (s : Shared) (H : Hp) (xs : List V) (Q : VK) (E : XK), RoomG lvl (A.deeper (envOfC qual sc s.heap.objs.size f cdv)) → sp xs H Q E →
      ∃ t, PSs (cxOf CX prog w K mg base N qual sc f cdv A frames s H E) bd t ∧ t { nx := fun _ H' => Q .non H', rt := Q } (start N xs) H) : FnG prog w K mg base CX (lvl + 1) f (PySem.W.fnOf nm qual params bd sc dV kV doc pm an cdv ct) names sp where
  len := len
  run := by
    intro A frames s H gv us xs Q E room e0 hb r q
    have old : ∀ b o, base.get? b = some o → s.heap.get? b = some o := fun b o e => (e0.bs b o e).1
    have kinds : ∀ y ∈ names.zip us, sc.names.lookup y.1 = some .local ∨ (sc.names.lookup y.1 = some .cell ∧ ((cellsFrom (s.heap.objs.size + 1) sc.names []).lookup y.1).isSome = true) := by
      rintro ⟨x, u⟩ hy
      exact (S.par x (List.of_mem_zip hy).1).imp id fun c => ⟨c, PySem.W.cellsFrom_some _ _ _ (.inl c)⟩
    refine codeAny_call_function room.depth ((e0.mod.kin.keeps old) _ _ look) rfl S.co S.gen rfl (PySem.W.codeRec_of (e0.mod.kin.keeps old) cod) (hb _ _ _ _ ?_)
    refine wpAny_newFunctionEnv_cells S.kind kinds fun envv hEnv s2 made => ?_
    subst hEnv
    obtain ⟨t, ht, hq⟩ := walk A frames s H xs Q E (room.deeper _) q
    have J := inv_start (CX := CX) (E := E) S room.hd e0 (len _ _ _ _ q) r made
    refine ⟨(e0.mod.nolimit.keeps old).keeps made.toInCall.keep, codeAny_func (wpAny_mono (ht.run [] s2 (start N xs) H _ J hq) (fun flow s3 hs => ?_) fun _ _ z => z)⟩
    cases flow with
    | ret u => let ⟨v, σ', H', I, rv, z⟩ := hs; exact ⟨v, H', I.os, I.bare, I.base, I.hok, rv, z⟩
    | next => let ⟨σ', H', I, z⟩ := hs; exact ⟨V.non, H', I.os, I.bare, I.base, I.hok, rfl, z⟩
    | brk => exact hs.choose_spec.choose_spec.2.elim
    | cont => exact hs.choose_spec.choose_spec.2.elim
section
variable {prog : Program} {w : World} {K : PySem.W.Frag} {mg : Str → Option Value} {base : Heap}
theorem okG {x qual : Str} {st : Stmt} {f : Addr} {fd : FuncData} {N names : List Str} {lvl : Nat} {sp : Sp} (F : Fun K x qual st f fd) (S : FnScope N names (defScope st)) (len : ∀ xs H Q E, sp xs H Q E → xs.length = names.length)
    (walk : ∀ (cdv : Value) (A : Around) (frames : List Env) (s : Shared) (H : Hp) (xs : List V) (Q : VK) (E : XK), RoomG lvl (A.deeper (envOfC qual (defScope st) s.heap.objs.size f cdv)) → sp xs H Q E →
      ∃ t, PSs (cxOf (L2.CX prog w) prog w K mg base N qual (defScope st) f cdv A frames s H E) (defBody st) t ∧ t { nx := fun _ H' => Q .non H', rt := Q } (start N xs) H) : FnG prog w K mg base (L2.CX prog w) (lvl + 1) f fd names sp := by
  let ⟨_, _, _, _, _, _, cdv, _, _, e, look, cod⟩ := F.ex
  subst e
  exact fnG_of look cod S len (walk cdv)
theorem okGD {x qual : Str} {params : Arguments} {bd : List Stmt} {sc : Scope} {dvs : List V} {kws : List (Str × V)} {f : Addr} {fd : FuncData} {N names : List Str} {lvl : Nat} {sp : Sp} (F : FunD K x qual params bd sc dvs kws f fd) (S : FnScope N names sc) (len : ∀ xs H Q E, sp xs H Q E → xs.length = names.length)
    (walk : ∀ (cdv : Value) (A : Around) (frames : List Env) (s : Shared) (H : Hp) (xs : List V) (Q : VK) (E : XK), RoomG lvl (A.deeper (envOfC qual sc s.heap.objs.size f cdv)) → sp xs H Q E →
      ∃ t, PSs (cxOf (L2.CX prog w) prog w K mg base N qual sc f cdv A frames s H E) bd t ∧ t { nx := fun _ H' => Q .non H', rt := Q } (start N xs) H) : FnG prog w K mg base (L2.CX prog w) (lvl + 1) f fd names sp := by
  let ⟨_, _, _, _, _, _, _, cdv, _, _, e, look, cod, _, _⟩ := F.ex
  subst e
  exact fnG_of look cod S len (walk cdv)
end
section
variable {X : Cx} {CX : CXT} {lvl : Nat} {f : Addr} {fd : FuncData} {names : List Str} {sp : Sp} {dvs : List V} {more : List Value} {E : L2.St → XK} {x : Str} {p pos : Pos} {e : Expr} {es : List Expr} {t : TA}
theorem run_g {pins : List (Addr × Obj)} {σ : L2.St} {H : Hp} {s : Shared} {Q : VK} {us : List Value} {xs : List V} (g : FnG X.prog X.w X.K X.mg X.base CX lvl f fd names sp) (room : RoomG lvl X.A) (hb : Binds X.K fd names more) (hd : Vals dvs more) (pass : PassesAt CX X σ (E σ)) (I : Inv X pins σ H s) (r : Vals xs us) (q : sp (xs ++ dvs) H Q (E σ)) :
    wpAny (model X.prog X.w) X.A (call (.ref f) us) (EP X pins σ Q) X.xe s := by
  have go := g.raw hb hd X.A X.stack s H us xs Q (E σ) room I.env0 r q
  refine wpAny_call (codeAny_mono go fun res s2 h => ?_)
  match res, h with
  | .error v, h => exact pass pins H s v s2 I h
  | .ok (.ret u), h => exact I.after h
theorem pe_callG (g : FnG X.prog X.w X.K X.mg X.base CX lvl f fd names sp) (room : RoomG lvl X.A) (hg : Gl X x) (hm : X.mg x = some (.ref f)) (kp : PySem.W.keepIn X.K (.ref f) = true) (hb : Binds X.K fd names more) (hd : Vals dvs more) (pass : ∀ σ, PassesAt CX X σ (E σ)) (ha : PA X (e :: es) t)
    (dbg : (x == ("__debug__" : Str)) = false := by decide) (st : starEach (e :: es) X.env = (false, eval e X.env) :: starEach es X.env := by rfl) (pl : (backTo pos (starEach es X.env)).any (·.1) = false := by rfl) : PE X (.Call (.Name x p) (e :: es) [] pos) (tCallSD sp dvs E t) where
  run := fun pins s σ H Q I h => wpAny_Call_Name_kw (ld_glob I hg hm (PySem.W.callWith_K (h₀ := X.base) I.ok.mod.kin kp (thn (ha.run pos pins s σ H _ I h) fun us s2 z => let ⟨_, _, J, r, q⟩ := z; ⟨J.kIn, run_g g room hb hd (pass σ) J r q⟩) st pl) dbg)
end
end PD
namespace PD
open PySem PySem.Spec PyProof.Rows L2
/-- the context in which a closure runs -/
structure CloU where
  P : Program
  w : World
  mg : Str → Option Value
  base : Heap
  k : Nat
/-- a lambda of the text -/
structure LamSyn where
  q : Str
  ps : Arguments
  bd : Expr
  sc : Scope
inductive D where
  | non | bl (b : Bool) | int (i : Int) | str (s : Str)
  | tup (l : List D) | lst (l : List D)
  | ins (C : Addr) (fs : List Str) (l : List D)
  | dct (ks : List Key) (l : List D)
  | exn (a : Addr) (dd : Option Addr) (C : Addr) (fs : List Str) (l : List D)
  | scr (ns : List Int)
  | fn (a : Addr)
  | ty (n : String)
  | lam (L : LamSyn) (cl : List (Str × Addr))
  | clo (u : CloU) (e : Bool) (C : Addr) (fs : List Str) (l : List D)
/-- the written part of SqL -/
def WrL (K : PySem.W.Frag) (a : Addr) (xs : List V) : Prop :=
  ∃ (o : Obj) (its : Array Value) (n : Nat), K.lookup a = some o ∧ o.cls = .type "list" ∧ o.dict = none ∧ o.data = .seq its n ∧ its.size ≤ sizeLine ∧ Vals xs its.toList
/-- what is not in S stays; nothing goes -/
structure Stp (S : Addr → Prop) (H H' : Hp) : Prop where
  at_ : ∀ b o, ¬ S b → H b = some o → H' b = some o
  dom : ∀ b, H' b = none → H b = none
theorem Stp.refl {S : Addr → Prop} {H : Hp} : Stp S H H := ⟨fun _ _ _ e => e, fun _ e => e⟩
theorem Stp.of {S : Addr → Prop} {H H' : Hp} (e : Ext H H') : Stp S H H' := ⟨fun b o _ q => e b o q, fun b q => by
  cases z : H b with
  | none => rfl
  | some o => rw [e b o z] at q; cases q⟩
theorem Stp.mono {S S' : Addr → Prop} {H H' : Hp} (e : Stp S H H') (h : ∀ b, S b → S' b) : Stp S' H H' := ⟨fun b o n q => e.at_ b o (fun z => n (h b z)) q, e.dom⟩
theorem Stp.trans {S : Addr → Prop} {H H1 H2 : Hp} (a : Stp S H H1) (b : Stp S H1 H2) : Stp S H H2 := ⟨fun c o n q => b.at_ c o n (a.at_ c o n q), fun c q => a.dom c (b.dom c q)⟩
/-- the object of a lambda that was made -/
def LamO (f c : Addr) (L : LamSyn) (cl : List (Str × Addr)) : HO := .ext fun h => ∃ pm ctv : Value, h.get? f = some (PySem.W.kla_obj "<lambda>" L.q L.ps L.bd L.sc cl pm c ctv)
section
variable (K : PySem.W.Frag)
mutual
def Dat : (Addr → Prop) → Hp → D → V → Prop
  | _, _, .non, v => v = .non
  | _, _, .bl b, v => v = .bl b
  | _, _, .int i, v => v = .int i
  | _, _, .str x, v => v = .str x
  | S, H, .tup l, v => ∃ a vs, v = .ref a ∧ H a = some (.tup vs) ∧ ¬ S a ∧ Dats S H l vs
  | S, H, .lst l, v => ∃ a vs, v = .ref a ∧ H a = some (.lst vs) ∧ ¬ S a ∧ Dats S H l vs
  | S, H, .ins C fs l, v => ∃ a dx vs, v = .ref a ∧ H a = some (.ins C dx (fs.zip vs)) ∧ ¬ S a ∧ fs.length = l.length ∧ Dats S H l vs
  | S, H, .dct ks l, v => ∃ a o vs, v = .ref a ∧ H a = some (.frz o (.dK (ks.zip vs))) ∧ ¬ S a ∧ ks.length = l.length ∧ Dats S H l vs
  | S, H, .exn a dd _ fs l, v => v = .ref a ∧ ((dd = none ∧ l = [] ∧ fs = []) ∨ ∃ p vs, dd = some p ∧ H p = some (.xd (fs.zip vs)) ∧ ¬ S p ∧ fs.length = l.length ∧ Dats S H l vs)
  | S, H, .scr ns, v => ∃ a, v = .ref a ∧ ((∃ o, H a = some (.frz o (.lst (ns.map V.int))) ∧ ¬ S a) ∨ WrL K a (ns.map V.int))
  | _, _, .fn a, v => v = .ref a
  | _, _, .ty n, v => v = .ty n
  | S, H, .lam L cl, v => ∃ f c, v = .ref f ∧ H f = some (LamO f c L cl) ∧ ¬ S f ∧ H c = some (LamX.CodeO c L.q) ∧ ¬ S c
  | S, H, .clo u e C fs l, v => ∃ f, v = .ref f ∧ (∃ c L cl, H f = some (LamO f c L cl) ∧ ¬ S f) ∧ ∀ (S1 : Addr → Prop) (H1 : Hp), (∀ b, S1 b → S b ∨ H b = none) → Stp S H H1 → (∀ b, S1 b → H1 b ≠ none) →
      ∀ (A : Around) (frames : List Env) (s : Shared) (Q : VK) (E : XK), RoomG u.k A → Env0 u.P u.w K u.mg u.base A frames s H1 →
      (if e = true then ∀ (dd : Option Addr) (H2 : Hp), Ext H1 H2 → (match dd with
          | some p => ∃ vs, H2 p = some (.xd (fs.zip vs)) ∧ ¬ S1 p ∧ fs.length = l.length ∧ Dats S1 H2 l vs
          | none => l = [] ∧ fs = []) → E (.ref C) dd H2
        else ∀ v H2, Ext H1 H2 → Dats S1 H2 l [v] → Q v H2) →
      codeAny (model u.P u.w) A (.call (.ref f) ⟨[], []⟩) (CR (L2.CX u.P u.w) frames u.P u.w H1 s Q E) s
def Dats : (Addr → Prop) → Hp → List D → List V → Prop
  | _, _, [], vs => vs = []
  | S, H, d :: ds, vs => ∃ v r, vs = v :: r ∧ Dat S H d v ∧ Dats S H ds r
end
end
/-- steps one behind the other -/
theorem Stp.seq {S S' : Addr → Prop} {H H1 H2 : Hp} (hS : ∀ b, S' b → S b ∨ H b = none) (a : Stp S H H1) (b : Stp S' H1 H2) : Stp S H H2 :=
  ⟨fun c o n q => b.at_ c o (fun z => (hS c z).elim n fun z => by rw [z] at q; cases q) (a.at_ c o n q), fun c q => a.dom c (b.dom c q)⟩
section
variable {K : PySem.W.Frag} {S S' : Addr → Prop} {H H' : Hp}
mutual
theorem Dat.step (hS : ∀ b, S' b → S b ∨ H b = none) (hH : Stp S H H') : ∀ (d : D) (v : V), Dat K S H d v → Dat K S' H' d v
  | .non, v, h => h
  | .bl _, v, h => h
  | .int _, v, h => h
  | .str _, v, h => h
  | .fn _, v, h => h
  | .ty _, v, h => h
  | .tup l, v, ⟨a, vs, e, ha, hs, hl⟩ => ⟨a, vs, e, hH.at_ a _ hs ha, fun z => (hS a z).elim hs (fun q => by rw [q] at ha; cases ha), Dats.step hS hH l vs hl⟩
  | .lst l, v, ⟨a, vs, e, ha, hs, hl⟩ => ⟨a, vs, e, hH.at_ a _ hs ha, fun z => (hS a z).elim hs (fun q => by rw [q] at ha; cases ha), Dats.step hS hH l vs hl⟩
  | .ins C fs l, v, ⟨a, dx, vs, e, ha, hs, hz, hl⟩ => ⟨a, dx, vs, e, hH.at_ a _ hs ha, fun z => (hS a z).elim hs (fun q => by rw [q] at ha; cases ha), hz, Dats.step hS hH l vs hl⟩
  | .dct ks l, v, ⟨a, o, vs, e, ha, hs, hz, hl⟩ => ⟨a, o, vs, e, hH.at_ a _ hs ha, fun z => (hS a z).elim hs (fun q => by rw [q] at ha; cases ha), hz, Dats.step hS hH l vs hl⟩
  | .exn a dd C fs l, v, ⟨e, h⟩ => ⟨e, h.elim .inl fun ⟨p, vs, e1, ha, hs, hz, hl⟩ => .inr ⟨p, vs, e1, hH.at_ p _ hs ha, fun z => (hS p z).elim hs (fun q => by rw [q] at ha; cases ha), hz, Dats.step hS hH l vs hl⟩⟩
  | .lam L cl, v, ⟨f, c, e, h1, n1, h2, n2⟩ => ⟨f, c, e, hH.at_ f _ n1 h1, fun z => (hS f z).elim n1 (fun q => by rw [q] at h1; cases h1), hH.at_ c _ n2 h2, fun z => (hS c z).elim n2 (fun q => by rw [q] at h2; cases h2)⟩
  | .clo u e C fs l, v, ⟨f, e1, ⟨c, L, cl, hf, nf⟩, h⟩ => ⟨f, e1, ⟨c, L, cl, hH.at_ f _ nf hf, fun z => (hS f z).elim nf (fun q => by rw [q] at hf; cases hf)⟩, fun S1 H1 a b => h S1 H1 (fun c z => (a c z).elim (hS c) fun q => .inr (hH.dom c q)) (Stp.seq hS hH b)⟩
  | .scr ns, v, ⟨a, e, h⟩ => ⟨a, e, h.elim (fun ⟨o, ha, hs⟩ => .inl ⟨o, hH.at_ a _ hs ha, fun z => (hS a z).elim hs (fun q => by rw [q] at ha; cases ha)⟩) .inr⟩
theorem Dats.step (hS : ∀ b, S' b → S b ∨ H b = none) (hH : Stp S H H') : ∀ (ds : List D) (vs : List V), Dats K S H ds vs → Dats K S' H' ds vs
  | [], vs, h => h
  | d :: ds, vs, ⟨v, r, e, h1, h2⟩ => ⟨v, r, e, Dat.step hS hH d v h1, Dats.step hS hH ds r h2⟩
end
theorem Dat.ext {d : D} {v : V} (h : Dat K S H d v) (e : Ext H H') : Dat K S H' d v := Dat.step (fun b z => .inl z) (.of e) d v h
theorem Dats.ext {d : List D} {v : List V} (h : Dats K S H d v) (e : Ext H H') : Dats K S H' d v := Dats.step (fun b z => .inl z) (.of e) d v h
theorem Dat.weak {d : D} {v : V} (h : Dat K S H d v) (hS : ∀ b, S' b → S b) : Dat K S' H d v := Dat.step (fun b z => .inl (hS b z)) .refl d v h
theorem Dats.weak {d : List D} {v : List V} (h : Dats K S H d v) (hS : ∀ b, S' b → S b) : Dats K S' H d v := Dats.step (fun b z => .inl (hS b z)) .refl d v h
theorem Dats.len : ∀ {ds : List D} {vs : List V}, Dats K S H ds vs → ds.length = vs.length
  | [], vs, h => by cases (show vs = [] from h); rfl
  | d :: ds, vs, ⟨v, r, e, h1, h2⟩ => by rw [e, List.length_cons, List.length_cons, Dats.len h2]
theorem Dats.get : ∀ {ds : List D} {vs : List V} {i : Nat} {d : D}, Dats K S H ds vs → ds[i]? = some d → ∃ v, vs[i]? = some v ∧ Dat K S H d v
  | [], vs, i, d, h, e => by simp at e
  | d' :: ds, vs, 0, d, ⟨v, r, e', h1, h2⟩, e => by simp at e; subst e; exact ⟨v, by rw [e']; rfl, h1⟩
  | d' :: ds, vs, i + 1, d, ⟨v, r, e', h1, h2⟩, e => by
    obtain ⟨v', h3, h4⟩ := Dats.get (i := i) (d := d) h2 (by simpa using e)
    exact ⟨v', by rw [e']; simpa using h3, h4⟩
theorem Dats.append : ∀ {ds es : List D} {vs ws : List V}, Dats K S H ds vs → Dats K S H es ws → Dats K S H (ds ++ es) (vs ++ ws)
  | [], es, vs, ws, h, h' => by cases (show vs = [] from h); exact h'
  | d :: ds, es, vs, ws, ⟨v, r, e, h1, h2⟩, h' => ⟨v, r ++ ws, by rw [e]; rfl, h1, Dats.append h2 h'⟩
theorem Dats.one {d : D} {v : V} (h : Dat K S H d v) : Dats K S H [d] [v] := ⟨v, [], rfl, h, rfl⟩
theorem Dats.drop : ∀ (n : Nat) {ds : List D} {vs : List V}, Dats K S H ds vs → Dats K S H (ds.drop n) (vs.drop n)
  | 0, ds, vs, h => h
  | n + 1, [], vs, h => by cases (show vs = [] from h); exact (rfl : ([] : List V) = [])
  | n + 1, d :: ds, vs, ⟨v, r, e, h1, h2⟩ => by rw [e]; exact Dats.drop n h2
theorem Dats.take : ∀ (n : Nat) {ds : List D} {vs : List V}, Dats K S H ds vs → Dats K S H (ds.take n) (vs.take n)
  | 0, ds, vs, h => (rfl : ([] : List V) = [])
  | n + 1, [], vs, h => by cases (show vs = [] from h); exact (rfl : ([] : List V) = [])
  | n + 1, d :: ds, vs, ⟨v, r, e, h1, h2⟩ => by rw [e]; exact ⟨v, r.take n, rfl, h1, Dats.take n h2⟩
theorem Dats.set : ∀ (i : Nat) {ds : List D} {vs : List V} {d : D} {v : V}, Dats K S H ds vs → Dat K S H d v → Dats K S H (ds.set i d) (vs.set i v)
  | i, [], vs, d, v, h, h' => by cases (show vs = [] from h); exact (rfl : ([] : List V) = [])
  | 0, d0 :: ds, vs, d, v, ⟨w, r, e, h1, h2⟩, h' => by rw [e]; exact ⟨v, r, rfl, h', h2⟩
  | i + 1, d0 :: ds, vs, d, v, ⟨w, r, e, h1, h2⟩, h' => by rw [e]; exact ⟨w, r.set i v, rfl, h1, Dats.set i h2 h'⟩
theorem Dats.ints : ∀ (ns : List Int), Dats K S H (ns.map D.int) (ns.map V.int)
  | [] => (rfl : ([] : List V) = [])
  | n :: ns => ⟨.int n, _, rfl, rfl, Dats.ints ns⟩
theorem Dats.ofInts : ∀ {ns : List Int} {vs : List V}, Dats K S H (ns.map D.int) vs → vs = ns.map V.int
  | [], vs, h => h
  | n :: ns, vs, ⟨v, r, e, h1, h2⟩ => by cases (show v = .int n from h1); rw [e, Dats.ofInts h2]; rfl
theorem Dats.ofBls : ∀ {ns : List Bool} {vs : List V}, Dats K S H (ns.map D.bl) vs → vs = ns.map V.bl
  | [], vs, h => h
  | n :: ns, vs, ⟨v, r, e, h1, h2⟩ => by cases (show v = .bl n from h1); rw [e, Dats.ofBls h2]; rfl
theorem Dats.bls : ∀ (ns : List Bool), Dats K S H (ns.map D.bl) (ns.map V.bl)
  | [] => (rfl : ([] : List V) = [])
  | n :: ns => ⟨.bl n, _, rfl, rfl, Dats.bls ns⟩
end
inductive Kd where
  | lst
  | ins (C : Addr) (fs : List Str)
  | dct (ks : List Key)
  deriving DecidableEq
/-- a thing that is data as it stands (a dict is frozen first) -/
def Kd.nd : Kd → Bool
  | .dct _ => false
  | _ => true
structure OV where
  k : Kd
  l : List D
def Kd.is (k : Kd) (vs : List V) (o : HO) : Prop := match k with
  | .lst => o = .lst vs
  | .ins C fs => ∃ dx, o = .ins C dx (fs.zip vs) ∧ fs.length = vs.length
  | .dct ks => o = .dK (ks.zip vs) ∧ ks.length = vs.length
def OV.d (o : OV) : D := match o.k with
  | .lst => .lst o.l
  | .ins C fs => .ins C fs o.l
  | .dct ks => .dct ks o.l
/-- own b o: a thing of one's own; b: made here (it may be frozen); else lent by the caller -/
inductive SD where
  | no | val (d : D) | own (b : Bool) (o : OV) | tab (q : Str) (P : Addr) | opr (d : D) (ks : List Key) (l : List D)
abbrev En := List SD
abbrev Ow := Nat → Option Addr
def OVAt (K : PySem.W.Frag) (S : Addr → Prop) (H : Hp) (o : OV) (p : Addr) : Prop := ∃ vs ho, H p = some ho ∧ o.k.is vs ho ∧ Dats K S H o.l vs
theorem OVAt.ne0 {K : PySem.W.Frag} {S : Addr → Prop} {H : Hp} {o : OV} {p : Addr} (h : OVAt K S H o p) : H p ≠ none := by
  obtain ⟨vs, ho, e, _⟩ := h
  rw [e]; intro z; cases z
theorem OVAt.lst {K : PySem.W.Frag} {S : Addr → Prop} {H : Hp} {l : List D} {p : Addr} (h : OVAt K S H ⟨.lst, l⟩ p) : ∃ vs, H p = some (.lst vs) ∧ Dats K S H l vs := by
  obtain ⟨vs, ho, e, e2, h⟩ := h
  exact ⟨vs, by rw [e]; exact congrArg some e2, h⟩
theorem OVAt.ofLst {K : PySem.W.Frag} {S : Addr → Prop} {H : Hp} {l : List D} {vs : List V} {p : Addr} (e : H p = some (.lst vs)) (h : Dats K S H l vs) : OVAt K S H ⟨.lst, l⟩ p := ⟨vs, _, e, rfl, h⟩
theorem OVAt.step {K : PySem.W.Frag} {S S' : Addr → Prop} {H H' : Hp} {o : OV} {p : Addr} (h : OVAt K S H o p) (hS : ∀ b, S' b → S b ∨ H b = none) (hH : Stp S H H') (e : H' p = H p) : OVAt K S' H' o p := by
  obtain ⟨vs, ho, e1, e2, h⟩ := h
  exact ⟨vs, ho, e ▸ e1, e2, Dats.step hS hH _ _ h⟩
theorem OVAt.dat {K : PySem.W.Frag} {S S' : Addr → Prop} {H : Hp} {o : OV} {p : Addr} (h : OVAt K S H o p) (hk : o.k.nd = true) (hS : ∀ b, S' b → S b) (n : ¬ S' p) : Dat K S' H o.d (.ref p) := by
  obtain ⟨vs, ho, e1, e2, h⟩ := h
  obtain ⟨k, l⟩ := o
  cases k with
  | lst =>
    cases (show ho = .lst vs from e2)
    exact ⟨p, vs, rfl, e1, n, h.weak hS⟩
  | ins C fs =>
    obtain ⟨dx, e2, e3⟩ := e2
    subst e2
    exact ⟨p, dx, vs, rfl, e1, n, by rw [e3, h.len], h.weak hS⟩
  | dct ks => cases hk
def Own (A : Ow) : Addr → Prop := fun b => ∃ i, A i = some b
def AV (S0 : Addr → Prop) (A : Ow) : Addr → Prop := fun b => S0 b ∨ Own A b
def Ow.le (A' A : Ow) : Prop := ∀ j, A' j = none ∨ A' j = A j
theorem Ow.le.refl {A : Ow} : Ow.le A A := fun _ => .inr rfl
theorem Ow.le.trans {A B C : Ow} (h : Ow.le A B) (h' : Ow.le B C) : Ow.le A C := fun j => (h j).elim .inl fun e => (h' j).elim (fun z => .inl (e.trans z)) fun z => .inr (e.trans z)
theorem Ow.le.own {A B : Ow} (h : Ow.le A B) {b : Addr} (z : Own A b) : Own B b := let ⟨i, e⟩ := z; ⟨i, (h i).elim (fun q => by rw [q] at e; cases e) fun q => q ▸ e⟩
theorem Ow.le.av {A B : Ow} {S0 : Addr → Prop} (h : Ow.le A B) {b : Addr} (z : AV S0 A b) : AV S0 B b := z.imp id h.own
def Ow.del (A : Ow) (i : Nat) : Ow := fun j => if j = i then none else A j
theorem Ow.del_ne {A : Ow} {i j : Nat} (h : j ≠ i) : A.del i j = A j := if_neg h
theorem Ow.del_same {A : Ow} {i : Nat} : A.del i i = none := if_pos rfl
theorem Ow.del_le {A : Ow} {i : Nat} : Ow.le (A.del i) A := fun j => by
  by_cases h : j = i
  · rw [h]; exact .inl Ow.del_same
  · exact .inr (Ow.del_ne h)
def Ow.put (A : Ow) (i : Nat) (p : Addr) : Ow := fun j => if j = i then some p else A j
theorem Ow.put_ne {A : Ow} {i j : Nat} {p : Addr} (h : j ≠ i) : A.put i p j = A j := if_neg h
theorem Ow.put_same {A : Ow} {i : Nat} {p : Addr} : A.put i p i = some p := if_pos rfl
/-- a table of code objects, each with the name q -/
def TabAt (S : Addr → Prop) (H : Hp) (P : Addr) (q : Str) : Prop := ∃ ps : Array Value, H P = some (.tbl ps) ∧ TriplesOk ps.toList ∧ ∀ (pos : Pos) (cv : Value), codeAmong pos ps.toList = some cv → ∃ c, cv = .ref c ∧ H c = some (LamX.CodeO c q) ∧ ¬ S c
theorem TabAt.step {S S' : Addr → Prop} {H H' : Hp} {P : Addr} {q : Str} (h : TabAt S H P q) (hS : ∀ b, S' b → S b ∨ H b = none) (hH : Stp S H H') (e : H' P = H P) : TabAt S' H' P q := by
  obtain ⟨ps, h1, h2, h3⟩ := h
  refine ⟨ps, e ▸ h1, h2, fun pos cv hc => ?_⟩
  obtain ⟨c, e1, e2, n⟩ := h3 pos cv hc
  exact ⟨c, e1, hH.at_ c _ n e2, fun z => (hS c z).elim n fun w => by rw [w] at e2; cases e2⟩
def SD.has (b : Addr) : SD → Prop
  | .own _ _ => True
  | .opr _ _ _ => True
  | .tab _ P => P = b
  | _ => False
def SlOk (K : PySem.W.Frag) (S0 : Addr → Prop) (A : Ow) (H : Hp) (a : Option Addr) (so : Option (Option V)) : SD → Prop
  | .no => True
  | .val d => ∃ v, so = some (some v) ∧ Dat K (AV S0 A) H d v
  | .own b o => ∃ p, a = some p ∧ so = some (some (.ref p)) ∧ OVAt K (AV S0 A) H o p ∧ (b = true → ¬ S0 p) ∧ (b = false → S0 p)
  | .tab q P => a = some P ∧ S0 P ∧ TabAt (AV S0 A) H P q
  | .opr d ks l => ∃ p b v, a = some p ∧ so = some (some (.ref b)) ∧ H b = some (.tup [v, .ref p]) ∧ ¬ AV S0 A b ∧ Dat K (AV S0 A) H d v ∧ OVAt K (AV S0 A) H ⟨.dct ks, l⟩ p ∧ ¬ S0 p
structure Ok (K : PySem.W.Frag) (S0 : Addr → Prop) (A : Ow) (σ : L2.St) (env : En) (H : Hp) : Prop where
  len : σ.length = env.length
  inj : ∀ i j b, A i = some b → A j = some b → i = j
  ow : ∀ i b, A i = some b → ∃ s, ∃ _ : s.has b, env[i]? = some s
  sl : ∀ i s, env[i]? = some s → SlOk K S0 A H (A i) σ[i]? s
  tr : ∀ b, S0 b → H b ≠ none
section
variable {K : PySem.W.Frag} {S0 S1 : Addr → Prop} {A A' : Ow} {σ : L2.St} {env : En} {H H' : Hp}
theorem SlOk.keep {a : Option Addr} {so : Option (Option V)} {s : SD} (q : SlOk K S0 A H a so s) (hS : ∀ b, AV S1 A' b → AV S0 A b ∨ H b = none) (hH : Stp (AV S0 A) H H') (hp : ∀ (_ : Bool) (_ : OV) p, True → a = some p → H' p = H p ∧ (S1 p ↔ S0 p)) : SlOk K S1 A' H' a so s := by
  cases s with
  | no => trivial
  | val d => obtain ⟨v, e1, e2⟩ := q; exact ⟨v, e1, Dat.step hS hH d v e2⟩
  | own b o =>
    obtain ⟨p, e1, e2, e3, e5, e6⟩ := q
    obtain ⟨z1, z2⟩ := hp b o p trivial e1
    exact ⟨p, e1, e2, e3.step hS hH z1, fun hb z => e5 hb (z2.mp z), fun hb => z2.mpr (e6 hb)⟩
  | tab q P =>
    obtain ⟨e1, e2, e3⟩ := q
    obtain ⟨z1, z2⟩ := hp true ⟨.lst, []⟩ P trivial e1
    exact ⟨e1, z2.mpr e2, e3.step hS hH z1⟩
  | opr d ks l =>
    obtain ⟨p, b, v, e1, e2, e3, e4, e5, e6, e7⟩ := q
    obtain ⟨z1, z2⟩ := hp true ⟨.lst, []⟩ p trivial e1
    exact ⟨p, b, v, e1, e2, hH.at_ b _ e4 e3, fun z => (hS b z).elim e4 (fun w => by rw [w] at e3; cases e3), Dat.step hS hH d v e5, e6.step hS hH z1, fun z => e7 (z2.mp z)⟩
theorem Ok.at_ (k : Ok K S0 A σ env H) {i : Nat} {p : Addr} (h : A i = some p) : ∃ ho, H p = some ho := by
  obtain ⟨s, l, e⟩ := k.ow i p h
  have q := k.sl i _ e
  cases s with
  | no => exact l.elim
  | val d => exact l.elim
  | own b o =>
    obtain ⟨p', e1, _, e2, _⟩ := q
    rw [h] at e1; cases e1
    obtain ⟨vs, ho, z, _⟩ := e2
    exact ⟨ho, z⟩
  | tab q P =>
    cases (show P = p from l)
    obtain ⟨_, _, ps, z, _⟩ := q
    exact ⟨_, z⟩
  | opr d ks l =>
    obtain ⟨p', _, _, e1, _, _, _, _, e2, _⟩ := q
    rw [h] at e1; cases e1
    obtain ⟨vs, ho, z, _⟩ := e2
    exact ⟨ho, z⟩
theorem Ok.trA (k : Ok K S0 A σ env H) : ∀ b, AV S0 A b → H b ≠ none := fun b z => by
  rcases z with z | ⟨i, z⟩
  · exact k.tr b z
  · obtain ⟨vs, e⟩ := k.at_ z
    rw [e]; intro q; cases q
theorem ne_none_ext {b : Addr} (e : Ext H H') (h : H b ≠ none) : H' b ≠ none := by
  cases q : H b with
  | none => exact absurd q h
  | some o => rw [e b o q]; intro z; cases z
theorem Ok.ext (k : Ok K S0 A σ env H) (e : Ext H H') : Ok K S0 A σ env H' :=
  ⟨k.len, k.inj, k.ow, fun i s hs => (k.sl i s hs).keep (fun _ z => .inl z) (.of e) fun b l p _ hp => ⟨by obtain ⟨vs, q⟩ := k.at_ hp; rw [q]; exact e _ _ q, Iff.rfl⟩, fun b z => ne_none_ext e (k.tr b z)⟩
/-- an own list is frozen -/
theorem Ok.frz {i : Nat} {o : OV} (k : Ok K S0 A σ env H) (hi : env[i]? = some (.own true o)) (hk : o.k.nd = true) :
    ∃ v, σ[i]? = some (some v) ∧ Ok K S0 (A.del i) σ (env.set i (.val o.d)) H ∧ Dat K (AV S0 (A.del i)) H o.d v := by
  obtain ⟨p, e1, e2, e3, e5, e6⟩ := k.sl i _ hi
  have hlt : i < env.length := (List.getElem?_eq_some_iff.mp hi).1
  have nA : ∀ b, AV S0 (A.del i) b → AV S0 A b := fun b => Ow.del_le.av
  have nO : ¬ Own (A.del i) p := fun ⟨j, z⟩ => by
    by_cases h : j = i
    · rw [h, Ow.del_same] at z; cases z
    · rw [Ow.del_ne h] at z; exact h (k.inj _ _ _ z e1)
  have nS : ¬ AV S0 (A.del i) p := fun z => z.elim (e5 rfl) nO
  have dl : Dat K (AV S0 (A.del i)) H o.d (.ref p) := e3.dat hk nA nS
  refine ⟨.ref p, e2, ⟨by rw [List.length_set]; exact k.len, fun a b c h1 h2 => ?_, fun a b h => ?_, fun j s hs => ?_, k.tr⟩, dl⟩
  · by_cases ha : a = i
    · rw [ha, Ow.del_same] at h1; cases h1
    · by_cases hb : b = i
      · rw [hb, Ow.del_same] at h2; cases h2
      · rw [Ow.del_ne ha] at h1; rw [Ow.del_ne hb] at h2; exact k.inj _ _ _ h1 h2
  · by_cases ha : a = i
    · rw [ha, Ow.del_same] at h; cases h
    · rw [Ow.del_ne ha] at h
      obtain ⟨c, l', q⟩ := k.ow a b h
      exact ⟨c, l', by rw [List.getElem?_set_ne (Ne.symm ha)]; exact q⟩
  · by_cases hj : j = i
    · subst hj
      rw [List.getElem?_set_self hlt] at hs
      cases hs
      exact ⟨_, e2, dl⟩
    · rw [List.getElem?_set_ne (Ne.symm hj)] at hs
      rw [Ow.del_ne hj]
      exact (k.sl j s hs).keep (fun b z => .inl (nA b z)) .refl fun _ _ _ _ _ => ⟨rfl, Iff.rfl⟩
/-- a slot is given data -/
theorem Ok.setVal {i : Nat} {d : D} {v : V} (k : Ok K S0 A σ env H) (h : Dat K (AV S0 A) H d v) : Ok K S0 (A.del i) (σ.set i (some v)) (env.set i (.val d)) H := by
  have nA : ∀ b, AV S0 (A.del i) b → AV S0 A b := fun b => Ow.del_le.av
  refine ⟨by rw [List.length_set, List.length_set]; exact k.len, fun a b c h1 h2 => ?_, fun a b h => ?_, fun j s hs => ?_, k.tr⟩
  · by_cases ha : a = i
    · rw [ha, Ow.del_same] at h1; cases h1
    · by_cases hb : b = i
      · rw [hb, Ow.del_same] at h2; cases h2
      · rw [Ow.del_ne ha] at h1; rw [Ow.del_ne hb] at h2; exact k.inj _ _ _ h1 h2
  · by_cases ha : a = i
    · rw [ha, Ow.del_same] at h; cases h
    · rw [Ow.del_ne ha] at h
      obtain ⟨c, l', q⟩ := k.ow a b h
      exact ⟨c, l', by rw [List.getElem?_set_ne (Ne.symm ha)]; exact q⟩
  · by_cases hj : j = i
    · subst hj
      have hlt : j < env.length := by have := (List.getElem?_eq_some_iff.mp hs).1; rwa [List.length_set] at this
      rw [List.getElem?_set_self hlt] at hs
      cases hs
      exact ⟨v, List.getElem?_set_self (by rw [k.len]; exact hlt), h.weak nA⟩
    · rw [List.getElem?_set_ne (Ne.symm hj)] at hs
      rw [Ow.del_ne hj, List.getElem?_set_ne (Ne.symm hj)]
      exact (k.sl j s hs).keep (fun b z => .inl (nA b z)) .refl fun _ _ _ _ _ => ⟨rfl, Iff.rfl⟩
/-- an own list has changed -/
theorem Ok.chg {i : Nat} {p : Addr} {b : Bool} {l l' : OV} (k : Ok K S0 A σ env H) (hi : env[i]? = some (.own b l)) (hp : A i = some p) (hH : Stp (fun q => q = p) H H') (hl : OVAt K (AV S0 A) H' l' p) :
    Ok K S0 A σ (env.set i (.own b l')) H' := by
  have hlt : i < env.length := (List.getElem?_eq_some_iff.mp hi).1
  have st : Stp (AV S0 A) H H' := hH.mono fun q e => .inr ⟨i, by rw [e]; exact hp⟩
  refine ⟨by rw [List.length_set]; exact k.len, k.inj, fun a q h => ?_, fun j s hs => ?_, fun q z => ?_⟩
  · by_cases ha : a = i
    · subst ha; exact ⟨.own b l', trivial, List.getElem?_set_self hlt⟩
    · obtain ⟨c, m, e⟩ := k.ow a q h
      exact ⟨c, m, by rw [List.getElem?_set_ne (Ne.symm ha)]; exact e⟩
  · by_cases hj : j = i
    · subst hj
      rw [List.getElem?_set_self hlt] at hs
      cases hs
      obtain ⟨p', e1, e2, e3, e5⟩ := k.sl j _ hi
      rw [hp] at e1; cases e1
      exact ⟨p, hp, e2, hl, e5⟩
    · rw [List.getElem?_set_ne (Ne.symm hj)] at hs
      refine (k.sl j s hs).keep (fun _ z => .inl z) st fun c m q _ hq => ⟨?_, Iff.rfl⟩
      obtain ⟨ws, e⟩ := k.at_ hq
      rw [e]
      exact hH.at_ q _ (fun z => hj (k.inj _ _ _ (z ▸ hq) hp)) e
  · by_cases e : q = p
    · rw [e]; exact hl.ne0
    · cases w : H q with
      | none => exact absurd w (k.tr q z)
      | some o => rw [hH.at_ q o e w]; intro z; cases z
/-- a new list, hidden so far, becomes a slot's own -/
theorem Ok.setOwn {i : Nat} {p : Addr} {l : OV} (k : Ok K (fun b => S0 b ∨ b = p) A σ env H) (hl : OVAt K (AV (fun b => S0 b ∨ b = p) A) H l p) (n0 : ¬ S0 p) (nA : ¬ Own A p) (hi : i < env.length) :
    Ok K S0 ((A.del i).put i p) (σ.set i (some (.ref p))) (env.set i (.own true l)) H := by
  have ow : ∀ b, Own ((A.del i).put i p) b → Own A b ∨ b = p := fun b ⟨j, z⟩ => by
    by_cases h : j = i
    · rw [h, Ow.put_same] at z; cases z; exact .inr rfl
    · rw [Ow.put_ne h, Ow.del_ne h] at z; exact .inl ⟨j, z⟩
  have av : ∀ b, AV S0 ((A.del i).put i p) b → AV (fun b => S0 b ∨ b = p) A b := fun b z => z.elim (fun z => .inl (.inl z)) fun z => (ow b z).elim .inr fun e => .inl (.inr e)
  refine ⟨by rw [List.length_set, List.length_set]; exact k.len, fun a b c h1 h2 => ?_, fun a b h => ?_, fun j s hs => ?_, fun b z => k.tr b (.inl z)⟩
  · by_cases ha : a = i
    · by_cases hb : b = i
      · rw [ha, hb]
      · rw [ha, Ow.put_same] at h1; cases h1
        rw [Ow.put_ne hb, Ow.del_ne hb] at h2; exact absurd ⟨b, h2⟩ nA
    · by_cases hb : b = i
      · rw [hb, Ow.put_same] at h2; cases h2
        rw [Ow.put_ne ha, Ow.del_ne ha] at h1; exact absurd ⟨a, h1⟩ nA
      · rw [Ow.put_ne ha, Ow.del_ne ha] at h1; rw [Ow.put_ne hb, Ow.del_ne hb] at h2; exact k.inj _ _ _ h1 h2
  · by_cases ha : a = i
    · subst ha; exact ⟨.own true l, trivial, List.getElem?_set_self hi⟩
    · rw [Ow.put_ne ha, Ow.del_ne ha] at h
      obtain ⟨c, l', q⟩ := k.ow a b h
      exact ⟨c, l', by rw [List.getElem?_set_ne (Ne.symm ha)]; exact q⟩
  · by_cases hj : j = i
    · subst hj
      rw [List.getElem?_set_self hi] at hs
      cases hs
      exact ⟨p, Ow.put_same, List.getElem?_set_self (by rw [k.len]; exact hi), hl.step (fun b z => .inl (av b z)) .refl rfl, fun _ => n0, fun z => nomatch z⟩
    · rw [List.getElem?_set_ne (Ne.symm hj)] at hs
      rw [Ow.put_ne hj, Ow.del_ne hj, List.getElem?_set_ne (Ne.symm hj)]
      exact (k.sl j s hs).keep (fun b z => .inl (av b z)) .refl fun _ _ q _ hq => ⟨rfl, .inl, fun z => z.elim id fun e => (nA ⟨j, e ▸ hq⟩).elim⟩
/-- what was hidden comes out -/
theorem Ok.show_ {p : Addr} (k : Ok K (fun b => S0 b ∨ b = p) A σ env H) (nA : ¬ Own A p) : Ok K S0 A σ env H :=
  ⟨k.len, k.inj, k.ow, fun i s hs => (k.sl i s hs).keep (fun b z => .inl (z.imp .inl id)) .refl fun _ _ q _ hq => ⟨rfl, .inl, fun z => z.elim id fun e => (nA ⟨i, e ▸ hq⟩).elim⟩, fun b z => k.tr b (.inl z)⟩
/-- a new thing at p is hidden -/
theorem Ok.hide {p : Addr} {o : HO} (k : Ok K S0 A σ env H) (hp : H p = none) : Ok K (fun b => S0 b ∨ b = p) A σ env (L2.upd H p o) := by
  have e : Ext H (L2.upd H p o) := Ext.upd hp
  refine ⟨k.len, k.inj, k.ow, fun i s hs => (k.sl i s hs).keep (fun b z => ?_) (.of e) fun b l q _ hq => ⟨?_, fun w => ?_, .inl⟩, fun b z => ?_⟩
  · rcases z with (z | z) | z
    · exact .inl (.inl z)
    · exact .inr (by rw [z]; exact hp)
    · exact .inl (.inr z)
  · obtain ⟨ws, w⟩ := k.at_ hq
    rw [w]; exact e _ _ w
  · rcases w with w | w
    · exact w
    · obtain ⟨ws, q'⟩ := k.at_ hq
      rw [w, hp] at q'; cases q'
  · rcases z with z | z
    · exact ne_none_ext e (k.tr b z)
    · rw [z, upd_same]; intro q; cases q
end
end PD
namespace PD
open PySem PySem.Spec PyProof.Rows L2
/-- an exception: its class, the fields that it keeps -/
structure Ex where
  C : Addr
  fs : List Str
  l : List D
abbrev Rs (α : Type) := Option (Except Ex α × En)
def Mo (α : Type) := En → Rs α
namespace Mo
def ret {α : Type} (a : α) : Mo α := fun e => some (.ok a, e)
def bind {α β : Type} (m : Mo α) (f : α → Mo β) : Mo β := fun e => match m e with
  | some (.ok a, e') => f a e'
  | some (.error x, e') => some (.error x, e')
  | none => none
def lift {α : Type} (o : Option α) : Mo α := fun e => match o with
  | some a => some (.ok a, e)
  | none => none
def liftR {α : Type} (o : Option (Except Ex α)) : Mo α := fun e => match o with
  | some a => some (a, e)
  | none => none
theorem bind_some {α β : Type} {m : Mo α} {f : α → Mo β} {e : En} {r : Except Ex β × En} (h : m.bind f e = some r) : (∃ a e', m e = some (.ok a, e') ∧ f a e' = some r) ∨ ∃ x e', m e = some (.error x, e') ∧ r = (.error x, e') := by
  unfold bind at h
  split at h
  · rename_i a e' q; exact .inl ⟨a, e', q, h⟩
  · rename_i x e' q; cases h; exact .inr ⟨x, e', q, rfl⟩
  · cases h
theorem lift_some {α : Type} {o : Option α} {e : En} {r : Except Ex α × En} (h : lift o e = some r) : ∃ a, o = some a ∧ r = (.ok a, e) := by
  unfold lift at h
  split at h
  · cases h; exact ⟨_, rfl, rfl⟩
  · cases h
theorem liftR_some {α : Type} {o : Option (Except Ex α)} {e : En} {r : Except Ex α × En} (h : liftR o e = some r) : o = some r.1 ∧ r.2 = e := by
  unfold liftR at h
  split at h
  · cases h; exact ⟨rfl, rfl⟩
  · cases h
end Mo
/-- an exception's own dict -/
def ExD (K : PySem.W.Frag) (S : Addr → Prop) (H : Hp) (x : Ex) : Option Addr → Prop
  | some p => ∃ vs, H p = some (.xd (x.fs.zip vs)) ∧ ¬ S p ∧ x.fs.length = x.l.length ∧ Dats K S H x.l vs
  | none => x.l = [] ∧ x.fs = []
abbrev TX (β : Type) := L2.St → Hp → (β → Hp → Prop) → Prop
abbrev RL (α β : Type) := PySem.W.Frag → (Addr → Prop) → Hp → α → β → Prop
/-- what the reading must lead to, of a result and of an exception -/
def Post {α β : Type} (Rl : RL α β) (K : PySem.W.Frag) (W : WX) (S0 : Addr → Prop) (A : Ow) (σ : L2.St) (H : Hp) (env' : En) (Q : β → Hp → Prop) : Except Ex α → Prop
  | .ok a => ∀ A' b H', Ow.le A' A → Ok K S0 A' σ env' H' → Stp (Own A) H H' → Rl K (AV S0 A') H' a b → Q b H'
  | .error x => ∀ A' dd H', Ow.le A' A → Ok K S0 A' σ env' H' → Stp (Own A) H H' → ExD K (AV S0 A') H' x dd → W (.ref x.C) dd σ H'
/-- the reading t does what the mirror m says -/
def XR {α β : Type} (Rl : RL α β) (K : PySem.W.Frag) (W : WX) (t : TX β) (m : Mo α) : Prop :=
  ∀ S0 A σ env H, Ok K S0 A σ env H → ∀ r env', m env = some (r, env') → ∀ Q, Post Rl K W S0 A σ H env' Q r → t σ H Q
/-- the same, from a value -/
def KR {α β γ δ : Type} (Ri : RL α β) (Rl : RL γ δ) (K : PySem.W.Frag) (W : WX) (t : β → TX δ) (m : α → Mo γ) : Prop :=
  ∀ S0 A σ env H, Ok K S0 A σ env H → ∀ a b, Ri K (AV S0 A) H a b → ∀ r env', m a env = some (r, env') → ∀ Q, Post Rl K W S0 A σ H env' Q r → t b σ H Q
abbrev RD : RL D V := fun K S H d v => Dat K S H d v
abbrev RDs : RL (List D) (List V) := fun K S H d v => Dats K S H d v
abbrev RB : RL Bool Bool := fun _ _ _ a b => a = b
/-- a relation that goes on as the heap grows -/
def Grow {α β : Type} (Rl : RL α β) : Prop := ∀ K S S' H H' a b, (∀ c, S' c → S c ∨ H c = none) → Stp S H H' → Rl K S H a b → Rl K S' H' a b
theorem grow_D : Grow RD := fun K S S' H H' a b h1 h2 h3 => Dat.step h1 h2 a b h3
theorem Post.imp {α β : Type} {Rl : RL α β} {K : PySem.W.Frag} {W : WX} {S0 : Addr → Prop} {A A1 : Ow} {σ : L2.St} {H H1 : Hp} {env' : En} {Q : β → Hp → Prop} {r : Except Ex α}
    (h : Post Rl K W S0 A σ H env' Q r) (le : Ow.le A1 A) (st : Stp (Own A) H H1) : Post Rl K W S0 A1 σ H1 env' Q r := by
  have tr : ∀ {H'}, Stp (Own A1) H1 H' → Stp (Own A) H H' := fun s => st.trans (s.mono fun b => le.own)
  cases r with
  | ok a => exact fun A' b H' l k s q => h A' b H' (l.trans le) k (tr s) q
  | error x => exact fun A' dd H' l k s q => h A' dd H' (l.trans le) k (tr s) q
theorem XR.bind {α β γ δ : Type} {R1 : RL α β} {R2 : RL γ δ} {K : PySem.W.Frag} {W : WX} {t1 : TX β} {t2 : β → TX δ} {m1 : Mo α} {m2 : α → Mo γ} (h1 : XR R1 K W t1 m1) (h2 : KR R1 R2 K W t2 m2) :
    XR R2 K W (fun σ H Q => t1 σ H fun b H1 => t2 b σ H1 Q) (m1.bind m2) := by
  intro S0 A σ env H k r env' hm Q hp
  rcases Mo.bind_some hm with ⟨a, e1, q1, q2⟩ | ⟨x, e1, q1, q2⟩
  · exact h1 S0 A σ env H k _ _ q1 _ fun A1 b H1 le k1 st rl => h2 S0 A1 σ e1 H1 k1 a b rl r env' q2 Q (hp.imp le st)
  · cases q2
    exact h1 S0 A σ env H k _ _ q1 _ fun A1 dd H1 le k1 st ex => hp A1 dd H1 le k1 st ex
/-- a value is carried over what comes next -/
theorem KR.carry {α β γ δ ι κ : Type} {R0 : RL ι κ} {R1 : RL α β} {R2 : RL γ δ} {K : PySem.W.Frag} {W : WX} {t1 : TX β} {t2 : κ → β → TX δ} {m1 : Mo α} {m2 : ι → α → Mo γ} (g : Grow R0) (h1 : XR R1 K W t1 m1)
    (h2 : ∀ S0 A σ env H, Ok K S0 A σ env H → ∀ i x, R0 K (AV S0 A) H i x → ∀ a b, R1 K (AV S0 A) H a b → ∀ r env', m2 i a env = some (r, env') → ∀ Q, Post R2 K W S0 A σ H env' Q r → t2 x b σ H Q) :
    KR R0 R2 K W (fun x σ H Q => t1 σ H fun b H1 => t2 x b σ H1 Q) (fun i => m1.bind (m2 i)) := by
  intro S0 A σ env H k i x hx r env' hm Q hp
  rcases Mo.bind_some hm with ⟨a, e1, q1, q2⟩ | ⟨y, e1, q1, q2⟩
  · refine h1 S0 A σ env H k _ _ q1 _ fun A1 b H1 le k1 st rl => h2 S0 A1 σ e1 H1 k1 i x ?_ a b rl r env' q2 Q (hp.imp le st)
    exact g K _ _ H H1 i x (fun c z => .inl (le.av z)) (st.mono fun c z => .inr z) hx
  · cases q2
    exact h1 S0 A σ env H k _ _ q1 _ fun A1 dd H1 le k1 st ex => hp A1 dd H1 le k1 st ex
structure DE (X : Cx) (W : WX) (e : Expr) (t : TE) (m : Mo D) : Prop where
  pe : PE X e t
  er : XR RD X.K W t m
structure DA (X : Cx) (W : WX) (es : List Expr) (t : TA) (m : Mo (List D)) : Prop where
  pa : PA X es t
  er : XR RDs X.K W t m
structure DT (X : Cx) (W : WX) (e : Expr) (t : TT) (m : Mo Bool) : Prop where
  pt : PT X e t
  er : XR RB X.K W t m
section
variable {X : Cx} {W : WX} {a b c e : Expr} {es : List Expr} {ta tb tc te : TE} {ma mb mc me : Mo D} {pos : Pos}
/-- a value that needs no heap -/
theorem xr_const {d : D} {v : V} {K : PySem.W.Frag} (h : ∀ S H, Dat K S H d v) : XR RD K W (tC v) (Mo.ret d) := by
  intro S0 A σ env H k r env' hm Q hp
  cases hm
  exact hp A v H .refl k .refl (h _ _)
theorem de_int {i : Int} {j pos} : DE X W (.Constant (.int i) j pos) (tC (.int i)) (Mo.ret (.int i)) := ⟨pe_int, xr_const fun _ _ => rfl⟩
theorem de_bl {i : Bool} {j pos} : DE X W (.Constant (.bool i) j pos) (tC (.bl i)) (Mo.ret (.bl i)) := ⟨pe_bl, xr_const fun _ _ => rfl⟩
theorem de_non {j pos} : DE X W (.Constant .none j pos) (tC .non) (Mo.ret .non) := ⟨pe_non, xr_const fun _ _ => rfl⟩
theorem de_str {x : Str} {j pos} : DE X W (.Constant (.str x) j pos) (tC (.str x)) (Mo.ret (.str x)) := ⟨pe_str, xr_const fun _ _ => rfl⟩
def getM (i : Nat) : Mo D := fun e => match e[i]? with
  | some (.val d) => some (.ok d, e)
  | some (.own true ⟨.dct _, _⟩) => none
  | some (.own true o) => some (.ok o.d, e.set i (.val o.d))
  | _ => none
theorem xr_var {i : Nat} {K : PySem.W.Frag} : XR RD K W (tVar i) (getM i) := by
  intro S0 A σ env H k r env' hm Q hp
  unfold getM at hm
  split at hm
  · rename_i d q
    cases hm
    obtain ⟨v, e1, e2⟩ := k.sl i _ q
    exact ⟨v, e1, hp A v H .refl k .refl e2⟩
  · cases hm
  · rename_i l nk q
    cases hm
    have hk : l.k.nd = true := by
      obtain ⟨kd, ll⟩ := l
      cases kd with
      | dct ks => exact (nk ks ll rfl).elim
      | _ => rfl
    obtain ⟨v, e1, k2, e2⟩ := k.frz q hk
    exact ⟨v, e1, hp _ v H Ow.del_le k2 .refl e2⟩
  · cases hm
theorem dv (i : Nat) {x : Str} {pos : Pos} (hN : X.N[i]? = some x := by rfl) (hv : Vis X.env.scope x := by first | exact Or.inl rfl | exact Or.inr (Or.inl rfl) | exact Or.inr (Or.inr rfl)) (hd : (x == ("__debug__" : Str)) = false := by decide)
    (hcd : (x == ("__classdict__" : Str)) = false := by decide) : DE X W (.Name x pos) (tVar i) (getM i) := ⟨pe_var hN hv hd hcd, xr_var⟩
theorem de_glob {x : Str} {v : V} {u : Value} {d : D} {pos : Pos} (hg : Gl X x) (hm : X.mg x = some u) (r : RelV v u) (h : ∀ S H, Dat X.K S H d v) (hd : (x == ("__debug__" : Str)) = false := by decide) : DE X W (.Name x pos) (tC v) (Mo.ret d) :=
  ⟨pe_glob hg hm r hd, xr_const h⟩
theorem de_bltn {x : Str} {v : V} {u : Value} {d : D} {pos : Pos} (hg : Gl X x) (hm : X.mg x = none) (hv : bootBuiltins x = some u) (r : RelV v u) (h : ∀ S H, Dat X.K S H d v) (hn : x ≠ "__name__" := by decide) (hd : (x == ("__debug__" : Str)) = false := by decide) : DE X W (.Name x pos) (tC v) (Mo.ret d) :=
  ⟨pe_bltn hg hm hv r hn hd, xr_const h⟩
/-- f: what the operation gives; it makes new things alone -/
structure OpD (X : Cx) (g : Value → Value → Sem Value) (r : R2) (f : D → D → Option D) : Prop where
  op : OpR X g r
  ok : ∀ (S : Addr → Prop) (H : Hp) x y dx dy d, (∀ b, S b → H b ≠ none) → Dat X.K S H dx x → Dat X.K S H dy y → f dx dy = some d → ∀ Q : VK, (∀ v H', Ext H H' → Dat X.K S H' d v → Q v H') → r x y H Q
theorem OpD.or {g : Value → Value → Sem Value} {r r' : R2} {f f' : D → D → Option D} (h : OpD X g r f) (h' : OpD X g r' f') : OpD X g (fun x y H Q => r x y H Q ∨ r' x y H Q) (fun x y => (f x y).or (f' x y)) := by
  refine ⟨h.op.or h'.op, fun S H x y dx dy d hS hx hy hf Q hq => ?_⟩
  cases q : f dx dy with
  | some d' => rw [q] at hf; cases hf; exact .inl (h.ok S H x y dx dy _ hS hx hy q Q hq)
  | none => rw [q] at hf; exact .inr (h'.ok S H x y dx dy _ hS hx hy hf Q hq)
/-- the reading of two operands and a step -/
theorem xr_two {K : PySem.W.Frag} {r : R2} {f : D → D → Option D} (ha : XR RD K W ta ma) (hb : XR RD K W tb mb)
    (ok : ∀ (S : Addr → Prop) (H : Hp) x y dx dy d, (∀ b, S b → H b ≠ none) → Dat K S H dx x → Dat K S H dy y → f dx dy = some d → ∀ Q : VK, (∀ v H', Ext H H' → Dat K S H' d v → Q v H') → r x y H Q) :
    XR RD K W (tOp r ta tb) (ma.bind fun x => mb.bind fun y => Mo.lift (f x y)) := by
  refine XR.bind (t2 := fun x σ H Q => tb σ H fun y H2 => r x y H2 Q) ha (KR.carry (t2 := fun x y σ H Q => r x y H Q) (m2 := fun x y => Mo.lift (f x y)) grow_D hb ?_)
  intro S0 A σ env H k dx x hx dy y hy r' env' hm Q hp
  obtain ⟨d, e1, e2⟩ := Mo.lift_some hm
  cases e2
  exact ok _ H x y dx dy d k.trA hx hy e1 Q fun v H' e hv => hp A v H' .refl (k.ext e) (.of e) hv
theorem de_op {op : Operator} {r : R2} {f : D → D → Option D} (ho : OpD X (binaryOp op) r f) (ha : DE X W a ta ma) (hb : DE X W b tb mb) :
    DE X W (.BinOp a op b pos) (tOp r ta tb) (ma.bind fun x => mb.bind fun y => Mo.lift (f x y)) := ⟨pe_op ho.op ha.pe hb.pe, xr_two ha.er hb.er ho.ok⟩
theorem de_cmp {op : CmpOp} {r : R2} {f : D → D → Option D} (ho : OpD X (compareOp op) r f) (ha : DE X W a ta ma) (hb : DE X W b tb mb) (hm : behindInMarks op b = false) :
    DE X W (.Compare a [op] [b] pos) (tOp r ta tb) (ma.bind fun x => mb.bind fun y => Mo.lift (f x y)) := ⟨pe_cmpR ho.op ha.pe hb.pe hm, xr_two ha.er hb.er ho.ok⟩
/-- a test's answer from a value -/
def blD : D → Option Bool
  | .bl b => some b
  | _ => none
theorem xr_test {K : PySem.W.Frag} (h : XR RD K W te me) : XR RB K W (tTest te) (me.bind fun d => Mo.lift (blD d)) := by
  intro S0 A σ env H k r env' hm Q hp
  rcases Mo.bind_some hm with ⟨d, e1, q1, q2⟩ | ⟨x, e1, q1, q2⟩
  · obtain ⟨c, e2, e3⟩ := Mo.lift_some q2
    cases e3
    refine h S0 A σ env H k _ _ q1 _ fun A1 v H1 le k1 st rl => ?_
    cases d <;> first | cases e2 | skip
    exact ⟨_, rl, hp A1 _ H1 le k1 st rfl⟩
  · cases q2
    exact h S0 A σ env H k _ _ q1 _ fun A1 dd H1 le k1 st ex => hp A1 dd H1 le k1 st ex
theorem dt_cmp {op : CmpOp} {r : R2} {f : D → D → Option D} (ho : OpD X (compareOp op) r f) (ha : DE X W a ta ma) (hb : DE X W b tb mb) (hm : behindInMarks op b = false) :
    DT X W (.Compare a [op] [b] pos) (tTest (tOp r ta tb)) ((ma.bind fun x => mb.bind fun y => Mo.lift (f x y)).bind fun d => Mo.lift (blD d)) := ⟨pt_cmpR ho.op ha.pe hb.pe hm, xr_test (xr_two ha.er hb.er ho.ok)⟩
end
def ssz : Nat := 16777216
theorem ssz_eq : sizeLine = ssz := sizeLine_eq
def addD : D → D → Option D
  | .int i, .int j => some (.int (i + j))
  | .str a, .str b => if a.length + b.length ≤ ssz then some (.str (a ++ b)) else none
  | .lst a, .lst b => if a.length + b.length ≤ ssz then some (.lst (a ++ b)) else none
  | _, _ => none
def subD : D → D → Option D
  | .int i, .int j => some (.int (i - j))
  | _, _ => none
def mulD : D → D → Option D
  | .int i, .int j => if i.natAbs.log2 + j.natAbs.log2 < 1000000 ∨ ((-(2 ^ 64) < i ∧ i < 2 ^ 64) ∨ (-(2 ^ 64) < j ∧ j < 2 ^ 64)) then some (.int (i * j)) else none
  | .lst a, .int k => if -(2 ^ 63) ≤ k ∧ k < 2 ^ 63 ∧ a.length * k.toNat ≤ ssz then some (.lst (List.replicate k.toNat a).flatten) else none
  | _, _ => none
def fdivD : D → D → Option D
  | .int i, .int j => if j ≠ 0 ∧ j.natAbs.log2 < 9000 then some (.int (i.fdiv j)) else none
  | _, _ => none
def modD : D → D → Option D
  | .int i, .int j => if j ≠ 0 then some (.int (i.fmod j)) else none
  | _, _ => none
def powD : D → D → Option D
  | .int i, .int j => if 0 ≤ j ∧ (Builtin.Int.intBits i : Int) * j ≤ 2 ^ 27 then some (.int (i ^ j.toNat)) else none
  | _, _ => none
/-- a new list, data -/
theorem dat_new {K : PySem.W.Frag} {S : Addr → Prop} {H : Hp} {p : Addr} {l : List D} {vs : List V} (hS : ∀ b, S b → H b ≠ none) (hp : H p = none) (h : Dats K S H l vs) : Dat K S (L2.upd H p (.lst vs)) (.lst l) (.ref p) :=
  ⟨p, vs, rfl, upd_same, fun z => hS p z hp, h.ext (Ext.upd hp)⟩
theorem dat_newT {K : PySem.W.Frag} {S : Addr → Prop} {H : Hp} {p : Addr} {l : List D} {vs : List V} (hS : ∀ b, S b → H b ≠ none) (hp : H p = none) (h : Dats K S H l vs) : Dat K S (L2.upd H p (.tup vs)) (.tup l) (.ref p) :=
  ⟨p, vs, rfl, upd_same, fun z => hS p z hp, h.ext (Ext.upd hp)⟩
theorem Dats.rep {K : PySem.W.Frag} {S : Addr → Prop} {H : Hp} {ds : List D} {vs : List V} (h : Dats K S H ds vs) : ∀ n : Nat, Dats K S H (List.replicate n ds).flatten (List.replicate n vs).flatten
  | 0 => (rfl : ([] : List V) = [])
  | n + 1 => by rw [List.replicate_succ, List.replicate_succ, List.flatten_cons, List.flatten_cons]; exact h.append (Dats.rep h n)
section
variable {X : Cx}
def rAddA : R2 := fun x y H Q => (∃ i j, x = .int i ∧ y = .int j ∧ Q (.int (i + j)) H) ∨ (∃ i j, x = .str i ∧ y = .str j ∧ i.length + j.length ≤ sizeLine ∧ Q (.str (i ++ j)) H) ∨ rCat x y H Q
theorem od_add : OpD X (binaryOp .Add) rAddA addD := by
  refine ⟨op_add.or (op_add_str.or op_cat), fun S H x y dx dy d hS hx hy hf Q hq => ?_⟩
  unfold addD at hf
  split at hf
  · cases hf; cases hx; cases hy
    exact .inl ⟨_, _, rfl, rfl, hq _ H (fun _ _ e => e) rfl⟩
  · split at hf
    · rename_i h; cases hf; cases hx; cases hy
      exact .inr (.inl ⟨_, _, rfl, rfl, by rw [ssz_eq]; exact h, hq _ H (fun _ _ e => e) rfl⟩)
    · cases hf
  · split at hf
    · rename_i h; cases hf
      obtain ⟨p, xs, rfl, e1, _, l1⟩ := hx
      obtain ⟨q, ys, rfl, e2, _, l2⟩ := hy
      refine .inr (.inr ⟨p, q, xs, ys, rfl, rfl, e1, e2, by rw [ssz_eq, ← l1.len, ← l2.len]; exact h, fun r hr => hq _ _ (Ext.upd hr) (dat_new hS hr (l1.append l2))⟩)
    · cases hf
  · cases hf
theorem od_sub : OpD X (binaryOp .Sub) (rI0 fun i j => .int (i - j)) subD := by
  refine ⟨op_sub, fun S H x y dx dy d hS hx hy hf Q hq => ?_⟩
  unfold subD at hf
  split at hf
  · cases hf; cases hx; cases hy
    exact ⟨_, _, rfl, rfl, hq _ H (fun _ _ e => e) rfl⟩
  · cases hf
def rMulA : R2 := fun x y H Q => (rI CMulW (fun i j => .int (i * j)) x y H Q ∨ rI CMul (fun i j => .int (i * j)) x y H Q) ∨ rRep x y H Q
theorem od_mul : OpD X (binaryOp .Mult) rMulA mulD := by
  refine ⟨(op_mulW.or op_mul).or op_rep, fun S H x y dx dy d hS hx hy hf Q hq => ?_⟩
  unfold mulD at hf
  split at hf
  · split at hf
    · rename_i h; cases hf; cases hx; cases hy
      rcases h with h | h
      · exact .inl (.inl ⟨_, _, rfl, rfl, h, hq _ H (fun _ _ e => e) rfl⟩)
      · exact .inl (.inr ⟨_, _, rfl, rfl, h, hq _ H (fun _ _ e => e) rfl⟩)
    · cases hf
  · split at hf
    · rename_i h; cases hf; cases hy
      obtain ⟨p, xs, rfl, e1, _, l1⟩ := hx
      exact .inr ⟨p, _, xs, rfl, rfl, e1, h.1, h.2.1, by rw [ssz_eq, ← l1.len]; exact h.2.2, fun r hr => hq _ _ (Ext.upd hr) (dat_new hS hr (l1.rep _))⟩
    · cases hf
  · cases hf
def CDivZ (_ j : Int) : Prop := j ≠ 0 ∧ j.natAbs.log2 < 9000
theorem op_fdivZ : OpR X (binaryOp .FloorDiv) (rI CDivZ fun i j => .int (i.fdiv j)) := opI fun i j _ _ _ _ _ hc q => floordiv_int hc.1 q (.inl (PyProof.noPylong_of_log2 hc.2))
theorem od_fdiv : OpD X (binaryOp .FloorDiv) (rI CDivZ fun i j => .int (i.fdiv j)) fdivD := by
  refine ⟨op_fdivZ, fun S H x y dx dy d hS hx hy hf Q hq => ?_⟩
  unfold fdivD at hf
  split at hf
  · split at hf
    · rename_i h; cases hf; cases hx; cases hy
      exact ⟨_, _, rfl, rfl, h, hq _ H (fun _ _ e => e) rfl⟩
    · cases hf
  · cases hf
theorem od_mod : OpD X (binaryOp .Mod) (rI (fun _ j => j ≠ 0) fun i j => .int (i.fmod j)) modD := by
  refine ⟨op_modN, fun S H x y dx dy d hS hx hy hf Q hq => ?_⟩
  unfold modD at hf
  split at hf
  · split at hf
    · rename_i h; cases hf; cases hx; cases hy
      exact ⟨_, _, rfl, rfl, h, hq _ H (fun _ _ e => e) rfl⟩
    · cases hf
  · cases hf
def CPowW (i j : Int) : Prop := 0 ≤ j ∧ (Builtin.Int.intBits i : Int) * j ≤ 2 ^ 27
theorem op_powW : OpR X (binaryOp .Pow) (rI CPowW fun i j => .int (i ^ j.toNat)) := opI fun _ _ _ _ _ _ _ hc q => pow_int hc.1 hc.2 q
theorem od_pow : OpD X (binaryOp .Pow) (rI CPowW fun i j => .int (i ^ j.toNat)) powD := by
  refine ⟨op_powW, fun S H x y dx dy d hS hx hy hf Q hq => ?_⟩
  unfold powD at hf
  split at hf
  · split at hf
    · rename_i h; cases hf; cases hx; cases hy
      exact ⟨_, _, rfl, rfl, h, hq _ H (fun _ _ e => e) rfl⟩
    · cases hf
  · cases hf
end
mutual
def pdOf : D → Option PyData
  | .non => some .none
  | .bl b => some (.bool b)
  | .int i => some (.int i)
  | .str x => some (.str x)
  | .tup l => (pdAll l).map .tuple
  | .lst l => (pdAll l).map .list
  | _ => none
def pdAll : List D → Option (List PyData)
  | [] => some []
  | d :: ds => match pdOf d, pdAll ds with
    | some p, some ps => some (p :: ps)
    | _, _ => none
end
section
variable {K : PySem.W.Frag} {S : Addr → Prop} {H : Hp}
mutual
theorem Dat.dp : ∀ (d : D) (v : V) (p : PyData), Dat K S H d v → pdOf d = some p → Dp K H v p
  | .non, v, p, h, e => by cases h; cases e; exact .non
  | .bl b, v, p, h, e => by cases h; cases e; exact .bl b
  | .int b, v, p, h, e => by cases h; cases e; exact .int b
  | .str b, v, p, h, e => by cases h; cases e; exact .str b
  | .tup l, v, p, ⟨a, vs, e1, e2, _, e3⟩, e => by
    subst e1
    have e : (pdAll l).map PyData.tuple = some p := e
    cases q : pdAll l with
    | none => rw [q] at e; cases e
    | some ps => rw [q] at e; cases e; exact .tup (SqT.of e2) (Dats.dp l vs ps e3 q)
  | .lst l, v, p, ⟨a, vs, e1, e2, _, e3⟩, e => by
    subst e1
    have e : (pdAll l).map PyData.list = some p := e
    cases q : pdAll l with
    | none => rw [q] at e; cases e
    | some ps => rw [q] at e; cases e; exact .lst (SqL.of e2) (Dats.dp l vs ps e3 q)
  | .ins _ _ _, _, _, _, e => by cases e
  | .dct _ _, _, _, _, e => by cases e
  | .exn _ _ _ _ _, _, _, _, e => by cases e
  | .scr _, _, _, _, e => by cases e
  | .lam _ _, _, _, _, e => by cases e
  | .clo _ _ _ _ _, _, _, _, e => by cases e
  | .fn _, _, _, _, e => by cases e
  | .ty _, _, _, _, e => by cases e
theorem Dats.dp : ∀ (ds : List D) (vs : List V) (ps : List PyData), Dats K S H ds vs → pdAll ds = some ps → DpAll K H vs ps
  | [], vs, ps, h, e => by cases (show vs = [] from h); cases e; exact .nil
  | d :: ds, vs, ps, ⟨v, r, e1, e2, e3⟩, e => by
    subst e1
    have e : (match pdOf d, pdAll ds with | some p, some ps => some (p :: ps) | _, _ => none) = some ps := e
    cases q1 : pdOf d with
    | none => rw [q1] at e; cases e
    | some p =>
      cases q2 : pdAll ds with
      | none => rw [q1, q2] at e; cases e
      | some ps' => rw [q1, q2] at e; cases e; exact .cons (Dat.dp d v p e2 q1) (Dats.dp ds r ps' e3 q2)
end
end
/-- == of data -/
def eqB : D → D → Option Bool
  | .int i, .int j => some (decide (i = j))
  | .str i, .str j => some (decide (i = j))
  | .bl i, .bl j => some (decide (i = j))
  | .non, .non => some true
  | .non, .int _ => some false
  | .int _, .non => some false
  | x, y => match pdOf x, pdOf y with
    | some a, some b => if SeqAt.shaped a = true ∧ SeqAt.shaped b = true then some (PyData.eqv a b) else none
    | _, _ => none
def eqD (x y : D) : Option D := (eqB x y).map .bl
def neD (x y : D) : Option D := (eqB x y).map fun b => .bl (!b)
def cmpI (p : Int → Int → Bool) : D → D → Option D
  | .int i, .int j => some (.bl (p i j))
  | _, _ => none
section
variable {X : Cx}
theorem eqB_cases {x y : D} {b : Bool} {K : PySem.W.Frag} {S : Addr → Prop} {H : Hp} {v w : V} (h : eqB x y = some b) (hx : Dat K S H x v) (hy : Dat K S H y w) :
    (scal v w = true ∧ b = decide (v = w)) ∨ ∃ p q, Dp K H v p ∧ Dp K H w q ∧ SeqAt.shaped p = true ∧ SeqAt.shaped q = true ∧ b = PyData.eqv p q := by
  unfold eqB at h
  split at h
  · cases h; cases hx; cases hy; exact .inl ⟨rfl, by simp⟩
  · cases h; cases hx; cases hy; exact .inl ⟨rfl, by simp⟩
  · cases h; cases hx; cases hy; exact .inl ⟨rfl, by simp⟩
  · cases h; cases hx; cases hy; exact .inl ⟨rfl, by simp⟩
  · cases h; cases hx; cases hy; exact .inl ⟨rfl, by simp⟩
  · cases h; cases hx; cases hy; exact .inl ⟨rfl, by simp⟩
  · split at h
    · rename_i p q e1 e2
      split at h
      · rename_i hs; cases h
        exact .inr ⟨p, q, Dat.dp _ _ _ hx e1, Dat.dp _ _ _ hy e2, hs.1, hs.2, rfl⟩
      · cases h
    · cases h
def rEqA (K : PySem.W.Frag) : R2 := fun x y H Q => rEq x y H Q ∨ rEqD K x y H Q
def rNeA (K : PySem.W.Frag) : R2 := fun x y H Q => rNe x y H Q ∨ rNeD K x y H Q
theorem od_eq (hu : X.A.units + 64 < cLine) : OpD X (compareOp .Eq) (rEqA X.K) eqD := by
  refine ⟨op_eq.or (op_eqD hu), fun S H x y dx dy d hS hx hy hf Q hq => ?_⟩
  unfold eqD at hf
  cases e : eqB dx dy with
  | none => rw [e] at hf; cases hf
  | some b =>
    rw [e] at hf; cases hf
    rcases eqB_cases e hx hy with ⟨h1, rfl⟩ | ⟨p, q, h1, h2, h3, h4, rfl⟩
    · exact .inl ⟨h1, hq _ H (fun _ _ e => e) rfl⟩
    · exact .inr ⟨p, q, h1, h2, h3, h4, hq _ H (fun _ _ e => e) rfl⟩
theorem od_ne (hu : X.A.units + 64 < cLine) : OpD X (compareOp .NotEq) (rNeA X.K) neD := by
  refine ⟨op_ne.or (op_neD hu), fun S H x y dx dy d hS hx hy hf Q hq => ?_⟩
  unfold neD at hf
  cases e : eqB dx dy with
  | none => rw [e] at hf; cases hf
  | some b =>
    rw [e] at hf; cases hf
    rcases eqB_cases e hx hy with ⟨h1, rfl⟩ | ⟨p, q, h1, h2, h3, h4, rfl⟩
    · exact .inl ⟨h1, hq _ H (fun _ _ e => e) rfl⟩
    · exact .inr ⟨p, q, h1, h2, h3, h4, hq _ H (fun _ _ e => e) rfl⟩
theorem od_cmpI {op : CmpOp} {p : Int → Int → Bool} (h : OpR X (compareOp op) (rI0 fun i j => .bl (p i j))) : OpD X (compareOp op) (rI0 fun i j => .bl (p i j)) (cmpI p) := by
  refine ⟨h, fun S H x y dx dy d hS hx hy hf Q hq => ?_⟩
  unfold cmpI at hf
  split at hf
  · cases hf; cases hx; cases hy
    exact ⟨_, _, rfl, rfl, hq _ H (fun _ _ e => e) rfl⟩
  · cases hf
theorem od_lt : OpD X (compareOp .Lt) (rI0 fun i j => .bl (decide (i < j))) (cmpI fun i j => decide (i < j)) := od_cmpI op_lt
theorem od_le : OpD X (compareOp .LtE) (rI0 fun i j => .bl (decide (i ≤ j))) (cmpI fun i j => decide (i ≤ j)) := od_cmpI op_le
theorem od_gt : OpD X (compareOp .Gt) (rI0 fun i j => .bl (decide (j < i))) (cmpI fun i j => decide (j < i)) := od_cmpI op_gt
theorem od_ge : OpD X (compareOp .GtE) (rI0 fun i j => .bl (decide (j ≤ i))) (cmpI fun i j => decide (j ≤ i)) := od_cmpI op_ge
def isNB : D → Bool
  | .non => true
  | _ => false
theorem isNB_of {K : PySem.W.Frag} {S : Addr → Prop} {H : Hp} : ∀ {d : D} {v : V}, Dat K S H d v → decide (v = V.non) = isNB d
  | .non, _, h => by cases h; rfl
  | .bl _, _, h => by cases h; rfl
  | .int _, _, h => by cases h; rfl
  | .str _, _, h => by cases h; rfl
  | .fn _, _, h => by cases h; rfl
  | .ty _, _, h => by cases h; rfl
  | .tup _, _, ⟨_, _, e, _⟩ => by subst e; rfl
  | .lst _, _, ⟨_, _, e, _⟩ => by subst e; rfl
  | .ins _ _ _, _, ⟨_, _, _, e, _⟩ => by subst e; rfl
  | .dct _ _, _, ⟨_, _, _, e, _⟩ => by subst e; rfl
  | .exn _ _ _ _ _, _, ⟨e, _⟩ => by subst e; rfl
  | .scr _, _, ⟨_, e, _⟩ => by subst e; rfl
  | .lam _ _, _, ⟨_, _, e, _⟩ => by subst e; rfl
  | .clo _ _ _ _ _, _, ⟨_, e, _⟩ => by subst e; rfl
def isND (b : Bool) : D → D → Option D
  | x, .non => some (.bl (isNB x == b))
  | _, _ => none
theorem od_isN : OpD X (compareOp .Is) (fun x y H Q => y = .non ∧ Q (.bl (decide (x = .non))) H) (isND true) := by
  refine ⟨op_isN, fun S H x y dx dy d hS hx hy hf Q hq => ?_⟩
  unfold isND at hf
  split at hf
  · cases hf; cases hy
    exact ⟨rfl, by rw [isNB_of hx]; exact hq _ H (fun _ _ e => e) (by simp [Dat])⟩
  · cases hf
end
end PD
namespace PD
open PySem PySem.Spec PyProof.Rows L2
section
variable {X : Cx} {W : WX} {a b c e : Expr} {es : List Expr} {ta tb tc te : TE} {t : TA} {ma mb mc me : Mo D} {ms : Mo (List D)} {pos : Pos}
theorem da_nil : DA X W [] tNil (Mo.ret []) := ⟨pa_nil, fun S0 A σ env H k r env' hm Q hp => by cases hm; exact hp A [] H .refl k .refl rfl⟩
theorem xr_cons {K : PySem.W.Frag} (ha : XR RD K W te me) (hr : XR RDs K W t ms) : XR RDs K W (tCons te t) (me.bind fun d => ms.bind fun ds => Mo.ret (d :: ds)) := by
  refine XR.bind (t2 := fun x σ H Q => t σ H fun xs H2 => Q (x :: xs) H2) ha (KR.carry (t2 := fun x xs σ H Q => Q (x :: xs) H) (m2 := fun d ds => Mo.ret (d :: ds)) grow_D hr ?_)
  intro S0 A σ env H k dx x hx dy y hy r' env' hm Q hp
  cases hm
  exact hp A _ H .refl k .refl ⟨x, y, rfl, hx, hy⟩
theorem da_cons (ha : DE X W e te me) (hr : DA X W es t ms) (hs : starEach (e :: es) X.env = (false, eval e X.env) :: starEach es X.env := by rfl) :
    DA X W (e :: es) (tCons te t) (me.bind fun d => ms.bind fun ds => Mo.ret (d :: ds)) := ⟨pa_cons ha.pe hr.pa hs, xr_cons ha.er hr.er⟩
def tupM (ds : List D) : Mo D := Mo.lift (if ds.length ≤ ssz then some (.tup ds) else none)
def lstM (ds : List D) : Mo D := Mo.lift (if ds.length ≤ ssz then some (.lst ds) else none)
theorem de_tup {x1} (h : DA X W es t ms) : DE X W (.Tuple es x1 pos) (tTup t) (ms.bind tupM) := by
  refine ⟨pe_tup h.pa, XR.bind (t2 := fun xs σ H1 Q => xs.length ≤ sizeLine ∧ ∀ p, H1 p = none → Q (V.ref p) (L2.upd H1 p (.tup xs))) h.er ?_⟩
  intro S0 A σ env H k ds vs hd r env' hm Q hp
  obtain ⟨d, e1, e2⟩ := Mo.lift_some hm
  cases e2
  split at e1
  · rename_i hz; cases e1
    exact ⟨by rw [← hd.len, ssz_eq]; exact hz, fun p hn => hp A _ _ .refl (k.ext (Ext.upd hn)) (.of (Ext.upd hn)) (dat_newT k.trA hn hd)⟩
  · cases e1
theorem de_lst (h : DA X W es t ms) : DE X W (.List es pos) (tLst t) (ms.bind lstM) := by
  refine ⟨pe_lst h.pa, XR.bind (t2 := fun xs σ H1 Q => xs.length ≤ sizeLine ∧ ∀ p, H1 p = none → Q (V.ref p) (L2.upd H1 p (.lst xs))) h.er ?_⟩
  intro S0 A σ env H k ds vs hd r env' hm Q hp
  obtain ⟨d, e1, e2⟩ := Mo.lift_some hm
  cases e2
  split at e1
  · rename_i hz; cases e1
    exact ⟨by rw [← hd.len, ssz_eq]; exact hz, fun p hn => hp A _ _ .refl (k.ext (Ext.upd hn)) (.of (Ext.upd hn)) (dat_new k.trA hn hd)⟩
  · cases e1
def truD : D → Option Bool
  | .non => some false
  | .bl b => some b
  | .int i => some (i != 0)
  | .str y => if y.length ≤ ssz then some ((y.length : Int) != 0) else none
  | .lst l => some (!l.isEmpty)
  | .tup l => some (!l.isEmpty)
  | _ => none
theorem Dats.empty {K : PySem.W.Frag} {S : Addr → Prop} {H : Hp} : ∀ {l : List D} {vs : List V}, Dats K S H l vs → vs.isEmpty = l.isEmpty
  | [], vs, h => by cases (show vs = [] from h); rfl
  | d :: l, vs, ⟨v, r, e, _, _⟩ => by subst e; rfl
theorem truD_ok {K : PySem.W.Frag} {S : Addr → Prop} {H : Hp} {d : D} {v : V} {k : Bool} (h : Dat K S H d v) (e : truD d = some k) : TruV K v H k := by
  unfold truD at e
  split at e
  · cases e; cases h; exact (rfl : false = false)
  · cases e; cases h; exact (rfl : _ = _)
  · cases e; cases h; exact (rfl : _ = _)
  · split at e
    · rename_i hz; cases e; cases h; exact ⟨by rw [ssz_eq]; exact hz, rfl⟩
    · cases e
  · cases e
    obtain ⟨p, vs, rfl, e1, _, e2⟩ := h
    exact .inl ⟨vs, SqL.of e1, by rw [e2.empty]⟩
  · cases e
    obtain ⟨p, vs, rfl, e1, _, e2⟩ := h
    exact .inr (.inl ⟨vs, SqT.of e1, by rw [e2.empty]⟩)
  · cases e
structure DW (X : Cx) (W : WX) (e : Expr) (t : TT) (m : Mo Bool) : Prop where
  pw : PW X e t
  er : XR RB X.K W t m
variable {uA uB : TT} {na nb : Mo Bool} {rest : List Expr}
theorem DW.dt (h : DW X W e uA na) : DT X W e uA na := ⟨h.pw.pt, h.er⟩
theorem xr_if {α β : Type} {Rl : RL α β} {K : PySem.W.Frag} {t1 t2 : TX β} {m1 m2 : Mo α} (hc : XR RB K W uA na) (h1 : XR Rl K W t1 m1) (h2 : XR Rl K W t2 m2) :
    XR Rl K W (fun σ H Q => uA σ H fun c H1 => if c = true then t1 σ H1 Q else t2 σ H1 Q) (na.bind fun c => if c = true then m1 else m2) := by
  refine XR.bind (t2 := fun c σ H1 Q => if c = true then t1 σ H1 Q else t2 σ H1 Q) hc ?_
  intro S0 A σ env H k c c' hc' r env' hm Q hp
  cases (show c = c' from hc')
  cases c with
  | true => exact h1 S0 A σ env H k r env' hm Q hp
  | false => exact h2 S0 A σ env H k r env' hm Q hp
theorem xr_retB {K : PySem.W.Frag} {b : Bool} : XR RB K W (fun _ H Q => Q b H) (Mo.ret b) := fun S0 A σ env H k r env' hm Q hp => by cases hm; exact hp A b H .refl k .refl rfl
theorem dw_and1 (ha : DT X W a uA na) : DW X W (.BoolOp .And [a] pos) uA na := ⟨pw_and1 ha.pt, ha.er⟩
theorem dw_or1 (ha : DT X W a uA na) : DW X W (.BoolOp .Or [a] pos) uA na := ⟨pw_or1 ha.pt, ha.er⟩
theorem dw_and (ha : DT X W a uA na) (hb : DW X W (.BoolOp .And (b :: rest) pos) uB nb) : DW X W (.BoolOp .And (a :: b :: rest) pos) (tAnd uA uB) (na.bind fun c => if c = true then nb else Mo.ret false) :=
  ⟨pw_and ha.pt hb.pw, xr_if ha.er hb.er xr_retB⟩
theorem dw_or (ha : DT X W a uA na) (hb : DW X W (.BoolOp .Or (b :: rest) pos) uB nb) : DW X W (.BoolOp .Or (a :: b :: rest) pos) (tOr uA uB) (na.bind fun c => if c = true then Mo.ret true else nb) :=
  ⟨pw_or ha.pt hb.pw, xr_if ha.er xr_retB hb.er⟩
theorem dt_not (ha : DT X W a uA na) : DT X W (.UnaryOp .Not a pos) (tNot uA) (na.bind fun c => Mo.ret (!c)) := by
  refine ⟨pt_not ha.pt, XR.bind (t2 := fun c σ H1 Q => Q (!c) H1) ha.er ?_⟩
  intro S0 A σ env H k c c' hc' r env' hm Q hp
  cases hm
  exact hp A _ H .refl k .refl (congrArg not hc')
theorem de_ifExp (hc : DT X W c uA na) (ha : DE X W a ta ma) (hb : DE X W b tb mb) : DE X W (.IfExp c a b pos) (tIf uA ta tb) (na.bind fun c => if c = true then ma else mb) :=
  ⟨pe_ifExp hc.pt ha.pe hb.pe, xr_if hc.er ha.er hb.er⟩
/-- and, or, not as values -/
theorem de_one {op} (h : DE X W a ta ma) : DE X W (.BoolOp op [a] pos) ta ma := ⟨pe_one h.pe, h.er⟩
theorem xr_tv {K : PySem.W.Frag} {t1 : V → TE} {m1 : D → Mo D} (ha : XR RD K W ta ma) (c0 : Bool) (h1 : ∀ d v, KR (fun K S H (a : Unit) (b : Unit) => Dat K S H d v) RD K W (fun _ => t1 v) (fun _ => m1 d)) {t2 : V → TE} {m2 : D → Mo D} (h2 : ∀ d v, KR (fun K S H (a : Unit) (b : Unit) => Dat K S H d v) RD K W (fun _ => t2 v) (fun _ => m2 d)) :
    XR RD K W (fun σ H Q => ta σ H fun x H1 => ∃ k, TruV K x H1 k ∧ if k = true then t1 x σ H1 Q else t2 x σ H1 Q) (ma.bind fun d => (Mo.lift (truD d)).bind fun k => if k = true then m1 d else m2 d) := by
  refine XR.bind (t2 := fun x σ H1 Q => ∃ k, TruV K x H1 k ∧ if k = true then t1 x σ H1 Q else t2 x σ H1 Q) ha ?_
  intro S0 A σ env H k d v hd r env' hm Q hp
  rcases Mo.bind_some hm with ⟨c, e1, q1, q2⟩ | ⟨x, e1, q1, q2⟩
  · obtain ⟨c', w1, w2⟩ := Mo.lift_some q1
    cases w2
    refine ⟨c, truD_ok hd w1, ?_⟩
    cases c with
    | true => exact h1 d v S0 A σ _ H k () () hd r env' q2 Q hp
    | false => exact h2 d v S0 A σ _ H k () () hd r env' q2 Q hp
  · obtain ⟨c', w1, w2⟩ := Mo.lift_some q1
    cases w2
theorem de_and (ha : DE X W a ta ma) (hb : DE X W (.BoolOp .And (b :: rest) pos) tb mb) : DE X W (.BoolOp .And (a :: b :: rest) pos) (tAndT X.K ta tb) (ma.bind fun d => (Mo.lift (truD d)).bind fun k => if k = true then mb else Mo.ret d) :=
  ⟨pe_andT ha.pe hb.pe, xr_tv (t1 := fun _ => tb) (t2 := fun x σ H1 Q => Q x H1) ha.er true (fun d v S0 A σ env H k _ _ hd r env' hm Q hp => hb.er S0 A σ env H k r env' hm Q hp) fun d v S0 A σ env H k _ _ hd r env' hm Q hp => by cases hm; exact hp A v H .refl k .refl hd⟩
theorem de_or (ha : DE X W a ta ma) (hb : DE X W (.BoolOp .Or (b :: rest) pos) tb mb) : DE X W (.BoolOp .Or (a :: b :: rest) pos) (tOrT X.K ta tb) (ma.bind fun d => (Mo.lift (truD d)).bind fun k => if k = true then Mo.ret d else mb) :=
  ⟨pe_orT ha.pe hb.pe, xr_tv (t1 := fun x σ H1 Q => Q x H1) (t2 := fun _ => tb) ha.er true (fun d v S0 A σ env H k _ _ hd r env' hm Q hp => by cases hm; exact hp A v H .refl k .refl hd) fun d v S0 A σ env H k _ _ hd r env' hm Q hp => hb.er S0 A σ env H k r env' hm Q hp⟩
theorem de_not (ha : DE X W a ta ma) : DE X W (.UnaryOp .Not a pos) (tNotT X.K ta) (ma.bind fun d => (Mo.lift (truD d)).bind fun k => Mo.ret (.bl (!k))) := by
  refine ⟨pe_notT ha.pe, XR.bind (t2 := fun x σ H1 Q => ∃ k, TruV X.K x H1 k ∧ Q (V.bl (!k)) H1) ha.er ?_⟩
  intro S0 A σ env H k d v hd r env' hm Q hp
  rcases Mo.bind_some hm with ⟨c, e1, q1, q2⟩ | ⟨x, e1, q1, q2⟩
  · obtain ⟨c', w1, w2⟩ := Mo.lift_some q1
    cases w2; cases q2
    exact ⟨c, truD_ok hd w1, hp A _ H .refl k .refl rfl⟩
  · obtain ⟨c', w1, w2⟩ := Mo.lift_some q1
    cases w2
theorem xr_chain {K : PySem.W.Frag} {r r' : R2} {f f' : D → D → Option D} (ha : XR RD K W ta ma) (hb : XR RD K W tb mb) (hc : XR RD K W tc mc)
    (ok : ∀ (S : Addr → Prop) (H : Hp) x y dx dy d, (∀ b, S b → H b ≠ none) → Dat K S H dx x → Dat K S H dy y → f dx dy = some d → ∀ Q : VK, (∀ v H', Ext H H' → Dat K S H' d v → Q v H') → r x y H Q)
    (ok' : ∀ (S : Addr → Prop) (H : Hp) x y dx dy d, (∀ b, S b → H b ≠ none) → Dat K S H dx x → Dat K S H dy y → f' dx dy = some d → ∀ Q : VK, (∀ v H', Ext H H' → Dat K S H' d v → Q v H') → r' x y H Q) :
    XR RD K W (tChain r r' ta tb tc) (ma.bind fun x => mb.bind fun y => (Mo.lift ((f x y).bind blD)).bind fun k => if k = true then mc.bind fun z => Mo.lift (f' y z) else Mo.ret (.bl false)) := by
  refine XR.bind (t2 := fun x σ H Q => tb σ H fun y H2 => r x y H2 fun z H3 => ∃ k, z = .bl k ∧ (if k = true then tc σ H3 fun w' H4 => r' y w' H4 Q else Q (.bl false) H3)) ha
    (KR.carry (t2 := fun x y σ H2 Q => r x y H2 fun z H3 => ∃ k, z = .bl k ∧ (if k = true then tc σ H3 fun w' H4 => r' y w' H4 Q else Q (.bl false) H3)) (m2 := fun x y => (Mo.lift ((f x y).bind blD)).bind fun k => if k = true then mc.bind fun z => Mo.lift (f' y z) else Mo.ret (.bl false)) grow_D hb ?_)
  intro S0 A σ env H k dx x hx dy y hy r0 env' hm Q hp
  rcases Mo.bind_some hm with ⟨c, e1, q1, q2⟩ | ⟨x, e1, q1, q2⟩
  · obtain ⟨c', w1, w2⟩ := Mo.lift_some q1
    cases w2
    cases e : f dx dy with
    | none => rw [e] at w1; cases w1
    | some d =>
      rw [e] at w1
      cases d <;> first | cases w1 | skip
      refine ok _ H x y dx dy _ k.trA hx hy e _ fun v H' ex hv => ⟨c, hv, ?_⟩
      have k' := k.ext ex
      have hp' := hp.imp .refl (Stp.of (S := Own A) ex)
      cases c with
      | false => cases q2; exact hp' A _ H' .refl k' .refl rfl
      | true =>
        have q2 : (mc.bind fun z => Mo.lift (f' dy z)) env = some (r0, env') := q2
        refine (KR.carry (t2 := fun y w' σ H4 Q => r' y w' H4 Q) (m2 := fun y z => Mo.lift (f' y z)) grow_D hc ?_) S0 A σ env H' k' dy y (hy.ext ex) r0 env' q2 Q hp'
        intro S0 A σ env H k dx x hx dy y hy r' env' hm Q hp
        obtain ⟨d, e1, e2⟩ := Mo.lift_some hm
        cases e2
        exact ok' _ H x y dx dy d k.trA hx hy e1 Q fun v H' e hv => hp A v H' .refl (k.ext e) (.of e) hv
  · obtain ⟨c', w1, w2⟩ := Mo.lift_some q1
    cases w2
theorem dt_chain {op op' : CmpOp} {r r' : R2} {f f' : D → D → Option D} (ho : OpD X (compareOp op) r f) (ho' : OpD X (compareOp op') r' f') (ha : DE X W a ta ma) (hb : DE X W b tb mb) (hc : DE X W c tc mc)
    (hm : lastMarks [op, op'] [b, c] = false := by with_unfolding_all rfl) : DT X W (.Compare a [op, op'] [b, c] pos) (tTest (tChain r r' ta tb tc))
      ((ma.bind fun x => mb.bind fun y => (Mo.lift ((f x y).bind blD)).bind fun k => if k = true then mc.bind fun z => Mo.lift (f' y z) else Mo.ret (.bl false)).bind fun d => Mo.lift (blD d)) :=
  ⟨pt_chain ho.op ho'.op ha.pe hb.pe hc.pe hm, xr_test (xr_chain ha.er hb.er hc.er ho.ok ho'.ok)⟩
/-- an expression that gives a bool, as a test -/
theorem dt_val (ha : DE X W a ta ma) (he : ∀ whole, isTrue a X.env whole = (do let v ← whole; standAt a.pos; holding [v] (truthy v)) := by intro _; rfl) : DT X W a (tB ta) (ma.bind fun d => Mo.lift (blD d)) := ⟨pt_val ha.pe he, xr_test ha.er⟩
structure UnD (X : Cx) (g : Value → Sem Value) (r : V → Hp → VK → Prop) (f : D → Option D) : Prop where
  op : UnR X g r
  ok : ∀ (S : Addr → Prop) (H : Hp) x dx d, (∀ b, S b → H b ≠ none) → Dat X.K S H dx x → f dx = some d → ∀ Q : VK, (∀ v H', Ext H H' → Dat X.K S H' d v → Q v H') → r x H Q
theorem de_un {op : UnaryOp} {r : V → Hp → VK → Prop} {f : D → Option D} (ho : UnD X (unaryOp op) r f) (ha : DE X W a ta ma) : DE X W (.UnaryOp op a pos) (tUn r ta) (ma.bind fun x => Mo.lift (f x)) := by
  refine ⟨pe_un ho.op ha.pe, XR.bind (t2 := fun x σ H Q => r x H Q) ha.er ?_⟩
  intro S0 A σ env H k d v hd r env' hm Q hp
  obtain ⟨d', e1, e2⟩ := Mo.lift_some hm
  cases e2
  exact ho.ok _ H v d d' k.trA hd e1 Q fun v H' e hv => hp A v H' .refl (k.ext e) (.of e) hv
def negD : D → Option D
  | .int i => some (.int (-i))
  | _ => none
theorem ud_neg : UnD X (unaryOp .USub) (rU fun i => .int (-i)) negD := by
  refine ⟨un_neg, fun S H x dx d hS hx hf Q hq => ?_⟩
  unfold negD at hf
  split at hf
  · cases hf; cases hx; exact ⟨_, rfl, hq _ H (fun _ _ e => e) rfl⟩
  · cases hf
theorem lookup_zip {K : PySem.W.Frag} {S : Addr → Prop} {H : Hp} {f : Str} {d : D} : ∀ {fs : List Str} {l : List D} {vs : List V}, Dats K S H l vs → (fs.zip l).lookup f = some d → ∃ v, (fs.zip vs).lookup f = some v ∧ Dat K S H d v
  | [], l, vs, h, e => by simp at e
  | g :: fs, [], vs, h, e => by simp at e
  | g :: fs, d' :: l, vs, ⟨v, r, e1, h1, h2⟩, e => by
    subst e1
    rw [List.zip_cons_cons, List.lookup_cons] at e
    rw [List.zip_cons_cons, List.lookup_cons]
    by_cases q : (f == g) = true
    · rw [q] at e ⊢; cases e; exact ⟨v, rfl, h1⟩
    · have q : (f == g) = false := by simpa using q
      rw [q] at e ⊢; exact lookup_zip h2 e
def fldD (C : Addr) (f : Str) : D → Option D
  | .ins C' fs l => if C' = C then (fs.zip l).lookup f else none
  | _ => none
theorem atI_map {α β : Type} (f : α → β) (xs : List α) (i : Int) : atI (xs.map f) i = (atI xs i).map f := by
  unfold atI
  rw [List.length_map]
  cases ixN xs.length i with
  | none => rfl
  | some j => simp
theorem Dats.atI {K : PySem.W.Frag} {S : Addr → Prop} {H : Hp} {l : List D} {vs : List V} {i : Int} {d : D} (h : Dats K S H l vs) (e : L2.atI l i = some d) : ∃ v, L2.atI vs i = some v ∧ Dat K S H d v := by
  unfold L2.atI at e ⊢
  rw [h.len] at e
  cases q : ixN vs.length i with
  | none => rw [q] at e; cases e
  | some j => rw [q] at e; exact h.get e
def ixD : D → D → Option D
  | .lst l, .int i => atI l i
  | .tup l, .int i => atI l i
  | .str z, .int i => if z.length ≤ ssz then (atI z.cps.toList i).map fun c => .str ⟨#[c]⟩ else none
  | .scr ns, .int i => (atI ns i).map .int
  | _, _ => none
theorem ixD_ok {K : PySem.W.Frag} {S : Addr → Prop} {H : Hp} {dx dy d : D} {x y : V} (hx : Dat K S H dx x) (hy : Dat K S H dy y) (hf : ixD dx dy = some d) (Q : VK) (hq : ∀ v H', Ext H H' → Dat K S H' d v → Q v H') : rIx K x y H Q := by
  unfold ixD at hf
  split at hf
  · cases hy
    obtain ⟨p, vs, rfl, e1, _, e2⟩ := hx
    obtain ⟨v, e3, e4⟩ := e2.atI hf
    exact .inl ⟨p, vs, _, v, rfl, rfl, SqL.of e1, e3, hq v H (fun _ _ e => e) e4⟩
  · cases hy
    obtain ⟨p, vs, rfl, e1, _, e2⟩ := hx
    obtain ⟨v, e3, e4⟩ := e2.atI hf
    exact .inr (.inl ⟨p, vs, _, v, rfl, rfl, SqT.of e1, e3, hq v H (fun _ _ e => e) e4⟩)
  · split at hf
    · rename_i z i hz
      cases hx; cases hy
      cases q : atI z.cps.toList i with
      | none => rw [q] at hf; cases hf
      | some c => rw [q] at hf; cases hf; exact .inr (.inr ⟨_, _, c, rfl, rfl, by rw [ssz_eq]; exact hz, q, hq _ H (fun _ _ e => e) rfl⟩)
    · cases hf
  · rename_i ns i
    cases hy
    obtain ⟨p, rfl, h⟩ := hx
    cases q : atI ns i with
    | none => rw [q] at hf; cases hf
    | some c =>
      rw [q] at hf; cases hf
      refine .inl ⟨p, ns.map V.int, _, .int c, rfl, rfl, h.elim (fun ⟨o, z, _⟩ => .inl (.inr ⟨o, z⟩)) .inr, by rw [atI_map, q]; rfl, hq _ H (fun _ _ e => e) rfl⟩
  · cases hf
theorem de_ix (ha : DE X W a ta ma) (hb : DE X W b tb mb) (hs : PlainIx b := by exact fun _ _ => rfl) : DE X W (.Subscript a b pos) (tOp (rIx X.K) ta tb) (ma.bind fun x => mb.bind fun y => Mo.lift (ixD x y)) :=
  ⟨pe_ix ix_seq ha.pe hb.pe hs, xr_two ha.er hb.er fun S H x y dx dy d hS hx hy hf Q hq => ixD_ok hx hy hf Q hq⟩
/-- an item of what stands in a slot, an own list too (which stays one's own) -/
def ixM (i : Nat) (k : D) : Mo D := fun env => match env[i]? with
  | some (.own _ o) => Mo.lift (ixD o.d k) env
  | some (.val d) => Mo.lift (ixD d k) env
  | _ => none
theorem slot_peek {K : PySem.W.Frag} {S0 : Addr → Prop} {A : Ow} {σ : L2.St} {env : En} {H : Hp} {i : Nat} {s : SD} (k : Ok K S0 A σ env H) (h : env[i]? = some s) (hs : (∃ d, s = .val d) ∨ ∃ b o, s = .own b o) : ∃ v, σ[i]? = some (some v) := by
  have q := k.sl i s h
  cases s with
  | no => rcases hs with ⟨_, z⟩ | ⟨_, _, z⟩ <;> cases z
  | tab _ _ => rcases hs with ⟨_, z⟩ | ⟨_, _, z⟩ <;> cases z
  | opr _ _ _ => rcases hs with ⟨_, z⟩ | ⟨_, _, z⟩ <;> cases z
  | val d => obtain ⟨v, e, _⟩ := q; exact ⟨v, e⟩
  | own b l => obtain ⟨p, _, e, _⟩ := q; exact ⟨_, e⟩
def hasSl (i : Nat) (env : En) : Bool := match env[i]? with
  | some (.own _ _) => true
  | some (.val _) => true
  | _ => false
def ixNM (i : Nat) (mb : Mo D) : Mo D := fun env => if hasSl i env = true then (mb.bind fun y => ixM i y) env else none
theorem peek {K : PySem.W.Frag} {S0 : Addr → Prop} {A : Ow} {σ : L2.St} {env : En} {H : Hp} {i : Nat} (k : Ok K S0 A σ env H) (h : hasSl i env = true) : ∃ v, σ[i]? = some (some v) := by
  unfold hasSl at h
  split at h
  · rename_i q; exact slot_peek k q (.inr ⟨_, _, rfl⟩)
  · rename_i q; exact slot_peek k q (.inl ⟨_, rfl⟩)
  · cases h
theorem de_ixN (i : Nat) {x : Str} {p : Pos} (hb : DE X W b tb mb) (hN : X.N[i]? = some x := by rfl) (hv : Vis X.env.scope x := by first | exact Or.inl rfl | exact Or.inr (Or.inl rfl) | exact Or.inr (Or.inr rfl)) (hd : (x == ("__debug__" : Str)) = false := by decide)
    (hcd : (x == ("__classdict__" : Str)) = false := by decide) (hs : PlainIx b := by exact fun _ _ => rfl) : DE X W (.Subscript (.Name x p) b pos) (tOp (rIx X.K) (tVar i) tb) (ixNM i mb) := by
  refine ⟨pe_ix ix_seq (pe_var hN hv hd hcd) hb.pe hs, ?_⟩
  intro S0 A σ env H k r env' hm Q hp
  unfold ixNM at hm
  split at hm
  · rename_i hs
    obtain ⟨v, hv⟩ := peek k hs
    refine ⟨v, hv, ?_⟩
    rcases Mo.bind_some hm with ⟨d, e1, q1, q2⟩ | ⟨y, e1, q1, q2⟩
    · refine hb.er S0 A σ env H k _ _ q1 _ fun A1 w H1 le k1 st hw => ?_
      unfold ixM at q2
      split at q2
      · rename_i bo o q
        obtain ⟨a, z1, z2, z3, z5⟩ := k1.sl i _ q
        rw [hv] at z2; cases z2
        obtain ⟨d', w1, w2⟩ := Mo.lift_some q2
        cases w2
        obtain ⟨kk, l⟩ := o
        cases kk with
        | ins C fs => cases w1
        | dct ks => cases w1
        | lst =>
          obtain ⟨vs, z3, z4⟩ := z3.lst
          cases d <;> first
            | (have w1 : atI l _ = some d' := w1
               cases hw
               obtain ⟨u, y1, y2⟩ := z4.atI w1
               exact .inl ⟨a, vs, _, u, rfl, rfl, SqL.of z3, y1, hp A1 u H1 le k1 st y2⟩)
            | exact absurd (show none = some d' from w1) (by simp)
      · rename_i dx q
        obtain ⟨v', z1, z2⟩ := k1.sl i _ q
        rw [hv] at z1; cases z1
        obtain ⟨d', w1, w2⟩ := Mo.lift_some q2
        cases w2
        exact ixD_ok z2 hw w1 _ fun u H2 ex hu => hp A1 u H2 le (k1.ext ex) (st.trans (.of ex)) hu
      · cases q2
    · cases q2
      exact hb.er S0 A σ env H k _ _ q1 _ fun A1 dd H1 le k1 st ex => hp A1 dd H1 le k1 st ex
  · cases hm
end
end PD
namespace PD
open PySem PySem.Spec PyProof.Rows L2
structure CallD (X : Cx) (f : Value) (r : List V → Hp → VK → Prop) (g : List D → Option D) : Prop where
  call : CallR X f r
  ok : ∀ (S : Addr → Prop) (H : Hp) vs ds d, (∀ b, S b → H b ≠ none) → Dats X.K S H ds vs → g ds = some d → ∀ Q : VK, (∀ v H', Ext H H' → Dat X.K S H' d v → Q v H') → r vs H Q
theorem CallD.or {X : Cx} {f : Value} {r r' : List V → Hp → VK → Prop} {g g' : List D → Option D} (h : CallD X f r g) (h' : CallD X f r' g') : CallD X f (fun xs H Q => r xs H Q ∨ r' xs H Q) (fun xs => (g xs).or (g' xs)) := by
  refine ⟨h.call.or h'.call, fun S H vs ds d hS hx hf Q hq => ?_⟩
  cases q : g ds with
  | some d' => rw [q] at hf; cases hf; exact .inl (h.ok S H vs ds _ hS hx q Q hq)
  | none => rw [q] at hf; exact .inr (h'.ok S H vs ds _ hS hx hf Q hq)
section
variable {X : Cx} {W : WX} {a b c e : Expr} {es : List Expr} {ta tb tc te : TE} {t : TA} {ma mb mc me : Mo D} {ms : Mo (List D)} {p pos apos : Pos} {x : Str} {id T : String} {r : List V → Hp → VK → Prop} {g : List D → Option D}
theorem xr_step {K : PySem.W.Frag} {r : List V → Hp → VK → Prop} {g : List D → Option D} (ha : XR RDs K W t ms)
    (ok : ∀ (S : Addr → Prop) (H : Hp) vs ds d, (∀ b, S b → H b ≠ none) → Dats K S H ds vs → g ds = some d → ∀ Q : VK, (∀ v H', Ext H H' → Dat K S H' d v → Q v H') → r vs H Q) :
    XR RD K W (fun σ H Q => t σ H fun vs H1 => r vs H1 Q) (ms.bind fun ds => Mo.lift (g ds)) := by
  refine XR.bind (t2 := fun vs σ H1 Q => r vs H1 Q) ha ?_
  intro S0 A σ env H k ds vs hd r env' hm Q hp
  obtain ⟨d, e1, e2⟩ := Mo.lift_some hm
  cases e2
  exact ok _ H vs ds d k.trA hd e1 Q fun v H' e hv => hp A v H' .refl (k.ext e) (.of e) hv
theorem de_callB (hc : CallD X (.builtin id) r g) (hg : Gl X x) (hm : X.mg x = none) (hv : bootBuiltins x = some (.builtin id)) (ha : DA X W (e :: es) t ms) (hn : x ≠ "__name__" := by decide) (hdb : (x == ("__debug__" : Str)) = false := by decide)
    (he : starEach (e :: es) X.env = (false, eval e X.env) :: starEach es X.env := by rfl) (hpl : (backTo pos (starEach es X.env)).any (·.1) = false := by rfl) : DE X W (.Call (.Name x p) (e :: es) [] pos) (tCB r t) (ms.bind fun ds => Mo.lift (g ds)) :=
  ⟨pe_callB hc.call hg hm hv ha.pa hn hdb he hpl, xr_step ha.er hc.ok⟩
theorem de_callTy (hc : CallD X (.type T) r g) (hg : Gl X x) (hm : X.mg x = none) (hv : bootBuiltins x = some (.type T)) (ha : DA X W (e :: es) t ms) (hn : x ≠ "__name__" := by decide) (hdb : (x == ("__debug__" : Str)) = false := by decide)
    (he : starEach (e :: es) X.env = (false, eval e X.env) :: starEach es X.env := by rfl) (hpl : (backTo pos (starEach es X.env)).any (·.1) = false := by rfl) : DE X W (.Call (.Name x p) (e :: es) [] pos) (tCB r t) (ms.bind fun ds => Mo.lift (g ds)) :=
  ⟨pe_callTy hc.call hg hm hv ha.pa hn hdb he hpl, xr_step ha.er hc.ok⟩
/-- an answer that needs no heap -/
def isSc : D → Bool
  | .non => true
  | .bl _ => true
  | .int _ => true
  | .str _ => true
  | _ => false
theorem Dat.sc {K : PySem.W.Frag} {S S' : Addr → Prop} {H H' : Hp} {d : D} {v : V} (h : Dat K S H d v) (e : isSc d = true) : Dat K S' H' d v := by
  cases d <;> first | exact h | cases e
/-- f(x), x a slot that may hold an own list, which stays one's own; the answer a scalar -/
def peekM (i : Nat) (g : List D → Option D) : Mo D := fun env => match env[i]? with
  | some (.own _ ⟨.dct _, _⟩) => none
  | some (.own _ o) => (match g [o.d] with
    | some d => if isSc d = true then some (.ok d, env) else none
    | none => none)
  | some (.val d) => Mo.lift (g [d]) env
  | _ => none
theorem xr_peek {i : Nat} {K : PySem.W.Frag} {r : List V → Hp → VK → Prop} {g : List D → Option D}
    (ok : ∀ (S : Addr → Prop) (H : Hp) vs ds d, (∀ b, S b → H b ≠ none) → Dats K S H ds vs → g ds = some d → ∀ Q : VK, (∀ v H', Ext H H' → Dat K S H' d v → Q v H') → r vs H Q) :
    XR RD K W (tCB r (tCons (tVar i) tNil)) (peekM i g) := by
  intro S0 A σ env H k r0 env' hm Q hp
  unfold peekM at hm
  split at hm
  · cases hm
  · rename_i bo o nk q
    obtain ⟨a, z1, z2, z3, z5⟩ := k.sl i _ q
    have hk : o.k.nd = true := by
      obtain ⟨kd, ll⟩ := o
      cases kd with
      | dct ks => exact (nk _ _ rfl).elim
      | _ => rfl
    split at hm
    · rename_i d hd
      split at hm
      · rename_i hs
        cases hm
        refine ⟨_, z2, ?_⟩
        refine ok (fun _ => False) H [.ref a] [o.d] d (fun _ z => z.elim) ⟨_, _, rfl, z3.dat hk (fun _ z => z.elim) (fun z => z), rfl⟩ hd Q fun v H' ex hv => ?_
        exact hp A v H' .refl (k.ext ex) (.of ex) (hv.sc hs)
      · cases hm
    · cases hm
  · rename_i dx q
    obtain ⟨v, z1, z2⟩ := k.sl i _ q
    obtain ⟨d, e1, e2⟩ := Mo.lift_some hm
    cases e2
    refine ⟨_, z1, ?_⟩
    exact ok _ H [v] [dx] d k.trA (.one z2) e1 Q fun v H' e hv => hp A v H' .refl (k.ext e) (.of e) hv
  · cases hm
theorem de_callBN (i : Nat) {y : Str} {py : Pos} (hc : CallD X (.builtin id) r g) (hg : Gl X x) (hm : X.mg x = none) (hv : bootBuiltins x = some (.builtin id)) (hN : X.N[i]? = some y := by rfl) (hvy : Vis X.env.scope y := by first | exact Or.inl rfl | exact Or.inr (Or.inl rfl) | exact Or.inr (Or.inr rfl))
    (hdy : (y == ("__debug__" : Str)) = false := by decide) (hcy : (y == ("__classdict__" : Str)) = false := by decide) (hn : x ≠ "__name__" := by decide) (hdb : (x == ("__debug__" : Str)) = false := by decide) (hs : starEach [Expr.Name y py] X.env = (false, eval (Expr.Name y py) X.env) :: starEach [] X.env := by rfl)
    (hpl : (backTo pos (starEach [] X.env)).any (·.1) = false := by rfl) : DE X W (.Call (.Name x p) [.Name y py] [] pos) (tCB r (tCons (tVar i) tNil)) (peekM i g) :=
  ⟨pe_callB hc.call hg hm hv (pa_cons (pe_var hN hvy hdy hcy) pa_nil hs) hn hdb hs hpl, xr_peek hc.ok⟩
def spP (K : PySem.W.Frag) (f : List D → Option (Except Ex D)) : Sp := fun vs H Q E => ∃ (S : Addr → Prop) (ds : List D) (r : Except Ex D), (∀ b, S b → H b ≠ none) ∧ Dats K S H ds vs ∧ f ds = some r ∧
  match r with
  | .ok d => ∀ v H', Ext H H' → Dat K S H' d v → Q v H'
  | .error x => ∀ dd H', Ext H H' → ExD K S H' x dd → E (.ref x.C) dd H'
/-- the first argument is a list that is lent, and may be changed -/
def spM (K : PySem.W.Frag) (f : OV → List D → Option (Except Ex D × OV)) : Sp := fun vs H Q E => ∃ (S : Addr → Prop) (q : Addr) (l : OV) (rest : List V) (ds : List D) (r : Except Ex D) (l' : OV),
  vs = .ref q :: rest ∧ S q ∧ (∀ b, S b → H b ≠ none) ∧ OVAt K S H l q ∧ Dats K S H ds rest ∧ f l ds = some (r, l') ∧
  match r with
  | .ok d => ∀ v H', Stp (fun b => b = q) H H' → OVAt K S H' l' q → Dat K S H' d v → Q v H'
  | .error x => ∀ dd H', Stp (fun b => b = q) H H' → OVAt K S H' l' q → ExD K S H' x dd → E (.ref x.C) dd H'
/-- a def of the module, as callers see it -/
def Gd (P : Program) (w : World) (K : PySem.W.Frag) (mg : Str → Option Value) (base : Heap) (x : Str) (k : Nat) (sp : Sp) : Prop :=
  ∃ (f : Addr) (fd : FuncData) (ps : List Str), FnG P w K mg base (L2.CX P w) k f fd ps sp ∧ mg x = some (.ref f) ∧ PySem.W.keepIn K (.ref f) = true ∧ Binds K fd ps []
theorem Gd.mono {P : Program} {w : World} {K : PySem.W.Frag} {mg : Str → Option Value} {base : Heap} {j k : Nat} {sp : Sp} (G : Gd P w K mg base x j sp) (h : j ≤ k) : Gd P w K mg base x k sp :=
  let ⟨f, fd, ps, F, r⟩ := G; ⟨f, fd, ps, F.mono h, r⟩
theorem xr_call {K : PySem.W.Frag} {f : List D → Option (Except Ex D)} (ha : XR RDs K W t ms) : XR RD K W (fun σ H Q => t σ H fun vs H1 => spP K f (vs ++ []) H1 Q (WE W σ)) (ms.bind fun ds => Mo.liftR (f ds)) := by
  refine XR.bind (t2 := fun vs σ H1 Q => spP K f (vs ++ []) H1 Q (WE W σ)) ha ?_
  intro S0 A σ env H k ds vs hd r env' hm Q hp
  obtain ⟨e1, e2⟩ := Mo.liftR_some hm
  subst e2
  rw [List.append_nil]
  refine ⟨_, ds, r, k.trA, hd, e1, ?_⟩
  cases r with
  | ok d => exact fun v H' ex hv => hp A v H' .refl (k.ext ex) (.of ex) hv
  | error y => exact fun dd H' ex hv => hp A dd H' .refl (k.ext ex) (.of ex) hv
variable {k : Nat}
theorem de_call {f : List D → Option (Except Ex D)} (G : Gd X.prog X.w X.K X.mg X.base x k (spP X.K f)) (hr : RoomG k X.A) (tk : Takes X W) (hg : Gl X x) (ha : DA X W (e :: es) t ms) (hdb : (x == ("__debug__" : Str)) = false := by decide)
    (he : starEach (e :: es) X.env = (false, eval e X.env) :: starEach es X.env := by rfl) (hpl : (backTo pos (starEach es X.env)).any (·.1) = false := by rfl) :
    DE X W (.Call (.Name x p) (e :: es) [] pos) (tCallSD (spP X.K f) [] (WE W) t) (ms.bind fun ds => Mo.liftR (f ds)) := by
  obtain ⟨fa, fd, ps, F, hm, hk, hb⟩ := G
  exact ⟨pe_callG F hr hg hm hk hb .nil (fun σ => passAt tk σ) ha.pa hdb he hpl, xr_call ha.er⟩
/-- f(x, ..), x an own list that f may change -/
def callMM (i : Nat) (f : OV → List D → Option (Except Ex D × OV)) (ds : List D) : Mo D := fun env => match env[i]? with
  | some (.own b l) => (match f l ds with
    | some (r, l') => some (r, env.set i (.own b l'))
    | none => none)
  | _ => none
def callM (i : Nat) (f : OV → List D → Option (Except Ex D × OV)) (ms : Mo (List D)) : Mo D := fun env => if hasSl i env = true then (ms.bind fun ds => callMM i f ds) env else none
theorem xr_callM {i : Nat} {K : PySem.W.Frag} {f : OV → List D → Option (Except Ex D × OV)} (ha : XR RDs K W t ms) :
    XR RD K W (tCallSD (spM K f) [] (WE W) (tCons (tVar i) t)) (callM i f ms) := by
  intro S0 A σ env H k r env' hm Q hp
  unfold callM at hm
  split at hm
  · rename_i hs
    obtain ⟨v, hv⟩ := peek k hs
    refine ⟨v, hv, ?_⟩
    rcases Mo.bind_some hm with ⟨ds, e1, q1, q2⟩ | ⟨y, e1, q1, q2⟩
    · refine ha S0 A σ env H k _ _ q1 _ fun A1 ws H1 le k1 st hw => ?_
      unfold callMM at q2
      split at q2
      · rename_i bo l q
        obtain ⟨a, z1, z2, z3, z5⟩ := k1.sl i _ q
        rw [hv] at z2; cases z2
        split at q2
        · rename_i r' l' hf
          cases q2
          have hOwn : Own A1 a := ⟨i, z1⟩
          refine ⟨AV S0 A1, a, l, ws ++ [], ds, _, l', rfl, .inr hOwn, k1.trA, z3, by rw [List.append_nil]; exact hw, hf, ?_⟩
          have fin : ∀ H', Stp (fun b => b = a) H1 H' → OVAt K (AV S0 A1) H' l' a → Ok K S0 A1 σ (e1.set i (.own bo l')) H' ∧ Stp (Own A) H H' := fun H' h1 h3 =>
            ⟨k1.chg q z1 h1 h3, st.trans (h1.mono fun b e => by rw [e]; exact le.own hOwn)⟩
          cases r with
          | ok d => exact fun v H' h1 h3 h4 => hp A1 v H' le (fin H' h1 h3).1 (fin H' h1 h3).2 h4
          | error y => exact fun dd H' h1 h3 h4 => hp A1 dd H' le (fin H' h1 h3).1 (fin H' h1 h3).2 h4
        · cases q2
      · cases q2
    · cases q2
      exact ha S0 A σ env H k _ _ q1 _ fun A1 dd H1 le k1 st ex => hp A1 dd H1 le k1 st ex
  · cases hm
theorem de_callM (i : Nat) {y : Str} {py : Pos} {f : OV → List D → Option (Except Ex D × OV)} (G : Gd X.prog X.w X.K X.mg X.base x k (spM X.K f)) (hr : RoomG k X.A) (tk : Takes X W) (hg : Gl X x) (ha : DA X W es t ms) (hN : X.N[i]? = some y := by rfl)
    (hvy : Vis X.env.scope y := by first | exact Or.inl rfl | exact Or.inr (Or.inl rfl) | exact Or.inr (Or.inr rfl)) (hdy : (y == ("__debug__" : Str)) = false := by decide) (hcy : (y == ("__classdict__" : Str)) = false := by decide) (hdb : (x == ("__debug__" : Str)) = false := by decide)
    (he : starEach (Expr.Name y py :: es) X.env = (false, eval (Expr.Name y py) X.env) :: starEach es X.env := by rfl) (hpl : (backTo pos (starEach es X.env)).any (·.1) = false := by rfl) :
    DE X W (.Call (.Name x p) (.Name y py :: es) [] pos) (tCallSD (spM X.K f) [] (WE W) (tCons (tVar i) t)) (callM i f ms) := by
  obtain ⟨fa, fd, ps, F, hm, hk, hb⟩ := G
  exact ⟨pe_callG F hr hg hm hk hb .nil (fun σ => passAt tk σ) (pa_cons (pe_var hN hvy hdy hcy) ha.pa he) hdb he hpl, xr_callM ha.er⟩
end
inductive Out where
  | nx | rt (d : D) | bk | ct | ex (x : Ex) | rf (l : List D)
abbrev Sm := En → Option (Out × En)
def Go (A : Ow) (H : Hp) (A' : Ow) (H' : Hp) : Prop := Stp (Own A) H H' ∧ ∀ b, Own A' b → Own A b ∨ H b = none
theorem Go.refl {A : Ow} {H : Hp} : Go A H A H := ⟨.refl, fun _ => .inl⟩
theorem Go.trans {A B C : Ow} {H H1 H2 : Hp} (g : Go A H B H1) (h : Go B H1 C H2) : Go A H C H2 := by
  refine ⟨⟨fun b o n e => h.1.at_ b o (fun z => (g.2 b z).elim n fun q => by rw [q] at e; cases e) (g.1.at_ b o n e), fun b q => g.1.dom b (h.1.dom b q)⟩, fun b z => ?_⟩
  rcases h.2 b z with z | z
  · exact g.2 b z
  · exact .inr (g.1.dom b z)
theorem Go.le {A B : Ow} {H H' : Hp} (l : Ow.le B A) (st : Stp (Own A) H H') : Go A H B H' := ⟨st, fun b z => .inl (l.own z)⟩
def SPost (K : PySem.W.Frag) (W : WX) (S0 : Addr → Prop) (A : Ow) (H : Hp) (env' : En) (D : Ends) (o : Out) : Prop :=
  ∀ A' σ' H', Ok K S0 A' σ' env' H' → Go A H A' H' → match o with
    | .nx => D.nx σ' H'
    | .rt d => ∀ v, Dat K (AV S0 A') H' d v → D.rt v H'
    | .rf l => ∀ q vs, H q = none → H' q = some (.lst vs) → ¬ AV S0 A' q → Dats K (fun b => AV S0 A' b ∨ b = q) H' l vs → D.rt (.ref q) H'
    | .bk => D.bk σ' H'
    | .ct => D.ct σ' H'
    | .ex x => ∀ dd, ExD K (AV S0 A') H' x dd → W (.ref x.C) dd σ' H'
theorem SPost.imp {K : PySem.W.Frag} {W : WX} {S0 : Addr → Prop} {A B : Ow} {H H1 : Hp} {env' : En} {D : Ends} {o : Out} (h : SPost K W S0 A H env' D o) (g : Go A H B H1) : SPost K W S0 B H1 env' D o := by
  intro A' σ' H' k q
  have z := h A' σ' H' k (g.trans q)
  cases o with
  | rf l => exact fun p vs hp => z p vs (g.1.dom p hp)
  | nx => exact z
  | rt d => exact z
  | bk => exact z
  | ct => exact z
  | ex x => exact z
def SR (K : PySem.W.Frag) (W : WX) (t : TS) (m : Sm) : Prop :=
  ∀ S0 A σ env H, Ok K S0 A σ env H → ∀ o env', m env = some (o, env') → ∀ D, SPost K W S0 A H env' D o → t D σ H
structure DS (X : Cx) (W : WX) (s : Stmt) (t : TS) (m : Sm) : Prop where
  ps : PS X s t
  sr : SR X.K W t m
structure DSs (X : Cx) (W : WX) (s : List Stmt) (t : TS) (m : Sm) : Prop where
  ps : PSs X s t
  sr : SR X.K W t m
def seqS (m n : Sm) : Sm := fun e => match m e with
  | some (.nx, e') => n e'
  | r => r
def nxS : Sm := fun e => some (.nx, e)
/-- a statement of an expression's result -/
def ofM {α : Type} (m : Mo α) (f : α → Sm) : Sm := fun e => match m e with
  | some (.ok a, e') => f a e'
  | some (.error x, e') => some (.ex x, e')
  | none => none
theorem ofM_some {α : Type} {m : Mo α} {f : α → Sm} {e : En} {r : Out × En} (h : ofM m f e = some r) : (∃ a e', m e = some (.ok a, e') ∧ f a e' = some r) ∨ ∃ x e', m e = some (.error x, e') ∧ r = (.ex x, e') := by
  unfold ofM at h
  split at h
  · rename_i a e' q; exact .inl ⟨a, e', q, h⟩
  · rename_i x e' q; cases h; exact .inr ⟨x, e', q, rfl⟩
  · cases h
theorem SR.of {α β : Type} {Rl : RL α β} {K : PySem.W.Frag} {W : WX} {t : TX β} {m : Mo α} {f : α → Sm} {t2 : β → TS} (h : XR Rl K W t m)
    (h2 : ∀ S0 A σ env H, Ok K S0 A σ env H → ∀ a b, Rl K (AV S0 A) H a b → ∀ o env', f a env = some (o, env') → ∀ D, SPost K W S0 A H env' D o → t2 b D σ H) :
    SR K W (fun D σ H => t σ H fun b H1 => t2 b D σ H1) (ofM m f) := by
  intro S0 A σ env H k o env' hm D hp
  rcases ofM_some hm with ⟨a, e1, q1, q2⟩ | ⟨x, e1, q1, q2⟩
  · exact h S0 A σ env H k _ _ q1 _ fun A1 b H1 le k1 st rl => h2 S0 A1 σ e1 H1 k1 a b rl o env' q2 D (hp.imp (.le le st))
  · cases q2
    exact h S0 A σ env H k _ _ q1 _ fun A1 dd H1 le k1 st ex => hp A1 σ H1 k1 (.le le st) dd ex
section
variable {X : Cx} {W : WX} {st : Stmt} {sts rest body : List Stmt} {t u tb : TS} {m n : Sm} {pos : Pos} {e c : Expr} {te : TE} {tc : TT} {me : Mo D} {mc : Mo Bool}
theorem dss_nil : DSs X W [] tNext nxS := ⟨pss_nil, fun S0 A σ env H k o env' hm D hp => by cases hm; exact hp A σ H k .refl⟩
theorem sr_seq {K : PySem.W.Frag} (h1 : SR K W t m) (h2 : SR K W u n) : SR K W (tSeq t u) (seqS m n) := by
  intro S0 A σ env H k o env' hm D hp
  unfold seqS at hm
  split at hm
  · rename_i e' q
    exact h1 S0 A σ env H k _ _ q _ fun A1 σ1 H1 k1 g => h2 S0 A1 σ1 e' H1 k1 o env' hm D (hp.imp g)
  · refine h1 S0 A σ env H k _ _ hm _ fun A1 σ1 H1 k1 g => ?_
    have q := hp A1 σ1 H1 k1 g
    cases o with
    | nx => exact absurd hm (by rename_i hh; exact hh _)
    | rt d => exact q
    | bk => exact q
    | ct => exact q
    | ex x => exact q
    | rf l => exact q
theorem dss_cons (h1 : DS X W st t m) (h2 : DSs X W rest u n) : DSs X W (st :: rest) (tSeq t u) (seqS m n) := ⟨pss_cons h1.ps h2.ps, sr_seq h1.sr h2.sr⟩
theorem dss_one (h1 : DS X W st t m) : DSs X W [st] t m := ⟨pss_one h1.ps, h1.sr⟩
theorem ds_never : DS X W st tNever (fun _ => none) := ⟨ps_never, fun S0 A σ env H k o env' hm D hp => by cases hm⟩
theorem ds_expr (he : DE X W e te me) (hs : swapsWith e none pos.line X.env = pure false := by rfl) : DS X W (.Expr e pos) (tDrop te) (ofM me fun _ => nxS) :=
  ⟨ps_expr he.pe hs, SR.of (t2 := fun _ D σ H1 => D.nx σ H1) he.er fun S0 A σ env H k a b _ o env' hm D hp => by cases hm; exact hp A σ H k .refl⟩
theorem ds_ret (he : DE X W e te me) : DS X W (.Return (some e) pos) (tRet te) (ofM me fun d e => some (.rt d, e)) :=
  ⟨ps_ret he.pe, SR.of (t2 := fun v D σ H1 => D.rt v H1) he.er fun S0 A σ env H k a b rl o env' hm D hp => by cases hm; exact hp A σ H k .refl b rl⟩
theorem ds_retN : DS X W (.Return none pos) tRetN (fun e => some (.rt .non, e)) := ⟨ps_retN, fun S0 A σ env H k o env' hm D hp => by cases hm; exact hp A σ H k .refl .non rfl⟩
def ifS (mc : Mo Bool) (m n : Sm) : Sm := ofM mc fun c => if c = true then m else n
theorem ds_if {a b : List Stmt} (hc : DT X W c tc mc) (ha : DSs X W a t m) (hb : DSs X W b u n) : DS X W (.If c a b pos) (tIfS tc t u) (ifS mc m n) := by
  refine ⟨ps_if hc.pt ha.ps hb.ps, SR.of (t2 := fun b D σ H1 => if b = true then t D σ H1 else u D σ H1) hc.er ?_⟩
  intro S0 A σ env H k a b rl o env' hm D hp
  cases (show a = b from rl)
  cases a with
  | true => exact ha.sr S0 A σ env H k o env' hm D hp
  | false => exact hb.sr S0 A σ env H k o env' hm D hp
/-- a store to a target -/
def GR (K : PySem.W.Frag) (g : TG) (f : D → En → Option En) : Prop :=
  ∀ S0 A σ env H, Ok K S0 A σ env H → ∀ d v, Dat K (AV S0 A) H d v → ∀ env', f d env = some env' → ∀ Q : L2.St → Hp → Prop, (∀ A' σ' H', Ok K S0 A' σ' env' H' → Ow.le A' A → Stp (Own A) H H' → Q σ' H') → g v σ H Q
def GRs (K : PySem.W.Frag) (g : TGs) (f : List D → En → Option En) : Prop :=
  ∀ S0 A σ env H, Ok K S0 A σ env H → ∀ d v, Dats K (AV S0 A) H d v → ∀ env', f d env = some env' → ∀ Q : L2.St → Hp → Prop, (∀ A' σ' H', Ok K S0 A' σ' env' H' → Ow.le A' A → Stp (Own A) H H' → Q σ' H') → g v σ H Q
structure DG (X : Cx) (tg : Expr) (g : TG) (f : D → En → Option En) : Prop where
  pg : PG X tg g
  gr : GR X.K g f
structure DGs (X : Cx) (tg : List Expr) (g : TGs) (f : List D → En → Option En) : Prop where
  pg : PGs X tg g
  gr : GRs X.K g f
def setE (i : Nat) (d : D) (env : En) : Option En := some (env.set i (.val d))
theorem gr_name {i : Nat} {K : PySem.W.Frag} : GR K (gName i) (setE i) := by
  intro S0 A σ env H k d v hd env' hm Q hq
  cases hm
  exact hq _ _ H (k.setVal hd) Ow.del_le .refl
theorem dg_name {i : Nat} {x : Str} (hN : X.N.Nodup) (hi : X.N[i]? = some x := by rfl) (hx : Loc X.env.scope x := by first | exact Or.inl rfl | exact Or.inr rfl) (hf : X.fn x = true ∨ X.env.scope.names.lookup x = some .local := by first | exact .inl rfl | exact .inr rfl | assumption) : DG X (.Name x pos) (gName i) (setE i) :=
  ⟨pg_name hN hi hx hf, gr_name⟩
theorem dgs_nil : DGs X [] gNil (fun ds env => match ds with | [] => some env | _ => none) := ⟨pgs_nil, fun S0 A σ env H k d v hd env' hm Q hq => by
  cases d with
  | nil => cases hm; exact ⟨hd, hq A σ H k .refl .refl⟩
  | cons _ _ => cases hm⟩
def consE (f : D → En → Option En) (g : List D → En → Option En) (ds : List D) (env : En) : Option En := match ds with
  | d :: r => (match f d env with
    | some e' => g r e'
    | none => none)
  | [] => none
theorem dgs_cons {tg : Expr} {tgs : List Expr} {g : TG} {gs : TGs} {f : D → En → Option En} {fs : List D → En → Option En} (h1 : DG X tg g f) (h2 : DGs X tgs gs fs)
    (hs : (assignEach (tg :: tgs) X.env).map (·.2) = assign tg X.env :: (assignEach tgs X.env).map (·.2) := by rfl) : DGs X (tg :: tgs) (gCons g gs) (consE f fs) := by
  refine ⟨pgs_cons h1.pg h2.pg hs, fun S0 A σ env H k d v hd env' hm Q hq => ?_⟩
  cases d with
  | nil => cases hm
  | cons d r =>
    obtain ⟨w, ws, e, hw, hws⟩ := hd
    unfold consE at hm
    dsimp only at hm
    split at hm
    · rename_i e1 q
      refine ⟨w, ws, e, h1.gr S0 A σ env H k d w hw e1 q _ fun A1 σ1 H1 k1 l1 s1 => ?_⟩
      refine h2.gr S0 A1 σ1 e1 H1 k1 r ws ?_ env' hm Q fun A2 σ2 H2 k2 l2 s2 => hq A2 σ2 H2 k2 (l2.trans l1) (s1.trans (s2.mono fun b => l1.own))
      exact Dats.step (fun b z => .inl (l1.av z)) (s1.mono fun b z => .inr z) _ _ hws
    · cases hm
def asgS (me : Mo D) (f : D → En → Option En) : Sm := ofM me fun d e => match f d e with
  | some e' => some (.nx, e')
  | none => none
theorem sr_asg {K : PySem.W.Frag} {g : TG} {f : D → En → Option En} (he : XR RD K W te me) (hg : GR K g f) : SR K W (tAsg te g) (asgS me f) := by
  refine SR.of (t2 := fun v D σ H1 => g v σ H1 D.nx) he ?_
  intro S0 A σ env H k d v hd o env' hm D hp
  split at hm
  · rename_i e' q
    cases hm
    exact hg S0 A σ env H k d v hd _ q _ fun A1 σ1 H1 k1 l1 s1 => hp A1 σ1 H1 k1 (.le l1 s1)
  · cases hm
theorem ds_asg {tg : Expr} {g : TG} {f : D → En → Option En} (he : DE X W e te me) (hg : DG X tg g f) (hs : swapsWithSole [tg] e pos.line X.env = pure false := by rfl) (hw : swappedStores [tg] e X.env = pure none := by rfl)
    (h1 : (assignEach [tg] X.env).map (·.2) = [assign tg X.env] := by rfl) : DS X W (.Assign [tg] e pos) (tAsg te g) (asgS me f) := ⟨ps_asg he.pe hg.pg hs hw h1, sr_asg he.er hg.gr⟩
theorem ds_set {i : Nat} {x : Str} {pos' : Pos} (hN : X.N.Nodup) (he : DE X W e te me) (hi : X.N[i]? = some x := by rfl) (hx : Loc X.env.scope x := by first | exact Or.inl rfl | exact Or.inr rfl) (hs : swapsWith e (some (.Name x pos')) pos.line X.env = pure false := by rfl) (hf : X.fn x = true ∨ X.env.scope.names.lookup x = some .local := by first | exact .inl rfl | exact .inr rfl | assumption) :
    DS X W (.Assign [.Name x pos'] e pos) (tAsg te (gName i)) (asgS me (setE i)) := ⟨ps_set hN hi hx he.pe hs hf, sr_asg he.er gr_name⟩
/-- an item of an own list is stored -/
def subE (i : Nat) (mi : Mo D) (d : D) (env : En) : Option En := if hasSl i env = true then (match mi env with
  | some (.ok (.int k), e1) => (match e1[i]? with
    | some (.own b ⟨.lst, l⟩) => (ixN l.length k).map fun j => e1.set i (.own b ⟨.lst, l.set j d⟩)
    | _ => none)
  | _ => none) else none
theorem stp_upd {H : Hp} {p : Addr} {o : HO} : Stp (fun b => b = p) H (L2.upd H p o) := ⟨fun b u n e => by rw [upd_ne n]; exact e, fun b q => by
  by_cases e : b = p
  · rw [e, upd_same] at q; cases q
  · rw [upd_ne e] at q; exact q⟩
theorem gr_sub {i : Nat} {K : PySem.W.Frag} {mi : Mo D} {ti : TE} {W : WX} (hi : XR RD K W ti mi) : GR K (gSub (tVar i) ti rSetL) (subE i mi) := by
  intro S0 A σ env H k d v hd env' hm Q hq
  unfold subE at hm
  split at hm
  · rename_i hs
    obtain ⟨u, hu⟩ := peek k hs
    refine ⟨u, hu, ?_⟩
    split at hm
    · rename_i kk e1 q
      refine hi S0 A σ env H k _ _ q _ fun A1 w H1 le k1 st hw => ?_
      split at hm
      · rename_i b l hl
        obtain ⟨a, z1, z2, z3, z5⟩ := k1.sl i _ hl
        obtain ⟨vs, z3, z4⟩ := z3.lst
        rw [hu] at z2; cases z2
        cases hw
        cases hj : ixN l.length kk with
        | none => rw [hj] at hm; cases hm
        | some j =>
          rw [hj] at hm; cases hm
          refine ⟨a, vs, kk, j, rfl, rfl, z3, by rw [← z4.len]; exact hj, ?_⟩
          have hOwn : Own A1 a := ⟨i, z1⟩
          have hd1 : Dat K (AV S0 A1) H1 d v := Dat.step (fun b z => .inl (le.av z)) (st.mono fun b z => .inr z) d v hd
          have tr : Stp (AV S0 A1) H1 (L2.upd H1 a (.lst (vs.set j v))) := stp_upd.mono fun b e => by rw [e]; exact .inr hOwn
          refine hq A1 σ _ (k1.chg hl z1 stp_upd (.ofLst upd_same (Dats.step (fun b z => .inl z) tr _ _ (z4.set j hd1)))) le ?_
          exact st.trans (stp_upd.mono fun b e => by rw [e]; exact le.own hOwn)
      · cases hm
    · cases hm
  · cases hm
theorem dg_sub (i : Nat) {y : Str} {py : Pos} {b : Expr} {mb : Mo D} {tb : TE} (hb : DE X W b tb mb) (hN : X.N[i]? = some y := by rfl) (hvy : Vis X.env.scope y := by first | exact Or.inl rfl | exact Or.inr (Or.inl rfl) | exact Or.inr (Or.inr rfl))
    (hdy : (y == ("__debug__" : Str)) = false := by decide) (hcy : (y == ("__classdict__" : Str)) = false := by decide)
    (ha : ∀ v, assign (.Subscript (.Name y py) b pos) X.env v = (do
      let ov ← holding [v] (eval (.Name y py) X.env)
      let iv ← holding [v, ov] (eval b X.env)
      standAt pos
      holding [v, ov, iv] (setItem ov iv v)
      release [v, ov, iv] []) := by intro _; rfl) : DG X (.Subscript (.Name y py) b pos) (gSub (tVar i) tb rSetL) (subE i mb) := ⟨pg_sub (pe_var hN hvy hdy hcy) hb.pe set_list ha, gr_sub hb.er⟩
/-- x, y = a, b -/
def parS (ms : Mo (List D)) (i j : Nat) : Sm := ofM ms fun ds env => match ds with
  | [d, d'] => some (.nx, (env.set i (.val d)).set j (.val d'))
  | _ => none
theorem sr_par {i j : Nat} {K : PySem.W.Frag} {ta : TA} {ms : Mo (List D)} (ha : XR RDs K W ta ms) : SR K W (tPar i j ta) (parS ms i j) := by
  refine SR.of (t2 := fun vs D σ H1 => ∃ v w, vs = [v, w] ∧ D.nx ((σ.set i (some v)).set j (some w)) H1) ha ?_
  intro S0 A σ env H k ds vs hd o env' hm D hp
  split at hm
  · cases hm
    obtain ⟨v, r, e1, h1, w, r', e2, h2, e3⟩ := hd
    subst e1 e2
    cases (show r' = [] from e3)
    refine ⟨v, w, rfl, ?_⟩
    have k1 := k.setVal (i := i) h1
    have k2 := k1.setVal (i := j) (h2.weak fun b => Ow.del_le.av)
    exact hp _ _ H k2 (.le (Ow.del_le.trans Ow.del_le) .refl)
  · cases hm
theorem ds_par {i j : Nat} {x y : Str} {a b : Expr} {ta : TA} {ms : Mo (List D)} {px py pt : Pos} {kt k2 pt2} (hc : X.calm = true) (hN : X.N.Nodup) (ha : DA X W [a, b] ta ms) (hi : X.N[i]? = some x := by rfl) (hj : X.N[j]? = some y := by rfl) (hij : i ≠ j := by decide)
    (hx : X.env.scope.names.lookup x = some .local := by rfl) (hy : X.env.scope.names.lookup y = some .local := by rfl)
    (hw : swappedStores [.Tuple [.Name x px, .Name y py] kt pt] (.Tuple [a, b] k2 pt2) X.env = pure (some [x, y]) := by rfl)
    (hs : swapsWithSole [.Tuple [.Name x px, .Name y py] kt pt] (.Tuple [a, b] k2 pt2) pos.line X.env = pure false := by rfl) :
    DS X W (.Assign [.Tuple [.Name x px, .Name y py] kt pt] (.Tuple [a, b] k2 pt2) pos) (tPar i j ta) (parS ms i j) := ⟨ps_par hc hN hi hj hij hx hy ha.pa hw hs, sr_par ha.er⟩
def par3S (ms : Mo (List D)) (i j l : Nat) : Sm := ofM ms fun ds env => match ds with
  | [d, d', d2] => some (.nx, ((env.set i (.val d)).set j (.val d')).set l (.val d2))
  | _ => none
def whileN (c : Mo Bool) (b : Sm) : Nat → Sm
  | 0, _ => none
  | n + 1, e => match c e with
    | some (.ok true, e1) => (match b e1 with
      | some (.nx, e2) => whileN c b n e2
      | some (.ct, e2) => whileN c b n e2
      | some (.bk, e2) => some (.nx, e2)
      | r => r)
    | some (.ok false, e1) => some (.nx, e1)
    | some (.error x, e1) => some (.ex x, e1)
    | none => none
theorem whileN_mono {c : Mo Bool} {b : Sm} : ∀ {n : Nat} {e : En} {r : Out × En}, whileN c b n e = some r → whileN c b (n + 1) e = some r
  | 0, e, r, h => by cases h
  | n + 1, e, r, h => by
    unfold whileN at h ⊢
    split at h
    · split at h
      · exact whileN_mono h
      · exact whileN_mono h
      · exact h
      · exact h
    · exact h
    · exact h
    · cases h
theorem whileN_le {c : Mo Bool} {b : Sm} {n m : Nat} {e : En} {r : Out × En} (h : whileN c b n e = some r) (l : n ≤ m) : whileN c b m e = some r := by
  induction l with
  | refl => exact h
  | step _ ih => exact whileN_mono ih
open Classical in
noncomputable def whileS (c : Mo Bool) (b : Sm) : Sm := fun e => if h : ∃ r, ∃ n, whileN c b n e = some r then some (choose h) else none
theorem whileS_of {c : Mo Bool} {b : Sm} {n : Nat} {e : En} {r : Out × En} (h : whileN c b n e = some r) : whileS c b e = some r := by
  have hx : ∃ r, ∃ n, whileN c b n e = some r := ⟨r, n, h⟩
  unfold whileS
  rw [dif_pos hx]
  obtain ⟨m, hm⟩ := Classical.choose_spec hx
  rcases Nat.le_total n m with l | l
  · have := whileN_le h l
    rw [hm] at this; exact this
  · have := whileN_le hm l
    rw [h] at this; exact this.symm
theorem whileS_some {c : Mo Bool} {b : Sm} {e : En} {r : Out × En} (h : whileS c b e = some r) : ∃ n, whileN c b n e = some r := by
  unfold whileS at h
  split at h
  · rename_i hx
    cases h
    exact Classical.choose_spec hx
  · cases h
theorem sr_while {K : PySem.W.Frag} (hc : XR RB K W tc mc) (hb : SR K W tb m) : SR K W (tWhile tc tb) (whileS mc m) := by
  intro S0 A σ env H k o env' hm D hp
  obtain ⟨n, hn⟩ := whileS_some hm
  refine ⟨fun n σ1 H1 => ∃ A1 e1, Ok K S0 A1 σ1 e1 H1 ∧ Go A H A1 H1 ∧ whileN mc m n e1 = some (o, env'), ⟨n, A, env, k, .refl, hn⟩, ?_⟩
  rintro n σ1 H1 ⟨A1, e1, k1, g1, w1⟩
  cases n with
  | zero => cases w1
  | succ n =>
    unfold whileN at w1
    split at w1
    · rename_i e2 q
      refine hc S0 A1 σ1 e1 H1 k1 _ _ q _ fun A2 b H2 le k2 st rb => ?_
      cases (show true = b from rb)
      rw [if_pos rfl]
      refine ⟨fun σ' H' => ∃ A3 e3, Ok K S0 A3 σ' e3 H' ∧ Go A H A3 H' ∧ whileN mc m n e3 = some (o, env'), fun σ' H' x => ⟨n, Nat.lt_succ_self _, x⟩, ?_⟩
      have g2 := g1.trans (.le le st)
      split at w1
      · rename_i e3 q3
        exact hb S0 A2 σ1 e2 H2 k2 _ _ q3 _ fun A3 σ3 H3 k3 g3 => ⟨A3, e3, k3, g2.trans g3, w1⟩
      · rename_i e3 q3
        exact hb S0 A2 σ1 e2 H2 k2 _ _ q3 _ fun A3 σ3 H3 k3 g3 => ⟨A3, e3, k3, g2.trans g3, w1⟩
      · rename_i e3 q3
        cases w1
        exact hb S0 A2 σ1 e2 H2 k2 _ _ q3 _ fun A3 σ3 H3 k3 g3 => hp A3 σ3 H3 k3 (g2.trans g3)
      · rename_i x1 x2 x3
        refine hb S0 A2 σ1 e2 H2 k2 _ _ w1 _ fun A3 σ3 H3 k3 g3 => ?_
        have z := hp A3 σ3 H3 k3 (g2.trans g3)
        cases o with
        | nx => exact absurd w1 (x1 _)
        | rt d => exact z
        | bk => exact absurd w1 (x3 _)
        | ct => exact absurd w1 (x2 _)
        | ex x => exact z
        | rf l => exact fun p vs hp => z p vs (g2.1.dom p hp)
    · rename_i e2 q
      cases w1
      refine hc S0 A1 σ1 e1 H1 k1 _ _ q _ fun A2 b H2 le k2 st rb => ?_
      cases (show false = b from rb)
      rw [if_neg Bool.false_ne_true]
      exact hp A2 σ1 H2 k2 (g1.trans (.le le st))
    · rename_i x e2 q
      cases w1
      exact hc S0 A1 σ1 e1 H1 k1 _ _ q _ fun A2 dd H2 le k2 st ex => hp A2 σ1 H2 k2 (g1.trans (.le le st)) dd ex
    · cases w1
theorem ds_while (hp : PassesOwn (model X.prog X.w) X.A X.env X.xe) (hc : DT X W c tc mc) (hb : DSs X W body tb m) : DS X W (.While c body [] pos) (tWhile tc tb) (whileS mc m) := ⟨ps_while hp hc.pt hb.ps, sr_while hc.er hb.sr⟩
end
end PD
namespace PD
open PySem PySem.Spec PyProof.Rows L2
def ItOk (K : PySem.W.Frag) (S : Addr → Prop) (H1 : Hp) (ds : List D) (J : It) : Prop :=
  ∀ (S' : Addr → Prop) (H2 : Hp), Stp S H1 H2 → (∀ b, S' b → S b ∨ H1 b = none) → (∀ b, S' b → H2 b ≠ none) →
    ∀ i, (∀ d, ds[i]? = some d → J.go i H2 ∧ ∀ x H3, J.yld i H2 x H3 → Ext H2 H3 ∧ Dat K S' H3 d x) ∧ (i = ds.length → J.stop i H2)
abbrev RI : RL (List D) It := fun K S H ds J => ItOk K S H ds J
structure DI (X : Cx) (W : WX) (tg e : Expr) (w : TI) (m : Mo (List D)) : Prop where
  pi : PI X tg e w
  ir : XR RI X.K W w m
theorem pi_or {X : Cx} {tg e : Expr} {w w' : TI} (h : PI X tg e w) (h' : PI X tg e w') : PI X tg e (fun σ H R => w σ H R ∨ w' σ H R) :=
  ⟨fun pins s σ H R I q => q.elim (h.run pins s σ H R I) (h'.run pins s σ H R I)⟩
def chD (c : Nat) : D := .str ⟨#[c]⟩
def iterD : D → Option (List D)
  | .lst l => some l
  | .tup l => some l
  | .str z => some (z.cps.toList.map chD)
  | .scr ns => some (ns.map .int)
  | _ => none
theorem ext_of_eq {H H' : Hp} (h : H' = H) : Ext H H' := by subst h; exact fun _ _ e => e
theorem itl_ok {K : PySem.W.Frag} {S : Addr → Prop} {H : Hp} {ds : List D} {a : Addr} {vs : List V} (h : ∀ H2, Stp S H H2 → SqL K H2 a vs) (l : Dats K S H ds vs) : ItOk K S H ds (Itl K a) := by
  intro S' H2 st hS tr i
  refine ⟨fun d hd => ?_, fun e => ⟨vs, h H2 st, by rw [e, l.len]; exact Nat.le_refl _⟩⟩
  obtain ⟨v, hv, hdv⟩ := l.get hd
  refine ⟨⟨vs, v, h H2 st, hv⟩, fun x H3 ⟨e, y⟩ => ?_⟩
  subst e
  have := y vs (h _ st)
  rw [hv] at this
  obtain rfl : v = x := Option.some.inj this
  exact ⟨fun _ _ e => e, Dat.step hS st d v hdv⟩
theorem itt_ok {K : PySem.W.Frag} {S : Addr → Prop} {H : Hp} {ds : List D} {a : Addr} {vs : List V} (h : ∀ H2, Stp S H H2 → SqT K H2 a vs) (l : Dats K S H ds vs) : ItOk K S H ds (Itt K a) := by
  intro S' H2 st hS tr i
  refine ⟨fun d hd => ?_, fun e => ⟨vs, h H2 st, by rw [e, l.len]; exact Nat.le_refl _⟩⟩
  obtain ⟨v, hv, hdv⟩ := l.get hd
  refine ⟨⟨vs, v, h H2 st, hv⟩, fun x H3 ⟨e, y⟩ => ?_⟩
  subst e
  have := y vs (h _ st)
  rw [hv] at this
  obtain rfl : v = x := Option.some.inj this
  exact ⟨fun _ _ e => e, Dat.step hS st d v hdv⟩
section
variable {X : Cx} {W : WX} {tg a b c e elt iter : Expr} {es ifs : List Expr} {ta tb tc te : TE} {t : TA} {ma mb mc me : Mo D} {ms : Mo (List D)} {p pos apos : Pos} {x : Str}
def iAny (K : PySem.W.Frag) (te : TE) : TI := fun σ H R => iList K te σ H R ∨ iTup K te σ H R ∨ iStr te σ H R
theorem di_any (he : DE X W e te me) : DI X W tg e (iAny X.K te) (me.bind fun d => Mo.lift (iterD d)) := by
  refine ⟨pi_or (pi_list he.pe) (pi_or (pi_tup he.pe) (pi_str he.pe)), ?_⟩
  intro S0 A σ env H k r env' hm R hp
  rcases Mo.bind_some hm with ⟨d, e1, q1, q2⟩ | ⟨y, e1, q1, q2⟩
  · obtain ⟨ds, w1, w2⟩ := Mo.lift_some q2
    cases w2
    unfold iterD at w1
    split at w1
    · cases w1
      refine .inl (he.er S0 A σ env H k _ _ q1 _ fun A1 v H1 le k1 st hv => ?_)
      obtain ⟨a, vs, rfl, z1, z2, z3⟩ := hv
      exact ⟨a, rfl, ⟨vs, SqL.of z1⟩, hp A1 _ H1 le k1 st (itl_ok (fun H2 s2 => SqL.of (s2.at_ a _ z2 z1)) z3)⟩
    · cases w1
      refine .inr (.inl (he.er S0 A σ env H k _ _ q1 _ fun A1 v H1 le k1 st hv => ?_))
      obtain ⟨a, vs, rfl, z1, z2, z3⟩ := hv
      exact ⟨a, rfl, ⟨vs, SqT.of z1⟩, hp A1 _ H1 le k1 st (itt_ok (fun H2 s2 => SqT.of (s2.at_ a _ z2 z1)) z3)⟩
    · rename_i z
      cases w1
      refine .inr (.inr (he.er S0 A σ env H k _ _ q1 _ fun A1 v H1 le k1 st hv => ?_))
      cases hv
      refine ⟨z, rfl, hp A1 _ H1 le k1 st ?_⟩
      intro S' H2 st hS tr i
      refine ⟨fun d hd => ?_, fun e => ?_⟩
      · rw [List.getElem?_map] at hd
        cases q : z.cps.toList[i]? with
        | none => rw [q] at hd; cases hd
        | some c =>
          rw [q] at hd; cases hd
          have q' : z.cps[i]? = some c := by simpa using q
          refine ⟨?_, fun x H3 ⟨e, c', h1, h2⟩ => ?_⟩
          · exact (Array.getElem?_eq_some_iff.mp q').1
          · subst e
            rw [q'] at h1; cases h1
            exact ⟨fun _ _ e => e, h2⟩
      · rw [e, List.length_map, Array.length_toList]; exact Nat.le_refl _
    · rename_i ns
      cases w1
      refine .inl (he.er S0 A σ env H k _ _ q1 _ fun A1 v H1 le k1 st hv => ?_)
      obtain ⟨a, rfl, z⟩ := hv
      refine ⟨a, rfl, ⟨ns.map V.int, ?_⟩, hp A1 _ H1 le k1 st (itl_ok (vs := ns.map V.int) (fun H2 s2 => ?_) (Dats.ints ns))⟩
      · exact z.elim (fun ⟨o, z, _⟩ => .inl (.inr ⟨o, z⟩)) .inr
      · exact z.elim (fun ⟨o, z, n⟩ => .inl (.inr ⟨o, s2.at_ a _ n z⟩)) .inr
    · cases w1
  · cases q2
    exact .inl (he.er S0 A σ env H k _ _ q1 _ fun A1 dd H1 le k1 st ex => hp A1 dd H1 le k1 st ex)
/-- range -/
def rngL (lo hi : Int) : List D := (List.range (hi - lo).toNat).map fun i => .int (lo + (i : Nat))
def rngD : List D → Option (List D)
  | [.int j] => if -(2 ^ 62) ≤ j ∧ j < 2 ^ 62 then some (rngL 0 j) else none
  | [.int i, .int j] => if -(2 ^ 62) ≤ i ∧ i < 2 ^ 62 ∧ -(2 ^ 62) ≤ j ∧ j < 2 ^ 62 then some (rngL i j) else none
  | _ => none
theorem itr_ok {K : PySem.W.Frag} {S : Addr → Prop} {H : Hp} {lo hi : Int} : ItOk K S H (rngL lo hi) (Itr lo (hi - lo).toNat) := by
  intro S' H2 st hS tr i
  unfold rngL
  refine ⟨fun d hd => ?_, fun e => ?_⟩
  · rw [List.getElem?_map] at hd
    cases q : (List.range (hi - lo).toNat)[i]? with
    | none => rw [q] at hd; cases hd
    | some j =>
      rw [q] at hd; cases hd
      obtain ⟨h1, h2⟩ := List.getElem?_eq_some_iff.mp q
      rw [List.length_range] at h1
      rw [List.getElem_range] at h2
      subst h2
      exact ⟨h1, fun x H3 ⟨e, y⟩ => ⟨ext_of_eq e, y⟩⟩
  · rw [e, List.length_map, List.length_range]; exact Nat.le_refl _
theorem di_range1 (hg : Gl X "range") (hm : X.mg "range" = none) (ha : DA X W [a] t ms) (hs : starEach [a] X.env = [(false, eval a X.env)] := by rfl) : DI X W tg (.Call (.Name "range" p) [a] [] pos) (iRng1 t) (ms.bind fun ds => Mo.lift (match ds with | [.int j] => rngD [.int j] | _ => none)) := by
  refine ⟨pi_range1 hg hm ha.pa hs, XR.bind (t2 := fun vs σ H1 R => ∃ j : Int, vs = [.int j] ∧ -(2 ^ 62) ≤ j ∧ j < 2 ^ 62 ∧ R (Itr 0 j.toNat) H1) ha.er ?_⟩
  intro S0 A σ env H k ds vs hd r env' hm Q hp
  obtain ⟨d, e1, e2⟩ := Mo.lift_some hm
  cases e2
  split at e1
  · rename_i j
    obtain ⟨v, r, e3, h1, h2⟩ := hd
    cases h1; cases (show r = [] from h2); subst e3
    unfold rngD at e1
    dsimp only at e1
    split at e1
    · rename_i hh; cases e1
      refine ⟨j, rfl, hh.1, hh.2, ?_⟩
      have := itr_ok (K := X.K) (S := AV S0 A) (H := H) (lo := 0) (hi := j)
      rw [Int.sub_zero] at this
      exact hp A _ H .refl k .refl this
    · cases e1
  · cases e1
theorem di_range2 (hg : Gl X "range") (hm : X.mg "range" = none) (ha : DA X W [a, b] t ms) (hs : starEach [a, b] X.env = [(false, eval a X.env), (false, eval b X.env)] := by rfl) (hs2 : starEach [b] X.env = [(false, eval b X.env)] := by rfl) :
    DI X W tg (.Call (.Name "range" p) [a, b] [] pos) (iRng2 t) (ms.bind fun ds => Mo.lift (match ds with | [.int i, .int j] => rngD [.int i, .int j] | _ => none)) := by
  refine ⟨pi_range2 hg hm ha.pa hs hs2, XR.bind (t2 := fun vs σ H1 R => ∃ i j : Int, vs = [.int i, .int j] ∧ (-(2 ^ 62) ≤ i ∧ i < 2 ^ 62 ∧ -(2 ^ 62) ≤ j ∧ j < 2 ^ 62) ∧ R (Itr i (j - i).toNat) H1) ha.er ?_⟩
  intro S0 A σ env H k ds vs hd r env' hm Q hp
  obtain ⟨d, e1, e2⟩ := Mo.lift_some hm
  cases e2
  split at e1
  · rename_i i j
    obtain ⟨v, r, e3, h1, w, r2, e4, h3, h4⟩ := hd
    cases h1; cases h3; cases (show r2 = [] from h4); subst e4; subst e3
    unfold rngD at e1
    dsimp only at e1
    split at e1
    · rename_i hh; cases e1
      exact ⟨i, j, rfl, hh, hp A _ H .refl k .refl itr_ok⟩
    · cases e1
  · cases e1
variable {g : TG} {f : D → En → Option En} {tbS : TS} {m : Sm} {body : List Stmt} {w : TI} {mi : Mo (List D)}
def forL (f : D → En → Option En) (b : Sm) : List D → Sm
  | [], e => some (.nx, e)
  | d :: ds, e => match f d e with
    | some e1 => (match b e1 with
      | some (.nx, e2) => forL f b ds e2
      | some (.ct, e2) => forL f b ds e2
      | some (.bk, e2) => some (.nx, e2)
      | r => r)
    | none => none
def forS (mi : Mo (List D)) (f : D → En → Option En) (b : Sm) : Sm := ofM mi fun ds => forL f b ds
theorem sr_for {K : PySem.W.Frag} (hi : XR RI K W w mi) (hg : GR K g f) (hb : SR K W tbS m) : SR K W (tFor w g tbS) (forS mi f m) := by
  refine SR.of (Rl := RI) (t2 := fun J D σ H1 => ∃ W : Nat → Nat → L2.St → Hp → Prop, (∃ m, W 0 m σ H1) ∧ ∀ i m σ H, W i m σ H →
    (J.stop i H ∧ D.nx σ H) ∨ (J.go i H ∧ ∃ N : L2.St → Hp → Prop, (∀ σ' H', N σ' H' → ∃ m', m' < m ∧ W (i + 1) m' σ' H') ∧ ∀ x H', J.yld i H x H' → g x σ H' fun σ2 H2 => tbS { D with nx := N, ct := N, bk := D.nx } σ2 H2)) hi ?_
  intro S0 A σ env H k ds J hJ o env' hm D hp
  refine ⟨fun i n σ1 H1 => n = ds.length - i ∧ i ≤ ds.length ∧ ∃ A1 e1, Ok K S0 A1 σ1 e1 H1 ∧ Go A H A1 H1 ∧ forL f m (ds.drop i) e1 = some (o, env'), ⟨ds.length, by simp, Nat.zero_le _, A, env, k, .refl, hm⟩, ?_⟩
  rintro i n σ1 H1 ⟨rfl, hi, A1, e1, k1, g1, w1⟩
  have av : ∀ {A2 : Ow} {H2 : Hp}, Go A H A2 H2 → ∀ b, AV S0 A2 b → AV S0 A b ∨ H b = none := fun g2 b z => z.elim (fun z => .inl (.inl z)) fun z => (g2.2 b z).elim (fun z => .inl (.inr z)) .inr
  have it := hJ (AV S0 A1) H1 (g1.1.mono fun b z => .inr z) (av g1) k1.trA i
  by_cases hlt : i < ds.length
  · have hd : ds[i]? = some ds[i] := List.getElem?_eq_getElem hlt
    obtain ⟨go, yl⟩ := it.1 _ hd
    rw [List.drop_eq_getElem_cons hlt] at w1
    unfold forL at w1
    split at w1
    · rename_i e2 qf
      refine .inr ⟨go, fun σ' H' => ∃ A2 e3, Ok K S0 A2 σ' e3 H' ∧ Go A H A2 H' ∧ forL f m (ds.drop (i + 1)) e3 = some (o, env'), fun σ' H' q => ⟨ds.length - (i + 1), by omega, rfl, hlt, q⟩, fun x H3 hy => ?_⟩
      obtain ⟨ex, hx⟩ := yl x H3 hy
      refine hg S0 A1 σ1 e1 H3 (k1.ext ex) _ x hx e2 qf _ fun A2 σ2 H4 k2 l2 s2 => ?_
      have g3 : Go A H A2 H4 := g1.trans ((Go.le .refl (.of ex)).trans (.le l2 s2))
      split at w1
      · rename_i e3 q3
        exact hb S0 A2 σ2 e2 H4 k2 _ _ q3 _ fun A3 σ3 H5 k3 g4 => ⟨A3, e3, k3, g3.trans g4, w1⟩
      · rename_i e3 q3
        exact hb S0 A2 σ2 e2 H4 k2 _ _ q3 _ fun A3 σ3 H5 k3 g4 => ⟨A3, e3, k3, g3.trans g4, w1⟩
      · rename_i e3 q3
        cases w1
        exact hb S0 A2 σ2 e2 H4 k2 _ _ q3 _ fun A3 σ3 H5 k3 g4 => hp A3 σ3 H5 k3 (g3.trans g4)
      · rename_i x1 x2 x3
        refine hb S0 A2 σ2 e2 H4 k2 _ _ w1 _ fun A3 σ3 H5 k3 g4 => ?_
        have z := hp A3 σ3 H5 k3 (g3.trans g4)
        cases o with
        | nx => exact absurd w1 (x1 _)
        | rt d => exact z
        | bk => exact absurd w1 (x3 _)
        | ct => exact absurd w1 (x2 _)
        | ex x => exact z
        | rf l => exact fun p vs hp => z p vs (g3.1.dom p hp)
    · cases w1
  · have e : i = ds.length := by omega
    rw [List.drop_eq_nil_of_le (by omega)] at w1
    cases w1
    exact .inl ⟨it.2 e, hp A1 σ1 H1 k1 g1⟩
theorem ds_for (hp : PassesOwn (model X.prog X.w) X.A X.env X.xe) (hc : X.calm = true) (hi : DI X W tg iter w mi) (hg : DG X tg g f) (hb : DSs X W body tbS m)
    (hs : ∀ x, foldedSetIterable iter X.env x = pure x := by intro _; rfl) : DS X W (.For tg iter body [] pos) (tFor w g tbS) (forS mi f m) := ⟨ps_for hp hc hi.pi hg.pg hb.ps hs, sr_for hi.ir hg.gr hb.sr⟩
def FPost (K : PySem.W.Frag) (W : WX) (S0 : Addr → Prop) (A : Ow) (σ : L2.St) (H : Hp) (env' : En) (Q : VK) : Except Ex (List D) → Prop
  | .ok l => ∀ A' q vs H', Ow.le A' A → Ok K (fun b => S0 b ∨ b = q) A' σ env' H' → Stp (Own A) H H' → H q = none → H' q = some (.lst vs) → Dats K (AV (fun b => S0 b ∨ b = q) A') H' l vs → Q (.ref q) H'
  | .error x => ∀ A' dd H', Ow.le A' A → Ok K S0 A' σ env' H' → Stp (Own A) H H' → ExD K (AV S0 A') H' x dd → W (.ref x.C) dd σ H'
def XF (K : PySem.W.Frag) (W : WX) (t : TE) (m : Mo (List D)) : Prop :=
  ∀ S0 A σ env H, Ok K S0 A σ env H → ∀ r env', m env = some (r, env') → ∀ Q, FPost K W S0 A σ H env' Q r → t σ H Q
structure DF (X : Cx) (W : WX) (e : Expr) (t : TE) (m : Mo (List D)) : Prop where
  pe : PE X e t
  ef : XF X.K W t m
theorem XF.xr {K : PySem.W.Frag} (h : XF K W te ms) : XR RD K W te (ms.bind fun l => Mo.ret (.lst l)) := by
  intro S0 A σ env H k r env' hm Q hp
  rcases Mo.bind_some hm with ⟨l, e1, q1, q2⟩ | ⟨x, e1, q1, q2⟩
  · cases q2
    refine h S0 A σ env H k _ _ q1 _ fun A1 q vs H1 le k1 st hq h1 hl => hp A1 _ H1 le (k1.show_ fun z => k.trA q (.inr (le.own z)) hq) st ⟨q, vs, rfl, h1, fun z => ?_, hl.weak fun b z => z.elim (fun z => .inl (.inl z)) .inr⟩
    rcases z with z | z
    · exact k.tr q z hq
    · exact k.trA q (.inr (le.own z)) hq
  · cases q2
    exact h S0 A σ env H k _ _ q1 _ fun A1 dd H1 le k1 st ex => hp A1 dd H1 le k1 st ex
theorem DF.de (h : DF X W e te ms) : DE X W e te (ms.bind fun l => Mo.ret (.lst l)) := ⟨h.pe, h.ef.xr⟩
def lnM (ds : List D) : Mo (List D) := Mo.lift (if ds.length ≤ ssz then some ds else none)
theorem df_lst (h : DA X W es t ms) : DF X W (.List es pos) (tLst t) (ms.bind lnM) := by
  refine ⟨pe_lst h.pa, ?_⟩
  intro S0 A σ env H k r env' hm Q hp
  rcases Mo.bind_some hm with ⟨l, e1, q1, q2⟩ | ⟨x, e1, q1, q2⟩
  · obtain ⟨l', w1, w2⟩ := Mo.lift_some q2
    cases w2
    split at w1
    · rename_i hz
      cases w1
      refine h.er S0 A σ env H k _ _ q1 _ fun A1 vs H1 le k1 st hv => ⟨by rw [← hv.len, ssz_eq]; exact hz, fun q hq => ?_⟩
      have hq0 : H q = none := st.dom q hq
      exact hp A1 q vs _ le (k1.hide hq) (st.trans (.of (Ext.upd hq))) hq0 upd_same (Dats.step (fun b z => z.elim (fun z => z.elim (fun z => .inl (.inl z)) fun z => .inr (by rw [z]; exact hq)) fun z => .inl (.inr z)) (.of (Ext.upd hq)) _ _ hv)
    · cases w1
  · cases q2
    exact h.er S0 A σ env H k _ _ q1 _ fun A1 dd H1 le k1 st ex => hp A1 dd H1 le k1 st ex
end
def wipeE (env : En) : List Nat → En
  | [] => env
  | v :: vs => (wipeE env vs).set v .no
def restE (e0 env : En) : List Nat → En
  | [] => env
  | v :: vs => (restE e0 env vs).set v (e0.getD v .no)
def noOwn (env : En) (vs : List Nat) : Bool := vs.all fun v => match env[v]? with
  | some (.own _ _) => false
  | some (.tab _ _) => false
  | some (.opr _ _ _) => false
  | _ => true
theorem wipeE_len (env : En) : ∀ vs : List Nat, (wipeE env vs).length = env.length
  | [] => rfl
  | v :: vs => by unfold wipeE; rw [List.length_set, wipeE_len env vs]
theorem restE_len (e0 env : En) : ∀ vs : List Nat, (restE e0 env vs).length = env.length
  | [] => rfl
  | v :: vs => by unfold restE; rw [List.length_set, restE_len e0 env vs]
theorem wipeE_in {env : En} {i : Nat} {s : SD} : ∀ {vs : List Nat}, i ∈ vs → (wipeE env vs)[i]? = some s → s = .no
  | [], h, _ => by simp at h
  | v :: vs, h, e => by
    unfold wipeE at e
    by_cases q : v = i
    · subst q
      have hl := (List.getElem?_eq_some_iff.mp e).1
      rw [List.length_set] at hl
      rw [List.getElem?_set_self hl] at e
      cases e; rfl
    · rw [List.getElem?_set_ne q] at e
      exact wipeE_in ((List.mem_cons.mp h).resolve_left fun z => q z.symm) e
theorem wipeE_out {env : En} {i : Nat} : ∀ {vs : List Nat}, i ∉ vs → (wipeE env vs)[i]? = env[i]?
  | [], _ => rfl
  | v :: vs, h => by
    unfold wipeE
    rw [List.getElem?_set_ne fun e => h (by rw [e]; exact List.mem_cons_self)]
    exact wipeE_out fun m => h (List.mem_cons_of_mem _ m)
theorem restE_in {e0 env : En} {i : Nat} {s : SD} : ∀ {vs : List Nat}, i ∈ vs → (restE e0 env vs)[i]? = some s → s = e0.getD i .no
  | [], h, _ => by simp at h
  | v :: vs, h, e => by
    unfold restE at e
    by_cases q : v = i
    · subst q
      have hl := (List.getElem?_eq_some_iff.mp e).1
      rw [List.length_set] at hl
      rw [List.getElem?_set_self hl] at e
      exact (Option.some.inj e).symm
    · rw [List.getElem?_set_ne q] at e
      exact restE_in ((List.mem_cons.mp h).resolve_left fun z => q z.symm) e
theorem restE_out {e0 env : En} {i : Nat} : ∀ {vs : List Nat}, i ∉ vs → (restE e0 env vs)[i]? = env[i]?
  | [], _ => rfl
  | v :: vs, h => by
    unfold restE
    rw [List.getElem?_set_ne fun e => h (by rw [e]; exact List.mem_cons_self)]
    exact restE_out fun m => h (List.mem_cons_of_mem _ m)
theorem noOwn_not {env : En} {vs : List Nat} {i : Nat} {b : Addr} {s : SD} (h : noOwn env vs = true) (e : env[i]? = some s) (hs : s.has b) : i ∉ vs := fun m => by
  have := List.all_eq_true.mp h i m
  rw [e] at this
  cases s with
  | no => exact hs.elim
  | val d => exact hs.elim
  | own c o => cases this
  | tab q P => cases this
  | opr d ks l => cases this
section
variable {K : PySem.W.Frag} {S0 S2 : Addr → Prop} {A A1 A2 : Ow} {σ : L2.St} {env e1 e2 : En} {H H1 H2 : Hp} {vs : List Nat}
def Ow.dels (A : Ow) (vs : List Nat) : Ow := fun j => if j ∈ vs then none else A j
theorem Ow.dels_le {A : Ow} {vs : List Nat} : Ow.le (A.dels vs) A := fun j => by
  unfold Ow.dels
  by_cases h : j ∈ vs
  · rw [if_pos h]; exact .inl rfl
  · rw [if_neg h]; exact .inr rfl
theorem Ok.wipe (k : Ok K S0 A σ env H) : Ok K S0 (A.dels vs) (L2.wipe σ vs) (wipeE env vs) H := by
  have out : ∀ {i b}, A.dels vs i = some b → i ∉ vs ∧ A i = some b := fun {i b} e => by
    unfold Ow.dels at e
    by_cases h : i ∈ vs
    · rw [if_pos h] at e; cases e
    · rw [if_neg h] at e; exact ⟨h, e⟩
  refine ⟨by rw [wipe_length, wipeE_len]; exact k.len, fun i j b h1 h2 => k.inj i j b (out h1).2 (out h2).2, fun i b h => ?_, fun i s hs => ?_, k.tr⟩
  · obtain ⟨n, e⟩ := out h
    rw [wipeE_out n]; exact k.ow i b e
  · by_cases h : i ∈ vs
    · rw [wipeE_in h hs]; trivial
    · rw [wipeE_out h] at hs
      have : A.dels vs i = A i := if_neg h
      rw [this, wipe_out h]
      exact (k.sl i s hs).keep (fun b z => .inl (Ow.dels_le.av z)) .refl fun _ _ _ _ _ => ⟨rfl, Iff.rfl⟩
theorem Ok.restore (k1 : Ok K S0 A1 σ e1 H1) (no : noOwn e1 vs = true) (k2 : Ok K S2 A2 (L2.wipe σ vs) e2 H2) (le : Ow.le A2 A1) (hS : ∀ b, S2 b → S0 b ∨ H1 b = none) (st : Stp (Own A1) H1 H2) : Ok K S2 A2 σ (restE e1 e2 vs) H2 := by
  have nin : ∀ {i b}, A2 i = some b → i ∉ vs := fun {i b} e => by
    rcases le i with z | z
    · rw [z] at e; cases e
    · rw [z] at e
      obtain ⟨c, l, q⟩ := k1.ow i b e
      exact noOwn_not no q l
  refine ⟨by rw [restE_len, ← k2.len, wipe_length], k2.inj, fun i b h => ?_, fun i s hs => ?_, k2.tr⟩
  · rw [restE_out (nin h)]; exact k2.ow i b h
  · by_cases h : i ∈ vs
    · have e := restE_in h hs
      rw [List.getD_eq_getElem?_getD] at e
      cases q : e1[i]? with
      | none => rw [q] at e; subst e; trivial
      | some s' =>
        rw [q] at e
        have e : s = s' := e
        subst e
        have z := k1.sl i s q
        cases s with
        | no => trivial
        | val d =>
          obtain ⟨v, h1, h2⟩ := z
          exact ⟨v, h1, Dat.step (fun b z => z.elim (fun z => (hS b z).imp .inl id) fun z => .inl (.inr (le.own z))) (st.mono fun b z => .inr z) d v h2⟩
        | own b l => exact absurd h (noOwn_not (b := 0) no q trivial)
        | tab a P => exact absurd h (noOwn_not no q rfl)
        | opr d ks l => exact absurd h (noOwn_not (b := 0) no q trivial)
    · rw [restE_out h] at hs
      rw [← wipe_out (σ := σ) h]
      exact k2.sl i s hs
end
/-- a target that stores to the slots vs alone -/
structure GW (g : TG) (vs : List Nat) : Prop where
  mono : ∀ v σ H Q Q', (∀ σ2 H2, Q σ2 H2 → Q' σ2 H2) → g v σ H Q → g v σ H Q'
  keep : ∀ v σ H Q, g v σ H Q → g v σ H fun σ2 H2 => L2.wipe σ2 vs = L2.wipe σ vs ∧ Q σ2 H2
theorem wipe_set {i : Nat} {x : Option V} : ∀ {vs : List Nat} {σ : L2.St}, i ∈ vs → L2.wipe (σ.set i x) vs = L2.wipe σ vs
  | [], σ, h => by simp at h
  | v :: vs, σ, h => by
    unfold L2.wipe
    by_cases q : i ∈ vs
    · rw [wipe_set q]
    · have e : i = v := (List.mem_cons.mp h).resolve_right q
      subst e
      refine List.ext_getElem? fun j => ?_
      by_cases hj : i = j
      · subst hj
        rw [List.getElem?_set, List.getElem?_set, wipe_length, wipe_length, List.length_set, if_pos rfl, if_pos rfl]
      · rw [List.getElem?_set_ne hj, List.getElem?_set_ne hj]
        by_cases hv : j ∈ vs
        · have : ∀ (τ : L2.St), j < τ.length → (L2.wipe τ vs)[j]? = some none := fun τ hl => by
            have hw : j < (L2.wipe τ vs).length := by rw [wipe_length]; exact hl
            cases z : (L2.wipe τ vs)[j]? with
            | none => rw [List.getElem?_eq_none_iff] at z; omega
            | some o =>
              cases o with
              | none => rfl
              | some u => exact absurd hv (wipe_some z).2
          by_cases hl : j < σ.length
          · rw [this σ hl, this _ (by rw [List.length_set]; exact hl)]
          · rw [List.getElem?_eq_none (by rw [wipe_length, List.length_set]; omega), List.getElem?_eq_none (by rw [wipe_length]; omega)]
        · rw [wipe_out hv, wipe_out hv, List.getElem?_set_ne hj]
theorem gw_name {i : Nat} {vs : List Nat} (h : i ∈ vs := by decide) : GW (gName i) vs := ⟨fun v σ H Q Q' hq q => hq _ _ q, fun v σ H Q q => ⟨wipe_set h, q⟩⟩
theorem wipe_wipe {σ : L2.St} : ∀ {vs ws : List Nat}, (∀ i ∈ ws, i ∈ vs) → L2.wipe (L2.wipe σ ws) vs = L2.wipe σ vs
  | vs, [], _ => rfl
  | vs, w :: ws, h => by
    show L2.wipe ((L2.wipe σ ws).set w none) vs = _
    rw [wipe_set (h w List.mem_cons_self)]
    exact wipe_wipe fun i hi => h i (List.mem_cons_of_mem _ hi)
def lcL (f : D → En → Option En) (mt : Mo Bool) (me : Mo D) (vs : List Nat) : List D → List D → Mo (List D)
  | acc, [], e => some (.ok acc, e)
  | acc, d :: ds, e => match f d e with
    | some e1 => (match mt e1 with
      | some (.ok true, e2) => (match me e2 with
        | some (.ok y, e3) => if acc.length < ssz then lcL f mt me vs (acc ++ [y]) ds (wipeE e3 vs) else none
        | _ => none)
      | some (.ok false, e2) => lcL f mt me vs acc ds (wipeE e2 vs)
      | _ => none)
    | none => none
def lcM (mi : Mo (List D)) (f : D → En → Option En) (mt : Mo Bool) (me : Mo D) (vs : List Nat) : Mo (List D) := mi.bind fun ds e1 =>
  if noOwn e1 vs = true then (match lcL f mt me vs [] ds (wipeE e1 vs) with
    | some (.ok l, e2) => some (.ok l, restE e1 e2 vs)
    | _ => none) else none
abbrev W0 : WX := fun _ _ _ _ => False
section
variable {X : Cx} {W : WX} {tg elt iter : Expr} {ifs : List Expr} {pos : Pos} {w : TI} {mi : Mo (List D)} {g : TG} {f : D → En → Option En} {tt : TT} {te : TE} {mt : Mo Bool} {me : Mo D} {vs : List Nat}
theorem xf_lc {K : PySem.W.Frag} (hi : XR RI K W w mi) (hg : GR K g f) (gw : GW g vs) (ht : XR RB K W0 tt mt) (he : XR RD K W0 te me) : XF K W (tLc w g tt te vs) (lcM mi f mt me vs) := by
  intro S0 A σ env H k r env' hm Q hp
  rcases Mo.bind_some hm with ⟨ds, e1, q1, q2⟩ | ⟨x, e1, q1, q2⟩
  rotate_left
  · cases q2
    exact hi S0 A σ env H k _ _ q1 _ fun A1 dd H1 le k1 st ex => hp A1 dd H1 le k1 st ex
  split at q2
  rotate_left
  · cases q2
  rename_i no
  split at q2
  rotate_left
  · cases q2
  rename_i l ef hl
  cases q2
  refine hi S0 A σ env H k _ _ q1 _ fun A1 J H1 le k1 st hJ => ?_
  intro D hD
  have nOwn : ∀ {B : Ow}, Ow.le B A1 → ¬ Own B D := fun l z => k1.trA D (.inr (l.own z)) hD
  refine ⟨fun i n H2 => n = ds.length - i ∧ i ≤ ds.length ∧ ∃ A2 e2 acc us, Ow.le A2 A1 ∧ Ok K (fun b => S0 b ∨ b = D) A2 (L2.wipe σ vs) e2 H2 ∧ Stp (Own A1) H1 H2 ∧ H2 D = some (.lst us) ∧ Dats K (AV (fun b => S0 b ∨ b = D) A2) H2 acc us ∧ lcL f mt me vs acc (ds.drop i) e2 = some (.ok l, ef),
    ⟨ds.length, by simp, Nat.zero_le _, A1.dels vs, _, [], [], Ow.dels_le, (k1.hide hD).wipe, .of (Ext.upd hD), upd_same, rfl, hl⟩, ?_⟩
  rintro i n H2 ⟨rfl, hi', A2, e2, acc, us, l2, k2, s2, hD2, hacc, w2⟩
  have it := hJ (AV (fun b => S0 b ∨ b = D) A2) H2 (s2.mono fun b z => .inr z) (fun b z => z.elim (fun z => z.elim (fun z => .inl (.inl z)) fun z => .inr (by rw [z]; exact hD)) fun z => .inl (.inr (l2.own z))) k2.trA i
  by_cases hlt : i < ds.length
  · have hd : ds[i]? = some ds[i] := List.getElem?_eq_getElem hlt
    obtain ⟨go, yl⟩ := it.1 _ hd
    rw [List.drop_eq_getElem_cons hlt] at w2
    unfold lcL at w2
    split at w2
    rotate_left
    · cases w2
    rename_i e3 qf
    refine .inr ⟨go, fun H' => ∃ A3 e4 acc us, Ow.le A3 A1 ∧ Ok K (fun b => S0 b ∨ b = D) A3 (L2.wipe σ vs) e4 H' ∧ Stp (Own A1) H1 H' ∧ H' D = some (.lst us) ∧ Dats K (AV (fun b => S0 b ∨ b = D) A3) H' acc us ∧ lcL f mt me vs acc (ds.drop (i + 1)) e4 = some (.ok l, ef), fun H' q => ⟨ds.length - (i + 1), by omega, rfl, hlt, q⟩, fun x H3 hy => ?_⟩
    obtain ⟨ex, hx⟩ := yl x H3 hy
    refine gw.mono _ _ _ _ _ ?_ (gw.keep _ _ _ _ (hg (fun b => S0 b ∨ b = D) A2 (L2.wipe σ vs) e2 H3 (k2.ext ex) _ x hx e3 qf (fun σ4 H4 => ∃ A4, Ok K (fun b => S0 b ∨ b = D) A4 σ4 e3 H4 ∧ Ow.le A4 A2 ∧ Stp (Own A2) H3 H4) fun A4 σ4 H4 k4 l4 s4 => ⟨A4, k4, l4, s4⟩))
    rintro σ4 H4 ⟨ew, A4, k4, l4, s4⟩
    rw [wipe_wipe fun _ h => h] at ew
    have st4 : Stp (Own A1) H1 H4 := s2.trans ((Stp.of ex).trans (s4.mono fun b => l2.own))
    refine ⟨ew, ?_⟩
    -- the tests
    split at w2
    · rename_i e5 qt
      refine ht _ A4 σ4 e3 H4 k4 _ _ qt _ fun A5 b H5 l5 k5 s5 rb => ?_
      cases (show true = b from rb)
      rw [if_pos rfl]
      split at w2
      rotate_left
      · cases w2
      rename_i y e6 qe
      split at w2
      rotate_left
      · cases w2
      rename_i hz
      refine he _ A5 σ4 e5 H5 k5 _ _ qe _ fun A6 v H6 l6 k6 s6 hv => ?_
      have l61 : Ow.le A6 A1 := l6.trans (l5.trans (l4.trans l2))
      have st2 : Stp (Own A2) H2 H6 := (Stp.of ex).trans (s4.trans ((s5.mono fun b => l4.own).trans (s6.mono fun b z => l4.own (l5.own z))))
      have st6 : Stp (Own A1) H1 H6 := st4.trans ((s5.mono fun b z => l2.own (l4.own z)).trans (s6.mono fun b z => l2.own (l4.own (l5.own z))))
      have hD6 : H6 D = some (.lst us) := st2.at_ D _ (nOwn l2) hD2
      have hacc6 : Dats K (AV (fun b => S0 b ∨ b = D) A6) H6 acc us := Dats.step (fun b z => z.elim (fun z => .inl (.inl z)) fun z => .inl (.inr (l4.own (l5.own (l6.own z))))) (st2.mono fun b z => .inr z) _ _ hacc
      refine ⟨us, hD6, by rw [← hacc.len, ssz_eq]; exact hz, ?_⟩
      have tr : Stp (AV (fun b => S0 b ∨ b = D) A6) H6 (L2.upd H6 D (.lst (us ++ [v]))) := stp_upd.mono fun b e => .inl (.inr e)
      have kD : Ok K (fun b => S0 b ∨ b = D) A6 σ4 e6 (L2.upd H6 D (.lst (us ++ [v]))) := by
        refine ⟨k6.len, k6.inj, k6.ow, fun j s hs => (k6.sl j s hs).keep (fun _ z => .inl z) tr fun b m q _ hq => ⟨?_, Iff.rfl⟩, fun b z => ?_⟩
        · rw [upd_ne (show q ≠ D from fun e => nOwn l61 ⟨j, e ▸ hq⟩)]
        · by_cases e : b = D
          · rw [e, upd_same]; intro z; cases z
          · rw [upd_ne e]; exact k6.tr b z
      refine ⟨A6.dels vs, _, acc ++ [y], us ++ [v], Ow.dels_le.trans l61, ew ▸ kD.wipe, ⟨fun b o n e => ?_, fun b q => ?_⟩, upd_same, ?_, w2⟩
      · have nb : b ≠ D := fun z => by rw [z, hD] at e; cases e
        rw [upd_ne nb]; exact st6.at_ b o n e
      · by_cases e : b = D
        · rw [e]; exact hD
        · rw [upd_ne e] at q; exact st6.dom b q
      · exact Dats.step (fun b z => .inl (Ow.dels_le.av z)) tr _ _ (hacc6.append (.one hv))
    · rename_i e5 qt
      refine ht _ A4 σ4 e3 H4 k4 _ _ qt _ fun A5 b H5 l5 k5 s5 rb => ?_
      cases (show false = b from rb)
      rw [if_neg Bool.false_ne_true]
      have l51 : Ow.le A5 A1 := l5.trans (l4.trans l2)
      have st2 : Stp (Own A2) H2 H5 := (Stp.of ex).trans (s4.trans (s5.mono fun b => l4.own))
      have st5 : Stp (Own A1) H1 H5 := st4.trans (s5.mono fun b z => l2.own (l4.own z))
      refine ⟨A5.dels vs, _, acc, us, Ow.dels_le.trans l51, ew ▸ k5.wipe, st5, st2.at_ D _ (nOwn l2) hD2, ?_, w2⟩
      exact Dats.step (fun b z => z.elim (fun z => .inl (.inl z)) fun z => .inl (.inr (l4.own (l5.own (Ow.dels_le.own z))))) (st2.mono fun b z => .inr z) _ _ hacc
    · cases w2
  · have e : i = ds.length := by omega
    rw [List.drop_eq_nil_of_le (by omega)] at w2
    cases w2
    refine .inl ⟨it.2 e, hp A2 D us H2 (l2.trans le) (k1.restore no k2 l2 (fun b z => z.imp id fun z => by rw [z]; exact hD) s2) (st.trans (s2.mono fun b => le.own)) (st.dom D hD) hD2 hacc⟩
structure DTs (X : Cx) (ifs : List Expr) (t : TT) (m : Mo Bool) : Prop where
  pt : PTs X ifs t
  er : XR RB X.K W0 t m
theorem dts_nil : DTs X [] tYes (Mo.ret true) := ⟨pts_nil, xr_retB⟩
theorem dts_one {c : Expr} (h : DT X W0 c tt mt) : DTs X [c] tt mt := ⟨pts_one h.pt, h.er⟩
variable {scope : Scope} {own : List (Str × Nat)}
theorem df_lc (hc : X.calm = true) (hN : X.N.Nodup) (hi : DI X W tg iter w mi) (ok : BlkOk X.N X.env.scope scope own)
    (hg : ∀ (s : Shared) (H : Hp) (C : Addr) (cl : List (Str × Addr)) (fp : List Addr), DG (X.blk s H scope (compEnvC scope cl C X.env) fp) tg g f) (gw : GW g (own.map (·.2)))
    (ht : ∀ (s : Shared) (H : Hp) (C : Addr) (cl : List (Str × Addr)) (fp : List Addr), DTs (X.blk s H scope (compEnvC scope cl C X.env) fp) ifs tt mt)
    (he : ∀ (s : Shared) (H : Hp) (C : Addr) (cl : List (Str × Addr)) (fp : List Addr), DE (X.blk s H scope (compEnvC scope cl C X.env) fp) W0 elt te me) (hs : ∀ x, foldedSetIterable iter X.env x = pure x := by intro _; rfl) :
    DF X W (.ListComp elt [⟨tg, iter, ifs, 0⟩] scope pos) (tLc w g tt te (own.map (·.2))) (lcM mi f mt me (own.map (·.2))) :=
  ⟨pe_lc hc hN hi.pi ok (fun s H C cl fp => (hg s H C cl fp).pg) (fun s H C cl fp => (ht s H C cl fp).pt) (fun s H C cl fp => (he s H C cl fp).pe) hs,
   xf_lc hi.ir (hg X.s_0 (fun _ => none) 0 [] []).gr gw (ht X.s_0 (fun _ => none) 0 [] []).er (he X.s_0 (fun _ => none) 0 [] []).er⟩
end
end PD
namespace PD
open PySem PySem.Spec PyProof.Rows L2
section
variable {X : Cx} {W : WX} {a b c e elt iter : Expr} {es ifs : List Expr} {ta tb tc te : TE} {t : TA} {ma mb mc me : Mo D} {ms : Mo (List D)} {p pos apos : Pos} {x : Str}
def ownS (ms : Mo (List D)) (i : Nat) : Sm := ofM ms fun l env => if i < env.length then some (.nx, env.set i (.own true ⟨.lst, l⟩)) else none
theorem sr_setO {i : Nat} {K : PySem.W.Frag} (h : XF K W te ms) : SR K W (tAsg te (gName i)) (ownS ms i) := by
  intro S0 A σ env H k o env' hm D hp
  rcases ofM_some hm with ⟨l, e1, q1, q2⟩ | ⟨y, e1, q1, q2⟩
  · split at q2
    · rename_i hi
      cases q2
      refine h S0 A σ env H k _ _ q1 _ fun A1 q vs H1 le k1 st hq h1 hl => ?_
      have n0 : ¬ S0 q := fun z => k.tr q z hq
      have nA : ¬ Own A1 q := fun z => k.trA q (.inr (le.own z)) hq
      refine hp _ _ H1 (k1.setOwn (.ofLst h1 hl) n0 nA hi) ⟨st, fun b ⟨j, z⟩ => ?_⟩
      by_cases hj : j = i
      · rw [hj, Ow.put_same] at z; cases z; exact .inr hq
      · rw [Ow.put_ne hj, Ow.del_ne hj] at z; exact .inl (le.own ⟨j, z⟩)
    · cases q2
  · cases q2
    exact h S0 A σ env H k _ _ q1 _ fun A1 dd H1 le k1 st ex => hp A1 σ H1 k1 (.le le st) dd ex
theorem ds_setO {i : Nat} {y : Str} {pos' : Pos} (hN : X.N.Nodup) (he : DF X W e te ms) (hi : X.N[i]? = some y := by rfl) (hx : Loc X.env.scope y := by first | exact Or.inl rfl | exact Or.inr rfl) (hs : swapsWith e (some (.Name y pos')) pos.line X.env = pure false := by rfl) (hf : X.fn y = true ∨ X.env.scope.names.lookup y = some .local := by first | exact .inl rfl | exact .inr rfl | assumption) :
    DS X W (.Assign [.Name y pos'] e pos) (tAsg te (gName i)) (ownS ms i) := ⟨ps_set hN hi hx he.pe hs hf, sr_setO he.ef⟩
/-- a comprehension given to a name on one line: its statement's rule, then either reading -/
theorem ds_lcV {i : Nat} {s : Stmt} (hp : PS X s (tAsg te (gName i))) (h : XF X.K W te ms) : DS X W s (tAsg te (gName i)) (asgS (ms.bind fun l => Mo.ret (.lst l)) (setE i)) := ⟨hp, sr_asg h.xr gr_name⟩
/-- the rule of such a statement -/
theorem ps_lc {i : Nat} {y : Str} {py spos : Pos} {tg : Expr} {scope : Scope} {own : List (Str × Nat)} {w : TI} {mi : Mo (List D)} {g : TG} {f : D → En → Option En} {tt : TT} {mt : Mo Bool} (hc : X.calm = true) (hN : X.N.Nodup) (hi : DI X W tg iter w mi) (ok : BlkOk X.N X.env.scope scope own)
    (hg : ∀ (s : Shared) (H : Hp) (C : Addr) (cl : List (Str × Addr)) (fp : List Addr), DG (X.blk s H scope (compEnvC scope cl C X.env) fp) tg g f) (gw : GW g (own.map (·.2)))
    (ht : ∀ (s : Shared) (H : Hp) (C : Addr) (cl : List (Str × Addr)) (fp : List Addr), DTs (X.blk s H scope (compEnvC scope cl C X.env) fp) ifs tt mt)
    (he : ∀ (s : Shared) (H : Hp) (C : Addr) (cl : List (Str × Addr)) (fp : List Addr), DE (X.blk s H scope (compEnvC scope cl C X.env) fp) W0 elt te me)
    (hy : X.N[i]? = some y := by rfl) (hyl : X.env.scope.names.lookup y = some .local := by rfl)
    (hsw : swapsWith (.ListComp elt [⟨tg, iter, ifs, 0⟩] scope pos) (some (.Name y py)) spos.line X.env = pure true := by exact sw_true rfl rfl rfl (by decide +kernel))
    (hs : ∀ x, foldedSetIterable iter X.env x = pure x := by intro _; rfl) :
    PS X (.Assign [.Name y py] (.ListComp elt [⟨tg, iter, ifs, 0⟩] scope pos) spos) (tAsg (tLc w g tt te (own.map (·.2))) (gName i)) ∧ XF X.K W (tLc w g tt te (own.map (·.2))) (lcM mi f mt me (own.map (·.2))) :=
  ⟨ps_setLc hc hN hy hyl hsw hi.pi ok (fun s H C cl fp => (hg s H C cl fp).pg) (fun s H C cl fp => (ht s H C cl fp).pt) (fun s H C cl fp => (he s H C cl fp).pe) hs,
   xf_lc hi.ir (hg X.s_0 (fun _ => none) 0 [] []).gr gw (ht X.s_0 (fun _ => none) 0 [] []).er (he X.s_0 (fun _ => none) 0 [] []).er⟩
/-- a method that changes an own list and gives None -/
structure MtO (X : Cx) (id : String) (r : V → List V → Hp → VK → Prop) (g : List D → List D → Option (List D)) : Prop where
  mt : MtR X id r
  ok : ∀ (S : Addr → Prop) (H : Hp) q vs l us ds l', H q = some (.lst vs) → Dats X.K S H l vs → Dats X.K S H ds us → g l ds = some l' → ∀ Q : VK, (∀ vs', (∀ S' H', Dats X.K S' H' l vs → Dats X.K S' H' ds us → Dats X.K S' H' l' vs') → Q .non (L2.upd H q (.lst vs'))) → r (.ref q) us H Q
def mutM (i : Nat) (g : List D → List D → Option (List D)) (ms : Mo (List D)) : Mo D := fun env => match env[i]? with
  | some (.own _ ⟨.lst, _⟩) => (ms.bind fun ds e1 => match e1[i]? with
    | some (.own b ⟨.lst, l⟩) => (match g l ds with
      | some l' => some (.ok .non, e1.set i (.own b ⟨.lst, l'⟩))
      | none => none)
    | _ => none) env
  | _ => none
theorem xr_mut {i : Nat} {id : String} {r : V → List V → Hp → VK → Prop} {g : List D → List D → Option (List D)} (hm : MtO X id r g) (ha : XR RDs X.K W t ms) : XR RD X.K W (tBM X.K "list" r (tVar i) t) (mutM i g ms) := by
  intro S0 A σ env H k r0 env' hm0 Q hp
  unfold mutM at hm0
  split at hm0
  · rename_i b0 l0 q0
    obtain ⟨a, z1, z2, z3, z5⟩ := k.sl i _ q0
    obtain ⟨vs0, z3, _⟩ := z3.lst
    refine ⟨_, z2, .inl ⟨rfl, vs0, SqL.of z3⟩, ?_⟩
    rcases Mo.bind_some hm0 with ⟨ds, e1, q1, q2⟩ | ⟨y, e1, q1, q2⟩
    · refine ha S0 A σ env H k _ _ q1 _ fun A1 us H1 le k1 st hu => ?_
      split at q2
      · rename_i b l q
        split at q2
        · rename_i l' hg
          cases q2
          obtain ⟨a', y1, y2, y3, y5⟩ := k1.sl i _ q
          rw [z2] at y2; cases y2
          obtain ⟨vs, y3, y4⟩ := y3.lst
          refine hm.ok _ H1 a vs l us ds l' y3 y4 hu hg Q fun vs' hv => ?_
          have hOwn : Own A1 a := ⟨i, y1⟩
          have tr : Stp (AV S0 A1) H1 (L2.upd H1 a (.lst vs')) := stp_upd.mono fun b e => by rw [e]; exact .inr hOwn
          refine hp A1 .non _ le (k1.chg q y1 stp_upd (.ofLst upd_same (hv _ _ (Dats.step (fun b z => .inl z) tr _ _ y4) (Dats.step (fun b z => .inl z) tr _ _ hu)))) (st.trans (stp_upd.mono fun b e => by rw [e]; exact le.own hOwn)) rfl
        · cases q2
      · cases q2
    · cases q2
      exact ha S0 A σ env H k _ _ q1 _ fun A1 dd H1 le k1 st ex => hp A1 dd H1 le k1 st ex
  · cases hm0
def appD : List D → List D → Option (List D)
  | l, [d] => if l.length < ssz then some (l ++ [d]) else none
  | _, _ => none
theorem mo_append : MtO X "list.append" rAppend appD := by
  refine ⟨mt_append, fun S H q vs l us ds l' hq hl hd hg Q hQ => ?_⟩
  unfold appD at hg
  split at hg
  · split at hg
    · rename_i d hz
      cases hg
      obtain ⟨v, r, e, h1, h2⟩ := hd
      cases (show r = [] from h2); subst e
      exact ⟨q, vs, v, rfl, rfl, hq, by rw [← hl.len, ssz_eq]; exact hz, hQ _ fun S' H' x y => x.append y⟩
    · cases hg
  · cases hg
theorem de_append (i : Nat) {y : Str} {py : Pos} (ha : DE X W e te me) (hN : X.N[i]? = some y := by rfl) (hvy : Vis X.env.scope y := by first | exact Or.inl rfl | exact Or.inr (Or.inl rfl) | exact Or.inr (Or.inr rfl))
    (hdy : (y == ("__debug__" : Str)) = false := by decide) (hcy : (y == ("__classdict__" : Str)) = false := by decide)
    (hpe : PE X (.Name y py) (tVar i) → PE X e te → PE X (.Call (.Attribute (.Name y py) "append" apos) [e] [] pos) (tBM X.K "list" rAppend (tVar i) (tCons te tNil)) := by
      intro h1 h2; exact pe_bm PySem.F.plainAttrs_list PySem.F.slot_list_append PySem.F.type_list_append mt_append h1 (pa_cons h2 pa_nil)) :
    DE X W (.Call (.Attribute (.Name y py) "append" apos) [e] [] pos) (tBM X.K "list" rAppend (tVar i) (tCons te tNil)) (mutM i appD (me.bind fun d => (Mo.ret []).bind fun ds => Mo.ret (d :: ds))) :=
  ⟨hpe (pe_var hN hvy hdy hcy) ha.pe, xr_mut mo_append (xr_cons ha.er fun S0 A σ env H k r env' hm Q hp => by cases hm; exact hp A [] H .refl k .refl rfl)⟩
end
section
variable {X : Cx} {W : WX} {e : Expr} {es : List Expr} {te : TE} {t : TA} {ms : Mo (List D)} {p pos : Pos} {x : Str} {k : Nat}
theorem ds_retF (he : DF X W e te ms) : DS X W (.Return (some e) pos) (tRet te) (ofM ms fun l e => some (.rf l, e)) := by
  refine ⟨ps_ret he.pe, ?_⟩
  intro S0 A σ env H k o env' hm D hp
  rcases ofM_some hm with ⟨l, e1, q1, q2⟩ | ⟨y, e1, q1, q2⟩
  · cases q2
    refine he.ef S0 A σ env H k _ _ q1 _ fun A1 q vs H1 le k1 st hq h1 hl => ?_
    have nA : ¬ AV S0 A1 q := fun z => k.trA q (le.av z) hq
    exact hp A1 σ H1 (k1.show_ fun z => nA (.inr z)) (.le le st) q vs hq h1 nA (hl.weak fun b z => z.elim (fun z => z.elim (fun z => .inl (.inl z)) fun z => .inr z) fun z => .inl (.inr z))
  · cases q2
    exact he.ef S0 A σ env H k _ _ q1 _ fun A1 dd H1 le k1 st ex => hp A1 σ H1 k1 (.le le st) dd ex
/-- the promise: a new list is returned -/
def spF (K : PySem.W.Frag) (f : List D → Option (List D)) : Sp := fun vs H Q E => ∃ (S : Addr → Prop) (ds l : List D), (∀ b, S b → H b ≠ none) ∧ Dats K S H ds vs ∧ f ds = some l ∧
  ∀ q ws H', Ext H H' → H q = none → H' q = some (.lst ws) → Dats K (fun b => S b ∨ b = q) H' l ws → Q (.ref q) H'
theorem df_callF {f : List D → Option (List D)} (G : Gd X.prog X.w X.K X.mg X.base x k (spF X.K f)) (hr : RoomG k X.A) (tk : Takes X W) (hg : Gl X x) (ha : DA X W (e :: es) t ms) (hdb : (x == ("__debug__" : Str)) = false := by decide)
    (he : starEach (e :: es) X.env = (false, eval e X.env) :: starEach es X.env := by rfl) (hpl : (backTo pos (starEach es X.env)).any (·.1) = false := by rfl) :
    DF X W (.Call (.Name x p) (e :: es) [] pos) (tCallSD (spF X.K f) [] (WE W) t) (ms.bind fun ds => Mo.lift (f ds)) := by
  obtain ⟨fa, fd, ps, F, hm, hk, hb⟩ := G
  refine ⟨pe_callG F hr hg hm hk hb .nil (fun σ => passAt tk σ) ha.pa hdb he hpl, ?_⟩
  intro S0 A σ env H k r env' hm Q hp
  rcases Mo.bind_some hm with ⟨ds, e1, q1, q2⟩ | ⟨y, e1, q1, q2⟩
  · obtain ⟨l, w1, w2⟩ := Mo.lift_some q2
    cases w2
    refine ha.er S0 A σ env H k _ _ q1 _ fun A1 vs H1 le k1 st hv => ?_
    refine ⟨AV S0 A1, ds, l, k1.trA, by rw [List.append_nil]; exact hv, w1, fun q ws H2 ex hq hw hl => ?_⟩
    have hq0 : H q = none := st.dom q hq
    have k2 : Ok X.K (fun b => S0 b ∨ b = q) A1 σ env' H2 := by
      have k1' := k1.ext ex
      refine ⟨k1'.len, k1'.inj, k1'.ow, fun i s hs => (k1.sl i s hs).keep (fun b z => ?_) (.of ex) fun b l p _ hp' => ⟨?_, fun w => ?_, .inl⟩, fun b z => ?_⟩
      · rcases z with (z | z) | z
        · exact .inl (.inl z)
        · exact .inr (by rw [z]; exact hq)
        · exact .inl (.inr z)
      · obtain ⟨ho, w⟩ := k1.at_ hp'
        rw [w]; exact ex _ _ w
      · rcases w with w | w
        · exact w
        · obtain ⟨ho, z⟩ := k1.at_ hp'
          rw [w, hq] at z; cases z
      · rcases z with z | z
        · exact k1'.tr b z
        · rw [z, hw]; intro q; cases q
    refine hp A1 q ws H2 le k2 (st.trans (.of ex)) hq0 hw (Dats.step (fun b z => .inl ?_) .refl _ _ hl)
    exact z.elim (fun z => z.elim (fun z => .inl (.inl z)) fun z => .inr z) fun z => .inl (.inr z)
  · cases q2
    exact ha.er S0 A σ env H k _ _ q1 _ fun A1 dd H1 le k1 st ex => hp A1 dd H1 le k1 st ex
end
def outR : Out → Option (Except Ex D)
  | .nx => some (.ok .non)
  | .rt d => some (.ok d)
  | .rf l => some (.ok (.lst l))
  | .ex x => some (.error x)
  | _ => none
def stE (N : List Str) (ds : List D) : En := ds.map .val ++ List.replicate (N.length - ds.length) .no
def stO (N : List Str) (o : OV) (ds : List D) : En := .own false o :: (ds.map .val ++ List.replicate (N.length - (ds.length + 1)) .no)
theorem start_get {N : List Str} {vs : List V} {i : Nat} (h : i < vs.length) : (L2.start N vs)[i]? = some (vs[i]?) := by
  unfold L2.start
  rw [List.getElem?_append_left (by simpa using h), List.getElem?_map]
  rw [List.getElem?_eq_getElem h]; rfl
theorem start_len {N : List Str} {vs : List V} (h : vs.length ≤ N.length) : (L2.start N vs).length = N.length := by
  unfold L2.start
  rw [List.length_append, List.length_map, List.length_replicate]; omega
section
variable {P : Program} {w : World} {K : PySem.W.Frag} {mg : Str → Option Value} {base : Heap}
theorem ok_start {S : Addr → Prop} {H : Hp} {N : List Str} {vs : List V} {ds : List D} (hS : ∀ b, S b → H b ≠ none) (h : Dats K S H ds vs) (hl : ds.length ≤ N.length) : Ok K S (fun _ => none) (L2.start N vs) (stE N ds) H := by
  have e := h.len
  refine ⟨?_, fun i j b q => (nomatch q), fun i b q => (nomatch q), fun i s hs => ?_, hS⟩
  · rw [start_len (by omega)]; unfold stE; rw [List.length_append, List.length_map, List.length_replicate]; omega
  · unfold stE at hs
    by_cases hi : i < ds.length
    · rw [List.getElem?_append_left (by simpa using hi), List.getElem?_map, List.getElem?_eq_getElem hi] at hs
      cases hs
      obtain ⟨v, hv, hd⟩ := h.get (List.getElem?_eq_getElem hi)
      exact ⟨v, by rw [start_get (by omega), hv], hd.weak fun b z => z.elim id fun ⟨j, z⟩ => (nomatch z)⟩
    · rw [List.getElem?_append_right (by simpa using hi), List.getElem?_replicate] at hs
      split at hs
      · cases hs; trivial
      · cases hs
theorem fn_P {x qual : Str} {st : Stmt} {f : Addr} {fd : FuncData} {N ps : List Str} {k : Nat} {fM : List D → Option (Except Ex D)} (F : Fun K x qual st f fd) (S : FnScope N ps (defScope st)) (hlen : ∀ ds r, fM ds = some r → ds.length = ps.length)
    (body : ∀ (cdv : Value) (A : Around) (outer : List Env) (s : Shared) (H : Hp) (E : XK), RoomG k (A.deeper (envOfC qual (defScope st) s.heap.objs.size f cdv)) →
      ∃ t m, DSs (cxOf (L2.CX P w) P w K mg base N qual (defScope st) f cdv A outer s H E) (fun c d _ H => E c d H) (defBody st) t m ∧ ∀ ds r, fM ds = some r → ∃ o env', m (stE N ds) = some (o, env') ∧ outR o = some r) :
    FnG P w K mg base (L2.CX P w) (k + 1) f fd ps (spP K fM) := by
  have hps : ps.length ≤ N.length := by have := congrArg List.length S.pre; rw [List.length_take] at this; omega
  refine okG F S (fun vs H Q E h => ?_) (fun cdv A outer s H vs Q E hr h => ?_)
  · obtain ⟨S, ds, r, h1, h2, h3, _⟩ := h
    rw [← h2.len]; exact hlen ds r h3
  · obtain ⟨S0, ds, r, h1, h2, h3, h4⟩ := h
    obtain ⟨t, m, hd, hm⟩ := body cdv A outer s H E hr
    obtain ⟨o, env', hm, ho⟩ := hm ds r h3
    refine ⟨t, hd.ps, hd.sr S0 (fun _ => none) _ _ H (ok_start h1 h2 (by rw [hlen ds r h3]; exact hps)) o env' hm _ fun A' σ' H' k' g => ?_⟩
    have ex : Ext H H' := fun b o e => g.1.at_ b o (fun ⟨j, z⟩ => (nomatch z)) e
    have wk : ∀ {d v}, Dat K (AV S0 A') H' d v → Dat K S0 H' d v := fun z => z.weak fun b => .inl
    cases o with
    | nx => cases ho; exact h4 .non H' ex rfl
    | rt d => cases ho; exact fun v hv => h4 v H' ex (wk hv)
    | rf l => cases ho; exact fun p vs hp hq hn hl => h4 (.ref p) H' ex ⟨p, vs, rfl, hq, fun z => hn (.inl z), hl.weak fun b z => .inl (.inl z)⟩
    | bk => cases ho
    | ct => cases ho
    | ex y =>
      cases ho
      refine fun dd hx => h4 dd H' ex ?_
      cases dd with
      | none => exact hx
      | some q => obtain ⟨vs, z1, zn, z2, z3⟩ := hx; exact ⟨vs, z1, fun z => zn (.inl z), z2, z3.weak fun b => .inl⟩
def oneOw (q : Addr) : Ow := fun i => if i = 0 then some q else none
theorem oneOw_some {q b : Addr} {j : Nat} (h : oneOw q j = some b) : j = 0 ∧ b = q := by
  unfold oneOw at h
  split at h
  · rename_i e; cases h; exact ⟨e, rfl⟩
  · cases h
theorem ok_startO {S : Addr → Prop} {H : Hp} {N : List Str} {q : Addr} {l : OV} {vs : List V} {ds : List D} (hS : ∀ b, S b → H b ≠ none) (hq : S q) (ho : OVAt K S H l q) (h : Dats K S H ds vs) (hl : ds.length + 1 ≤ N.length) :
    Ok K S (oneOw q) (L2.start N (.ref q :: vs)) (stO N l ds) H := by
  have e := h.len
  have av : ∀ b, AV S (oneOw q) b → S b := fun b z => z.elim id fun ⟨j, z⟩ => by rw [(oneOw_some z).2]; exact hq
  refine ⟨?_, fun i j b h1 h2 => by rw [(oneOw_some h1).1, (oneOw_some h2).1], fun i b h1 => by rw [(oneOw_some h1).1]; exact ⟨.own false l, trivial, rfl⟩, fun i s hs => ?_, hS⟩
  · rw [start_len (by rw [List.length_cons]; omega)]; unfold stO; rw [List.length_cons, List.length_append, List.length_map, List.length_replicate]; omega
  · cases i with
    | zero =>
      cases hs
      exact ⟨q, rfl, by rw [start_get (by simp)]; rfl, ho.step (fun b z => .inl (av b z)) .refl rfl, fun z => (nomatch z), fun _ => hq⟩
    | succ i =>
      unfold stO at hs
      rw [List.getElem?_cons_succ] at hs
      by_cases hi : i < ds.length
      · rw [List.getElem?_append_left (by simpa using hi), List.getElem?_map, List.getElem?_eq_getElem hi] at hs
        cases hs
        obtain ⟨v, hv, hd⟩ := h.get (List.getElem?_eq_getElem hi)
        refine ⟨v, ?_, hd.weak av⟩
        rw [start_get (by rw [List.length_cons]; omega), List.getElem?_cons_succ, hv]
      · rw [List.getElem?_append_right (by simpa using hi), List.getElem?_replicate] at hs
        split at hs
        · cases hs; trivial
        · cases hs
theorem fn_M {x qual : Str} {st : Stmt} {f : Addr} {fd : FuncData} {N ps : List Str} {k : Nat} {fM : OV → List D → Option (Except Ex D × OV)} (F : Fun K x qual st f fd) (S : FnScope N ps (defScope st)) (hlen : ∀ l ds r, fM l ds = some r → ds.length + 1 = ps.length)
    (body : ∀ (cdv : Value) (A : Around) (outer : List Env) (s : Shared) (H : Hp) (E : XK), RoomG k (A.deeper (envOfC qual (defScope st) s.heap.objs.size f cdv)) →
      ∃ t m, DSs (cxOf (L2.CX P w) P w K mg base N qual (defScope st) f cdv A outer s H E) (fun c d _ H => E c d H) (defBody st) t m ∧ ∀ l ds r l', fM l ds = some (r, l') → ∃ o env', m (stO N l ds) = some (o, env') ∧ outR o = some r ∧ env'[0]? = some (.own false l')) :
    FnG P w K mg base (L2.CX P w) (k + 1) f fd ps (spM K fM) := by
  have hps : ps.length ≤ N.length := by have := congrArg List.length S.pre; rw [List.length_take] at this; omega
  refine okG F S (fun vs H Q E h => ?_) (fun cdv A outer s H vs Q E hr h => ?_)
  · obtain ⟨S, q, l, rest, ds, r, l', rfl, _, _, _, h2, h3, _⟩ := h
    rw [List.length_cons, ← h2.len]; exact hlen l ds _ h3
  · obtain ⟨S0, q, l, rest, ds, r, l', rfl, hq, h1, ho, h2, h3, h4⟩ := h
    obtain ⟨t, m, hd, hm⟩ := body cdv A outer s H E hr
    obtain ⟨o, env', hm, ho', h0⟩ := hm l ds r l' h3
    refine ⟨t, hd.ps, hd.sr S0 _ _ _ H (ok_startO h1 hq ho h2 (by rw [hlen l ds _ h3]; exact hps)) o env' hm _ fun A' σ' H' k' g => ?_⟩
    have st : Stp (fun b => b = q) H H' := g.1.mono fun b ⟨j, z⟩ => (oneOw_some z).2
    obtain ⟨q', z1, z2, z3, z4, z5⟩ := k'.sl 0 _ h0
    -- the slot 0 still holds what was lent
    have eq : q' = q := by
      rcases g.2 q' ⟨0, z1⟩ with ⟨j, z⟩ | z
      · exact (oneOw_some z).2
      · exact absurd z (h1 q' (z5 rfl))
    have wk : ∀ {d v}, Dat K (AV S0 A') H' d v → Dat K S0 H' d v := fun z => z.weak fun b => .inl
    have ov : OVAt K S0 H' l' q := eq ▸ z3.step (fun b z => .inl (.inl z)) .refl rfl
    cases o with
    | nx => cases ho'; exact h4 .non H' st ov rfl
    | rt d => cases ho'; exact fun v hv => h4 v H' st ov (wk hv)
    | rf l => cases ho'; exact fun p vs hp hq hn hl => h4 (.ref p) H' st ov ⟨p, vs, rfl, hq, fun z => hn (.inl z), hl.weak fun b z => .inl (.inl z)⟩
    | bk => cases ho'
    | ct => cases ho'
    | ex y =>
      cases ho'
      refine fun dd hx => h4 dd H' st ov ?_
      cases dd with
      | none => exact hx
      | some q => obtain ⟨vs, z1, zn, z2, z3⟩ := hx; exact ⟨vs, z1, fun z => zn (.inl z), z2, z3.weak fun b => .inl⟩
theorem fn_F {x qual : Str} {st : Stmt} {f : Addr} {fd : FuncData} {N ps : List Str} {k : Nat} {fM : List D → Option (List D)} (F : Fun K x qual st f fd) (S : FnScope N ps (defScope st)) (hlen : ∀ ds r, fM ds = some r → ds.length = ps.length)
    (body : ∀ (cdv : Value) (A : Around) (outer : List Env) (s : Shared) (H : Hp) (E : XK), RoomG k (A.deeper (envOfC qual (defScope st) s.heap.objs.size f cdv)) →
      ∃ t m, DSs (cxOf (L2.CX P w) P w K mg base N qual (defScope st) f cdv A outer s H E) (fun c d _ H => E c d H) (defBody st) t m ∧ ∀ ds l, fM ds = some l → ∃ env', m (stE N ds) = some (.rf l, env')) :
    FnG P w K mg base (L2.CX P w) (k + 1) f fd ps (spF K fM) := by
  have hps : ps.length ≤ N.length := by have := congrArg List.length S.pre; rw [List.length_take] at this; omega
  refine okG F S (fun vs H Q E h => ?_) (fun cdv A outer s H vs Q E hr h => ?_)
  · obtain ⟨S, ds, r, h1, h2, h3, _⟩ := h
    rw [← h2.len]; exact hlen ds r h3
  · obtain ⟨S0, ds, l, h1, h2, h3, h4⟩ := h
    obtain ⟨t, m, hd, hm⟩ := body cdv A outer s H E hr
    obtain ⟨env', hm⟩ := hm ds l h3
    refine ⟨t, hd.ps, hd.sr S0 (fun _ => none) _ _ H (ok_start h1 h2 (by rw [hlen ds l h3]; exact hps)) _ env' hm _ fun A' σ' H' k' g => ?_⟩
    have ex : Ext H H' := fun b o e => g.1.at_ b o (fun ⟨j, z⟩ => (nomatch z)) e
    exact fun q vs hp hq hn hl => h4 q vs H' ex hp hq (hl.weak fun b z => z.imp .inl id)
end
end PD
namespace PD
open PySem PySem.W PySem.Spec PyProof.Rows PySem.Calls
open Sem (wp)
section
variable {prog : Program} {w : World} {M : Model} {A : Around} {E : Value → Shared → Prop} {s : Shared} {K : Frag} {x C L f dx : Addr} {h₀ : Heap} {m : Str → Option Value} {ox : Obj} {od : Option Obj}
/-- a two-place operator of two instances of one class, or of an instance and an int -/
theorem bin_left {op : Operator} {b : Value} {rc : Option Value} {Q : Value → Shared → Prop} (F : Fr h₀ L s.heap m) (X₀ : K.In h₀) (I : InstAt s.heap x ox C od) (hc : selfFirst K C = true)
    (hs : findIn K (.ref C) (PySem.dunder op.info.2) = some (some (.ref f))) (hf : isFn K (.ref f) = true) (hr : findIn K (.ref C) (dunderR op.info.2) = some rc) (hp : rc = none ∨ ∃ g : Addr, rc = some (.ref g))
    {fo ro : Option Value} (h1 : findIn K (.type "int") (PySem.dunder op.info.2) = some fo) (h2 : findIn K (.type "int") (dunderR op.info.2) = some ro) (hsub : subIn K (.type "int") (.ref C) = some false)
    (hb : (∃ i t, b = .int i t) ∨ Looks (model prog w) s.heap (typeOf b) (.ref C))
    (h : wpAny (model prog w) A (call (.ref f) [.ref x, b]) (W.CmpBack Q) E s) : wpAny (model prog w) A (binaryOp op (.ref x) b) Q E s := by
  rcases hb with ⟨i, t, rfl⟩ | hb
  · exact ksp_binT (T := "int") F X₀ I rfl hc hs hf hr hp h1 h2 hsub h
  · exact binop_K F X₀ I hb hc hs hf h
/-- object.__ne__ over an own __eq__ -/
theorem objNe_own {b : Value} {Q : Fin → Shared → Prop} (hu : A.units < cLine) (X : K.In s.heap) (I : InstAt s.heap x ox C od) (hs : findIn K (.ref C) "__eq__" = some (some (.ref f))) (hf : isFn K (.ref f) = true)
    (h : wpAny (model prog w) A (call (.ref f) [.ref x, b]) (fun v s' => ∃ k, v = .bool k ∧ Q (.done (.ret (.bool (!k)))) s') E s) : wpAny (model prog w) A (Builtin.«object.__ne__» ⟨[.ref x, b], []⟩) Q E s := by
  unfold Builtin.«object.__ne__»
  repeat (first
    | with_reducible refine wpAny_cRoomFor hu ?_
    | (refine wpAny_bind (m := callSpecialIfBound? (.ref x) (Str.ofString "__eq__") [b]) (ifBound_K X I hs hf (wpAny_mono h (fun r s' hr => by
          obtain ⟨k, rfl, hq⟩ := hr
          repeat (first | exact hq | exact wpAny_pure hq | exact wpAny_truthy_bool hq | (refine wpAny_bind (m := truthy (.bool _)) (wpAny_truthy_bool ?_)) | wp_step)) fun _ _ e => e)))
    | wp_step)
theorem try_ne {b : Value} {Q : Option Value → Shared → Prop} (hu : A.units + 1 < cLine) (X : K.In s.heap) (I : InstAt s.heap x ox C od) (hm : mroIn K C (.type "object") = some true) (hn : findIn K (.ref C) "__ne__" = some (some (.builtin "object.__ne__")))
    (hs : findIn K (.ref C) "__eq__" = some (some (.ref f))) (hf : isFn K (.ref f) = true)
    (h : wpAny (model prog w) A.in1 (call (.ref f) [.ref x, b]) (fun v s' => ∃ k, v = .bool k ∧ Q (some (.bool (!k))) s') E s) : wpAny (model prog w) A (tryCompare (.ref x) "__ne__" b) Q E s := by
  have fin : wpAny (model prog w) A (call (.builtin "object.__ne__") [.ref x, b]) (fun v s' => ∃ k, v = .bool (!k) ∧ Q (some (.bool (!k))) s') E s := by
    refine wpAny_call (codeAny_call_builtin F.cmp_object.ne.plain F.cmpEntry_ne (check_slot F.cmpKind_ne F.cmpSplit_ne (I.type.andThen (looks_mroIn X hm)) (F.cmpArgs_ne _ _)
      (objNe_own (A := A.in1) hu X I hs hf (wpAny_mono h (fun v s' hv => ?_) fun _ _ e => e))))
    obtain ⟨k, rfl, q⟩ := hv
    exact ⟨k, rfl, ⟨k, rfl, q⟩⟩
  unfold tryCompare
  refine wpAny_bind ?_
  simp only [callSpecialIfBound?, bindSpecialIfBound?]
  refine wpAny_holding (wpAny_bind (wpAny_bind (wpAny_bind (I.type.here ((looks_findIn X hn).here ?_)))))
  refine wpAny_bind (wpAny_askSetting (wpAny_ite ?_))
  have fin2 : wpAny (model prog w) A (call (.builtin "object.__ne__") ([.ref x] ++ [b]) >>= fun v => pure (some v)) (fun r s' => wpAny (model prog w) A (match r with | some .notImplemented | none => pure none | some v => pure (some v)) Q E s') E s := by
    refine wpAny_bind (wpAny_mono fin (fun v s' h' => wpAny_pure ?_) fun _ _ h' => h')
    obtain ⟨k, rfl, q⟩ := h'
    exact wpAny_pure q
  split
  · exact wpAny_bind (wpAny_of_eq (F.cmp_object.ne.bind _) (wpAny_pure (by exact fin2)))
  · exact wpAny_tryCatch (wpAny_bind (wpAny_of_eq (F.cmp_object.ne.bind _) (wpAny_pure (by exact fin2))))
theorem ne_left {b tb : Value} {Q : Value → Shared → Prop} (hu : A.units + 1 < cLine) (X : K.In s.heap) (I : InstAt s.heap x ox C od) (hb : Looks (model prog w) s.heap (typeOf b) tb) (hnf : notFirst K C tb = true) (hm : mroIn K C (.type "object") = some true)
    (hn : findIn K (.ref C) "__ne__" = some (some (.builtin "object.__ne__"))) (hs : findIn K (.ref C) "__eq__" = some (some (.ref f))) (hf : isFn K (.ref f) = true)
    (h : wpAny (model prog w) A.in1 (call (.ref f) [.ref x, b]) (fun v s' => ∃ k, v = .bool k ∧ Q (.bool (!k)) s') E s) : wpAny (model prog w) A (richCompare .NotEq (.ref x) b) Q E s := by
  have one : wpAny (model prog w) A (tryCompare (.ref x) "__ne__" b) (fun r s' => ∃ v, r = some v ∧ Q v s') E s :=
    try_ne hu X I hm hn hs hf (wpAny_mono h (fun v s' ⟨k, e, q⟩ => ⟨k, e, _, rfl, q⟩) fun _ _ e => e)
  unfold richCompare
  simp only [oneThing_ref]
  refine wpAny_holding (wpAny_bind (wpAny_cRoomFor (Nat.lt_of_succ_lt hu) ?_))
  refine wpAny_bind (I.type.here (wpAny_bind (hb.here ?_)))
  rw [cmpInfo_NotEq]
  dsimp only
  split
  · rename_i q
    have e : subIn K tb (.ref C) = some false := by
      rcases Bool.or_eq_true_iff.mp hnf with e | e
      · rw [beq_iff_eq.mp e] at q; simp at q
      · exact beq_iff_eq.mp e
    refine wpAny_bind ((looks_subIn X e).here ?_)
    simp only [Bool.false_eq_true, if_false]
    refine wpAny_bind (wpAny_mono one (fun r s' z => ?_) fun _ _ e => e)
    obtain ⟨v, rfl, hq⟩ := z
    exact wpAny_pure hq
  · refine wpAny_bind (wpAny_pure ?_)
    simp only [Bool.false_eq_true, if_false]
    refine wpAny_bind (wpAny_mono one (fun r s' z => ?_) fun _ _ e => e)
    obtain ⟨v, rfl, hq⟩ := z
    exact wpAny_pure hq
end
end PD
namespace PD
open PySem PySem.Spec PyProof.Rows L2
def putK (f : Str) : List Str → List Str
  | [] => [f]
  | g :: r => if g = f then g :: r else g :: putK f r
def putL {α : Type} (f : Str) (x : α) : List Str → List α → List α
  | g :: r, a :: l => if g = f then x :: l else a :: putL f x r l
  | _, _ => [x]
theorem putF_zip {f : Str} {v : V} : ∀ {fs : List Str} {vs : List V}, fs.length = vs.length → L2.putF f v (fs.zip vs) = (putK f fs).zip (putL f v fs vs)
  | [], [], _ => rfl
  | g :: r, w :: l, h => by
    rw [List.zip_cons_cons]
    unfold L2.putF putK putL
    split
    · rw [List.zip_cons_cons]
    · rw [List.zip_cons_cons, putF_zip (by simpa using h)]
  | [], _ :: _, h => by simp at h
  | _ :: _, [], h => by simp at h
theorem putL_len {α : Type} {f : Str} {x : α} : ∀ {fs : List Str} {l : List α}, fs.length = l.length → (putK f fs).length = (putL f x fs l).length
  | [], [], _ => rfl
  | g :: r, w :: l, h => by
    unfold putK putL
    split
    · exact h
    · rw [List.length_cons, List.length_cons, putL_len (by simpa using h)]
  | [], _ :: _, h => by simp at h
  | _ :: _, [], h => by simp at h
section
variable {K : PySem.W.Frag} {S : Addr → Prop} {H : Hp}
theorem Dats.put {f : Str} {d : D} {v : V} (hd : Dat K S H d v) : ∀ {fs : List Str} {ds : List D} {vs : List V}, Dats K S H ds vs → Dats K S H (putL f d fs ds) (putL f v fs vs)
  | [], [], vs, h => by cases (show vs = [] from h); exact .one hd
  | g :: r, [], vs, h => by cases (show vs = [] from h); exact .one hd
  | [], d' :: ds, vs, ⟨w, l, e, h1, h2⟩ => by rw [e]; exact .one hd
  | g :: r, d' :: ds, vs, ⟨w, l, e, h1, h2⟩ => by
    rw [e]
    unfold putL
    split
    · exact ⟨v, l, rfl, hd, h2⟩
    · exact ⟨w, _, rfl, h1, Dats.put hd h2⟩
theorem OVAt.ins {C : Addr} {fs : List Str} {l : List D} {p : Addr} (h : OVAt K S H ⟨.ins C fs, l⟩ p) : ∃ vs dx, H p = some (.ins C dx (fs.zip vs)) ∧ fs.length = vs.length ∧ Dats K S H l vs := by
  obtain ⟨vs, ho, e, ⟨dx, e2, e3⟩, h⟩ := h
  exact ⟨vs, dx, by rw [e, e2], e3, h⟩
theorem OVAt.ofIns {C : Addr} {fs : List Str} {l : List D} {vs : List V} {dx p : Addr} (e : H p = some (.ins C dx (fs.zip vs))) (e2 : fs.length = vs.length) (h : Dats K S H l vs) : OVAt K S H ⟨.ins C fs, l⟩ p := ⟨vs, _, e, ⟨dx, rfl, e2⟩, h⟩
theorem ExD.weak {S' : Addr → Prop} {x : Ex} {dd : Option Addr} (h : ExD K S H x dd) (hS : ∀ b, S' b → S b) : ExD K S' H x dd := by
  cases dd with
  | none => exact h
  | some q => obtain ⟨vs, z1, zn, z2, z3⟩ := h; exact ⟨vs, z1, fun z => zn (hS _ z), z2, z3.weak hS⟩
end
section
variable {X : Cx} {W : WX} {a b c e o value : Expr} {es : List Expr} {ta tb tc te : TE} {t tk : TA} {ma mb mc me : Mo D} {ms mk : Mo (List D)} {p pos apos pos' : Pos} {x : Str}
def fldS (i : Nat) (C : Addr) (f : Str) (me : Mo D) : Sm := ofM me fun d env => match env[i]? with
  | some (.own b ⟨.ins C' fs, l⟩) => if C' = C ∧ fs.length < 1000 ∧ fs.length = l.length then some (.nx, env.set i (.own b ⟨.ins C (putK f fs), putL f d fs l⟩)) else none
  | _ => none
theorem sr_fld {i : Nat} {C : Addr} {f : Str} {K : PySem.W.Frag} (cl : Cls K C) (n : NoAttr K C f) (he : XR RD K W te me) : SR K W (sFld K (tVar i) te f) (fldS i C f me) := by
  refine SR.of (t2 := fun y D σ H1 => tVar i σ H1 fun x H2 => ∃ a C dx fs, x = .ref a ∧ H2 a = some (.ins C dx fs) ∧ Cls K C ∧ NoAttr K C f ∧ fs.length < 1000 ∧ D.nx σ (L2.upd H2 a (.ins C dx (L2.putF f y fs)))) he ?_
  intro S0 A σ env H k d v hd o env' hm D hp
  split at hm
  · rename_i b C' fs l q
    split at hm
    · rename_i hh
      obtain ⟨rfl, hlen, hl⟩ := hh
      cases hm
      obtain ⟨a, z1, z2, z3, z5⟩ := k.sl i _ q
      obtain ⟨vs, dx, y1, y2, y3⟩ := z3.ins
      have hOwn : Own A a := ⟨i, z1⟩
      refine ⟨_, z2, a, C', dx, _, rfl, y1, cl, n, by rw [List.length_zip, y2]; simpa [← y2] using hlen, ?_⟩
      have tr : Stp (AV S0 A) H (L2.upd H a (.ins C' dx (L2.putF f v (fs.zip vs)))) := stp_upd.mono fun b e => by rw [e]; exact .inr hOwn
      refine hp A σ _ (k.chg q z1 stp_upd (.ofIns (dx := dx) (vs := putL f v fs vs) (by rw [upd_same, putF_zip y2]) (putL_len y2) ?_)) ⟨stp_upd.mono fun b e => by rw [e]; exact hOwn, fun b => .inl⟩
      exact (Dats.step (fun b z => .inl z) tr _ _ y3).put (Dat.step (fun b z => .inl z) tr _ _ hd)
    · cases hm
  · cases hm
theorem ds_fld (i : Nat) {y f : Str} {py : Pos} {C : Addr} (cl : Cls X.K C) (n : NoAttr X.K C f) (he : DE X W value te me) (hN : X.N[i]? = some y := by rfl) (hvy : Vis X.env.scope y := by first | exact Or.inl rfl | exact Or.inr (Or.inl rfl) | exact Or.inr (Or.inr rfl))
    (hdy : (y == ("__debug__" : Str)) = false := by decide) (hcy : (y == ("__classdict__" : Str)) = false := by decide) (hs : swapsWith value (some (.Attribute (.Name y py) f pos')) pos.line X.env = pure false := by rfl) :
    DS X W (.Assign [.Attribute (.Name y py) f pos'] value pos) (sFld X.K (tVar i) te f) (fldS i C f me) := ⟨ps_fld (pe_var hN hvy hdy hcy) he.pe hs, sr_fld cl n he.er⟩
/-- x.f, x a slot, an own thing too (which stays one's own) -/
def fldNM (i : Nat) (C : Addr) (f : Str) : Mo D := fun env => match env[i]? with
  | some (.own _ ⟨.ins C' fs, l⟩) => if C' = C then Mo.lift ((fs.zip l).lookup f) env else none
  | some (.val d) => Mo.lift (fldD C f d) env
  | _ => none
theorem de_fldN (i : Nat) {y f : Str} {py : Pos} {C : Addr} (cl : Cls X.K C) (n : NoAttr X.K C f) (hN : X.N[i]? = some y := by rfl) (hvy : Vis X.env.scope y := by first | exact Or.inl rfl | exact Or.inr (Or.inl rfl) | exact Or.inr (Or.inr rfl))
    (hdy : (y == ("__debug__" : Str)) = false := by decide) (hcy : (y == ("__classdict__" : Str)) = false := by decide) (hb : attributeBase (.Name y py) f X.env (eval (.Name y py) X.env) = eval (.Name y py) X.env := by rfl) :
    DE X W (.Attribute (.Name y py) f pos) (tFld X.K (tVar i) f) (fldNM i C f) := by
  refine ⟨pe_fld (pe_var hN hvy hdy hcy) hb, ?_⟩
  intro S0 A σ env H k r env' hm Q hp
  unfold fldNM at hm
  split at hm
  · rename_i b C' fs l q
    split at hm
    · rename_i hC
      subst hC
      obtain ⟨d', e1, e2⟩ := Mo.lift_some hm
      cases e2
      obtain ⟨a, z1, z2, z3, z5⟩ := k.sl i _ q
      obtain ⟨vs, dx, y1, y2, y3⟩ := z3.ins
      obtain ⟨v, h3, h4⟩ := lookup_zip y3 e1
      exact ⟨_, z2, a, _, dx, _, v, rfl, y1, cl, n, h3, hp A v H .refl k .refl h4⟩
    · cases hm
  · rename_i d q
    obtain ⟨d', e1, e2⟩ := Mo.lift_some hm
    cases e2
    obtain ⟨u, z1, z2⟩ := k.sl i _ q
    unfold fldD at e1
    split at e1
    · split at e1
      · rename_i hC
        subst hC
        obtain ⟨a, dx, vs, rfl, h1, _, _, h2⟩ := z2
        obtain ⟨v, h3, h4⟩ := lookup_zip h2 e1
        exact ⟨_, z1, a, _, dx, _, v, rfl, h1, cl, n, h3, hp A v H .refl k .refl h4⟩
      · cases e1
    · cases e1
  · cases hm
def mkD (C : Addr) (f : OV → List D → Option (Except Ex D × OV)) (ds : List D) : Option (Except Ex D) := match f ⟨.ins C [], []⟩ ds with
  | some (.ok .non, ⟨.dct _, _⟩) => none
  | some (.ok .non, o) => some (.ok o.d)
  | some (.error x, _) => some (.error x)
  | _ => none
def tMakeS (C : Addr) (sp : Sp) (gV : List V → List V) (E : L2.St → XK) (t : TA) : TE := fun σ H Q => t σ H fun vs H1 => ∀ x dx, H1 x = none → H1 dx = none → dx ≠ x →
  sp (.ref x :: gV vs) (L2.upd (L2.upd H1 dx (.own x)) x (.ins C dx [])) (fun v H2 => v = .non ∧ Q (.ref x) H2) (E σ)
theorem xr_make {K : PySem.W.Frag} {C : Addr} {f : OV → List D → Option (Except Ex D × OV)} {gV : List V → List V} {gD : List D → List D} (hg : ∀ S H ds vs, Dats K S H ds vs → Dats K S H (gD ds) (gV vs)) (ha : XR RDs K W t ms) :
    XR RD K W (tMakeS C (spM K f) gV (WE W) t) (ms.bind fun ds => Mo.liftR (mkD C f (gD ds))) := by
  refine XR.bind (t2 := fun (vs : List V) σ (H1 : Hp) (Q : VK) => ∀ x dx : Addr, H1 x = none → H1 dx = none → dx ≠ x → spM K f (V.ref x :: gV vs) (L2.upd (L2.upd H1 dx (HO.own x)) x (HO.ins C dx [])) (fun v H2 => v = V.non ∧ Q (V.ref x) H2) (WE W σ)) ha ?_
  intro S0 A σ env H k ds vs hd r env' hm Q hp
  obtain ⟨e1, e2⟩ := Mo.liftR_some hm
  subst e2
  intro x dx hx hdx hne
  have ex1 : Ext H (L2.upd (L2.upd H dx (.own x)) x (.ins C dx [])) := fun b o e => by
    rw [upd_ne (ne_of_none e hx), upd_ne (ne_of_none e hdx)]; exact e
  have hS : ∀ b, (AV S0 A b ∨ b = x) → AV S0 A b ∨ H b = none := fun b z => z.imp id fun e => by rw [e]; exact hx
  have nx : ¬ AV S0 A x := fun z => k.trA x z hx
  have fin : ∀ H', Stp (fun b => b = x) (L2.upd (L2.upd H dx (.own x)) x (.ins C dx [])) H' → Ext H H' := fun H' st b o e => st.at_ b o (fun z => by rw [z, hx] at e; cases e) (ex1 b o e)
  have base : ∃ r' l', f ⟨.ins C [], []⟩ (gD ds) = some (r', l') ∧ mkD C f (gD ds) = some r := by
    unfold mkD at e1 ⊢
    cases q : f ⟨.ins C [], []⟩ (gD ds) with
    | none => rw [q] at e1; cases e1
    | some z => rw [q] at e1; exact ⟨z.1, z.2, rfl, e1⟩
  obtain ⟨r', l', hf, e1⟩ := base
  refine ⟨fun b => AV S0 A b ∨ b = x, x, ⟨.ins C [], []⟩, gV vs, gD ds, r', l', rfl, .inr rfl, fun b z => ?_, ⟨[], _, upd_same, ⟨dx, rfl, rfl⟩, rfl⟩, Dats.step hS (.of ex1) _ _ (hg _ _ _ _ hd), hf, ?_⟩
  · rcases z with z | z
    · exact ne_none_ext ex1 (k.trA b z)
    · rw [z, upd_same]; intro q; cases q
  · unfold mkD at e1
    rw [hf] at e1
    cases r' with
    | ok d =>
      dsimp only
      intro v H' st ho hv
      cases d <;> first | (cases e1; done) | skip
      obtain ⟨kd, ll⟩ := l'
      cases kd with
      | dct ks => cases e1
      | lst =>
        cases e1
        exact ⟨hv, hp A (.ref x) H' .refl (k.ext (fin H' st)) (.of (fin H' st)) (ho.dat rfl (fun b => .inl) nx)⟩
      | ins C9 fs9 =>
        cases e1
        exact ⟨hv, hp A (.ref x) H' .refl (k.ext (fin H' st)) (.of (fin H' st)) (ho.dat rfl (fun b => .inl) nx)⟩
    | error y =>
      dsimp only
      cases e1
      intro dd H' st ho hv
      exact hp A dd H' .refl (k.ext (fin H' st)) (.of (fin H' st)) (hv.weak fun b => .inl)
/-- a class of the module, as callers see it, called with positional arguments (the defaults dvs fill up) -/
def Gc (P : Program) (w : World) (K : PySem.W.Frag) (mg : Str → Option Value) (base : Heap) (x : Str) (C : Addr) (k : Nat) (dvs : List V) (sp : Sp) : Prop :=
  ∃ (f : Addr) (fd : FuncData) (ps : List Str) (dss : List Value), Mk K C f ∧ FnG P w K mg base (L2.CX P w) k f fd ps sp ∧ mg x = some (.ref C) ∧ Binds K fd ps dss ∧ Vals dvs dss
theorem Gc.mono {P : Program} {w : World} {K : PySem.W.Frag} {mg : Str → Option Value} {base : Heap} {C : Addr} {j k : Nat} {dvs : List V} {sp : Sp} (G : Gc P w K mg base x C j dvs sp) (h : j ≤ k) : Gc P w K mg base x C k dvs sp :=
  let ⟨f, fd, ps, dss, M, F, r⟩ := G; ⟨f, fd, ps, dss, M, F.mono h, r⟩
/-- .. with n positional arguments and keywords named ks -/
def GcK (P : Program) (w : World) (K : PySem.W.Frag) (mg : Str → Option Value) (base : Heap) (x : Str) (C : Addr) (k n : Nat) (ks : List Str) (gV : List V → List V → List V) (sp : Sp) : Prop :=
  ∃ (f : Addr) (fd : FuncData) (ps : List Str) (g : List Value → List Value → List Value) (gV' : List V → List V → List V), Mk K C f ∧ FnG P w K mg base (L2.CX P w) k f fd ps sp ∧ mg x = some (.ref C) ∧ KBn K fd ps (n + 1) ks g gV' ∧ ∀ x vs zs, gV' (x :: vs) zs = x :: gV vs zs
theorem GcK.mono {P : Program} {w : World} {K : PySem.W.Frag} {mg : Str → Option Value} {base : Heap} {C : Addr} {j k n : Nat} {ks : List Str} {gV : List V → List V → List V} {sp : Sp} (G : GcK P w K mg base x C j n ks gV sp) (h : j ≤ k) : GcK P w K mg base x C k n ks gV sp :=
  let ⟨f, fd, ps, g, gV', M, F, r⟩ := G; ⟨f, fd, ps, g, gV', M, F.mono h, r⟩
theorem run_makeS {CX : CXT} {k : Nat} {f C : Addr} {fd : FuncData} {ps : List Str} {sp : Sp} {dvs : List V} {ds : List Value} {E : L2.St → XK} {pins : List (Addr × Obj)} {σ : L2.St} {H : Hp} {s : Shared} {Q : VK} {us : List Value} {vs : List V} (M : Mk X.K C f) (F : FnG X.prog X.w X.K X.mg X.base CX k f fd ps sp) (hr : RoomG (k + 1) X.A) (hb : Binds X.K fd ps ds) (hd : Vals dvs ds)
    (hx : PassesAt CX X σ (E σ)) (I : Inv X pins σ H s) (r : Vals vs us)
    (h : ∀ x dx, H x = none → H dx = none → dx ≠ x → sp (.ref x :: (vs ++ dvs)) (L2.upd (L2.upd H dx (.own x)) x (.ins C dx [])) (fun v H2 => v = .non ∧ Q (.ref x) H2) (E σ)) :
    wpAny (model X.prog X.w) X.A (call (.ref C) us) (EP X pins σ Q) X.xe s := by
  have hq := h (s.heap.objs.size + 1) s.heap.objs.size (I.hok.fresh (Nat.le_succ _)) (I.hok.fresh (Nat.le_refl _)) (Nat.ne_of_lt (Nat.lt_succ_self _))
  have I2 := Inv.made (C := C) I
  have r2 : Vals (V.ref (s.heap.objs.size + 1) :: (vs ++ dvs)) (Value.ref (s.heap.objs.size + 1) :: (us ++ ds)) := .cons rfl (r.append hd)
  have hl : (Value.ref (s.heap.objs.size + 1) :: us ++ ds).length = ps.length := by
    have e := r2.length
    rw [F.len _ _ _ _ hq] at e
    exact e.symm
  refine wpAny_call (make_map (f := f) I.kIn M.makes M.init (beq_iff_eq.mp M.fn) (codeAny_mono (F.run _ X.stack _ _ ⟨Value.ref (s.heap.objs.size + 1) :: us, []⟩ (Value.ref (s.heap.objs.size + 1) :: (us ++ ds)) _ _ (E σ) (hr.make C us [])
    (I2.env0.make C us []) (hb _ (Value.ref (s.heap.objs.size + 1) :: us) I2.kIn hl) r2 hq) fun r s' hq' => ?_))
  cases r with
  | error e => exact hx pins _ _ e s' I2 hq'
  | ok fl =>
    cases fl with
    | ret u =>
      obtain ⟨v, H', I3, rv, ev, q3⟩ := I2.after hq'
      subst ev
      exact ⟨rv, ⟨V.ref (s.heap.objs.size + 1), H', I3, rfl, q3⟩⟩
    | next => exact False.elim hq'
    | brk => exact False.elim hq'
    | cont => exact False.elim hq'
theorem de_make {C : Addr} {k : Nat} {f : OV → List D → Option (Except Ex D × OV)} {dvs : List V} (dds : List D) (G : Gc X.prog X.w X.K X.mg X.base x C k dvs (spM X.K f)) (hdd : ∀ S H, Dats X.K S H dds dvs) (hr : RoomG (k + 1) X.A) (tk : Takes X W) (hg : Gl X x) (ha : DA X W (e :: es) t ms)
    (hdb : (x == ("__debug__" : Str)) = false := by decide) (he : starEach (e :: es) X.env = (false, eval e X.env) :: starEach es X.env := by rfl) (hpl : (backTo pos (starEach es X.env)).any (·.1) = false := by rfl) :
    DE X W (.Call (.Name x p) (e :: es) [] pos) (tMakeS C (spM X.K f) (· ++ dvs) (WE W) t) (ms.bind fun ds => Mo.liftR (mkD C f (ds ++ dds))) := by
  obtain ⟨fa, fd, ps, dss, M, F, hm, hb, hv⟩ := G
  refine ⟨⟨fun pins s σ H Q I h => ?_⟩, xr_make (gD := (· ++ dds)) (fun S H ds vs z => z.append (hdd S H)) ha.er⟩
  refine wpAny_Call_Name_kw (ld_glob I hg hm ?_ hdb)
  refine PySem.W.callWith_K (h₀ := X.base) I.ok.mod.kin M.kp (thn (ha.pa.run pos pins s σ H _ I h) fun us s1 ⟨vs, H1, I1, r, q⟩ => ⟨I1.kIn, ?_⟩) he hpl
  exact run_makeS (E := WE W) M F hr hb hv (passAt tk σ) I1 r q
theorem xr_nilA {K : PySem.W.Frag} : XR RDs K W tNil (Mo.ret []) := fun S0 A σ env H k r env' hm Q hp => by cases hm; exact hp A [] H .refl k .refl rfl
def lenM (n : Nat) (ds : List D) : Mo (List D) := Mo.lift (if ds.length = n then some ds else none)
end
end PD
namespace PD
open PySem PySem.Spec PyProof.Rows PySem.Calls L2
/-- a method of the class at C, as callers see it -/
def Mth (P : Program) (w : World) (K : PySem.W.Frag) (mg : Str → Option Value) (base : Heap) (C : Addr) (m : Str) (k : Nat) (sp : Sp) : Prop :=
  ∃ (f : Addr) (fd : FuncData) (ps : List Str), Meth K C m f ∧ FnG P w K mg base (L2.CX P w) k f fd ps sp ∧ Binds K fd ps []
theorem Mth.mono {P : Program} {w : World} {K : PySem.W.Frag} {mg : Str → Option Value} {base : Heap} {C : Addr} {m : Str} {j k : Nat} {sp : Sp} (G : Mth P w K mg base C m j sp) (h : j ≤ k) : Mth P w K mg base C m k sp :=
  let ⟨f, fd, ps, M, F, r⟩ := G; ⟨f, fd, ps, M, F.mono h, r⟩
def okD : Option (Except Ex D) → Option D
  | some (.ok d) => some d
  | _ => none
theorem okD_some {o : Option (Except Ex D)} {d : D} (h : okD o = some d) : o = some (.ok d) := by
  unfold okD at h
  split at h
  · cases h; rfl
  · cases h
section
variable {X : Cx} {pins : List (Addr × Obj)} {σ : L2.St} {H : Hp} {s : Shared} {Q : VK}
theorem run_in {A' : Around} {CX : CXT} {k : Nat} {f : Addr} {fd : FuncData} {ps : List Str} {sp : Sp} {E : XK} {us : List Value} {vs : List V} (F : FnG X.prog X.w X.K X.mg X.base CX k f fd ps sp) (hr : RoomG k A') (hf : A'.frames = X.A.frames) (hb : Binds X.K fd ps [])
    (hx : Passes CX X E) (I : Inv X pins σ H s) (r : Vals vs us) (h : sp vs H Q E) : wpAny (model X.prog X.w) A' (call (.ref f) us) (EP X pins σ Q) X.xe s := by
  have hl : us.length = ps.length := by rw [← r.length]; exact F.len _ _ _ _ h
  have e0 : Env0 X.prog X.w X.K X.mg X.base A' X.stack s H := by
    have e := I.env0
    exact ⟨by rw [hf]; exact e.frames, e.mod, e.bs, e.bsz, e.funs, e.frf, e.hok, e.bare⟩
  refine wpAny_call (codeAny_mono (F.run A' X.stack s H ⟨us, []⟩ us vs _ E hr e0 (by
    have := hb s us I.kIn (by simpa using hl)
    simpa using this) r h) fun r s' hq => ?_)
  cases r with
  | error e => exact hx pins σ H s e s' I hq
  | ok fl =>
    cases fl with
    | ret w => exact I.after hq
    | next => exact False.elim hq
    | brk => exact False.elim hq
    | cont => exact False.elim hq
theorem cmp_of {v : Value} {s' : Shared} (h : EP X pins σ Q v s') : PySem.W.CmpBack (EP X pins σ Q) v s' := by
  cases v <;> first | exact h | skip
  obtain ⟨x, H', I, r, q⟩ := h
  cases x <;> first | (cases r; done) | (obtain ⟨t, r⟩ := r; cases r)
end
/-- what a call of a promised def of data asks and gives -/
theorem spP_use {K : PySem.W.Frag} {f : List D → Option (Except Ex D)} {S : Addr → Prop} {H : Hp} {vs : List V} {ds : List D} {d : D} {Q : VK} {E : XK} (hS : ∀ b, S b → H b ≠ none) (h : Dats K S H ds vs) (hf : f ds = some (.ok d)) (hq : ∀ v H', Ext H H' → Dat K S H' d v → Q v H') : spP K f vs H Q E :=
  ⟨S, ds, .ok d, hS, h, hf, hq⟩
theorem Dats.two {K : PySem.W.Frag} {S : Addr → Prop} {H : Hp} {d e : D} {v w : V} (h : Dat K S H d v) (h2 : Dat K S H e w) : Dats K S H [d, e] [v, w] := ⟨v, [w], rfl, h, .one h2⟩
structure OpC (K : PySem.W.Frag) (C : Addr) (op : Operator) : Prop where
  hc : PySem.W.selfFirst K C = true
  hr : ∃ rc, PySem.W.findIn K (.ref C) (PySem.dunderR op.info.2) = some rc ∧ (rc = none ∨ ∃ g : Addr, rc = some (.ref g))
  h1 : ∃ fo, PySem.W.findIn K (.type "int") (PySem.dunder op.info.2) = some fo
  h2 : ∃ ro, PySem.W.findIn K (.type "int") (PySem.dunderR op.info.2) = some ro
  hsub : PySem.W.subIn K (.type "int") (.ref C) = some false
def ownL (C : Addr) (fm : List D → Option (Except Ex D)) : D → D → Option D
  | .ins C' fs l, .int i => if C' = C then okD (fm [.ins C' fs l, .int i]) else none
  | .ins C' fs l, .ins C2 fs2 l2 => if C' = C ∧ C2 = C then okD (fm [.ins C' fs l, .ins C2 fs2 l2]) else none
  | _, _ => none
def rOwnL (K : PySem.W.Frag) (C : Addr) (fm : List D → Option (Except Ex D)) : R2 := fun x y H Q => ∃ a dx fs, x = .ref a ∧ H a = some (.ins C dx fs) ∧ ((∃ i, y = .int i) ∨ ∃ b dy gs, y = .ref b ∧ H b = some (.ins C dy gs)) ∧ spP K fm [x, y] H Q E0
theorem rOwnL_ok {K : PySem.W.Frag} {C : Addr} {fm : List D → Option (Except Ex D)} (S : Addr → Prop) (H : Hp) (x y : V) (dx dy d : D) (hS : ∀ b, S b → H b ≠ none) (hx : Dat K S H dx x) (hy : Dat K S H dy y) (hf : ownL C fm dx dy = some d) (Q : VK) (hq : ∀ v H', Ext H H' → Dat K S H' d v → Q v H') : rOwnL K C fm x y H Q := by
  unfold ownL at hf
  split at hf
  · split at hf
    · rename_i e; subst e
      obtain ⟨a, ddx, vs, rfl, z1, _⟩ := id hx
      cases (show y = .int _ from hy)
      exact ⟨a, ddx, _, rfl, z1, .inl ⟨_, rfl⟩, spP_use hS (.two hx hy) (okD_some hf) hq⟩
    · cases hf
  · split at hf
    · rename_i e; obtain ⟨e, e2⟩ := e; subst e; subst e2
      obtain ⟨a, ddx, vs, rfl, z1, _⟩ := id hx
      obtain ⟨b, ddy, ws, rfl, z2, _⟩ := id hy
      exact ⟨a, ddx, _, rfl, z1, .inr ⟨b, ddy, _, rfl, z2⟩, spP_use hS (.two hx hy) (okD_some hf) hq⟩
    · cases hf
  · cases hf
section
variable {X : Cx} {C : Addr} {k : Nat} {fm : List D → Option (Except Ex D)}
theorem od_ownL {op : Operator} {m : Str} (L : OpC X.K C op) (G : Mth X.prog X.w X.K X.mg X.base C m k (spP X.K fm)) (hr : RoomG k X.A) (hm : m = PySem.dunder op.info.2 := by rfl) : OpD X (binaryOp op) (rOwnL X.K C fm) (ownL C fm) := by
  refine ⟨fun pins s σ H x y v u Q I rx ry h => ?_, rOwnL_ok⟩
  obtain ⟨f, fd, ps, M, F, hb⟩ := G
  obtain ⟨a, dx, fs, rfl, ha, hy, hsp⟩ := h
  cases rx
  obtain ⟨mA, O, _⟩ := ins_get I.hok ha
  obtain ⟨od, J, _⟩ := O.look
  obtain ⟨mm, hF⟩ := I.fr
  obtain ⟨rc, hr1, hp⟩ := L.hr
  obtain ⟨fo, h1⟩ := L.h1
  obtain ⟨ro, h2⟩ := L.h2
  have at_ := M.at_
  rw [hm] at at_
  refine bin_left hF I.ok.mod.kin J L.hc at_ M.fn hr1 hp h1 h2 L.hsub ?_ (wpAny_mono (run_in (us := [.ref a, u]) (vs := [.ref a, y]) F hr rfl hb passL I (.cons rfl (.cons ry .nil)) hsp) (fun v s' hv => cmp_of hv) fun _ _ e => e)
  rcases hy with ⟨i, rfl⟩ | ⟨b, dy, gs, rfl, hb'⟩
  · obtain ⟨t, rfl⟩ := ry; exact .inl ⟨i, t, rfl⟩
  · cases ry
    obtain ⟨mB, O', _⟩ := ins_get I.hok hb'
    obtain ⟨od', J', _⟩ := O'.look
    exact .inr J'.type
structure CmpC (K : PySem.W.Frag) (C : Addr) : Prop where
  nf : PySem.W.notFirst K C (.type "int") = true
  hsub : PySem.W.subIn K (.ref C) (.type "int") = some false
theorem cmpD_left {op : CmpOp} {m : Str} (he : compareOp op = richCompare op) (L : CmpC X.K C) (G : Mth X.prog X.w X.K X.mg X.base C m k (spP X.K fm)) (hr : RoomG k X.A) (hm : m = (cmpInfo op).2.1 := by rfl) : OpD X (compareOp op) (rOwnL X.K C fm) (ownL C fm) := by
  refine ⟨fun pins s σ H x y v u Q I rx ry h => ?_, rOwnL_ok⟩
  obtain ⟨f, fd, ps, M, F, hb⟩ := G
  obtain ⟨a, dx, fs, rfl, ha, hy, hsp⟩ := h
  cases rx
  obtain ⟨mA, O, _⟩ := ins_get I.hok ha
  obtain ⟨od, J, _⟩ := O.look
  obtain ⟨mm, hF⟩ := I.fr
  have at_ := M.at_
  rw [hm] at at_
  rw [he]
  have go := wpAny_mono (run_in (us := [.ref a, u]) (vs := [.ref a, y]) F hr rfl hb passL I (.cons rfl (.cons ry .nil)) hsp) (fun v s' hv => cmp_of hv) fun _ _ e => e
  rcases hy with ⟨i, rfl⟩ | ⟨b, dy, gs, rfl, hb'⟩
  · obtain ⟨t, rfl⟩ := ry
    exact PySem.W.cmp_K hr.units0 hF I.ok.mod.kin J (PySem.W.Looks.of_pure rfl) L.nf at_ M.fn go
  · cases ry
    obtain ⟨mB, O', _⟩ := ins_get I.hok hb'
    obtain ⟨od', J', _⟩ := O'.look
    exact PySem.W.cmp_K hr.units0 hF I.ok.mod.kin J J'.type (by simp [PySem.W.notFirst]) at_ M.fn go
structure NeC (K : PySem.W.Frag) (C : Addr) : Prop where
  nf : PySem.W.notFirst K C (.type "int") = true
  hsub : PySem.W.subIn K (.ref C) (.type "int") = some false
  hm : PySem.W.mroIn K C (.type "object") = some true
  hn : PySem.W.findIn K (.ref C) "__ne__" = some (some (.builtin "object.__ne__"))
def notD : Option D → Option D
  | some (.bl b) => some (.bl (!b))
  | _ => none
def rNotB (r : R2) : R2 := fun x y H Q => r x y H fun v H' => ∃ b, v = .bl b ∧ Q (.bl (!b)) H'
theorem EP_bool {pins : List (Addr × Obj)} {σ : L2.St} {Q : VK} {v : Value} {s' : Shared} (h : EP X pins σ (fun v H' => ∃ b, v = V.bl b ∧ Q (.bl (!b)) H') v s') : ∃ k, v = .bool k ∧ EP X pins σ Q (.bool (!k)) s' := by
  obtain ⟨x, H', I, r, b, rfl, q⟩ := h
  cases r
  exact ⟨b, rfl, V.bl (!b), H', I, rfl, q⟩
theorem od_neL (L : NeC X.K C) (G : Mth X.prog X.w X.K X.mg X.base C "__eq__" k (spP X.K fm)) (hr : RoomG (k + 1) X.A) : OpD X (compareOp .NotEq) (rNotB (rOwnL X.K C fm)) (fun x y => notD (ownL C fm x y)) := by
  refine ⟨fun pins s σ H x y v u Q I rx ry h => ?_, fun S H x y dx dy d hS hx hy hf Q hq => ?_⟩
  · obtain ⟨f, fd, ps, M, F, hb⟩ := G
    obtain ⟨a, dx, fs, rfl, ha, hy, hsp⟩ := h
    cases rx
    obtain ⟨mA, O, _⟩ := ins_get I.hok ha
    obtain ⟨od, J, _⟩ := O.look
    have go := wpAny_mono (run_in (A' := X.A.in1) (us := [.ref a, u]) (vs := [.ref a, y]) F hr.in1 rfl hb passL I (.cons rfl (.cons ry .nil)) hsp) (fun v s' hv => EP_bool hv) fun _ _ e => e
    show wpAny _ _ (richCompare .NotEq _ _) _ _ _
    rcases hy with ⟨i, rfl⟩ | ⟨b, dy, gs, rfl, hb'⟩
    · obtain ⟨t, rfl⟩ := ry
      exact ne_left (hu_of hr) I.kIn J (PySem.W.Looks.of_pure rfl) L.nf L.hm L.hn M.at_ M.fn go
    · cases ry
      obtain ⟨mB, O', _⟩ := ins_get I.hok hb'
      obtain ⟨od', J', _⟩ := O'.look
      exact ne_left (hu_of hr) I.kIn J J'.type (by simp [PySem.W.notFirst]) L.hm L.hn M.at_ M.fn go
  · cases q : ownL C fm dx dy with
    | none => rw [q] at hf; cases hf
    | some e =>
      rw [q] at hf
      cases e <;> first | (cases hf; done) | skip
      cases hf
      exact rOwnL_ok S H x y dx dy _ hS hx hy q _ fun v H' ex hv => ⟨_, hv, hq _ H' ex rfl⟩
def own1 (C : Addr) (fm : List D → Option (Except Ex D)) : D → Option D
  | .ins C' fs l => if C' = C then okD (fm [.ins C' fs l]) else none
  | _ => none
def rOwn1 (K : PySem.W.Frag) (C : Addr) (fm : List D → Option (Except Ex D)) : V → Hp → VK → Prop := fun x H Q => ∃ a dx fs, x = .ref a ∧ H a = some (.ins C dx fs) ∧ spP K fm [x] H Q E0
theorem rOwn1_ok {K : PySem.W.Frag} {C : Addr} {fm : List D → Option (Except Ex D)} (S : Addr → Prop) (H : Hp) (x : V) (dx d : D) (hS : ∀ b, S b → H b ≠ none) (hx : Dat K S H dx x) (hf : own1 C fm dx = some d) (Q : VK) (hq : ∀ v H', Ext H H' → Dat K S H' d v → Q v H') : rOwn1 K C fm x H Q := by
  unfold own1 at hf
  split at hf
  · split at hf
    · rename_i e; subst e
      obtain ⟨a, ddx, vs, rfl, z1, _⟩ := id hx
      exact ⟨a, ddx, _, rfl, z1, spP_use hS (.one hx) (okD_some hf) hq⟩
    · cases hf
  · cases hf
def rCall1 (r : V → Hp → VK → Prop) : List V → Hp → VK → Prop := fun xs H Q => ∃ x, xs = [x] ∧ r x H Q
def one1 (g : D → Option D) : List D → Option D
  | [d] => g d
  | _ => none
theorem call1_ok {K : PySem.W.Frag} {r : V → Hp → VK → Prop} {g : D → Option D} (h : ∀ (S : Addr → Prop) (H : Hp) (x : V) (dx d : D), (∀ b, S b → H b ≠ none) → Dat K S H dx x → g dx = some d → ∀ Q : VK, (∀ v H', Ext H H' → Dat K S H' d v → Q v H') → r x H Q)
    (S : Addr → Prop) (H : Hp) (vs : List V) (ds : List D) (d : D) (hS : ∀ b, S b → H b ≠ none) (hd : Dats K S H ds vs) (hf : one1 g ds = some d) (Q : VK) (hq : ∀ v H', Ext H H' → Dat K S H' d v → Q v H') : rCall1 r vs H Q := by
  unfold one1 at hf
  split at hf
  · obtain ⟨v, rr, e, h1, h2⟩ := hd
    cases (show rr = [] from h2); subst e
    exact ⟨v, rfl, h S H v _ d hS h1 hf Q hq⟩
  · cases hf
theorem vals1 {x : V} {us : List Value} (r : Vals [x] us) : ∃ u, us = [u] ∧ RelV x u := by
  cases r with
  | cons a b => cases b; exact ⟨_, rfl, a⟩
end
end PD
namespace PD
open PySem PySem.Spec PyProof.Rows PySem.Calls L2
theorem Dats.one' {K : PySem.W.Frag} {S : Addr → Prop} {H : Hp} {d : D} {vs : List V} (h : Dats K S H [d] vs) : ∃ v, vs = [v] ∧ Dat K S H d v := by
  obtain ⟨v, r, e, h1, h2⟩ := h
  cases (show r = [] from h2)
  exact ⟨v, e, h1⟩
theorem Dats.two' {K : PySem.W.Frag} {S : Addr → Prop} {H : Hp} {d e : D} {vs : List V} (h : Dats K S H [d, e] vs) : ∃ v w, vs = [v, w] ∧ Dat K S H d v ∧ Dat K S H e w := by
  obtain ⟨v, r, e1, h1, h2⟩ := h
  obtain ⟨w, rfl, h3⟩ := Dats.one' h2
  exact ⟨v, w, e1, h1, h3⟩
theorem ext_refl {H : Hp} : Ext H H := fun _ _ e => e
section
variable {X : Cx}
def absD : List D → Option D
  | [.int i] => some (.int (if i < 0 then -i else i))
  | _ => none
theorem cd_abs : CallD X (.builtin "abs") (fun xs H Q => ∃ i, xs = [.int i] ∧ Q (.int (if i < 0 then -i else i)) H) absD := by
  refine ⟨call_abs, fun S H vs ds d hS hd hf Q hq => ?_⟩
  unfold absD at hf
  split at hf
  · cases hf
    obtain ⟨v, rfl, h⟩ := hd.one'
    cases h
    exact ⟨_, rfl, hq _ H ext_refl rfl⟩
  · cases hf
def max2D : List D → Option D
  | [.int i, .int j] => some (.int (if j > i then j else i))
  | _ => none
def min2D : List D → Option D
  | [.int i, .int j] => some (.int (if j < i then j else i))
  | _ => none
theorem cd_max2 (hc : X.calm = true) : CallD X (.builtin "max") (fun xs H Q => ∃ i j, xs = [.int i, .int j] ∧ Q (.int (if j > i then j else i)) H) max2D := by
  refine ⟨call_max2 hc, fun S H vs ds d hS hd hf Q hq => ?_⟩
  unfold max2D at hf
  split at hf
  · cases hf
    obtain ⟨v, w, rfl, h, h2⟩ := hd.two'
    cases h; cases h2
    exact ⟨_, _, rfl, hq _ H ext_refl rfl⟩
  · cases hf
theorem cd_min2 (hc : X.calm = true) : CallD X (.builtin "min") (fun xs H Q => ∃ i j, xs = [.int i, .int j] ∧ Q (.int (if j < i then j else i)) H) min2D := by
  refine ⟨call_min2 hc, fun S H vs ds d hS hd hf Q hq => ?_⟩
  unfold min2D at hf
  split at hf
  · cases hf
    obtain ⟨v, w, rfl, h, h2⟩ := hd.two'
    cases h; cases h2
    exact ⟨_, _, rfl, hq _ H ext_refl rfl⟩
  · cases hf
def intD : List D → Option D
  | [.int i] => some (.int i)
  | [.bl k] => some (.int (if k then 1 else 0))
  | [.str a] => if a.length ≤ 640 then (PySem.intText? a).map .int else none
  | _ => none
def rIntA : List V → Hp → VK → Prop := fun xs H Q => ((∃ i, xs = [.int i] ∧ Q (.int i) H) ∨ ∃ k, xs = [.bl k] ∧ Q (.int (if k then 1 else 0)) H) ∨ ∃ a n, xs = [.str a] ∧ PySem.intText? a = some n ∧ a.length ≤ 640 ∧ Q (.int n) H
theorem cd_int : CallD X (.type "int") rIntA intD := by
  refine ⟨call_int1.or call_int_str, fun S H vs ds d hS hd hf Q hq => ?_⟩
  unfold intD at hf
  split at hf
  · cases hf
    obtain ⟨v, rfl, h⟩ := hd.one'
    cases h
    exact .inl (.inl ⟨_, rfl, hq _ H ext_refl rfl⟩)
  · cases hf
    obtain ⟨v, rfl, h⟩ := hd.one'
    cases h
    exact .inl (.inr ⟨_, rfl, hq _ H ext_refl rfl⟩)
  · split at hf
    · rename_i a hl
      obtain ⟨v, rfl, h⟩ := hd.one'
      cases h
      cases q : PySem.intText? a with
      | none => rw [q] at hf; cases hf
      | some n => rw [q] at hf; cases hf; exact .inr ⟨_, n, rfl, q, hl, hq _ H ext_refl rfl⟩
    · cases hf
  · cases hf
def boolD : List D → Option D
  | [.int i] => some (.bl (i != 0))
  | [.bl k] => some (.bl k)
  | _ => none
theorem cd_bool : CallD X (.type "bool") (fun xs H Q => (∃ i, xs = [.int i] ∧ Q (.bl (i != 0)) H) ∨ ∃ k, xs = [.bl k] ∧ Q (.bl k) H) boolD := by
  refine ⟨call_bool1, fun S H vs ds d hS hd hf Q hq => ?_⟩
  unfold boolD at hf
  split at hf
  · cases hf
    obtain ⟨v, rfl, h⟩ := hd.one'
    cases h
    exact .inl ⟨_, rfl, hq _ H ext_refl rfl⟩
  · cases hf
    obtain ⟨v, rfl, h⟩ := hd.one'
    cases h
    exact .inr ⟨_, rfl, hq _ H ext_refl rfl⟩
  · cases hf
def lenD : List D → Option D
  | [.str z] => if z.length ≤ ssz then some (.int z.length) else none
  | [.lst l] => some (.int l.length)
  | [.tup l] => some (.int l.length)
  | [.scr ns] => some (.int ns.length)
  | _ => none
theorem cd_len : CallD X (.builtin "len") (fun xs H Q => ∃ x n, xs = [x] ∧ LenV X.K x H n ∧ Q (.int n) H) lenD := by
  refine ⟨call_len, fun S H vs ds d hS hd hf Q hq => ?_⟩
  unfold lenD at hf
  split at hf
  · split at hf
    · rename_i z hl
      cases hf
      obtain ⟨v, rfl, h⟩ := hd.one'
      cases h
      exact ⟨_, _, rfl, ⟨by rw [ssz_eq]; exact hl, rfl⟩, hq _ H ext_refl rfl⟩
    · cases hf
  · cases hf
    obtain ⟨v, rfl, a, ws, rfl, h1, _, h2⟩ := hd.one'
    exact ⟨_, ws.length, rfl, .inl ⟨ws, SqL.of h1, rfl⟩, hq _ H ext_refl (by rw [h2.len]; rfl)⟩
  · cases hf
    obtain ⟨v, rfl, a, ws, rfl, h1, _, h2⟩ := hd.one'
    exact ⟨_, ws.length, rfl, .inr ⟨ws, SqT.of h1, rfl⟩, hq _ H ext_refl (by rw [h2.len]; rfl)⟩
  · rename_i ns
    cases hf
    obtain ⟨v, rfl, a, rfl, z⟩ := hd.one'
    exact ⟨_, ns.length, rfl, .inl ⟨ns.map V.int, z.elim (fun ⟨o, z, _⟩ => .inl (.inr ⟨o, z⟩)) .inr, by rw [List.length_map]⟩, hq _ H ext_refl rfl⟩
  · cases hf
def blsD : List D → Option (List Bool)
  | [] => some []
  | .bl b :: r => (blsD r).map (b :: ·)
  | _ => none
theorem blsD_some : ∀ {l : List D} {bs : List Bool}, blsD l = some bs → l = bs.map D.bl
  | [], bs, h => by cases h; rfl
  | d :: r, bs, h => by
    cases d <;> first | (cases h; done) | skip
    rename_i b
    unfold blsD at h
    cases q : blsD r with
    | none => rw [q] at h; cases h
    | some cs => rw [q] at h; cases h; rw [blsD_some q]; rfl
theorem blsD_map (bs : List Bool) : blsD (bs.map D.bl) = some bs := by
  induction bs with
  | nil => rfl
  | cons b bs ih => rw [List.map_cons]; unfold blsD; rw [ih]; rfl
def allD : List D → Option D
  | [.lst l] => (blsD l).map fun bs => .bl (bs.all id)
  | _ => none
def anyD : List D → Option D
  | [.lst l] => (blsD l).map fun bs => .bl (bs.any id)
  | _ => none
theorem cd_all (hc : X.calm = true) : CallD X (.builtin "all") (rAll X.K) allD := by
  refine ⟨cr_all hc, fun S H vs ds d hS hd hf Q hq => ?_⟩
  unfold allD at hf
  split at hf
  · rename_i l
    cases q : blsD l with
    | none => rw [q] at hf; cases hf
    | some bs =>
      rw [q] at hf; cases hf
      obtain ⟨v, rfl, a, ws, rfl, h1, _, h2⟩ := hd.one'
      rw [blsD_some q] at h2
      rw [Dats.ofBls h2] at h1
      exact ⟨a, bs, rfl, SqL.of h1, hq _ H ext_refl rfl⟩
  · cases hf
theorem cd_any (hc : X.calm = true) : CallD X (.builtin "any") (rAny X.K) anyD := by
  refine ⟨cr_any hc, fun S H vs ds d hS hd hf Q hq => ?_⟩
  unfold anyD at hf
  split at hf
  · rename_i l
    cases q : blsD l with
    | none => rw [q] at hf; cases hf
    | some bs =>
      rw [q] at hf; cases hf
      obtain ⟨v, rfl, a, ws, rfl, h1, _, h2⟩ := hd.one'
      rw [blsD_some q] at h2
      rw [Dats.ofBls h2] at h1
      exact ⟨a, bs, rfl, SqL.of h1, hq _ H ext_refl rfl⟩
  · cases hf
inductive Tg where
  | non | bl | int | str | tup | lst | dct | ins (C : Addr)
  deriving DecidableEq
def Tg.v : Tg → Value
  | .non => .type "NoneType" | .bl => .type "bool" | .int => .type "int" | .str => .type "str" | .tup => .type "tuple" | .lst => .type "list" | .dct => .type "dict" | .ins C => .ref C
def D.tg : D → Option Tg
  | .non => some .non | .bl _ => some .bl | .int _ => some .int | .str _ => some .str | .tup _ => some .tup | .lst _ => some .lst | .dct _ _ => some .dct | .ins C _ _ => some (.ins C) | _ => none
inductive Cl where
  | ty (n : String) | own (C : Addr)
  deriving DecidableEq
def Cl.v : Cl → Value
  | .ty n => .type n | .own C => .ref C
def D.cl : D → Option Cl
  | .ty n => some (.ty n) | .fn C => some (.own C) | _ => none
structure ClsT (K : PySem.W.Frag) (C : Addr) : Prop where
  cl : Cls K C
  ha : PySem.W.findIn K (.ref C) "__class__" = some (some (.builtin "object.__class__"))
  hn : PySem.W.specialIn K (.builtin "object.__class__") "__get__" = some (some (.builtin "getset_descriptor.__get__"))
  htk : PySem.W.takesIn K (.builtin "object.__class__") = some true
  hm : PySem.W.mroIn K C (.type "object") = some true
def isiD (c : Cl) (tb : List (Tg × Bool)) : List D → Option D
  | [d, c'] => if c'.cl = some c then (d.tg.bind fun t => tb.lookup t).map .bl else none
  | _ => none
theorem lookup_mem {α β : Type} [DecidableEq α] {a : α} {b : β} : ∀ {l : List (α × β)}, l.lookup a = some b → (a, b) ∈ l
  | [], h => by simp at h
  | (c, d) :: l, h => by
    rw [List.lookup_cons] at h
    by_cases q : a = c
    · subst q; simp at h; subst h; exact List.mem_cons_self
    · have : (a == c) = false := by simpa using q
      rw [this] at h; exact List.mem_cons_of_mem _ (lookup_mem h)
theorem cd_isi {c : Cl} {tb : List (Tg × Bool)} (hk : ∀ p ∈ tb, PySem.W.kitOne X.K p.1.v c.v = some p.2) (hc : ∀ p ∈ tb, ∀ C, p.1 = .ins C → ClsT X.K C) : CallD X (.builtin "isinstance") (rIsi X.K) (isiD c tb) := by
  refine ⟨call_isi, fun S H vs ds d hS hd hf Q hq => ?_⟩
  unfold isiD at hf
  split at hf
  · rename_i dx dc
    split at hf
    · rename_i hcl
      cases ht : dx.tg with
      | none => rw [ht] at hf; cases hf
      | some t =>
        rw [ht] at hf
        cases hb : tb.lookup t with
        | none => rw [show ((some t).bind fun t => tb.lookup t) = tb.lookup t from rfl, hb] at hf; cases hf
        | some b =>
          rw [show ((some t).bind fun t => tb.lookup t) = tb.lookup t from rfl, hb] at hf; cases hf
          obtain ⟨v, w, rfl, h, h2⟩ := hd.two'
          have hm := lookup_mem hb
          have k1 := hk _ hm
          have cv : ClsV w c.v := by
            cases dc <;> first | (cases hcl; done) | skip
            · cases hcl; cases (show w = .ref _ from h2); exact .own _
            · cases hcl; cases (show w = .ty _ from h2); exact .ty _
          have tx : TyX X.K H v t.v := by
            cases dx <;> first | (cases ht; done) | skip
            · cases ht; cases (show v = .non from h); exact .base .non
            · cases ht; cases (show v = .bl _ from h); exact .base (.bl _)
            · cases ht; cases (show v = .int _ from h); exact .base (.int _)
            · cases ht; cases (show v = .str _ from h); exact .base (.str _)
            · cases ht; obtain ⟨a, ws, rfl, h1, _⟩ := h; exact .base (.tup h1)
            · cases ht; obtain ⟨a, ws, rfl, h1, _⟩ := h; exact .base (.lst h1)
            · cases ht
              obtain ⟨a, dd, ws, rfl, h1, _⟩ := h
              have z := hc _ hm _ rfl
              exact .base (.ins h1 z.cl z.ha z.hn z.htk z.hm)
            · cases ht; obtain ⟨a, od, ws, rfl, h1, _⟩ := h; exact .fDict h1
          exact ⟨v, w, t.v, c.v, b, rfl, cv, tx, k1, hq _ H ext_refl rfl⟩
    · cases hf
  · cases hf
end
section
variable {X : Cx} {W : WX} {a b c e o elt iter : Expr} {es ifs : List Expr} {ta tb tc te to : TE} {t : TA} {ma mb mc me mo : Mo D} {ms : Mo (List D)} {p pos apos : Pos} {x : Str}
def strOf : D → Option Str
  | .str a => some a
  | _ => none
theorem strOf_some {d : D} {a : Str} (h : strOf d = some a) : d = .str a := by
  unfold strOf at h
  split at h
  · cases h; rfl
  · cases h
end
end PD
namespace PD
open PySem PySem.Spec PyProof.Rows PySem.Calls L2
abbrev RO : RL (Option Int) (Option Int) := fun _ _ _ a b => a = b
structure DO (X : Cx) (W : WX) (lo : Option Expr) (t : TO) (m : Mo (Option Int)) : Prop where
  po : PO X lo t
  er : XR RO X.K W t m
def intOf : D → Option Int
  | .int i => some i
  | _ => none
theorem intOf_some {d : D} {a : Int} (h : intOf d = some a) : d = .int a := by
  unfold intOf at h
  split at h
  · cases h; rfl
  · cases h
def cutG {α : Type} (xs : List α) (lo hi : Option Int) : List α := (xs.drop (HT.sIx xs.length 0 lo)).take (HT.sIx xs.length xs.length hi - HT.sIx xs.length 0 lo)
def slD (d : D) (lo hi : Option Int) : Option D := match d with
  | .str z => if z.length ≤ ssz then some (.str (cutS z lo hi)) else none
  | .lst l => some (.lst (cutG l lo hi))
  | .scr ns => some (.lst (cutG (ns.map .int) lo hi))
  | _ => none
section
variable {X : Cx} {W : WX} {a b c e o elt iter : Expr} {es ifs : List Expr} {ta tb tc te to : TE} {tl th : TO} {t : TA} {ma mb mc me mo : Mo D} {ml mh : Mo (Option Int)} {ms : Mo (List D)} {p pos apos p2 : Pos} {x : Str} {lo hi : Option Expr}
theorem do_none : DO X W none tNoPart (Mo.ret none) := ⟨po_none, fun S0 A σ env H k r env' hm Q hp => by cases hm; exact hp A none H .refl k .refl rfl⟩
theorem do_some (h : DE X W e te me) : DO X W (some e) (tPart te) (me.bind fun d => Mo.lift ((intOf d).map some)) := by
  refine ⟨po_some h.pe, ?_⟩
  intro S0 A σ env H k r env' hm Q hp
  rcases Mo.bind_some hm with ⟨d, e1, q1, q2⟩ | ⟨y, e1, q1, q2⟩
  · obtain ⟨z, w1, w2⟩ := Mo.lift_some q2
    cases w2
    cases q : intOf d with
    | none => rw [q] at w1; cases w1
    | some i =>
      rw [q] at w1; cases w1
      cases intOf_some q
      exact h.er S0 A σ env H k _ _ q1 _ fun A1 v H1 le k1 st hv => ⟨i, hv, hp A1 (some i) H1 le k1 st rfl⟩
  · cases q2
    exact h.er S0 A σ env H k _ _ q1 _ fun A1 dd H1 le k1 st ex => hp A1 dd H1 le k1 st ex
theorem Dats.cut {K : PySem.W.Frag} {S : Addr → Prop} {H : Hp} {ds : List D} {vs : List V} (h : Dats K S H ds vs) (lo hi : Option Int) : Dats K S H (cutG ds lo hi) (cutG vs lo hi) := by
  unfold cutG
  rw [h.len]
  exact (h.drop _).take _
def rSl (K : PySem.W.Frag) : V → Option Int → Option Int → Hp → VK → Prop := fun x lo hi H Q => rSlS x lo hi H Q ∨ rSlL K x lo hi H Q
theorem de_slice (ha : DE X W a ta ma) (hl : DO X W lo tl ml) (hh : DO X W hi th mh) : DE X W (.Subscript a (.Slice lo hi none p2) pos) (tSl (rSl X.K) ta tl th) (ma.bind fun d => ml.bind fun l => mh.bind fun h => Mo.lift (slD d l h)) := by
  refine ⟨pe_slice (sl_str.or sl_list) ha.pe hl.po hh.po, ?_⟩
  refine XR.bind (t2 := fun x σ (H1 : Hp) (Q : VK) => tl σ H1 fun l H2 => th σ H2 fun u H3 => rSl X.K x l u H3 Q) ha.er (KR.carry (t2 := fun x l σ (H2 : Hp) (Q : VK) => th σ H2 fun u H3 => rSl X.K x l u H3 Q) (m2 := fun d l => mh.bind fun h => Mo.lift (slD d l h)) grow_D hl.er ?_)
  intro S0 A σ env H k dx x hx l l' hll r env' hm Q hp
  cases (show l = l' from hll)
  refine KR.carry (t2 := fun x u σ (H3 : Hp) (Q : VK) => rSl X.K x l u H3 Q) (m2 := fun d h => Mo.lift (slD d l h)) grow_D hh.er ?_ S0 A σ env H k dx x hx r env' hm Q hp
  intro S0 A σ env H k dx x hx h h' hhh r env' hm Q hp
  cases (show h = h' from hhh)
  obtain ⟨d, w1, w2⟩ := Mo.lift_some hm
  cases w2
  unfold slD at w1
  split at w1
  · split at w1
    · rename_i z hz
      cases w1
      cases (show x = .str z from hx)
      exact .inl ⟨z, rfl, by rw [ssz_eq]; exact hz, hp A _ H .refl k .refl rfl⟩
    · cases w1
  · cases w1
    obtain ⟨q, vs, rfl, h1, _, h2⟩ := hx
    exact .inr ⟨q, vs, rfl, SqL.of h1, fun p hp' => hp A _ _ .refl (k.ext (Ext.upd hp')) (.of (Ext.upd hp')) (dat_new k.trA hp' (h2.cut l h))⟩
  · rename_i ns
    cases w1
    obtain ⟨q, rfl, z⟩ := hx
    refine .inr ⟨q, ns.map V.int, rfl, z.elim (fun ⟨o, z, _⟩ => .inl (.inr ⟨o, z⟩)) .inr, fun p hp' => hp A _ _ .refl (k.ext (Ext.upd hp')) (.of (Ext.upd hp')) (dat_new k.trA hp' ?_)⟩
    exact (Dats.ints ns).cut l h
  · cases w1
def inD : D → D → Option D
  | .str a, .str z => match a.cps.toList with
    | [c] => some (.bl (decide (c ∈ z.cps.toList)))
    | _ => none
  | _, _ => none
theorem str_one {a : Str} {c : Nat} (h : a.cps.toList = [c]) : a = ⟨#[c]⟩ := by
  obtain ⟨arr⟩ := a
  obtain ⟨l⟩ := arr
  cases (show l = [c] from h); rfl
theorem od_in : OpD X (compareOp .In) rInS inD := by
  refine ⟨op_inS, fun S H x y dx dy d hS hx hy hf Q hq => ?_⟩
  unfold inD at hf
  split at hf
  · split at hf
    · rename_i a z _ c hc
      cases hf
      cases (show x = .str _ from hx); cases (show y = .str _ from hy)
      exact ⟨c, z, by rw [str_one hc], rfl, hq _ H ext_refl rfl⟩
    · cases hf
  · cases hf
abbrev RS : RL Str Str := fun _ _ _ a b => a = b
def jsM : List (Mo D) → Str → Mo Str
  | [], acc => Mo.ret acc
  | m :: ms, acc => m.bind fun d => (Mo.lift ((strOf d).bind fun y => if (acc ++ y).length ≤ ssz then some (acc ++ y) else none)).bind fun acc' => jsM ms acc'
inductive DJ (X : Cx) (W : WX) : List Expr → List TE → List (Mo D) → Prop where
  | nil : DJ X W [] [] []
  | cons {e : Expr} {t : TE} {m : Mo D} {es : List Expr} {ts : List TE} {ms : List (Mo D)} (h : DE X W e t m) (r : DJ X W es ts ms) : DJ X W (e :: es) (t :: ts) (m :: ms)
theorem DJ.er {es : List Expr} {ts : List TE} {ms : List (Mo D)} (h : DJ X W es ts ms) : ∀ acc, XR RS X.K W (tJs ts acc) (jsM ms acc) := by
  induction h with
  | nil =>
    intro acc S0 A σ env H k r env' hm Q hp
    cases hm
    exact hp A acc H .refl k .refl rfl
  | @cons e t m es ts ms he _ ih =>
    intro acc
    refine XR.bind (t2 := fun x σ (H1 : Hp) (Q : Str → Hp → Prop) => ∃ y : Str, x = .str y ∧ (acc ++ y).length ≤ sizeLine ∧ tJs ts (acc ++ y) σ H1 Q) he.er ?_
    intro S0 A σ env H k d v hd r env' hm Q hp
    rcases Mo.bind_some hm with ⟨z, e1, q1, q2⟩ | ⟨y, e1, q1, q2⟩
    · obtain ⟨z', w1, w2⟩ := Mo.lift_some q1
      cases w2
      cases q : strOf d with
      | none => rw [q] at w1; cases w1
      | some y =>
        rw [q] at w1
        have w1 : (if (acc ++ y).length ≤ ssz then some (acc ++ y) else none) = some z := w1
        split at w1
        · rename_i hz
          cases w1
          cases strOf_some q
          exact ⟨y, hd, by rw [ssz_eq]; exact hz, ih _ S0 A σ _ H k r env' q2 Q hp⟩
        · cases w1
    · obtain ⟨z', w1, w2⟩ := Mo.lift_some q1
      cases w2
/-- a class method, as callers see it -/
def Cm (P : Program) (w : World) (K : PySem.W.Frag) (mg : Str → Option Value) (base : Heap) (C : Addr) (m : Str) (k : Nat) (sp : Sp) : Prop :=
  ∃ (mc : Value) (p g : Addr) (fd : FuncData) (ps : List Str), ClX.CRead K C mc ∧ ClX.CMet K C mc m p g ∧ FnG P w K mg base (L2.CX P w) k g fd ps sp ∧ Binds K fd ps []
theorem Cm.mono {P : Program} {w : World} {K : PySem.W.Frag} {mg : Str → Option Value} {base : Heap} {C : Addr} {m : Str} {j k : Nat} {sp : Sp} (G : Cm P w K mg base C m j sp) (h : j ≤ k) : Cm P w K mg base C m k sp :=
  let ⟨mc, p, g, fd, ps, r, c, F, b⟩ := G; ⟨mc, p, g, fd, ps, r, c, F.mono h, b⟩
def fnOf? : D → Option Addr
  | .fn a => some a
  | _ => none
theorem fnOf_some {d : D} {a : Addr} (h : fnOf? d = some a) : d = .fn a := by
  unfold fnOf? at h
  split at h
  · cases h; rfl
  · cases h
def isFnM (C : Addr) (d : D) : Mo Unit := Mo.lift ((fnOf? d).bind fun a => if a = C then some () else none)
theorem isFnM_some {C : Addr} {d : D} {e : En} {r : Except Ex Unit × En} (h : isFnM C d e = some r) : d = .fn C ∧ r = (.ok (), e) := by
  obtain ⟨u, w1, w2⟩ := Mo.lift_some h
  cases q : fnOf? d with
  | none => rw [q] at w1; cases w1
  | some a =>
    rw [q] at w1
    have w1 : (if a = C then some () else none) = some u := w1
    split at w1
    · rename_i e; subst e; exact ⟨fnOf_some q, w2⟩
    · cases w1
end
end PD
namespace PD
open PySem PySem.Spec PyProof.Rows PySem.Calls L2
section
variable {P : Program} {w : World} {K : PySem.W.Frag} {mg : Str → Option Value} {base : Heap}
theorem fn_MD {x qual : Str} {params : Arguments} {bd : List Stmt} {scope : Scope} {dvs : List V} {kws : List (Str × V)} {f : Addr} {fd : FuncData} {N ps : List Str} {k : Nat} {fM : OV → List D → Option (Except Ex D × OV)} (F : FunD K x qual params bd scope dvs kws f fd) (S : FnScope N ps scope) (hlen : ∀ l ds r, fM l ds = some r → ds.length + 1 = ps.length)
    (body : ∀ (cdv : Value) (A : Around) (outer : List Env) (s : Shared) (H : Hp) (E : XK), RoomG k (A.deeper (envOfC qual scope s.heap.objs.size f cdv)) →
      ∃ t m, DSs (cxOf (L2.CX P w) P w K mg base N qual scope f cdv A outer s H E) (fun c d _ H => E c d H) bd t m ∧ ∀ l ds r l', fM l ds = some (r, l') → ∃ o env', m (stO N l ds) = some (o, env') ∧ outR o = some r ∧ env'[0]? = some (.own false l')) :
    FnG P w K mg base (L2.CX P w) (k + 1) f fd ps (spM K fM) := by
  have hps : ps.length ≤ N.length := by have := congrArg List.length S.pre; rw [List.length_take] at this; omega
  refine okGD F S (fun vs H Q E h => ?_) (fun cdv A outer s H vs Q E hr h => ?_)
  · obtain ⟨S, q, l, rest, ds, r, l', rfl, _, _, _, h2, h3, _⟩ := h
    rw [List.length_cons, ← h2.len]; exact hlen l ds _ h3
  · obtain ⟨S0, q, l, rest, ds, r, l', rfl, hq, h1, ho, h2, h3, h4⟩ := h
    obtain ⟨t, m, hd, hm⟩ := body cdv A outer s H E hr
    obtain ⟨o, env', hm, ho', h0⟩ := hm l ds r l' h3
    refine ⟨t, hd.ps, hd.sr S0 _ _ _ H (ok_startO h1 hq ho h2 (by rw [hlen l ds _ h3]; exact hps)) o env' hm _ fun A' σ' H' k' g => ?_⟩
    have st : Stp (fun b => b = q) H H' := g.1.mono fun b ⟨j, z⟩ => (oneOw_some z).2
    obtain ⟨q', z1, z2, z3, z4, z5⟩ := k'.sl 0 _ h0
    -- the slot 0 still holds what was lent
    have eq : q' = q := by
      rcases g.2 q' ⟨0, z1⟩ with ⟨j, z⟩ | z
      · exact (oneOw_some z).2
      · exact absurd z (h1 q' (z5 rfl))
    have wk : ∀ {d v}, Dat K (AV S0 A') H' d v → Dat K S0 H' d v := fun z => z.weak fun b => .inl
    have ov : OVAt K S0 H' l' q := eq ▸ z3.step (fun b z => .inl (.inl z)) .refl rfl
    cases o with
    | nx => cases ho'; exact h4 .non H' st ov rfl
    | rt d => cases ho'; exact fun v hv => h4 v H' st ov (wk hv)
    | rf l => cases ho'; exact fun p vs hp hq hn hl => h4 (.ref p) H' st ov ⟨p, vs, rfl, hq, fun z => hn (.inl z), hl.weak fun b z => .inl (.inl z)⟩
    | bk => cases ho'
    | ct => cases ho'
    | ex y =>
      cases ho'
      refine fun dd hx => h4 dd H' st ov ?_
      cases dd with
      | none => exact hx
      | some q => obtain ⟨vs, z1, zn, z2, z3⟩ := hx; exact ⟨vs, z1, fun z => zn (.inl z), z2, z3.weak fun b => .inl⟩
/-- a def of the module as the top has written it -/
def DefIn (K : PySem.W.Frag) (mg : Str → Option Value) (x : Str) (st : Stmt) (ps : List Str) : Prop := ∃ f fd, Fun K x x st f fd ∧ mg x = some (.ref f) ∧ Binds K fd ps []
theorem gd_of {x : Str} {st : Stmt} {ps : List Str} {k : Nat} {sp : Sp} (D : DefIn K mg x st ps) (h : ∀ f fd, Fun K x x st f fd → FnG P w K mg base (L2.CX P w) k f fd ps sp) : Gd P w K mg base x k sp :=
  let ⟨f, fd, F, hm, hb⟩ := D; ⟨f, fd, ps, h f fd F, hm, F.kp, hb⟩
/-- a method of a class -/
def MethIn (K : PySem.W.Frag) (C : Addr) (m qual : Str) (st : Stmt) (ps : List Str) : Prop := ∃ f fd, Fun K m qual st f fd ∧ Meth K C m f ∧ Binds K fd ps []
theorem mth_of {C : Addr} {m qual : Str} {st : Stmt} {ps : List Str} {k : Nat} {sp : Sp} (D : MethIn K C m qual st ps) (h : ∀ f fd, Fun K m qual st f fd → FnG P w K mg base (L2.CX P w) k f fd ps sp) : Mth P w K mg base C m k sp :=
  let ⟨f, fd, F, hm, hb⟩ := D; ⟨f, fd, ps, hm, h f fd F, hb⟩
/-- a class's __init__, defaults dvs -/
def InitIn (K : PySem.W.Frag) (mg : Str → Option Value) (x : Str) (C : Addr) (qual : Str) (st : Stmt) (dvs : List V) : Prop := ∃ f fd, FunD K "__init__" qual (defArgs st) (defBody st) (defScope st) dvs [] f fd ∧ Mk K C f ∧ mg x = some (.ref C)
theorem gc_of {x qual : Str} {C : Addr} {st : Stmt} {dvs : List V} {ps : List Str} {k : Nat} {sp : Sp} (j : Nat) (D : InitIn K mg x C qual st dvs) (h : ∀ f fd, FunD K "__init__" qual (defArgs st) (defBody st) (defScope st) dvs [] f fd → FnG P w K mg base (L2.CX P w) k f fd ps sp)
    (hb : ∀ f fd, FunD K "__init__" qual (defArgs st) (defBody st) (defScope st) dvs [] f fd → ∃ ds, Vals (dvs.drop j) ds ∧ Binds K fd ps ds) : Gc P w K mg base x C k (dvs.drop j) sp :=
  let ⟨f, fd, F, M, hm⟩ := D
  let ⟨ds, hv, hb⟩ := hb f fd F
  ⟨f, fd, ps, ds, M, h f fd F, hm, hb, hv⟩
theorem takes0 {X : Cx} : Takes X W0 := fun u s' x => by
  obtain ⟨a, B, sI, pins, σ, H, cls, d, e, I, nb, up, sky, na, os, ag, w⟩ := x
  exact w.elim
theorem fund_of {x qual : Str} {st : Stmt} {f : Addr} {fd : FuncData} (F : Fun K x qual st f fd) : FunD K x qual (defArgs st) (defBody st) (defScope st) [] [] f fd := by
  obtain ⟨oc, od, kV, doc, pm, an, cdv, ct, osl, rfl, lk, hcd⟩ := F.ex
  exact ⟨⟨oc, od, .none, kV, doc, pm, an, cdv, ct, osl, rfl, lk, hcd, .inl ⟨rfl, rfl⟩, .inl rfl⟩, F.kp⟩
end
end PD
namespace PD
open PySem PySem.Spec PyProof.Rows PySem.Calls L2
section
variable {X : Cx} {W : WX} {tg elt iter : Expr} {ifs : List Expr} {pos : Pos} {w : TI} {mi : Mo (List D)} {g : TG} {f : D → En → Option En} {tt : TT} {te : TE} {mt : Mo Bool} {me : Mo D} {scope : Scope} {own : List (Str × Nat)}
/-- the block's readings are found at one block first -/
theorem df_lc2 (hc : X.calm = true) (hN : X.N.Nodup) (hi : DI X W tg iter w mi) (ok : BlkOk X.N X.env.scope scope own)
    (hg0 : DG (X.blk X.s_0 (fun _ => none) scope (compEnvC scope [] 0 X.env) []) tg g f) (ht0 : DTs (X.blk X.s_0 (fun _ => none) scope (compEnvC scope [] 0 X.env) []) ifs tt mt) (he0 : DE (X.blk X.s_0 (fun _ => none) scope (compEnvC scope [] 0 X.env) []) W0 elt te me)
    (hg : ∀ (s : Shared) (H : Hp) (C : Addr) (cl : List (Str × Addr)) (fp : List Addr), DG (X.blk s H scope (compEnvC scope cl C X.env) fp) tg g f) (gw : GW g (own.map (·.2)))
    (ht : ∀ (s : Shared) (H : Hp) (C : Addr) (cl : List (Str × Addr)) (fp : List Addr), DTs (X.blk s H scope (compEnvC scope cl C X.env) fp) ifs tt mt)
    (he : ∀ (s : Shared) (H : Hp) (C : Addr) (cl : List (Str × Addr)) (fp : List Addr), DE (X.blk s H scope (compEnvC scope cl C X.env) fp) W0 elt te me) (hs : ∀ x, foldedSetIterable iter X.env x = pure x := by intro _; rfl) :
    DF X W (.ListComp elt [⟨tg, iter, ifs, 0⟩] scope pos) (tLc w g tt te (own.map (·.2))) (lcM mi f mt me (own.map (·.2))) := df_lc hc hN hi ok hg gw ht he hs
end
end PD
namespace PD
open PySem PySem.Spec PyProof.Rows PySem.Calls L2
end PD
namespace PD
open PySem PySem.Spec PyProof.Rows PySem.Calls L2
section
variable {α β : Type}
theorem fldNM_ev {i : Nat} {C : Addr} {f : Str} {e : En} : fldNM i C f e = match e[i]? with | some (.own _ ⟨.ins C' fs, l⟩) => (if C' = C then Mo.lift ((fs.zip l).lookup f) e else none) | some (.val d) => Mo.lift (fldD C f d) e | _ => none := rfl
theorem callM_ev {i : Nat} {f : OV → List D → Option (Except Ex D × OV)} {ms : Mo (List D)} {e : En} : callM i f ms e = if hasSl i e = true then (ms.bind fun ds => callMM i f ds) e else none := rfl
theorem callMM_ev {i : Nat} {f : OV → List D → Option (Except Ex D × OV)} {ds : List D} {e : En} : callMM i f ds e = match e[i]? with | some (.own b l) => (match f l ds with | some (r, l') => some (r, e.set i (.own b l')) | none => none) | _ => none := rfl
theorem peekM_ev {i : Nat} {g : List D → Option D} {e : En} : peekM i g e = match e[i]? with | some (.own _ ⟨.dct _, _⟩) => none | some (.own _ o) => (match g [o.d] with | some d => if isSc d = true then some (.ok d, e) else none | none => none) | some (.val d) => Mo.lift (g [d]) e | _ => none := rfl
theorem tupM_ev {ds : List D} {e : En} (h : ds.length ≤ ssz) : tupM ds e = some (.ok (.tup ds), e) := by unfold tupM; rw [if_pos h]; rfl
theorem lstM_ev {ds : List D} {e : En} (h : ds.length ≤ ssz) : lstM ds e = some (.ok (.lst ds), e) := by unfold lstM; rw [if_pos h]; rfl
theorem lnM_ev {ds : List D} {e : En} (h : ds.length ≤ ssz) : lnM ds e = some (.ok ds, e) := by unfold lnM; rw [if_pos h]; rfl
theorem lenM_ev {n : Nat} {ds : List D} {e : En} (h : ds.length = n) : lenM n ds e = some (.ok ds, e) := by unfold lenM; rw [if_pos h]; rfl
theorem while_ev {c : Mo Bool} {b : Sm} {n : Nat} {e : En} {r : Out × En} (h : whileN c b n e = some r) : whileS c b e = some r := whileS_of h
theorem whileN_ev {c : Mo Bool} {b : Sm} {n : Nat} {e : En} : whileN c b (n + 1) e = match c e with
    | some (.ok true, e1) => (match b e1 with
      | some (.nx, e2) => whileN c b n e2
      | some (.ct, e2) => whileN c b n e2
      | some (.bk, e2) => some (.nx, e2)
      | r => r)
    | some (.ok false, e1) => some (.nx, e1)
    | some (.error x, e1) => some (.ex x, e1)
    | none => none := rfl
theorem forL_cons {f : D → En → Option En} {b : Sm} {d : D} {ds : List D} {e : En} : forL f b (d :: ds) e = match f d e with
  | some e1 => (match b e1 with
      | some (.nx, e2) => forL f b ds e2
      | some (.ct, e2) => forL f b ds e2
      | some (.bk, e2) => some (.nx, e2)
      | r => r)
  | none => none := rfl
theorem lcL_nil {f : D → En → Option En} {mt : Mo Bool} {me : Mo D} {vs : List Nat} {acc : List D} {e : En} : lcL f mt me vs acc [] e = some (.ok acc, e) := rfl
theorem lcL_cons {f : D → En → Option En} {mt : Mo Bool} {me : Mo D} {vs : List Nat} {acc : List D} {d : D} {ds : List D} {e : En} : lcL f mt me vs acc (d :: ds) e = match f d e with
  | some e1 => (match mt e1 with
      | some (.ok true, e2) => (match me e2 with
        | some (.ok y, e3) => if acc.length < ssz then lcL f mt me vs (acc ++ [y]) ds (wipeE e3 vs) else none
        | _ => none)
      | some (.ok false, e2) => lcL f mt me vs acc ds (wipeE e2 vs)
      | _ => none)
  | none => none := rfl
end
theorem le_ssz {n : Nat} (h : n ≤ 1000) : n ≤ ssz := Nat.le_trans h (by decide)
theorem subD_int {i j : Int} : subD (.int i) (.int j) = some (.int (i - j)) := rfl
theorem mulD_int {i j : Int} (h : i.natAbs.log2 + j.natAbs.log2 < 1000000) : mulD (.int i) (.int j) = some (.int (i * j)) := if_pos (.inl h)
theorem mulD_R {i j : Int} (h : j.natAbs < 2 ^ 64) : mulD (.int i) (.int j) = some (.int (i * j)) := if_pos (.inr (.inr ⟨by omega, by omega⟩))
theorem fdivD_int {i j : Int} (h : j ≠ 0) (h2 : j.natAbs.log2 < 9000) : fdivD (.int i) (.int j) = some (.int (i.fdiv j)) := if_pos ⟨h, h2⟩
theorem modD_int {i j : Int} (h : j ≠ 0) : modD (.int i) (.int j) = some (.int (i.fmod j)) := if_pos h
theorem absD_int {i : Int} : absD [.int i] = some (.int (i.natAbs : Int)) := by
  have h : (if i < 0 then -i else i) = (i.natAbs : Int) := by split <;> omega
  show some (D.int (if i < 0 then -i else i)) = _
  rw [h]
theorem log2_lt {n k : Nat} (h : n < 2 ^ k) (hk : 0 < k) : n.log2 < k := by
  by_cases h0 : n = 0
  · subst h0; exact hk
  · exact (Nat.log2_lt h0).mpr h
end PD
namespace PD
end PD
namespace PD
theorem truD_bl {b : Bool} : truD (.bl b) = some b := rfl
end PD
namespace PD
open PySem PySem.Spec PyProof.Rows PySem.Calls L2
def rF : List Str := ["top", "bottom"]
def rat (C : Addr) (q : Rat) : D := .ins C rF [.int q.num, .int (q.den : Int)]
inductive Nm where
  | i (n : Int) | r (q : Rat)
namespace Nm
def v : Nm → Rat
  | i n => (n : Rat)
  | r q => q
def d (C : Addr) : Nm → D
  | i n => .int n
  | r q => rat C q
end Nm
open Classical in
noncomputable def numOf (C : Addr) (d : D) : Option Nm := if h : ∃ x : Nm, d = x.d C then some (choose h) else none
noncomputable def sp2 (C : Addr) (g : Nm → Nm → Option D) : List D → Option (Except Ex D)
  | [x, y] => (numOf C x).bind fun a => (numOf C y).bind fun b => (g a b).map .ok
  | _ => none
def big : Nat := 2 ^ 4000
def bd (q : Rat) : Prop := q.num.natAbs < big ∧ q.den < big
instance (q : Rat) : Decidable (bd q) := inferInstanceAs (Decidable (_ ∧ _))
def tb (C : Addr) (f : Tg → Bool) : List (Tg × Bool) := [(.int, f .int), (.bl, f .bl), (.non, f .non), (.str, f .str), (.tup, f .tup), (.lst, f .lst), (.dct, f .dct), (.ins C, f (.ins C))]
end PD
namespace PD
open PySem PySem.Spec PyProof.Rows PySem.Calls L2
end PD
namespace PD
open PySem PySem.Spec PyProof.Rows PySem.Calls L2
def bdn (n : Nat) (q : Rat) : Prop := q.num.natAbs < 2 ^ n ∧ q.den < 2 ^ n
instance (n : Nat) (q : Rat) : Decidable (bdn n q) := inferInstanceAs (Decidable (_ ∧ _))
theorem bdn.mono {m n : Nat} {q : Rat} (h : bdn m q) (hn : m ≤ n) : bdn n q := ⟨Nat.lt_of_lt_of_le h.1 (Nat.pow_le_pow_right (by decide) hn), Nat.lt_of_lt_of_le h.2 (Nat.pow_le_pow_right (by decide) hn)⟩
theorem mkRat_num_le (t : Int) (b : Nat) : (mkRat t b).num.natAbs ≤ t.natAbs := by
  rw [Rat.num_mkRat]
  split
  · exact Nat.zero_le _
  · rw [Int.natAbs_ediv_of_dvd]
    · exact Nat.div_le_self _ _
    · exact Int.ofNat_dvd_left.mpr (Nat.gcd_dvd_right _ _)
theorem mkRat_den_le (t : Int) (b : Nat) (h : b ≠ 0) : (mkRat t b).den ≤ b := by
  rw [Rat.den_mkRat, if_neg h]
  exact Nat.div_le_self _ _
theorem add_mk (p q : Rat) : mkRat (p.num * q.den + q.num * p.den) (p.den * q.den) = p + q := by
  rw [Rat.add_def, Rat.normalize_eq_mkRat]
theorem mul_mk (p q : Rat) : mkRat (p.num * q.num) (p.den * q.den) = p * q := by
  rw [Rat.mul_def, Rat.normalize_eq_mkRat]
theorem neg_mk (p : Rat) : mkRat (-p.num) p.den = -p := by
  rw [← Rat.neg_num, ← Rat.neg_den, Rat.mkRat_self]
def absQ (p : Rat) : Rat := mkRat (p.num.natAbs : Int) p.den
def bdi (n : Nat) (t : Int) : Prop := t.natAbs < 2 ^ n
theorem bdi.log {n : Nat} {t : Int} (h : bdi n t) (hn : 0 < n) : t.natAbs.log2 < n := log2_lt h hn
theorem bdi.mul {m n : Nat} {s t : Int} (h : bdi m s) (h2 : bdi n t) : bdi (m + n) (s * t) := by
  unfold bdi at *
  rw [Int.natAbs_mul, Nat.pow_add]
  exact Nat.mul_lt_mul'' h h2
theorem bdi.add {n : Nat} {s t : Int} (h : bdi n s) (h2 : bdi n t) : bdi (n + 1) (s + t) := by
  unfold bdi at *
  have := Int.natAbs_add_le s t
  rw [Nat.pow_succ]; omega
theorem bdi.mono {m n : Nat} {s : Int} (h : bdi m s) (hn : m ≤ n) : bdi n s := Nat.lt_of_lt_of_le h (Nat.pow_le_pow_right (by decide) hn)
theorem bdn.num {n : Nat} {q : Rat} (h : bdn n q) : bdi n q.num := h.1
theorem bdn.dn {n : Nat} {q : Rat} (h : bdn n q) : bdi n (q.den : Int) := by unfold bdi; rw [Int.natAbs_natCast]; exact h.2
/-- the sizes of results -/
theorem bdn_mk {m n : Nat} {t : Int} {b : Nat} (h : bdi m t) (hb : b ≠ 0) (h2 : bdi n (b : Int)) {k : Nat} (hm : m ≤ k) (hn : n ≤ k) : bdn k (mkRat t b) := by
  refine ⟨Nat.lt_of_le_of_lt (mkRat_num_le t b) (h.mono hm), Nat.lt_of_le_of_lt (mkRat_den_le t b hb) ?_⟩
  have := h2.mono hn
  unfold bdi at this; rwa [Int.natAbs_natCast] at this
theorem bdn_mul {m n : Nat} {p q : Rat} (h : bdn m p) (h2 : bdn n q) : bdn (m + n) (p * q) := by
  rw [← mul_mk]
  exact bdn_mk (h.num.mul h2.num) (Nat.mul_ne_zero p.den_nz q.den_nz) (by rw [Int.natCast_mul]; exact h.dn.mul h2.dn) (Nat.le_refl _) (Nat.le_refl _)
theorem bdn_add {m n : Nat} {p q : Rat} (h : bdn m p) (h2 : bdn n q) : bdn (m + n + 1) (p + q) := by
  rw [← add_mk]
  have e : n + m = m + n := Nat.add_comm _ _
  exact bdn_mk ((h.num.mul h2.dn).add (e ▸ h2.num.mul h.dn)) (Nat.mul_ne_zero p.den_nz q.den_nz) (by rw [Int.natCast_mul]; exact h.dn.mul h2.dn) (Nat.le_refl _) (Nat.le_succ _)
theorem bdn_neg {m : Nat} {p : Rat} (h : bdn m p) : bdn m (-p) := by
  refine ⟨?_, ?_⟩
  · rw [Rat.neg_num, Int.natAbs_neg]; exact h.1
  · rw [Rat.neg_den]; exact h.2
theorem bdn_sub {m n : Nat} {p q : Rat} (h : bdn m p) (h2 : bdn n q) : bdn (m + n + 1) (p - q) := by
  rw [Rat.sub_eq_add_neg]; exact bdn_add h (bdn_neg h2)
theorem bdn_pow {m : Nat} {p : Rat} (h : bdn m p) : ∀ n : Nat, 0 < n → bdn (m * n) (p ^ n)
  | 0, h0 => by omega
  | 1, _ => by rw [Rat.pow_one, Nat.mul_one]; exact h
  | n + 2, _ => by
    rw [Rat.pow_succ, Nat.mul_succ]
    exact bdn_mul (bdn_pow h (n + 1) (by omega)) h
theorem bdn_int {m : Nat} {n : Int} (h : bdi m n) (hm : 0 < m) : bdn m (n : Rat) := by
  refine ⟨by rw [Rat.num_intCast]; exact h, ?_⟩
  rw [Rat.den_intCast]
  exact Nat.one_lt_two_pow (by omega)
theorem fmod_nat (m n : Nat) : ((m : Int).fmod (n : Int)) = ((m % n : Nat) : Int) := by
  rw [Int.fmod_eq_emod_of_nonneg _ (by omega), Int.natCast_emod]
theorem gcd_loop {c : Mo Bool} {b : Sm} (E : Nat → Nat → En) (hc : ∀ m n : Nat, c (E m n) = some (.ok (!decide ((n : Int) = 0)), E m n)) (hb : ∀ m n : Nat, n ≠ 0 → b (E m n) = some (.nx, E n (m % n))) :
    ∀ n m : Nat, whileS c b (E m n) = some (.nx, E (Nat.gcd m n) 0) := by
  have go : ∀ n m : Nat, whileN c b (n + 1) (E m n) = some (.nx, E (Nat.gcd m n) 0) := by
    intro n
    induction n using Nat.strongRecOn with
    | ind n ih =>
      intro m
      rw [whileN_ev, hc m n]
      by_cases h0 : n = 0
      · subst h0; simp
      · have hz : ¬ ((n : Int) = 0) := by omega
        have hd : (!decide ((n : Int) = 0)) = true := by simp [h0]
        rw [hd]
        dsimp only
        rw [hb m n h0]
        dsimp only
        have hl := Nat.mod_lt m (Nat.pos_of_ne_zero h0)
        have := ih (m % n) hl n
        rw [show Nat.gcd m n = Nat.gcd n (m % n) by rw [Nat.gcd_comm m n, Nat.gcd_rec n m, Nat.gcd_comm]]
        exact whileN_le this (by omega)
  exact fun n m => while_ev (go n m)
end PD
namespace PD
open PySem PySem.Spec PyProof.Rows PySem.Calls L2
theorem fdiv_floor {a b c d : Int} (hb : 0 < b) (hc : c ≠ 0) (hd : 0 < d) : (a * d).fdiv (b * c) = ((a : Rat) / (b : Rat) / ((c : Rat) / (d : Rat))).floor := by
  have hbc : b * c ≠ 0 := Int.mul_ne_zero (by omega) hc
  have hb' : (b : Rat) ≠ 0 := by simpa using (show b ≠ 0 by omega)
  have hc' : (c : Rat) ≠ 0 := by simpa using hc
  have hd' : (d : Rat) ≠ 0 := by simpa using (show d ≠ 0 by omega)
  have e : (a : Rat) / (b : Rat) / ((c : Rat) / (d : Rat)) = ((a * d : Int) : Rat) / ((b * c : Int) : Rat) := by
    rw [Rat.intCast_mul, Rat.intCast_mul]; grind
  rw [e]
  generalize a * d = x
  generalize b * c = y at hbc
  have h1 : x = y * x.fdiv y + x.fmod y := (Int.mul_fdiv_add_fmod x y).symm
  have hq : ∀ k : Int, (k = (((x : Int) : Rat) / ((y : Int) : Rat)).floor) ↔ ((k : Rat) ≤ (x : Rat) / (y : Rat) ∧ (x : Rat) / (y : Rat) < (k : Rat) + 1) := by
    intro k
    constructor
    · rintro rfl
      refine ⟨Rat.floor_le _, ?_⟩
      have := Rat.lt_floor_add_one ((x : Rat) / (y : Rat))
      rwa [Rat.intCast_add] at this
    · rintro ⟨g1, g2⟩
      have g3 := Rat.le_floor_iff.mpr g1
      have g4 : ((x : Rat) / (y : Rat)).floor < k + 1 := Rat.floor_lt_iff.mpr (by rw [Rat.intCast_add]; exact g2)
      omega
  rw [hq]
  have hy' : (y : Rat) ≠ 0 := by simpa using hbc
  have h2 : (x : Rat) = (y : Rat) * (x.fdiv y : Int) + (x.fmod y : Int) := by
    rw [← Rat.intCast_mul, ← Rat.intCast_add, ← h1]
  have h3 : (x : Rat) / (y : Rat) = (x.fdiv y : Int) + ((x.fmod y : Int) : Rat) / (y : Rat) := by
    rw [h2]
    generalize ((x.fmod y : Int) : Rat) = r
    generalize ((x.fdiv y : Int) : Rat) = k
    grind
  rw [h3]
  have pos : ∀ x y : Int, 0 < y → (0 : Rat) ≤ ((x.fmod y : Int) : Rat) / (y : Rat) ∧ ((x.fmod y : Int) : Rat) / (y : Rat) < 1 := by
    intro x y hp
    have a1 := Int.fmod_lt_of_pos x hp
    have a2 := Int.fmod_nonneg_of_pos x hp
    have b1 : ((x.fmod y : Int) : Rat) < (y : Rat) := Rat.intCast_lt_intCast.mpr a1
    have b2 : (0 : Rat) ≤ ((x.fmod y : Int) : Rat) := by simpa using Rat.intCast_le_intCast.mpr a2
    have b3 : (0 : Rat) < (y : Rat) := by simpa using Rat.intCast_lt_intCast.mpr hp
    refine ⟨Rat.not_lt.mp fun h => ?_, (Rat.div_lt_iff b3).mpr (by rw [Rat.one_mul]; exact b1)⟩
    have := (Rat.div_lt_iff b3).mp h
    rw [Rat.zero_mul] at this
    exact Rat.not_lt.mpr b2 this
  have h4 : (0 : Rat) ≤ ((x.fmod y : Int) : Rat) / (y : Rat) ∧ ((x.fmod y : Int) : Rat) / (y : Rat) < 1 := by
    rcases Int.lt_or_gt_of_ne hbc with hn | hp
    · have p := pos (-x) (-y) (by omega)
      have e1 : (-x).fmod (-y) = -(x.fmod y) := Int.neg_fmod_neg x y
      rw [e1, Rat.intCast_neg, Rat.intCast_neg] at p
      have e2 : -((x.fmod y : Int) : Rat) / -(y : Rat) = ((x.fmod y : Int) : Rat) / (y : Rat) := by
        generalize ((x.fmod y : Int) : Rat) = r at *
        generalize (y : Rat) = z at *
        grind
      rwa [e2] at p
    · exact pos x y hp
  obtain ⟨h5, h6⟩ := h4
  generalize ((x.fmod y : Int) : Rat) / (y : Rat) = u at *
  constructor <;> grind
theorem num_div_den' (q : Rat) : (q.num : Rat) / ((q.den : Int) : Rat) = q := by
  rw [← Rat.divInt_eq_div]; exact Rat.num_divInt_den q
theorem floor_bd {p q : Rat} {m n : Nat} (hp : bdn m p) (hq : bdn n q) (h0 : q ≠ 0) : bdi (m + n + 1) (p / q).floor := by
  have hn : q.num ≠ 0 := fun e => h0 (Rat.num_eq_zero.mp e)
  have e : (p / q).floor = (p.num * (q.den : Int)).fdiv ((p.den : Int) * q.num) := by
    rw [fdiv_floor (by have := p.den_pos; omega) hn (by have := q.den_pos; omega), num_div_den', num_div_den']
  rw [e]
  have h1 : bdi (m + n) (p.num * (q.den : Int)) := hp.num.mul hq.dn
  have hz : (p.den : Int) * q.num ≠ 0 := Int.mul_ne_zero (by have := p.den_nz; omega) hn
  generalize p.num * (q.den : Int) = x at *
  generalize (p.den : Int) * q.num = y at *
  unfold bdi at *
  have h2 := Int.natAbs_fdiv_le_natAbs x y
  rw [Nat.pow_succ]
  omega
end PD
namespace PD
open PySem PySem.Spec PyProof.Rows PySem.Calls L2
end PD
namespace PD
open PySem PySem.Spec PyProof.Rows PySem.Calls L2
theorem div_mk (p q : Rat) (h : 0 < q.num) : mkRat (p.num * (q.den : Int)) (p.den * q.num.toNat) = p / q := by
  rw [Rat.mkRat_eq_div]
  have e1 : ((p.den * q.num.toNat : Nat) : Int) = (p.den : Int) * q.num := by rw [Int.natCast_mul, Int.toNat_of_nonneg (by omega)]
  have e2 : ((p.den * q.num.toNat : Nat) : Rat) = (((p.den : Int) * q.num : Int) : Rat) := by rw [← e1]; rfl
  rw [e2, Rat.intCast_mul, Rat.intCast_mul]
  have h1 := num_div_den' p
  have h2 := num_div_den' q
  have d1 : ((p.den : Int) : Rat) ≠ 0 := by have := p.den_nz; simpa using this
  have d2 : ((q.den : Int) : Rat) ≠ 0 := by have := q.den_nz; simpa using this
  have d3 : (q.num : Rat) ≠ 0 := by simpa using (show q.num ≠ 0 by omega)
  generalize (p.num : Rat) = a at *
  generalize ((p.den : Int) : Rat) = b at *
  generalize (q.num : Rat) = c at *
  generalize ((q.den : Int) : Rat) = d at *
  subst h1; subst h2
  grind
theorem div_mkn (p q : Rat) (h : q.num < 0) : mkRat (-p.num * (q.den : Int)) (p.den * (-q.num).toNat) = p / q := by
  have e := div_mk (-p) (-q) (by rw [Rat.neg_num]; omega)
  rw [Rat.neg_num, Rat.neg_den, Rat.neg_num, Rat.neg_den] at e
  rw [e]
  grind
theorem de_constI {X : Cx} {W : WX} {x : Str} {i : Int} {pos : Pos} (h : ∃ t, X.mg x = some (.int i t)) (hg : Gl X x) (hd : (x == ("__debug__" : Str)) = false := by decide) : DE X W (.Name x pos) (tC (.int i)) (Mo.ret (.int i)) := by
  obtain ⟨t, h⟩ := h
  exact de_glob hg h ⟨t, rfl⟩ (fun _ _ => rfl) hd
theorem jsM_cons {m : Mo D} {ms : List (Mo D)} {acc : Str} {e : En} : jsM (m :: ms) acc e = (m.bind fun d => (Mo.lift ((strOf d).bind fun y => if (acc ++ y).length ≤ ssz then some (acc ++ y) else none)).bind fun acc' => jsM ms acc') e := rfl
end PD
namespace PD
open PySem PySem.Spec PyProof.Rows PySem.Calls L2
end PD
namespace PD
open PySem PySem.Spec PyProof.Rows PySem.Calls L2
theorem isFnM_ev {C : Addr} {e : En} : isFnM C (.fn C) e = some (.ok (), e) := by
  show Mo.lift ((some C).bind fun a => if a = C then some () else none) e = _
  show Mo.lift (if C = C then some () else none) e = _
  rw [if_pos rfl]; rfl
end PD
namespace PD
open PySem PySem.Spec PyProof.Rows PySem.Calls L2
theorem mulD_b {i j : Int} (h : bdi 400000 i) (h2 : bdi 400000 j) : mulD (.int i) (.int j) = some (.int (i * j)) := mulD_int (by
  have a := h.log (by decide)
  have b := h2.log (by decide)
  omega)
theorem bdi_lt {n : Nat} {i : Int} (h : i.natAbs < 2 ^ 60) (hn : 60 ≤ n) : bdi n i := Nat.lt_of_lt_of_le h (Nat.pow_le_pow_right (by decide) hn)
theorem powD_ev {i : Int} {n k : Nat} (h : bdi k i) (hk : 0 < k) (hn : (k + 1) * n ≤ 2 ^ 27) : powD (.int i) (.int n) = some (.int (i ^ n)) := by
  have hb : Builtin.Int.intBits i ≤ k + 1 := by
    unfold Builtin.Int.intBits
    split
    · omega
    · have := h.log hk; omega
  have h2 : (Builtin.Int.intBits i : Int) * (n : Int) ≤ 2 ^ 27 := by
    have := Nat.le_trans (Nat.mul_le_mul_right n hb) hn
    have e : ((Builtin.Int.intBits i * n : Nat) : Int) ≤ ((2 ^ 27 : Nat) : Int) := Int.ofNat_le.mpr this
    rw [Int.natCast_mul] at e
    exact e
  show (if 0 ≤ (n : Int) ∧ (Builtin.Int.intBits i : Int) * (n : Int) ≤ 2 ^ 27 then some (D.int (i ^ (n : Int).toNat)) else none) = _
  rw [if_pos ⟨by omega, h2⟩, Int.toNat_natCast]
theorem OV_d_lst {l : List D} : OV.d ⟨.lst, l⟩ = .lst l := rfl
/-- the state of a law's draws -/
structure Pu where
  x : Int
  g : Int
  n : Int
def Pu.l (p : Pu) : List D := [.int p.x, .int p.g, .int p.n]
structure Pu.ok (k : Int) (p : Pu) : Prop where
  x0 : 0 ≤ p.x
  x1 : p.x < 998244353
  g0 : 0 ≤ p.g
  n0 : 1 ≤ p.n
  n1 : p.n ≤ k
instance (k : Int) (p : Pu) : Decidable (p.ok k) := decidable_of_iff (0 ≤ p.x ∧ p.x < 998244353 ∧ 0 ≤ p.g ∧ 1 ≤ p.n ∧ p.n ≤ k) ⟨fun ⟨a, b, c, d, e⟩ => ⟨a, b, c, d, e⟩, fun ⟨a, b, c, d, e⟩ => ⟨a, b, c, d, e⟩⟩
theorem Pu.ok.mono {j k : Int} {p : Pu} (h : p.ok j) (hk : j ≤ k) : p.ok k := ⟨h.x0, h.x1, h.g0, h.n0, Int.le_trans h.n1 hk⟩
def tkM (p : Pu) : Int := (p.x * 48271 + (p.n + 1) * (p.n + 1) * 69621 + 11).fmod 998244353
def tkX (p : Pu) : Int := (tkM p * ((tkM p).fmod 32749 + 1) + (p.n + 1)).fmod 998244353
def tk (p : Pu) (m : Int) : Int × Pu := if 0 < p.g then (p.g % m, ⟨tkX p, p.g / m, p.n + 1⟩) else (((tkX p).fdiv 128).fmod m, ⟨tkX p, p.g, p.n + 1⟩)
end PD
namespace PD
open PySem PySem.Spec PyProof.Rows PySem.Calls L2
/-- a drawn integer -/
def nth3 (w : Int) : Int := if w = 0 then 2 else if w = 1 then 10 else 100
def wh (p : Pu) : Int × Pu :=
  let p1 := (tk p 6).2
  let p2 := (tk p1 2).2
  let sg := 1 - 2 * (tk p1 2).1
  if (tk p 6).1 < 3 then (sg * (tk p2 (nth3 (tk p 6).1)).1, (tk p2 (nth3 (tk p 6).1)).2)
  else
    let p3 := (tk p2 (10 ^ 9)).2
    if (tk p 6).1 = 5 then (sg * ((tk p3 (10 ^ 20)).1 * 10 ^ 20 + (tk (tk p3 (10 ^ 20)).2 (10 ^ 20)).1), (tk (tk p3 (10 ^ 20)).2 (10 ^ 20)).2)
    else (sg * (tk p2 (10 ^ 9)).1, p3)
/-- a drawn fraction -/
def fr (p : Pu) : Rat × Pu :=
  let p1 := (wh p).2
  let p2 := (tk p1 4).2
  if 0 < (tk p1 4).1 then (Rat.divInt (wh p).1 (1 + ((wh p2).1.natAbs : Int)), (wh p2).2) else (Rat.divInt (wh p).1 1, p2)
end PD
namespace PD
end PD
namespace PD
open PySem PySem.Spec PyProof.Rows PySem.Calls L2
theorem cutG_map {α β : Type} (g : α → β) (l : List α) (lo hi : Option Int) : cutG (l.map g) lo hi = (cutG l lo hi).map g := by
  unfold cutG
  rw [List.length_map, List.map_take, List.map_drop]
theorem ix_scr {ns : List Int} {k : Int} (h : 0 ≤ k) (h2 : k < ns.length) : ixD (.scr ns) (.int k) = some (.int (ns.getD k.toNat 0)) := by
  show (atI ns k).map D.int = _
  have hk : k.toNat < ns.length := by omega
  unfold atI ixN
  rw [if_pos h, if_pos h2]
  show (ns[k.toNat]?).map D.int = _
  rw [List.getElem?_eq_getElem hk, List.getD_eq_getElem?_getD, List.getElem?_eq_getElem hk]
  rfl
end PD
namespace PD
open PySem PySem.Spec PyProof.Rows PySem.Calls L2
class Sz (n : outParam Nat) (x : Nm) : Prop where
  bd : bdn n x.v
theorem UnD.or {X : Cx} {g : Value → Sem Value} {r r' : V → Hp → VK → Prop} {f f' : D → Option D} (h : UnD X g r f) (h' : UnD X g r' f') : UnD X g (fun x H Q => r x H Q ∨ r' x H Q) (fun x => (f x).or (f' x)) := by
  refine ⟨fun pins s σ H x v Q I rx q => q.elim (h.op pins s σ H x v Q I rx) (h'.op pins s σ H x v Q I rx), fun S H x dx d hS hx hf Q hq => ?_⟩
  cases q : f dx with
  | some d' => rw [q] at hf; cases hf; exact .inl (h.ok S H x dx _ hS hx q Q hq)
  | none => rw [q] at hf; exact .inr (h'.ok S H x dx _ hS hx hf Q hq)
def nAdd : Nm → Nm → Nm
  | .i a, .i b => .i (a + b)
  | x, y => .r (x.v + y.v)
def nSub : Nm → Nm → Nm
  | .i a, .i b => .i (a - b)
  | x, y => .r (x.v - y.v)
def nMul : Nm → Nm → Nm
  | .i a, .i b => .i (a * b)
  | x, y => .r (x.v * y.v)
def nNeg : Nm → Nm
  | .i a => .i (-a)
  | .r p => .r (-p)
def nAbs : Nm → Nm
  | .i a => .i (a.natAbs : Int)
  | .r p => .r (absQ p)
def nPow : Nm → Nat → Nm
  | .i a, n => .i (a ^ n)
  | .r p, n => .r (p ^ n)
theorem v_add {x y : Nm} : (nAdd x y).v = x.v + y.v := by
  cases x <;> cases y <;> first | exact Rat.intCast_add _ _ | rfl
theorem v_sub {x y : Nm} : (nSub x y).v = x.v - y.v := by
  cases x <;> cases y <;> first | exact Rat.intCast_sub _ _ | rfl
theorem v_mul {x y : Nm} : (nMul x y).v = x.v * y.v := by
  cases x <;> cases y <;> first | exact Rat.intCast_mul _ _ | rfl
theorem v_neg {x : Nm} : (nNeg x).v = -x.v := by
  cases x <;> first | exact Rat.intCast_neg _ | rfl
theorem v_pow {x : Nm} {n : Nat} : (nPow x n).v = x.v ^ n := by
  cases x <;> first | exact Rat.intCast_pow _ _ | rfl
theorem absQ_eq (p : Rat) : absQ p = if p < 0 then -p else p := by
  have hn : p < 0 ↔ p.num < 0 := by
    have := Rat.lt_iff p 0
    simpa using this
  by_cases h : p < 0
  · rw [if_pos h]
    have h1 := hn.mp h
    unfold absQ
    rw [show ((p.num.natAbs : Nat) : Int) = -p.num by omega, neg_mk]
  · rw [if_neg h]
    have h1 : ¬ p.num < 0 := fun z => h (hn.mpr z)
    unfold absQ
    rw [show ((p.num.natAbs : Nat) : Int) = p.num by omega, Rat.mkRat_self]
theorem v_abs {x : Nm} : (nAbs x).v = if x.v < 0 then -x.v else x.v := by
  cases x with
  | r p => exact absQ_eq p
  | i a =>
    show (((a.natAbs : Nat) : Int) : Rat) = if (a : Rat) < 0 then -(a : Rat) else (a : Rat)
    have hz : (a : Rat) < 0 ↔ a < 0 := by
      have := Rat.intCast_lt_intCast (a := a) (b := 0)
      simpa using this
    by_cases h : a < 0
    · rw [if_pos (hz.mpr h), ← Rat.intCast_neg]; congr 1; omega
    · rw [if_neg (fun z => h (hz.mp z))]; congr 1; omega
theorem bdn_abs {m : Nat} {p : Rat} (h : bdn m p) : bdn m (if p < 0 then -p else p) := by
  split
  · exact bdn_neg h
  · exact h
instance {m n : Nat} {x y : Nm} [h : Sz m x] [h2 : Sz n y] : Sz (m + n + 1) (nAdd x y) := ⟨by rw [v_add]; exact bdn_add h.bd h2.bd⟩
instance {m n : Nat} {x y : Nm} [h : Sz m x] [h2 : Sz n y] : Sz (m + n + 1) (nSub x y) := ⟨by rw [v_sub]; exact bdn_sub h.bd h2.bd⟩
instance {m n : Nat} {x y : Nm} [h : Sz m x] [h2 : Sz n y] : Sz (m + n) (nMul x y) := ⟨by rw [v_mul]; exact bdn_mul h.bd h2.bd⟩
instance {m : Nat} {x : Nm} [h : Sz m x] : Sz m (nNeg x) := ⟨by rw [v_neg]; exact bdn_neg h.bd⟩
instance {m : Nat} {x : Nm} [h : Sz m x] : Sz m (nAbs x) := ⟨by rw [v_abs]; exact bdn_abs h.bd⟩
instance {m n : Nat} {x : Nm} [h : Sz m x] : Sz (m * (n + 1)) (nPow x (n + 1)) := ⟨by rw [v_pow]; exact bdn_pow h.bd (n + 1) (Nat.succ_pos n)⟩
theorem sz_lit {n : Int} (h : n.natAbs < 16) : Sz 4 (.i n) := ⟨bdn_int (show n.natAbs < 2 ^ 4 from h) (by decide)⟩
instance : Sz 4 (.i 0) := sz_lit (by decide)
instance : Sz 4 (.i 1) := sz_lit (by decide)
instance : Sz 4 (.i 2) := sz_lit (by decide)
theorem addD_lst {a b : List D} (h : a.length + b.length ≤ 1000) : addD (.lst a) (.lst b) = some (.lst (a ++ b)) := if_pos (le_ssz h)
end PD
namespace PD
open PySem PySem.Spec PyProof.Rows PySem.Calls L2
theorem bdn_div {m n : Nat} {p q : Rat} (h : bdn m p) (h2 : bdn n q) : bdn (m + n) (p / q) := by
  rcases Int.lt_trichotomy q.num 0 with hn | hz | hp
  · rw [← div_mkn p q hn]
    have e : (-q.num).toNat ≠ 0 := by omega
    refine bdn_mk (m := m + n) (n := m + n) (bdi.mul (m := m) (by unfold bdi; rw [Int.natAbs_neg]; exact h.1) h2.dn) (Nat.mul_ne_zero p.den_nz e) ?_ (Nat.le_refl _) (Nat.le_refl _)
    rw [Int.natCast_mul, Int.toNat_of_nonneg (by omega)]
    exact h.dn.mul (by unfold bdi; rw [Int.natAbs_neg]; exact h2.1)
  · have : q = 0 := Rat.num_eq_zero.mp hz
    subst this
    have e : p / 0 = 0 := by grind
    rw [e]
    exact ⟨Nat.pow_pos (by decide), Nat.lt_of_lt_of_le (show 1 < 2 ^ n from h2.2) (Nat.pow_le_pow_right (by decide) (by omega))⟩
  · rw [← div_mk p q hp]
    have e : q.num.toNat ≠ 0 := by omega
    refine bdn_mk (m := m + n) (n := m + n) (h.num.mul h2.dn) (Nat.mul_ne_zero p.den_nz e) ?_ (Nat.le_refl _) (Nat.le_refl _)
    rw [Int.natCast_mul, Int.toNat_of_nonneg (by omega)]
    exact h.dn.mul h2.num
def nQuo (x y : Nm) : Nm := .r (x.v / y.v)
def nRest (x y : Nm) : Nm := .r (x.v - y.v * ((x.v / y.v).floor : Int))
theorem floor_bd0 {p q : Rat} {m n : Nat} (hp : bdn m p) (hq : bdn n q) : bdi (m + n + 1) (p / q).floor := by
  by_cases h0 : q = 0
  · subst h0
    have e : p / 0 = ((0 : Int) : Rat) := by grind
    rw [e, Rat.floor_intCast]
    exact Nat.pow_pos (by decide)
  · exact floor_bd hp hq h0
instance {m n : Nat} {x y : Nm} [h : Sz m x] [h2 : Sz n y] : Sz (m + n + 1) (.i (x.v / y.v).floor) := ⟨bdn_int (floor_bd0 h.bd h2.bd) (by omega)⟩
instance {m n : Nat} {x y : Nm} [h : Sz m x] [h2 : Sz n y] : Sz (m + n) (nQuo x y) := ⟨bdn_div h.bd h2.bd⟩
instance {m n : Nat} {x y : Nm} [h : Sz m x] [h2 : Sz n y] : Sz (m + (n + (m + n + 1)) + 1) (nRest x y) := ⟨bdn_sub h.bd (bdn_mul h2.bd (bdn_int (floor_bd0 h.bd h2.bd) (by omega)))⟩
instance {m n : Nat} {a b : Int} [h : Sz m (.i a)] [h2 : Sz n (.i b)] : Sz (m + n + 1) (.i (a + b)) := ⟨by
  have := bdn_add h.bd h2.bd
  show bdn _ (((a + b : Int)) : Rat)
  rw [Rat.intCast_add]; exact this⟩
end PD
namespace PD
open PySem PySem.Spec PyProof.Rows PySem.Calls L2
end PD
namespace PD
open PySem PySem.Spec PyProof.Rows PySem.Calls L2
end PD
namespace PD
end PD
namespace PD
open PySem PySem.Spec PyProof.Rows PySem.Calls L2
def mf (p : Pu) : Rat × Pu := ((fr p).1, (tk (fr p).2 5).2)
end PD
namespace PD
open PySem PySem.Spec PyProof.Rows PySem.Calls L2
end PD
namespace PD
open PySem PySem.Spec PyProof.Rows PySem.Calls L2
def lawF : List D → Option (Except Ex D)
  | [.scr ns] => if ns.length ≤ 63 then some (.ok (.bl true)) else none
  | _ => none
theorem lawF_inv {ds : List D} {r : Except Ex D} (h : lawF ds = some r) : ∃ ns, ds = [.scr ns] ∧ ns.length ≤ 63 ∧ r = .ok (.bl true) := by
  unfold lawF at h
  split at h
  · split at h
    · rename_i hh; cases h; exact ⟨_, rfl, hh, rfl⟩
    · cases h
  · cases h
theorem rngD_ev {j : Int} (h : 0 ≤ j) (h2 : j < 1000) : rngD [.int j] = some (rngL 0 j) := by
  show (if -(2 ^ 62) ≤ j ∧ j < 2 ^ 62 then some (rngL 0 j) else none) = _
  rw [if_pos ⟨by omega, by omega⟩]
/-- the law's own promise -/
theorem spP_law {K : PySem.W.Frag} {H : Hp} {a : Addr} {ns : List Int} (hl : ns.length ≤ 63) (hO : Only H) (hS : SqL K H a (ns.map V.int)) : spP K lawF [.ref a] H (fun v _ => v = .bl true) fun _ _ _ => False := by
  refine ⟨fun _ => False, [.scr ns], .ok (.bl true), fun _ z => z.elim, .one ⟨a, rfl, ?_⟩, if_pos hl, fun v H' _ hv => hv⟩
  rcases hS with (h | ⟨o, h⟩) | h
  · rcases hO a with z | ⟨o, xs, z⟩
    · rw [z] at h; cases h
    · rw [z] at h; cases h
  · exact .inl ⟨o, h, id⟩
  · exact .inr h
theorem cx_none (P : Program) (w : World) (H : Hp) (s : Shared) (e : Value) (s' : Shared) (h : L2.CX P w [] H s (fun _ _ _ => False) e s') : False := by
  obtain ⟨a, B, H', cls, d, _, _, _, _, _, _, _, z⟩ := h
  exact z
end PD
namespace PD
open PySem PySem.Spec PyProof.Rows PySem.Calls L2
def runP (N : List Str) (n : Nat) (m : Sm) (ds : List D) : Option (Except Ex D) := if ds.length = n then (m (stE N ds)).bind fun z => outR z.1 else none
def runF (N : List Str) (n : Nat) (m : Sm) (ds : List D) : Option (List D) := if ds.length = n then (m (stE N ds)).bind fun z => match z.1 with | .rf l => some l | _ => none else none
def outM : Out × En → Option (Except Ex D × OV)
  | (o, .own false l' :: _) => (outR o).map fun r => (r, l')
  | _ => none
def runM (N : List Str) (n : Nat) (m : Sm) (l : OV) (ds : List D) : Option (Except Ex D × OV) := if ds.length + 1 = n then (m (stO N l ds)).bind outM else none
theorem runP_some {N : List Str} {n : Nat} {m : Sm} {ds : List D} {r : Except Ex D} (h : runP N n m ds = some r) : ds.length = n ∧ ∃ o env', m (stE N ds) = some (o, env') ∧ outR o = some r := by
  unfold runP at h
  split at h
  · rename_i hl
    cases q : m (stE N ds) with
    | none => rw [q] at h; cases h
    | some z => rw [q] at h; exact ⟨hl, z.1, z.2, rfl, h⟩
  · cases h
theorem runF_some {N : List Str} {n : Nat} {m : Sm} {ds : List D} {l : List D} (h : runF N n m ds = some l) : ds.length = n ∧ ∃ env', m (stE N ds) = some (.rf l, env') := by
  unfold runF at h
  split at h
  · rename_i hl
    cases q : m (stE N ds) with
    | none => rw [q] at h; cases h
    | some z =>
      rw [q] at h
      obtain ⟨o, e⟩ := z
      cases o <;> first | (cases h; done) | skip
      cases h
      exact ⟨hl, e, rfl⟩
  · cases h
theorem runM_some {N : List Str} {n : Nat} {m : Sm} {l : OV} {ds : List D} {r : Except Ex D} {l' : OV} (h : runM N n m l ds = some (r, l')) : ds.length + 1 = n ∧ ∃ o env', m (stO N l ds) = some (o, env') ∧ outR o = some r ∧ env'[0]? = some (.own false l') := by
  unfold runM at h
  split at h
  · rename_i hl
    cases q : m (stO N l ds) with
    | none => rw [q] at h; cases h
    | some z =>
      rw [q] at h
      obtain ⟨o, e⟩ := z
      refine ⟨hl, o, e, rfl, ?_⟩
      cases e with
      | nil => cases h
      | cons s e =>
        cases s with
        | no => cases h
        | tab _ _ => cases h
        | opr _ _ _ => cases h
        | val d => cases h
        | own b l2 =>
          cases b with
          | true => cases h
          | false =>
            cases q2 : outR o with
            | none =>
              have h : (outR o).map (fun r => (r, l2)) = some (r, l') := h
              rw [q2] at h; cases h
            | some r2 =>
              have h : (outR o).map (fun r => (r, l2)) = some (r, l') := h
              rw [q2] at h; cases h; exact ⟨rfl, rfl⟩
  · cases h
section
variable {P : Program} {w : World} {K : PySem.W.Frag} {mg : Str → Option Value} {base : Heap}
theorem auto_P {x qual : Str} {st : Stmt} {f : Addr} {fd : FuncData} {N ps : List Str} {k n : Nat} {m : Sm} (F : Fun K x qual st f fd) (S : FnScope N ps (defScope st)) (hn : n = ps.length)
    (body : ∀ (cdv : Value) (A : Around) (outer : List Env) (s : Shared) (H : Hp) (E : XK), RoomG k (A.deeper (envOfC qual (defScope st) s.heap.objs.size f cdv)) →
      ∃ t m', DSs (cxOf (L2.CX P w) P w K mg base N qual (defScope st) f cdv A outer s H E) (fun c d _ H => E c d H) (defBody st) t m' ∧ m' = m) :
    FnG P w K mg base (L2.CX P w) (k + 1) f fd ps (spP K (runP N n m)) :=
  fn_P F S (fun ds r h => by rw [← hn]; exact (runP_some h).1) fun cdv A outer s H E hr => by
    obtain ⟨t, m', h, rfl⟩ := body cdv A outer s H E hr
    exact ⟨t, m', h, fun ds r h => (runP_some h).2⟩
theorem auto_F {x qual : Str} {st : Stmt} {f : Addr} {fd : FuncData} {N ps : List Str} {k n : Nat} {m : Sm} (F : Fun K x qual st f fd) (S : FnScope N ps (defScope st)) (hn : n = ps.length)
    (body : ∀ (cdv : Value) (A : Around) (outer : List Env) (s : Shared) (H : Hp) (E : XK), RoomG k (A.deeper (envOfC qual (defScope st) s.heap.objs.size f cdv)) →
      ∃ t m', DSs (cxOf (L2.CX P w) P w K mg base N qual (defScope st) f cdv A outer s H E) (fun c d _ H => E c d H) (defBody st) t m' ∧ m' = m) :
    FnG P w K mg base (L2.CX P w) (k + 1) f fd ps (spF K (runF N n m)) :=
  fn_F F S (fun ds r h => by rw [← hn]; exact (runF_some h).1) fun cdv A outer s H E hr => by
    obtain ⟨t, m', h, rfl⟩ := body cdv A outer s H E hr
    exact ⟨t, m', h, fun ds r h => (runF_some h).2⟩
theorem auto_M {x qual : Str} {st : Stmt} {f : Addr} {fd : FuncData} {N ps : List Str} {k n : Nat} {m : Sm} (F : Fun K x qual st f fd) (S : FnScope N ps (defScope st)) (hn : n = ps.length)
    (body : ∀ (cdv : Value) (A : Around) (outer : List Env) (s : Shared) (H : Hp) (E : XK), RoomG k (A.deeper (envOfC qual (defScope st) s.heap.objs.size f cdv)) →
      ∃ t m', DSs (cxOf (L2.CX P w) P w K mg base N qual (defScope st) f cdv A outer s H E) (fun c d _ H => E c d H) (defBody st) t m' ∧ m' = m) :
    FnG P w K mg base (L2.CX P w) (k + 1) f fd ps (spM K (runM N n m)) :=
  fn_M F S (fun l ds r h => by rw [← hn]; exact (runM_some (l := l) (r := r.1) (l' := r.2) h).1) fun cdv A outer s H E hr => by
    obtain ⟨t, m', h, rfl⟩ := body cdv A outer s H E hr
    exact ⟨t, m', h, fun l ds r l' h => (runM_some h).2⟩
theorem auto_MD {x qual : Str} {params : Arguments} {bd : List Stmt} {scope : Scope} {dvs : List V} {kws : List (Str × V)} {f : Addr} {fd : FuncData} {N ps : List Str} {k n : Nat} {m : Sm} (F : FunD K x qual params bd scope dvs kws f fd) (S : FnScope N ps scope) (hn : n = ps.length)
    (body : ∀ (cdv : Value) (A : Around) (outer : List Env) (s : Shared) (H : Hp) (E : XK), RoomG k (A.deeper (envOfC qual scope s.heap.objs.size f cdv)) →
      ∃ t m', DSs (cxOf (L2.CX P w) P w K mg base N qual scope f cdv A outer s H E) (fun c d _ H => E c d H) bd t m' ∧ m' = m) :
    FnG P w K mg base (L2.CX P w) (k + 1) f fd ps (spM K (runM N n m)) :=
  fn_MD F S (fun l ds r h => by rw [← hn]; exact (runM_some (l := l) (r := r.1) (l' := r.2) h).1) fun cdv A outer s H E hr => by
    obtain ⟨t, m', h, rfl⟩ := body cdv A outer s H E hr
    exact ⟨t, m', h, fun l ds r l' h => (runM_some h).2⟩
end
abbrev R2S := V → V → L2.St → Hp → VK → Prop
def PostD (K : PySem.W.Frag) (W : WX) (σ : L2.St) (S : Addr → Prop) (H : Hp) (Q : VK) : Except Ex D → Prop
  | .ok d => ∀ v H', Ext H H' → Dat K S H' d v → Q v H'
  | .error x => ∀ dd H', Ext H H' → ExD K S H' x dd → W (.ref x.C) dd σ H'
structure OpX (X : Cx) (W : WX) (g : Value → Value → Sem Value) (r : R2S) (f : D → D → Option (Except Ex D)) : Prop where
  run : ∀ (pins : List (Addr × Obj)) (s : Shared) (σ : L2.St) (H : Hp) (x y : V) (v u : Value) (Q : VK), Inv X pins σ H s → RelV x v → RelV y u → r x y σ H Q →
    wpAny (model X.prog X.w) X.A (g v u) (EP X pins σ Q) X.xe s
  ok : ∀ (S : Addr → Prop) (σ : L2.St) (H : Hp) (x y : V) (dx dy : D) (e : Except Ex D), (∀ b, S b → H b ≠ none) → Dat X.K S H dx x → Dat X.K S H dy y → f dx dy = some e → ∀ Q : VK, PostD X.K W σ S H Q e → r x y σ H Q
def okO (o : Option D) : Option (Except Ex D) := o.map .ok
theorem OpX.of {X : Cx} {W : WX} {g : Value → Value → Sem Value} {r : R2} {f : D → D → Option D} (h : OpD X g r f) : OpX X W g (fun x y _ H Q => r x y H Q) (fun x y => okO (f x y)) :=
  ⟨fun pins s σ H x y v u Q I rx ry q => h.op pins s σ H x y v u Q I rx ry q, fun S σ H x y dx dy e hS hx hy hf Q hq => by
    cases q : f dx dy with
    | none => rw [q] at hf; cases hf
    | some d => rw [q] at hf; cases hf; exact h.ok S H x y dx dy d hS hx hy q Q hq⟩
theorem OpX.or {X : Cx} {W : WX} {g : Value → Value → Sem Value} {r r' : R2S} {f f' : D → D → Option (Except Ex D)} (h : OpX X W g r f) (h' : OpX X W g r' f') : OpX X W g (fun x y σ H Q => r x y σ H Q ∨ r' x y σ H Q) (fun x y => (f x y).or (f' x y)) := by
  refine ⟨fun pins s σ H x y v u Q I rx ry q => q.elim (h.run pins s σ H x y v u Q I rx ry) (h'.run pins s σ H x y v u Q I rx ry), fun S σ H x y dx dy e hS hx hy hf Q hq => ?_⟩
  cases q : f dx dy with
  | some d' => rw [q] at hf; cases hf; exact .inl (h.ok S σ H x y dx dy _ hS hx hy q Q hq)
  | none => rw [q] at hf; exact .inr (h'.ok S σ H x y dx dy _ hS hx hy hf Q hq)
theorem run_inX {X : Cx} {pins : List (Addr × Obj)} {σ : L2.St} {H : Hp} {s : Shared} {Q : VK} {A' : Around} {CX : CXT} {k : Nat} {f : Addr} {fd : FuncData} {ps : List Str} {sp : Sp} {E : XK} {us : List Value} {vs : List V} (F : FnG X.prog X.w X.K X.mg X.base CX k f fd ps sp) (hr : RoomG k A') (hf : A'.frames = X.A.frames) (hb : Binds X.K fd ps [])
    (hx : PassesAt CX X σ E) (I : Inv X pins σ H s) (r : Vals vs us) (h : sp vs H Q E) : wpAny (model X.prog X.w) A' (call (.ref f) us) (EP X pins σ Q) X.xe s := by
  have hl : us.length = ps.length := by rw [← r.length]; exact F.len _ _ _ _ h
  have e0 : Env0 X.prog X.w X.K X.mg X.base A' X.stack s H := by
    have e := I.env0
    exact ⟨by rw [hf]; exact e.frames, e.mod, e.bs, e.bsz, e.funs, e.frf, e.hok, e.bare⟩
  refine wpAny_call (codeAny_mono (F.run A' X.stack s H ⟨us, []⟩ us vs _ E hr e0 (by
    have := hb s us I.kIn (by simpa using hl)
    simpa using this) r h) fun r s' hq => ?_)
  cases r with
  | error e => exact hx pins H s e s' I hq
  | ok fl =>
    cases fl with
    | ret w => exact I.after hq
    | next => exact False.elim hq
    | brk => exact False.elim hq
    | cont => exact False.elim hq
/-- the call's answer, at a promise of data -/
theorem spP_useX {K : PySem.W.Frag} {W : WX} {σ : L2.St} {f : List D → Option (Except Ex D)} {S : Addr → Prop} {H : Hp} {vs : List V} {ds : List D} {e : Except Ex D} {Q : VK} (hS : ∀ b, S b → H b ≠ none) (h : Dats K S H ds vs) (hf : f ds = some e) (hq : PostD K W σ S H Q e) : spP K f vs H Q (WE W σ) := by
  refine ⟨S, ds, e, hS, h, hf, ?_⟩
  cases e with
  | ok d => exact hq
  | error x => exact fun dd H' ex hx => hq dd H' ex hx
section
variable {X : Cx} {W : WX} {o e : Expr} {es : List Expr} {to te : TE} {mo me : Mo D} {t : TA} {ms : Mo (List D)} {pos apos : Pos}
def insM (C : Addr) (m : Str) (d : D) : Mo Unit := Mo.lift (match d with | .ins C' fs l => if C' = C ∧ (fs.zip l).lookup m = none then some () else none | _ => none)
theorem insM_some {C : Addr} {m : Str} {d : D} {e : En} {r : Except Ex Unit × En} (h : insM C m d e = some r) : (∃ fs l, d = .ins C fs l ∧ (fs.zip l).lookup m = none) ∧ r = (.ok (), e) := by
  obtain ⟨u, w1, w2⟩ := Mo.lift_some h
  cases d <;> first | (cases w1; done) | skip
  rename_i C' fs l
  by_cases hh : C' = C ∧ (fs.zip l).lookup m = none
  · obtain ⟨rfl, h2⟩ := hh; exact ⟨⟨_, _, rfl, h2⟩, w2⟩
  · have w1 : (if C' = C ∧ (fs.zip l).lookup m = none then some () else none) = some u := w1
    rw [if_neg hh] at w1; cases w1
theorem lookup_zip_none {K : PySem.W.Frag} {S : Addr → Prop} {H : Hp} {f : Str} : ∀ {fs : List Str} {l : List D} {vs : List V}, Dats K S H l vs → (fs.zip l).lookup f = none → (fs.zip vs).lookup f = none
  | [], l, vs, h, e => by simp
  | g :: fs, [], vs, h, e => by cases (show vs = [] from h); simp
  | g :: fs, d' :: l, vs, ⟨v, r, e1, h1, h2⟩, e => by
    subst e1
    rw [List.zip_cons_cons, List.lookup_cons] at e ⊢
    cases q : f == g with
    | true => rw [q] at e; cases e
    | false => rw [q] at e; exact lookup_zip_none h2 e
def tMethD (C : Addr) (m : Str) (sp : Sp) (E : L2.St → XK) (ta : TE) (t : TA) : TE := fun σ H Q => ta σ H fun x H1 => ∃ a dx fs, x = .ref a ∧ H1 a = some (.ins C dx fs) ∧ fs.lookup m = none ∧ t σ H1 fun vs H2 => sp (x :: vs) H2 Q (E σ)
theorem de_meth {C : Addr} {m : Str} {k : Nat} {f : List D → Option (Except Ex D)} {pl : Sem Bool} (c : Cls X.K C) (G : Mth X.prog X.w X.K X.mg X.base C m k (spP X.K f)) (hr : RoomG k X.A) (tk : Takes X W) (ho : DE X W o to mo) (ha : DA X W (e :: es) t ms)
    (hst : starEach (e :: es) X.env = (false, eval e X.env) :: starEach es X.env := by rfl) (hpl : (backTo pos (starEach es X.env)).any (·.1) = false := by rfl)
    (ht : eval (.Call (.Attribute o m apos) (e :: es) [] pos) X.env = (do
      let ov ← eval o X.env
      standAt apos.atName
      let (f, first) ← holding [ov] (getMethod ov m pl)
      callWith pos f first (backTo pos (starEach (e :: es) X.env)) (backToKw pos (keywordEach [] X.env))) := by rfl) :
    DE X W (.Call (.Attribute o m apos) (e :: es) [] pos) (tMethD C m (spP X.K f) (WE W) to t) (mo.bind fun d => (insM C m d).bind fun _ => ms.bind fun ds => Mo.liftR (f (d :: ds))) := by
  obtain ⟨g, fd, ps, M, F, hb⟩ := G
  refine ⟨⟨fun pins s σ H Q I h => ?_⟩, ?_⟩
  · refine PySem.W.methodCall_KW (pl := pl) (thn (ho.pe.run pins s σ H _ I h) fun u s1 ⟨x, H1, I1, rx, a, dx, fs, ex, ea, l, q⟩ => ?_) ht
    subst ex
    obtain rfl : u = Value.ref a := rx
    refine getmeth_ok I1 ea c M l ?_
    refine PySem.W.callWith_K (first := [.ref a]) (h₀ := X.base) I.ok.mod.kin M.kp (thn (ha.pa.run pos pins s1 σ H1 _ I1 q) fun us s2 ⟨vs, H2, I2, r, q2⟩ => ⟨I2.kIn, ?_⟩) hst hpl
    exact run_inX (us := .ref a :: us) (vs := .ref a :: vs) F hr rfl hb (passAt tk σ) I2 (.cons rfl r) q2
  · refine XR.bind (t2 := fun x σ (H1 : Hp) (Q : VK) => ∃ a dx fs, x = V.ref a ∧ H1 a = some (.ins C dx fs) ∧ fs.lookup m = none ∧ t σ H1 fun vs H2 => spP X.K f (x :: vs) H2 Q (WE W σ)) ho.er ?_
    intro S0 A σ env H k d v hd r env' hm Q hp
    rcases Mo.bind_some hm with ⟨z, e1, q1, q2⟩ | ⟨y, e1, q1, q2⟩
    · obtain ⟨⟨fs, l, rfl, hl⟩, w2⟩ := insM_some q1
      cases w2
      obtain ⟨a, dx, vs, rfl, ha', hs, hz, hdl⟩ := id hd
      refine ⟨a, dx, _, rfl, ha', lookup_zip_none hdl hl, ?_⟩
      rcases Mo.bind_some q2 with ⟨ds, e2, q3, q4⟩ | ⟨y, e1, q3, q4⟩
      · obtain ⟨w3, w4⟩ := Mo.liftR_some q4
        subst w4
        refine ha.er S0 A σ _ H k _ _ q3 _ fun A1 ws H1 le k1 st hv => ?_
        have hd1 : Dat X.K (AV S0 A1) H1 (.ins C fs l) (.ref a) := Dat.step (fun b z => .inl (le.av z)) (st.mono fun b z => .inr z) _ _ hd
        refine spP_useX (σ := σ) (S := AV S0 A1) k1.trA (ds := .ins C fs l :: ds) (show Dats X.K (AV S0 A1) H1 (.ins C fs l :: ds) (.ref a :: ws) from ⟨_, ws, rfl, hd1, hv⟩) w3 ?_
        cases r with
        | ok d => exact fun v H' ex hv => hp A1 v H' le (k1.ext ex) (st.trans (.of ex)) hv
        | error y => exact fun dd H' ex hv => hp A1 dd H' le (k1.ext ex) (st.trans (.of ex)) hv
      · cases q4
        exact ha.er S0 A σ _ H k _ _ q3 _ fun A1 dd H1 le k1 st ex => hp A1 dd H1 le k1 st ex
    · obtain ⟨_, w2⟩ := insM_some q1
      cases w2
end
end PD
namespace PD
open PySem PySem.Spec PyProof.Rows PySem.Calls L2
structure Cs where
  known : List Addr
  Ratio : Addr
  Sum : Addr
  Loop : Addr
  Rounds : Addr
  Ready : Addr
  Form : Addr
  Desk : Addr
  Console : Addr
  InputError : Addr
  InvalidNumber : Addr
  InvalidRatio : Addr
  InvalidName : Addr
  InvalidRange : Addr
  InvalidSum : Addr
  InvalidBases : Addr
  InvalidValues : Addr
  InvalidDeeds : Addr
  InvalidText : Addr
  InvalidCommand : Addr
  NotASum : Addr
  NotALoop : Addr
  UnlikeRanges : Addr
  ZeroDivisor : Addr
  StateError : Addr
  UnknownName : Addr
  TwiceAssigned : Addr
  Ring : Addr
  Refused : Addr
  Broken : Addr
  Busy : Addr
  NothingToUndo : Addr
  LimitError : Addr
  TooMany : Addr
  TooLong : Addr
  TooFar : Addr
  WAYS : Addr
  rings : Addr
  settles : Addr
  always_holds : Addr
  breaks : Addr
  breaks_first : Addr
  is_greatest : Addr
  agrees : Addr
  parts : Addr
  Reach : Addr
  Tail : Addr
  u : CloU
  ls : Nat → LamSyn
  cd : Nat → Addr
  tb : Nat → Addr
def baseTg : List Tg := [.int, .bl, .non, .str, .tup, .lst, .dct]
def tbl (c : Cs) (f : Tg → Bool) : List (Tg × Bool) := (baseTg ++ c.known.map Tg.ins).map fun t => (t, f t)
def tyP (n : String) : Tg → Bool
  | .int => n == "int"
  | .bl => n == "int" || n == "bool"
  | .str => n == "str"
  | .tup => n == "tuple"
  | .lst => n == "list"
  | .dct => n == "dict"
  | _ => false
def isiT (c : Cs) (n : String) : List D → Option D := isiD (.ty n) (tbl c (tyP n))
def isiC (c : Cs) (C : Addr) : List D → Option D := isiD (.own C) (tbl c fun t => decide (t = .ins C))
theorem tbl_C {c : Cs} {K : PySem.W.Frag} {f : Tg → Bool} (h : ∀ C ∈ c.known, ClsT K C) : ∀ p ∈ tbl c f, ∀ C, p.1 = .ins C → ClsT K C := by
  intro p hp C e
  obtain ⟨t, ht, rfl⟩ := List.mem_map.mp hp
  cases (show t = .ins C from e)
  rcases List.mem_append.mp ht with h1 | h1
  · simp [baseTg] at h1
  · obtain ⟨C', hC, e⟩ := List.mem_map.mp h1
    cases e; exact h _ hC
def okTg (c : Cs) : Tg → Prop
  | .ins C => C ∈ c.known
  | _ => True
theorem lookup_map {α β : Type} [DecidableEq α] {f : α → β} {t : α} : ∀ {l : List α}, t ∈ l → (l.map fun t => (t, f t)).lookup t = some (f t)
  | [], h => by simp at h
  | a :: l, h => by
    rw [List.map_cons, List.lookup_cons]
    by_cases q : t = a
    · subst q; simp
    · have : (t == a) = false := by simpa using q
      rw [this]
      exact lookup_map ((List.mem_cons.mp h).resolve_left q)
theorem tbl_ev {c : Cs} {f : Tg → Bool} {t : Tg} (h : okTg c t) : (tbl c f).lookup t = some (f t) := by
  refine lookup_map (List.mem_append.mpr ?_)
  cases t with
  | ins C => exact .inr (List.mem_map.mpr ⟨C, h, rfl⟩)
  | _ => left; simp [baseTg]
theorem isiT_ev {c : Cs} {n : String} {d : D} {t : Tg} (ht : d.tg = some t) (h : okTg c t) : isiT c n [d, .ty n] = some (.bl (tyP n t)) := by
  show (if (some (Cl.ty n)) = some (Cl.ty n) then Option.map D.bl (d.tg.bind fun t => (tbl c (tyP n)).lookup t) else none) = _
  rw [if_pos rfl, ht]
  show ((tbl c (tyP n)).lookup t).map D.bl = _
  rw [tbl_ev h]; rfl
theorem isiC_ev {c : Cs} {C : Addr} {d : D} {t : Tg} (ht : d.tg = some t) (h : okTg c t) : isiC c C [d, .fn C] = some (.bl (decide (t = .ins C))) := by
  show (if (some (Cl.own C)) = some (Cl.own C) then Option.map D.bl (d.tg.bind fun t => (tbl c fun t => decide (t = .ins C)).lookup t) else none) = _
  rw [if_pos rfl, ht]
  show ((tbl c fun t => decide (t = .ins C)).lookup t).map D.bl = _
  rw [tbl_ev h]; rfl
def rng1D (ds : List D) : Option (List D) := match ds with | [.int j] => rngD [.int j] | _ => none
def rng2D (ds : List D) : Option (List D) := match ds with | [.int i, .int j] => rngD [.int i, .int j] | _ => none
def nilE (ds : List D) (env : En) : Option En := match ds with | [] => some env | _ => none
theorem runP_ev {N : List Str} {n : Nat} {m : Sm} {ds : List D} (h : ds.length = n) : runP N n m ds = (m (stE N ds)).bind fun z => outR z.1 := if_pos h
theorem runF_ev {N : List Str} {n : Nat} {m : Sm} {ds : List D} (h : ds.length = n) : runF N n m ds = (m (stE N ds)).bind fun z => match z.1 with | .rf l => some l | _ => none := if_pos h
theorem runM_ev {N : List Str} {n : Nat} {m : Sm} {l : OV} {ds : List D} (h : ds.length + 1 = n) : runM N n m l ds = (m (stO N l ds)).bind outM := if_pos h
theorem outM_ev {o : Out} {l : OV} {e : En} : outM (o, .own false l :: e) = (outR o).map fun r => (r, l) := rfl
theorem tyP_int_int : tyP "int" .int = true := by decide
theorem tyP_int_bl : tyP "int" .bl = true := by decide
theorem tyP_int_non : tyP "int" .non = false := by decide
theorem tyP_int_str : tyP "int" .str = false := by decide
theorem tyP_int_tup : tyP "int" .tup = false := by decide
theorem tyP_int_lst : tyP "int" .lst = false := by decide
theorem tyP_int_dct : tyP "int" .dct = false := by decide
theorem tyP_int_ins {C : Addr} : tyP "int" (.ins C) = false := rfl
theorem tyP_bool_int : tyP "bool" .int = false := by decide
theorem tyP_bool_bl : tyP "bool" .bl = true := by decide
theorem tyP_bool_non : tyP "bool" .non = false := by decide
theorem tyP_bool_str : tyP "bool" .str = false := by decide
theorem tyP_bool_tup : tyP "bool" .tup = false := by decide
theorem tyP_bool_lst : tyP "bool" .lst = false := by decide
theorem tyP_bool_dct : tyP "bool" .dct = false := by decide
theorem tyP_bool_ins {C : Addr} : tyP "bool" (.ins C) = false := rfl
theorem tgI_int {C : Addr} : decide ((.int : Tg) = .ins C) = false := rfl
theorem tgI_bl {C : Addr} : decide ((.bl : Tg) = .ins C) = false := rfl
theorem tgI_non {C : Addr} : decide ((.non : Tg) = .ins C) = false := rfl
theorem tgI_str {C : Addr} : decide ((.str : Tg) = .ins C) = false := rfl
theorem tgI_tup {C : Addr} : decide ((.tup : Tg) = .ins C) = false := rfl
theorem tgI_lst {C : Addr} : decide ((.lst : Tg) = .ins C) = false := rfl
theorem tgI_dct {C : Addr} : decide ((.dct : Tg) = .ins C) = false := rfl
theorem tgI_ins {C : Addr} : decide ((Tg.ins C) = .ins C) = true := decide_eq_true rfl
end PD
namespace PD
open PySem PySem.Spec PyProof.Rows PySem.Calls L2
section
variable {X : Cx} {W : WX} {C : Addr} {k : Nat} {fm : List D → Option (Except Ex D)} {a b : Expr} {ta tb : TE} {ma mb : Mo D} {pos : Pos}
/-- list + list, a new list -/
def catL : D → D → Option (List D)
  | .lst a, .lst b => if a.length + b.length ≤ ssz then some (a ++ b) else none
  | _, _ => none
theorem df_cat (ha : DE X W a ta ma) (hb : DE X W b tb mb) : DF X W (.BinOp a .Add b pos) (tOp rCat ta tb) (ma.bind fun x => mb.bind fun y => Mo.lift (catL x y)) := by
  refine ⟨pe_op op_cat ha.pe hb.pe, ?_⟩
  intro S0 A σ env H k r env' hm Q hp
  rcases Mo.bind_some hm with ⟨dx, e1, q1, q2⟩ | ⟨x, e1, q1, q2⟩
  · refine ha.er S0 A σ env H k _ _ q1 _ fun A1 v H1 le k1 st hx => ?_
    rcases Mo.bind_some q2 with ⟨dy, e2, q3, q4⟩ | ⟨x, e2, q3, q4⟩
    · refine hb.er S0 A1 σ e1 H1 k1 _ _ q3 _ fun A2 u H2 le2 k2 st2 hy => ?_
      obtain ⟨l, w1, w2⟩ := Mo.lift_some q4
      cases w2
      unfold catL at w1
      split at w1
      · split at w1
        · rename_i xs ys hz
          cases w1
          have hx2 : Dat X.K (AV S0 A2) H2 (.lst xs) v := Dat.step (fun b z => .inl (le2.av z)) (st2.mono fun b z => .inr z) _ _ hx
          obtain ⟨p, vs, rfl, e3, _, l1⟩ := hx2
          obtain ⟨p2, ws, rfl, e4, _, l2⟩ := hy
          have st3 : Stp (Own A) H H2 := st.trans (st2.mono fun b z => le.own z)
          refine ⟨p, p2, vs, ws, rfl, rfl, e3, e4, by rw [← l1.len, ← l2.len, ssz_eq]; exact hz, fun q hq => ?_⟩
          have hq0 : H q = none := st3.dom q hq
          exact hp A2 q _ _ (le2.trans le) (k2.hide hq) (st3.trans (.of (Ext.upd hq))) hq0 upd_same (Dats.step (fun b z => z.elim (fun z => z.elim (fun z => .inl (.inl z)) fun z => .inr (by rw [z]; exact hq)) fun z => .inl (.inr z)) (.of (Ext.upd hq)) _ _ (l1.append l2))
        · cases w1
      · cases w1
    · cases q4
      exact hb.er S0 A1 σ e1 H1 k1 _ _ q3 _ fun A2 dd H2 le2 k2 st2 ex => hp A2 dd H2 (le2.trans le) k2 (st.trans (st2.mono fun b z => le.own z)) ex
  · cases q2
    exact ha.er S0 A σ env H k _ _ q1 _ fun A1 dd H1 le k1 st ex => hp A1 dd H1 le k1 st ex
structure TrD (X : Cx) (r : V → Hp → (Bool → Hp → Prop) → Prop) (f : D → Option Bool) : Prop where
  op : TruR X r
  ok : ∀ (S : Addr → Prop) (H : Hp) x dx b, (∀ b, S b → H b ≠ none) → Dat X.K S H dx x → f dx = some b → ∀ Q : Bool → Hp → Prop, (∀ H', Ext H H' → Q b H') → r x H Q
theorem TrD.or {r r' : V → Hp → (Bool → Hp → Prop) → Prop} {f f' : D → Option Bool} (h : TrD X r f) (h' : TrD X r' f') : TrD X (fun x H Q => r x H Q ∨ r' x H Q) (fun x => (f x).or (f' x)) := by
  refine ⟨fun pins s σ H x v Q I rx q => q.elim (h.op pins s σ H x v Q I rx) (h'.op pins s σ H x v Q I rx), fun S H x dx d hS hx hf Q hq => ?_⟩
  cases q : f dx with
  | some d' => rw [q] at hf; cases hf; exact .inl (h.ok S H x dx _ hS hx q Q hq)
  | none => rw [q] at hf; exact .inr (h'.ok S H x dx _ hS hx hf Q hq)
def own1B (C : Addr) (fm : List D → Option (Except Ex D)) (d : D) : Option Bool := (own1 C fm d).bind blD
end
end PD
namespace PD
open PySem PySem.Spec PyProof.Rows PySem.Calls L2
end PD
namespace PD
open PySem PySem.Spec PyProof.Rows PySem.Calls L2
theorem boolC {prog : Program} {w : World} {A : Around} {E : Value → Shared → Prop} {s : Shared} {x : Value} {Q : Value → Shared → Prop}
    (h : wpAny (model prog w) A.in1.in1 (truthy x) (fun k s1 => Q (.bool k) s1) E s) : wpAny (model prog w) A (call (.type "bool") [x]) Q E s := by
  refine callType_codes (T := "bool") (Bi := Builtin.«object.__init__») (Q₁ := fun r s₁ => ∃ k, r = .bool k ∧ Q r s₁) PySem.F.called_bool (PySem.F.typeCall_bool_1 _) PySem.F.entry_object_init ?_ ?_
  · refine codeAny_of_tree ?_
    show wpAny _ A.in1.in1 (do checkBuiltinCall "bool.__new__" ⟨[.type "bool", x], []⟩; again (.builtin "bool.__new__" ⟨[.type "bool", x], []⟩)) _ _ s
    refine wpAny_bind (wpAny_of_eq (PySem.F.newCall_bool_1 _) (wpAny_pure ⟨plainId_quiet (by decide +kernel) _, codeAny_builtin PySem.F.entry_bool_new ?_⟩))
    rw [Around.under_plainId (by decide +kernel) _]
    unfold Builtin.«bool.__new__»
    refine wpAny_bind (m := isType (.type "bool")) (wpAny_pure ?_)
    refine wpAny_bind (m := isSubtype (.type "bool") (.type "bool")) (wpAny_of_eq PySem.F.conv_sub_bool ?_)
    refine wpAny_bind (m := someArgs "bool" 0 1 ⟨[x], []⟩) (wpAny_of_eq (a := [x]) rfl ?_)
    exact wpAny_bind (m := truthy x) (wpAny_mono h (fun k s1 hk => wpAny_pure ⟨k, rfl, hk⟩) fun _ _ y => y)
  · rintro obj s₁ ⟨k, rfl, hq⟩
    exact ⟨PySem.typeIs_bool _ _, PySem.F.args_object_init_2 _ _, object_init_meets PySem.F.called_bool.init.lookup PySem.F.called_bool.made (by decide) prog w A.in1 _ s₁ ⟨PySem.typeIs_bool _ _, rfl, hq⟩⟩
section
variable {X : Cx} {W : WX} {C : Addr} {k : Nat} {fm : List D → Option (Except Ex D)} {a : Expr} {ta : TE} {ma : Mo D} {pos : Pos}
theorem own_tru (G : Mth X.prog X.w X.K X.mg X.base C "__bool__" k (spP X.K fm)) {A' : Around} (hr : RoomG k A') (hf : A'.frames = X.A.frames) {pins : List (Addr × Obj)} {s : Shared} {σ : L2.St} {H : Hp} {x : V} {v : Value} {Q : Bool → Hp → Prop}
    (I : Inv X pins σ H s) (rx : RelV x v) (h : rOwn1 X.K C fm x H fun v H' => ∃ b, v = .bl b ∧ Q b H') : wpAny (model X.prog X.w) A' (truthy v) (TP X pins σ Q) X.xe s := by
  obtain ⟨f, fd, ps, M, F, hb⟩ := G
  obtain ⟨a, dx, fs, rfl, ha, hsp⟩ := h
  cases rx
  obtain ⟨mA, O, _⟩ := ins_get I.hok ha
  obtain ⟨od, J, _⟩ := O.look
  obtain ⟨mm, hF⟩ := I.fr
  refine PySem.W.truthy_K hF I.ok.mod.kin J M.at_ M.fn (wpAny_mono (run_in (us := [.ref a]) (vs := [.ref a]) F hr hf hb passL I (.cons rfl .nil) hsp) (fun v s' hv => ?_) fun _ _ e => e)
  obtain ⟨y, H', I', ry, z, rfl, q⟩ := hv
  cases ry
  exact ⟨H', I', q⟩
/-- bool(x) of an own instance -/
theorem cd_boolO (G : Mth X.prog X.w X.K X.mg X.base C "__bool__" k (spP X.K fm)) (hr : RoomG (k + 2) X.A) :
    CallD X (.type "bool") (rCall1 fun x H Q => rOwn1 X.K C fm x H fun v H' => ∃ b, v = .bl b ∧ Q v H') (one1 fun d => (own1B C fm d).map .bl) := by
  refine ⟨fun pins s σ H xs us Q I rx h => ?_, call1_ok fun S H x dx d hS hx hf Q hq => ?_⟩
  · obtain ⟨x, rfl, h⟩ := h
    obtain ⟨u, rfl, rx2⟩ := vals1 rx
    refine boolC (wpAny_mono (own_tru G hr.in1.in1 rfl (Q := fun b H' => Q (.bl b) H') I rx2 ?_) (fun b s1 hb => ?_) fun _ _ e => e)
    · obtain ⟨a, dx, fs, e1, e2, hsp⟩ := h
      refine ⟨a, dx, fs, e1, e2, ?_⟩
      obtain ⟨S, ds, r, h1, h2, h3, h4⟩ := hsp
      refine ⟨S, ds, r, h1, h2, h3, ?_⟩
      cases r with
      | ok d => exact fun v H' ex hv => let ⟨b, q1, q2⟩ := h4 v H' ex hv; ⟨b, q1, q1 ▸ q2⟩
      | error e => exact h4
    · obtain ⟨H', I', q⟩ := hb
      exact ⟨.bl b, H', I', rfl, q⟩
  · unfold own1B at hf
    cases q : own1 C fm dx with
    | none => rw [q] at hf; cases hf
    | some e =>
      rw [q] at hf
      cases e <;> first | (cases hf; done) | skip
      cases hf
      exact rOwn1_ok S H x dx _ hS hx q _ fun v H' ex hv => ⟨_, hv, hq v H' ex hv⟩
def kD : Key → D
  | .inl i => .int i
  | .inr x => .str x
theorem upd_oth {H : Hp} {p b : Addr} {o : HO} (h : b ≠ p) : L2.upd H p o b = H b := by simp [L2.upd, h]
theorem Ok.put {K : PySem.W.Frag} {S0 : Addr → Prop} {A : Ow} {σ : L2.St} {env : En} {H : Hp} {p : Addr} {o : HO} (k : Ok K (fun b => S0 b ∨ b = p) A σ env H) (nA : ¬ Own A p) (hn : H p ≠ none) : Ok K (fun b => S0 b ∨ b = p) A σ env (L2.upd H p o) := by
  have st : Stp (fun q => q = p) H (L2.upd H p o) := ⟨fun b o' n q => by rw [upd_oth n]; exact q, fun b q => by
    by_cases e : b = p
    · rw [e, upd_same] at q; cases q
    · rwa [upd_oth e] at q⟩
  refine ⟨k.len, k.inj, k.ow, fun i s hs => (k.sl i s hs).keep (fun b z => .inl z) (st.mono fun b e => .inl (.inr e)) fun b l q _ hq => ⟨upd_oth fun e => nA ⟨i, e ▸ hq⟩, Iff.rfl⟩, fun b z => ?_⟩
  by_cases e : b = p
  · rw [e, upd_same]; nofun
  · rw [upd_oth e]; exact k.tr b z
/-- a new dict is fixed as it is laid: it is data from here on -/
def tFrzE (t : TE) : TE := fun σ H Q => t σ H fun v H1 => ∃ a u, v = .ref a ∧ H1 a = some u ∧ L2.Mut (some u) ∧ ∀ od, Q v (L2.upd H1 a (.frz od u))
theorem pe_frz {e : Expr} {t : TE} (h : PE X e t) : PE X e (tFrzE t) := by
  refine ⟨fun pins s σ H Q I w => thn (h.run pins s σ H _ I w) fun v s1 ⟨x, H1, I1, r, a, u, ex, ha, mu, q⟩ => ?_⟩
  obtain ⟨od, I2⟩ := I1.lock ha mu
  exact ⟨x, _, I2, r, q od⟩
noncomputable def reprPD : D → Option D
  | .int i => if i.natAbs.log2 < 1920 then some (.str (toString i)) else none
  | .bl b => some (.str (if b then "True" else "False"))
  | .non => some (.str "None")
  | .str x => if (reprText x).length ≤ ssz then some (.str (reprText x)) else none
  | d => match pdOf d with
    | some p => if p.showable = true ∧ p.hasDict = false ∧ p.depth ≤ 60 ∧ p.shown.length ≤ ssz then some (.str p.shown) else none
    | none => none
def rRepr (K : PySem.W.Frag) : V → Hp → VK → Prop := fun x H Q =>
  (∃ i, x = .int i ∧ i.natAbs.log2 < 1920 ∧ Q (.str (toString i)) H) ∨ (∃ b, x = .bl b ∧ Q (.str (if b then "True" else "False")) H) ∨ (x = .non ∧ Q (.str "None") H) ∨
  (∃ z, x = .str z ∧ (reprText z).length ≤ sizeLine ∧ Q (.str (reprText z)) H) ∨
  ∃ a p, x = .ref a ∧ Dp K H x p ∧ p.showable = true ∧ p.hasDict = false ∧ p.depth ≤ 60 ∧ p.shown.length ≤ sizeLine ∧ Q (.str p.shown) H
theorem cd_reprU (hu : X.A.units + 64 < cLine) (hg : X.A.guards = some []) : CallD X (.builtin "repr") (rCall1 (rRepr X.K)) (one1 reprPD) := by
  have big : ∀ (S : Addr → Prop) (H : Hp) (x : V) (dx d : D), Dat X.K S H dx x → (∃ a, x = .ref a) → (match pdOf dx with
      | some p => if p.showable = true ∧ p.hasDict = false ∧ p.depth ≤ 60 ∧ p.shown.length ≤ ssz then some (D.str p.shown) else none
      | none => none) = some d → ∀ Q : VK, (∀ v H', Ext H H' → Dat X.K S H' d v → Q v H') → rRepr X.K x H Q := fun S H x dx d hx ⟨a, ea⟩ hf Q hq => by
    cases q : pdOf dx with
    | none => rw [q] at hf; cases hf
    | some p =>
      rw [q] at hf
      dsimp only at hf
      split at hf
      · rename_i hz; cases hf
        exact .inr (.inr (.inr (.inr ⟨a, p, ea, Dat.dp _ _ _ hx q, hz.1, hz.2.1, hz.2.2.1, by rw [ssz_eq]; exact hz.2.2.2, hq _ H ext_refl rfl⟩)))
      · cases hf
  refine ⟨fun pins s σ H xs us Q I rx h => ?_, call1_ok fun S H x dx d hS hx hf Q hq => ?_⟩
  · obtain ⟨x, rfl, h⟩ := h
    obtain ⟨u, rfl, rx2⟩ := vals1 rx
    rcases h with ⟨i, rfl, hz, q⟩ | ⟨b, rfl, q⟩ | ⟨rfl, q⟩ | ⟨z, rfl, hz, q⟩ | ⟨a, p, rfl, dp, h1, h2, h3, h4, q⟩
    · obtain ⟨t, rfl⟩ := rx2
      exact PySem.P.repr_of_int hz ⟨V.str _, H, I.tok _, ⟨_, rfl⟩, q⟩
    · cases rx2
      exact PySem.P.repr_of_bool ⟨V.str _, H, I.tok _, ⟨_, rfl⟩, q⟩
    · cases rx2
      exact PySem.P.repr_of_none ⟨V.str _, H, I.tok _, ⟨_, rfl⟩, q⟩
    · obtain ⟨t, rfl⟩ := rx2
      exact PySem.P.repr_of_str (h := ⟨V.str _, H, I.tok _, ⟨_, rfl⟩, q⟩) (hsz := hz)
    · obtain ⟨as, rd⟩ := Dp.reads I p _ u dp rx2
      cases (show u = Value.ref a from rx2)
      refine repr_of_reads' rd h1 (fun z => by rw [h2] at z; cases z) hg ?_ (fun _ _ e => e) (fun h' u' tk k => ⟨V.str _, H, I.kept k, ⟨_, rfl⟩, q⟩) h4
      omega
  · unfold reprPD at hf
    split at hf
    · split at hf
      · rename_i hz; cases hf; cases (show x = .int _ from hx)
        exact .inl ⟨_, rfl, hz, hq _ H ext_refl rfl⟩
      · cases hf
    · cases hf; cases (show x = .bl _ from hx); exact .inr (.inl ⟨_, rfl, hq _ H ext_refl rfl⟩)
    · cases hf; cases (show x = .non from hx); exact .inr (.inr (.inl ⟨rfl, hq _ H ext_refl rfl⟩))
    · split at hf
      · rename_i hz; cases hf; cases (show x = .str _ from hx)
        exact .inr (.inr (.inr (.inl ⟨_, rfl, by rw [ssz_eq]; exact hz, hq _ H ext_refl rfl⟩)))
      · cases hf
    · refine big S H x dx d hx ?_ hf Q hq
      cases dx <;> first | (exfalso; simp_all; done) | skip
      · obtain ⟨a, _, e, _⟩ := hx; exact ⟨a, e⟩
      · obtain ⟨a, _, e, _⟩ := hx; exact ⟨a, e⟩
      all_goals (cases hf)
theorem cd_reprD (hr : RoomG 0 X.A) : CallD X (.builtin "repr") (rCall1 (rRepr X.K)) (one1 reprPD) := cd_reprU hr.units hr.g
end
end PD
namespace PD
open PySem PySem.Spec PyProof.Rows PySem.Calls L2
def plD : Nat → D → Bool
  | _, .non => true
  | _, .bl _ => true
  | _, .int _ => true
  | _, .str s => PyData.strOk s
  | n + 1, .tup l => l.all (plD n)
  | n + 1, .lst l => l.all (plD n)
  | _, _ => false
def eqS (x y : D) : Bool := match pdOf x, pdOf y with
  | some p, some q => PyData.eqv p q
  | _, _ => false
def eqSL (x y : List D) : Bool := match pdAll x, pdAll y with
  | some p, some q => PyData.eqvAll p q
  | _, _ => false
mutual
theorem plD_pd : ∀ (n : Nat) (d : D), plD n d = true → ∃ p, pdOf d = some p ∧ PyData.canLay0 p = true ∧ PyData.depth p ≤ n
  | n, .non, _ => ⟨.none, rfl, rfl, by cases n <;> exact Nat.zero_le _⟩
  | n, .bl b, _ => ⟨.bool b, rfl, rfl, by cases n <;> exact Nat.zero_le _⟩
  | n, .int b, _ => ⟨.int b, rfl, rfl, by cases n <;> exact Nat.zero_le _⟩
  | n, .str b, h => ⟨.str b, rfl, by cases n <;> exact h, by cases n <;> exact Nat.zero_le _⟩
  | n + 1, .tup l, h => by
    obtain ⟨ps, h1, h2, h3⟩ := plD_all n l h
    exact ⟨.tuple ps, by show (pdAll l).map PyData.tuple = _; rw [h1]; rfl, h2, Nat.succ_le_succ h3⟩
  | n + 1, .lst l, h => by
    obtain ⟨ps, h1, h2, h3⟩ := plD_all n l h
    exact ⟨.list ps, by show (pdAll l).map PyData.list = _; rw [h1]; rfl, h2, Nat.succ_le_succ h3⟩
  | 0, .tup l, h => by cases h
  | 0, .lst l, h => by cases h
  | n, .ins _ _ _, h => by cases n <;> cases h
  | n, .scr _, h => by cases n <;> cases h
  | n, .lam _ _, h => by cases n <;> cases h
  | n, .clo _ _ _ _ _, h => by cases n <;> cases h
  | n, .dct _ _, h => by cases n <;> cases h
  | n, .exn _ _ _ _ _, h => by cases n <;> cases h
  | n, .fn _, h => by cases n <;> cases h
  | n, .ty _, h => by cases n <;> cases h
theorem plD_all : ∀ (n : Nat) (l : List D), l.all (plD n) = true → ∃ ps, pdAll l = some ps ∧ PyData.canLayAll0 ps = true ∧ PyData.depthAll ps ≤ n
  | n, [], _ => ⟨[], rfl, rfl, Nat.zero_le _⟩
  | n, d :: l, h => by
    rw [List.all_cons, Bool.and_eq_true] at h
    obtain ⟨p, a1, a2, a3⟩ := plD_pd n d h.1
    obtain ⟨ps, b1, b2, b3⟩ := plD_all n l h.2
    refine ⟨p :: ps, ?_, ?_, ?_⟩
    · show (match pdOf d, pdAll l with | some p, some ps => some (p :: ps) | _, _ => none) = _
      rw [a1, b1]
    · show (PyData.canLay0 p && PyData.canLayAll0 ps) = true
      rw [a2, b2]; rfl
    · exact Nat.max_le.mpr ⟨a3, b3⟩
end
theorem plD_sh {d : D} (h : plD 60 d = true) : ∃ p, pdOf d = some p ∧ SeqAt.shaped p = true := by
  obtain ⟨p, h1, h2, h3⟩ := plD_pd 60 d h
  refine ⟨p, h1, ?_⟩
  show (PyData.canLay0 p && decide (PyData.depth p ≤ 64)) = true
  rw [h2, decide_eq_true (by omega)]; rfl
theorem eqB_pl {x y : D} (hx : plD 60 x = true) (hy : plD 60 y = true) : eqB x y = some (eqS x y) := by
  obtain ⟨p, p1, p2⟩ := plD_sh hx
  obtain ⟨q, q1, q2⟩ := plD_sh hy
  have e : eqS x y = PyData.eqv p q := by unfold eqS; rw [p1, q1]
  rw [e]
  unfold eqB
  split
  · cases p1; cases q1; rfl
  · cases p1; cases q1; rfl
  · cases p1; cases q1; rfl
  · cases p1; cases q1; rfl
  · cases p1; cases q1; rfl
  · cases p1; cases q1; rfl
  · rw [p1, q1]
    exact if_pos ⟨p2, q2⟩
theorem eqD_pl {x y : D} (hx : plD 60 x = true) (hy : plD 60 y = true) : eqD x y = some (.bl (eqS x y)) := by unfold eqD; rw [eqB_pl hx hy]; rfl
theorem neD_pl {x y : D} (hx : plD 60 x = true) (hy : plD 60 y = true) : neD x y = some (.bl (!eqS x y)) := by unfold neD; rw [eqB_pl hx hy]; rfl
theorem eqS_int {i j : Int} : eqS (.int i) (.int j) = decide (i = j) := rfl
theorem eqS_bl {i j : Bool} : eqS (.bl i) (.bl j) = decide (i = j) := by cases i <;> cases j <;> rfl
theorem eqS_lst {a b : List D} : eqS (.lst a) (.lst b) = eqSL a b := by
  unfold eqS eqSL
  show (match (pdAll a).map PyData.list, (pdAll b).map PyData.list with | some p, some q => PyData.eqv p q | _, _ => false) = _
  cases pdAll a <;> cases pdAll b <;> rfl
theorem pdAll_cons {a : D} {l : List D} : pdAll (a :: l) = (match pdOf a, pdAll l with | some p, some ps => some (p :: ps) | _, _ => none) := rfl
theorem eqSL_nc {a : D} {l : List D} : eqSL [] (a :: l) = false := by
  unfold eqSL
  rw [pdAll_cons]
  cases pdOf a <;> cases pdAll l <;> rfl
theorem eqSL_cn {a : D} {l : List D} : eqSL (a :: l) [] = false := by
  unfold eqSL
  rw [pdAll_cons]
  cases pdOf a <;> cases pdAll l <;> rfl
theorem eqSL_cons {a b : D} {l m : List D} : eqSL (a :: l) (b :: m) = (eqS a b && eqSL l m) := by
  unfold eqSL eqS
  rw [pdAll_cons, pdAll_cons]
  cases pdOf a <;> cases pdAll l <;> cases pdOf b <;> cases pdAll m <;> first | rfl | simp [PyData.eqvAll]
end PD
namespace PD
open PySem PySem.Spec PyProof.Rows PySem.Calls L2
section
variable {α β : Type} {m : Mo α} {f : α → Mo β} {e e1 e2 e3 : En} {a : α}
def bindK (ra : Except Ex α) (e1 : En) (f : α → Mo β) : Rs β := match ra with | .ok a => f a e1 | .error x => some (.error x, e1)
theorem x_bind {ra : Except Ex α} {r : Except Ex β × En} (h1 : m e = some (ra, e1)) (h2 : bindK ra e1 f = some r) : Mo.bind m f e = some r := by
  unfold Mo.bind; rw [h1]; cases ra <;> exact h2
theorem x_bok {r : Rs β} (h : f a e1 = r) : bindK (.ok a) e1 f = r := h
theorem x_berr {x : Ex} : bindK (α := α) (.error x) e1 f = some (.error x, e1) := rfl
theorem x_ret : Mo.ret a e = some (.ok a, e) := rfl
theorem x_lift {o : Option α} (h : o = some a) : Mo.lift o e = some (.ok a, e) := by rw [h]; rfl
theorem x_liftR {o : Option (Except Ex α)} {r : Except Ex α} (h : o = some r) : Mo.liftR o e = some (r, e) := by rw [h]; rfl
theorem x_ifT {γ : Type} {k : Bool} {A B : En → γ} {r : γ} (hk : k = true) (h : A e = r) : (if k = true then A else B) e = r := by rw [if_pos hk]; exact h
theorem x_ifF {γ : Type} {k : Bool} {A B : En → γ} {r : γ} (hk : k = false) (h : B e = r) : (if k = true then A else B) e = r := by rw [if_neg (by rw [hk]; simp)]; exact h
theorem x_mifT {k : Bool} {A B : Mo α} {r : Rs α} (hk : k = true) (h : A e = r) : (if k = true then A else B) e = r := by rw [if_pos hk]; exact h
theorem x_mifF {k : Bool} {A B : Mo α} {r : Rs α} (hk : k = false) (h : B e = r) : (if k = true then A else B) e = r := by rw [if_neg (by rw [hk]; simp)]; exact h
theorem x_get {i : Nat} {d : D} (h : e[i]? = some (.val d)) : getM i e = some (.ok d, e) := by unfold getM; rw [h]
theorem x_getO {i : Nat} {o : OV} (h : e[i]? = some (.own true o)) (hn : e.set i (.val o.d) = e1) (hk : o.k.nd = true := by rfl) : getM i e = some (.ok o.d, e1) := by
  unfold getM; rw [h, ← hn]
  obtain ⟨kd, ll⟩ := o
  cases kd with
  | dct ks => cases hk
  | _ => rfl
theorem x_ixN {i : Nat} {mb : Mo D} {y : D} {r : Except Ex D × En} (h0 : hasSl i e = true) (h : mb e = some (.ok y, e1)) (h2 : ixM i y e1 = some r) : ixNM i mb e = some r := by
  unfold ixNM; rw [if_pos h0]; unfold Mo.bind; rw [h]; exact h2
theorem x_ixV {i : Nat} {k d d' : D} (h : e[i]? = some (.val d)) (h2 : ixD d k = some d') : ixM i k e = some (.ok d', e) := by unfold ixM; rw [h]; show Mo.lift _ e = _; rw [h2]; rfl
theorem x_ixO {i : Nat} {k d' : D} {b : Bool} {o : OV} (h : e[i]? = some (.own b o)) (h2 : ixD o.d k = some d') : ixM i k e = some (.ok d', e) := by unfold ixM; rw [h]; show Mo.lift _ e = _; rw [h2]; rfl
theorem x_fldV {i : Nat} {C : Addr} {s : Str} {d d' : D} (h : e[i]? = some (.val d)) (h2 : fldD C s d = some d') : fldNM i C s e = some (.ok d', e) := by rw [fldNM_ev, h]; show Mo.lift _ e = _; rw [h2]; rfl
theorem x_fldO {i : Nat} {C : Addr} {s : Str} {b : Bool} {fs : List Str} {l : List D} {d' : D} (h : e[i]? = some (.own b ⟨.ins C fs, l⟩)) (h2 : (fs.zip l).lookup s = some d') : fldNM i C s e = some (.ok d', e) := by rw [fldNM_ev, h]; show (if C = C then Mo.lift _ e else none) = _; rw [if_pos rfl, h2]; rfl
theorem x_peekV {i : Nat} {g : List D → Option D} {d d' : D} (h : e[i]? = some (.val d)) (h2 : g [d] = some d') : peekM i g e = some (.ok d', e) := by rw [peekM_ev, h]; show Mo.lift _ e = _; rw [h2]; rfl
theorem x_peekO {i : Nat} {g : List D → Option D} {b : Bool} {o : OV} {d' : D} (h : e[i]? = some (.own b o)) (h2 : g [o.d] = some d') (h3 : isSc d' = true) (hk : o.k.nd = true := by rfl) : peekM i g e = some (.ok d', e) := by
  rw [peekM_ev, h]
  obtain ⟨kd, ll⟩ := o
  cases kd with
  | dct ks => cases hk
  | _ => dsimp only; rw [h2]; exact if_pos h3
theorem x_callM {i : Nat} {F : OV → List D → Option (Except Ex D × OV)} {ms : Mo (List D)} {ds : List D} {b : Bool} {l l' : OV} {r : Except Ex D} (h0 : hasSl i e = true) (h : ms e = some (.ok ds, e1)) (h2 : e1[i]? = some (.own b l)) (h3 : F l ds = some (r, l')) (hn : e1.set i (.own b l') = e2) : callM i F ms e = some (r, e2) := by
  rw [callM_ev, if_pos h0]; unfold Mo.bind; rw [h]; dsimp only; rw [callMM_ev, h2]; dsimp only; rw [h3, ← hn]
theorem x_mut {i : Nat} {g : List D → List D → Option (List D)} {ms : Mo (List D)} {ds : List D} {b : Bool} {l0 l l' : List D} {b0 : Bool} (h0 : e[i]? = some (.own b0 ⟨.lst, l0⟩)) (h : ms e = some (.ok ds, e1)) (h2 : e1[i]? = some (.own b ⟨.lst, l⟩)) (h3 : g l ds = some l') (hn : e1.set i (.own b ⟨.lst, l'⟩) = e2) : mutM i g ms e = some (.ok .non, e2) := by
  unfold mutM; rw [h0]; dsimp only; unfold Mo.bind; rw [h]; dsimp only; rw [h2]; dsimp only; rw [h3, ← hn]
theorem x_lc {mi : Mo (List D)} {g : D → En → Option En} {mt : Mo Bool} {me : Mo D} {vs : List Nat} {ds ds0 l : List D} (h1 : mi e = some (.ok ds0, e1)) (hd : ds0 = ds) (hn : noOwn e1 vs = true) (hw : wipeE e1 vs = e2) (h2 : lcL g mt me vs [] ds e2 = some (.ok l, e3)) (hr : restE e1 e3 vs = e') : lcM mi g mt me vs e = some (.ok l, e') := by
  subst hd; unfold lcM Mo.bind; rw [h1]; dsimp only; rw [if_pos hn, hw, h2, ← hr]
theorem x_lcnil {g : D → En → Option En} {mt : Mo Bool} {me : Mo D} {vs : List Nat} {acc : List D} : lcL g mt me vs acc [] e = some (.ok acc, e) := rfl
theorem x_tup {ds : List D} (h : ds.length ≤ 1000) : tupM ds e = some (.ok (.tup ds), e) := tupM_ev (le_ssz h)
theorem x_lst {ds : List D} (h : ds.length ≤ 1000) : lstM ds e = some (.ok (.lst ds), e) := lstM_ev (le_ssz h)
theorem x_ln {ds : List D} (h : ds.length ≤ 1000) : lnM ds e = some (.ok ds, e) := lnM_ev (le_ssz h)
theorem x_len {n : Nat} {ds : List D} (h : ds.length = n) : lenM n ds e = some (.ok ds, e) := lenM_ev h
theorem x_isFn {C : Addr} : isFnM C (.fn C) e = some (.ok (), e) := isFnM_ev
theorem x_ins {C : Addr} {s : Str} {fs : List Str} {l : List D} (h : (fs.zip l).lookup s = none) : insM C s (.ins C fs l) e = some (.ok (), e) := by
  show Mo.lift (if C = C ∧ (fs.zip l).lookup s = none then some () else none) e = _
  rw [if_pos ⟨rfl, h⟩]; rfl
theorem x_jsnil {acc : Str} : jsM [] acc e = some (.ok acc, e) := rfl
theorem x_jscons {m : Mo D} {ms : List (Mo D)} {acc acc' : Str} {z : Str} {r : Except Ex Str × En} (h1 : m e = some (.ok (.str z), e1)) (h2 : (if (acc ++ z).length ≤ ssz then some (acc ++ z) else none) = some acc') (h : jsM ms acc' e1 = some r) : jsM (m :: ms) acc e = some r := by
  rw [jsM_cons]; unfold Mo.bind; rw [h1]; dsimp only
  have q : (strOf (.str z)).bind (fun y => if (acc ++ y).length ≤ ssz then some (acc ++ y) else none) = some acc' := h2
  rw [q]; exact h
def lcK (k : Bool) (g : D → En → Option En) (mt : Mo Bool) (me : Mo D) (vs : List Nat) (acc ds : List D) (e : En) : Rs (List D) := if k = true then (match me e with
  | some (.ok y, e3) => if acc.length < ssz then lcL g mt me vs (acc ++ [y]) ds (wipeE e3 vs) else none
  | _ => none) else lcL g mt me vs acc ds (wipeE e vs)
theorem x_lcc {g : D → En → Option En} {mt : Mo Bool} {me : Mo D} {vs : List Nat} {acc ds : List D} {d : D} {k : Bool} {r : Rs (List D)} (h1 : g d e = some e1) (hn : e1 = e3) (h2 : mt e3 = some (.ok k, e2)) (h : lcK k g mt me vs acc ds e2 = r) : lcL g mt me vs acc (d :: ds) e = r := by
  subst hn
  unfold lcL; rw [h1]; dsimp only; rw [h2]; unfold lcK at h; cases k <;> exact h
theorem x_lckT {g : D → En → Option En} {mt : Mo Bool} {me : Mo D} {vs : List Nat} {acc acc' ds : List D} {y : D} {k : Bool} {e4 : En} {r : Rs (List D)} (hk : k = true) (h3 : me e2 = some (.ok y, e3)) (hl : acc.length < 1000) (ha : acc ++ [y] = acc') (hw : wipeE e3 vs = e4) (h : lcL g mt me vs acc' ds e4 = r) : lcK k g mt me vs acc ds e2 = r := by
  unfold lcK; rw [if_pos hk, h3]; dsimp only; rw [if_pos (Nat.lt_trans hl (by decide)), hw, ha]; exact h
theorem x_lckF {g : D → En → Option En} {mt : Mo Bool} {me : Mo D} {vs : List Nat} {acc ds : List D} {k : Bool} {e4 : En} {r : Rs (List D)} (hk : k = false) (hw : wipeE e2 vs = e4) (h : lcL g mt me vs acc ds e4 = r) : lcK k g mt me vs acc ds e2 = r := by
  unfold lcK; rw [if_neg (by rw [hk]; simp), hw]; exact h
end
section
variable {e e1 e2 e3 : En} {s t : Sm}
def seqK (o : Out) (e : En) (t : Sm) : Option (Out × En) := match o with | .nx => t e | o => some (o, e)
theorem x_seq {o : Out} {r : Option (Out × En)} (h1 : s e = some (o, e1)) (h2 : seqK o e1 t = r) : seqS s t e = r := by
  unfold seqS; rw [h1]; cases o <;> exact h2
theorem x_snx {r : Option (Out × En)} (h : t e = r) : seqK .nx e t = r := h
theorem x_srt {d : D} : seqK (.rt d) e t = some (.rt d, e) := rfl
theorem x_srf {d : List D} : seqK (.rf d) e t = some (.rf d, e) := rfl
theorem x_sex {d : Ex} : seqK (.ex d) e t = some (.ex d, e) := rfl
theorem x_sbk : seqK .bk e t = some (.bk, e) := rfl
theorem x_sct : seqK .ct e t = some (.ct, e) := rfl
theorem x_nx : nxS e = some (.nx, e) := rfl
def ofK {α : Type} (ra : Except Ex α) (e1 : En) (f : α → Sm) : Option (Out × En) := match ra with | .ok a => f a e1 | .error x => some (.ex x, e1)
theorem x_of {α : Type} {m : Mo α} {f : α → Sm} {ra : Except Ex α} {r : Option (Out × En)} (h1 : m e = some (ra, e1)) (h2 : ofK ra e1 f = r) : ofM m f e = r := by
  unfold ofM; rw [h1]; cases ra <;> exact h2
theorem x_ook {α : Type} {f : α → Sm} {a : α} {r : Option (Out × En)} (h : f a e = r) : ofK (.ok a) e f = r := h
theorem x_oerr {α : Type} {f : α → Sm} {x : Ex} : ofK (.error x) e f = some (.ex x, e) := rfl
theorem x_asg {me : Mo D} {f : D → En → Option En} {d : D} (h1 : me e = some (.ok d, e1)) (h2 : f d e1 = some e2) (hn : e2 = e3) : asgS me f e = some (.nx, e3) := by
  show ofM _ _ e = _; unfold ofM; rw [h1]; dsimp only; rw [h2, hn]
theorem x_par {ms : Mo (List D)} {i j : Nat} {a b : D} (h1 : ms e = some (.ok [a, b], e1)) (hn : (e1.set i (.val a)).set j (.val b) = e3) : parS ms i j e = some (.nx, e3) := by
  show ofM _ _ e = _; unfold ofM; rw [h1, ← hn]
theorem x_par3 {ms : Mo (List D)} {i j k : Nat} {a b c : D} (h1 : ms e = some (.ok [a, b, c], e1)) (hn : ((e1.set i (.val a)).set j (.val b)).set k (.val c) = e3) : par3S ms i j k e = some (.nx, e3) := by
  show ofM _ _ e = _; unfold ofM; rw [h1, ← hn]
theorem x_own {ms : Mo (List D)} {i : Nat} {l : List D} (h1 : ms e = some (.ok l, e1)) (hi : decide (i < e1.length) = true) (hn : e1.set i (.own true ⟨.lst, l⟩) = e3) : ownS ms i e = some (.nx, e3) := by
  show ofM _ _ e = _; unfold ofM; rw [h1]; dsimp only; rw [if_pos (of_decide_eq_true hi), ← hn]
theorem x_if {c : Mo Bool} {k : Bool} {r : Option (Out × En)} (h1 : c e = some (.ok k, e1)) (h2 : (if k = true then s else t) e1 = r) : ifS c s t e = r := by
  show ofM _ _ e = _; unfold ofM; rw [h1]; exact h2
theorem x_fld {i : Nat} {C : Addr} {f : Str} {me : Mo D} {d : D} {b : Bool} {fs : List Str} {l : List D} (h1 : me e = some (.ok d, e1)) (h2 : e1[i]? = some (.own b ⟨.ins C fs, l⟩)) (h3 : decide (fs.length < 1000 ∧ fs.length = l.length) = true) (hn : e1.set i (.own b ⟨.ins C (putK f fs), putL f d fs l⟩) = e2) : fldS i C f me e = some (.nx, e2) := by
  show ofM _ _ e = _; unfold ofM; rw [h1]; dsimp only; rw [h2]; dsimp only; rw [if_pos ⟨rfl, of_decide_eq_true h3⟩, ← hn]
theorem x_for {mi : Mo (List D)} {f : D → En → Option En} {b : Sm} {ds ds0 : List D} {r : Option (Out × En)} (h1 : mi e = some (.ok ds0, e1)) (hd : ds0 = ds) (h2 : forL f b ds e1 = r) : forS mi f b e = r := by
  subst hd; show ofM _ _ e = _; unfold ofM; rw [h1]; exact h2
theorem x_fnil {f : D → En → Option En} {b : Sm} : forL f b [] e = some (.nx, e) := rfl
def forK (o : Out) (e : En) (f : D → En → Option En) (b : Sm) (ds : List D) : Option (Out × En) := match o with | .nx => forL f b ds e | .ct => forL f b ds e | .bk => some (.nx, e) | o => some (o, e)
theorem x_fcons {f : D → En → Option En} {b : Sm} {d : D} {ds : List D} {o : Out} {r : Option (Out × En)} (h1 : f d e = some e1) (hn : e1 = e2) (h2 : b e2 = some (o, e3)) (h : forK o e3 f b ds = r) : forL f b (d :: ds) e = r := by
  unfold forL; rw [h1]; dsimp only; rw [hn, h2]; cases o <;> exact h
theorem x_fknx {f : D → En → Option En} {b : Sm} {ds : List D} {r : Option (Out × En)} (h : forL f b ds e = r) : forK .nx e f b ds = r := h
theorem x_fkct {f : D → En → Option En} {b : Sm} {ds : List D} {r : Option (Out × En)} (h : forL f b ds e = r) : forK .ct e f b ds = r := h
theorem x_fkrt {f : D → En → Option En} {b : Sm} {ds : List D} {d : D} : forK (.rt d) e f b ds = some (.rt d, e) := rfl
theorem x_fkex {f : D → En → Option En} {b : Sm} {ds : List D} {d : Ex} : forK (.ex d) e f b ds = some (.ex d, e) := rfl
theorem x_fkbk {f : D → En → Option En} {b : Sm} {ds : List D} : forK .bk e f b ds = some (.nx, e) := rfl
theorem x_P {N : List Str} {n : Nat} {m : Sm} {ds : List D} {o : Out} {r : Except Ex D} {e0 : En} (hl : ds.length = n) (he : stE N ds = e0) (h : m e0 = some (o, e1)) (ho : outR o = some r) : runP N n m ds = some r := by
  rw [runP_ev hl, he, h]; exact ho
theorem x_F {N : List Str} {n : Nat} {m : Sm} {ds l : List D} {e0 : En} (hl : ds.length = n) (he : stE N ds = e0) (h : m e0 = some (.rf l, e1)) : runF N n m ds = some l := by
  rw [runF_ev hl, he, h]; rfl
theorem x_M {N : List Str} {n : Nat} {m : Sm} {l0 l : OV} {ds : List D} {o : Out} {r : Except Ex D} {e0 : En} (hl : ds.length + 1 = n) (he : stO N l0 ds = e0) (h : m e0 = some (o, e1)) (ho : outR o = some r) (h0 : e1[0]? = some (.own false l)) : runM N n m l0 ds = some (r, l) := by
  rw [runM_ev hl, he, h]
  show outM (o, e1) = _
  cases e1 with
  | nil => cases h0
  | cons s e =>
    have h0 : some s = some (.own false l) := h0
    cases h0
    rw [outM_ev, ho]; rfl
end
theorem auto_PW {P : Program} {w : World} {K : PySem.W.Frag} {mg : Str → Option Value} {base : Heap} {x qual : Str} {st : Stmt} {f : Addr} {fd : FuncData} {N ps : List Str} {k n : Nat} {m : Sm} {fM : List D → Option (Except Ex D)} (hI : ∀ ds r, fM ds = some r → runP N n m ds = some r) (F : Fun K x qual st f fd) (S : FnScope N ps (defScope st)) (hn : n = ps.length)
    (body : ∀ (cdv : Value) (A : Around) (outer : List Env) (s : Shared) (H : Hp) (E : XK), RoomG k (A.deeper (envOfC qual (defScope st) s.heap.objs.size f cdv)) →
      ∃ t m', DSs (cxOf (L2.CX P w) P w K mg base N qual (defScope st) f cdv A outer s H E) (fun c d _ H => E c d H) (defBody st) t m' ∧ m' = m) :
    FnG P w K mg base (L2.CX P w) (k + 1) f fd ps (spP K fM) :=
  fn_P F S (fun ds r h => by rw [← hn]; exact (runP_some (hI ds r h)).1) fun cdv A outer s H E hr => by
    obtain ⟨t, m', h, rfl⟩ := body cdv A outer s H E hr
    exact ⟨t, m', h, fun ds r h => (runP_some (hI ds r h)).2⟩
def cs0 (u : CloU) : Cs := ⟨[], 0, 0, 0, 0, 0, 0, 0, 0, 0, 0, 0, 0, 0, 0, 0, 0, 0, 0, 0, 0, 0, 0, 0, 0, 0, 0, 0, 0, 0, 0, 0, 0, 0, 0, 0, 0, 0, 0, 0, 0, 0, 0, 0, 0, 0, 0, u, fun _ => ⟨"", ⟨[], [], none, [], [], none, []⟩, default, ⟨.function, [], false, false, []⟩⟩, fun _ => 0, fun _ => 0⟩
section
variable {prog : Program} {w : World} {K : PySem.W.Frag} {mg mb : Str → Option Value} {CX : CXT} {lvl : Nat} {fa a : Addr} {fd : FuncData} {x : Str} {sp : Sp} {s1 : Shared} {its : List Value} {ns : List Int}
/-- the script's own object, in a heap that tracks it or nothing -/
structure Seen (K : PySem.W.Frag) (a : Addr) (its : List Value) (ns : List Int) (h : Heap) (H : Hp) : Prop where
  only : Only H
  seq : SqL K H a (ns.map V.int)
  alone : ∀ b, H b ≠ none → b = a
  free : H a ≠ none → K.lookup a = none
theorem goes_true (KX : K.In s1.heap) (hns : s1.heap.Ns mainGlobals mg) (hb : s1.heap.Ns builtinsNs mb) (hbb : ∀ x : Str, x ≠ "__name__" → mb x = bootBuiltins x) (hlim : s1.heap.NoLimit) (hg : s1.gens = #[])
    (obj : s1.heap.get? a = some { cls := .type "list", data := .seq its.toArray }) (room : RoomG lvl callerA) (F : ∀ base : Heap, K.In base → base.Ns mainGlobals mg → FnG prog w K mg base CX lvl fa fd [x] sp)
    (hbind : ∀ (s : Shared) (u : Value), BindsTo s fd ⟨[u], []⟩ [(x, u)]) (hCX : ∀ H e s', CX [] H s1 (fun _ _ _ => False) e s' → False) {H : Hp} (seen : Seen K a its ns s1.heap H) (hok : HOk prog w H s1.heap)
    (hsp : sp [.ref a] H (fun v _ => v = .bl true) fun _ _ _ => False) :
    codeAny (model prog w) callerA (.call (.ref fa) ⟨[.ref a], []⟩) (fun r s' => r = .ok (.ret (.bool true)) ∧ OldK s1.heap s'.heap ∧ s'.os = s1.os ∧ AllBare s'.gens) s1 := by
  -- the base: what is not tracked
  have low : ∀ {b : Addr} {o : Obj}, s1.heap.get? b = some o → (b = a → False) → (hidT s1.heap H).get? b = some o := fun {b o} e n => hidT_get e (Classical.byContradiction fun z => n (seen.alone b z))
  have nsL : ∀ {b : Addr} {m : Str → Option Value}, s1.heap.Ns b m → (hidT s1.heap H).Ns b m := by
    rintro b m ⟨o, es, ep, e, d, r⟩
    refine ⟨o, es, ep, low e fun q => ?_, d, r⟩
    rw [q, obj] at e
    cases e
    exact absurd d (by intro z; cases (show Data.seq its.toArray _ = Data.dict es ep from z))
  have kb : K.In (hidT s1.heap H) := fun b o e => by
    cases q : H b with
    | none => exact hidT_get (KX b o e) q
    | some u =>
      have n : H b ≠ none := by rw [q]; simp
      have same := seen.alone b n
      rw [same] at n e
      rw [seen.free n] at e; cases e
  have env : Env0 prog w K mg (hidT s1.heap H) callerA [] s1 H :=
    { frames := rfl, mod := ⟨kb, nsL hns, ⟨mb, nsL hb, hbb⟩, hlim.imp fun mc z => ⟨nsL z.1, z.2⟩⟩, bs := fun b o e => of_hidT e, bsz := Nat.le_of_eq (hidT_size _ _), funs := trivial, frf := fun b z => absurd (show b ∈ ([] : List Addr) from z) (by simp), hok := hok, bare := .of_eq hg }
  have go := (F _ kb (nsL hns)).run callerA [] s1 H ⟨[.ref a], []⟩ [.ref a] [.ref a] (fun v _ => v = .bl true) (fun _ _ _ => False) room env (hbind s1 (.ref a)) (.cons rfl .nil) hsp
  refine codeAny_mono go fun r s' h => ?_
  match r, h with
  | .error e, h => exact (hCX H e s' h).elim
  | .ok (.ret u), ⟨v, H', os, bare, un, ok2, rv, q⟩ =>
    cases (show v = .bl true from q)
    cases (show u = Value.bool true from rv)
    refine ⟨rfl, .of_keep fun b o e => ?_, os, bare⟩
    rcases seen.only b with z | ⟨ob, xs, z⟩
    · exact un.keep b o e z (fun q => absurd (show b ∈ ([] : List Addr) from q) (by simp)) (fun q => absurd (show b ∈ ([] : List Addr) from q) (by simp))
    · have before := (hok b _ z).1
      have behind := (ok2 b _ (un.frzs b ob _ z)).1
      rw [e] at before
      cases before
      exact behind
theorem law_true (KX : K.In s1.heap) (hns : s1.heap.Ns mainGlobals mg) (hb : s1.heap.Ns builtinsNs mb) (hbb : ∀ x : Str, x ≠ "__name__" → mb x = bootBuiltins x) (hlim : s1.heap.NoLimit) (hg : s1.gens = #[])
    (obj : s1.heap.get? a = some { cls := .type "list", data := .seq its.toArray }) (hints : IntsAre its ns) (hl : ns.length ≤ sizeLine) (room : RoomG lvl callerA) (F : ∀ base : Heap, K.In base → base.Ns mainGlobals mg → FnG prog w K mg base CX lvl fa fd [x] sp)
    (hbind : ∀ (s : Shared) (u : Value), BindsTo s fd ⟨[u], []⟩ [(x, u)]) (hsp : ∀ H : Hp, Only H → SqL K H a (ns.map V.int) → sp [.ref a] H (fun v _ => v = .bl true) fun _ _ _ => False)
    (hCX : ∀ H e s', CX [] H s1 (fun _ _ _ => False) e s' → False) :
    codeAny (model prog w) callerA (.call (.ref fa) ⟨[.ref a], []⟩) (fun r s' => r = .ok (.ret (.bool true)) ∧ OldK s1.heap s'.heap ∧ s'.os = s1.os ∧ AllBare s'.gens) s1 := by
  have rel := vals_ints hints
  let O : Obj := { cls := .type "list", data := .seq its.toArray }
  by_cases hk : K.lookup a = none
  · -- a thing of the caller's: tracked, frozen
    let H : Hp := fun b => if b = a then some (.frz O (.lst (ns.map V.int))) else none
    have at_ : H a = some (.frz O (.lst (ns.map V.int))) := if_pos rfl
    have off : ∀ {b}, b ≠ a → H b = none := fun n => if_neg n
    have seen : Seen K a its ns s1.heap H :=
      { only := fun b => (Classical.em (b = a)).elim (fun e => .inr ⟨O, _, e ▸ at_⟩) fun n => .inl (off n), seq := .inl (.inr ⟨O, at_⟩), alone := fun b z => Classical.byContradiction fun n => z (off n), free := fun _ => hk }
    refine goes_true KX hns hb hbb hlim hg obj room F hbind hCX seen (fun b u z => ?_) (hsp H seen.only seen.seq)
    by_cases n : b = a
    · subst n
      rw [at_] at z; cases z
      exact ⟨obj, by rw [List.length_map]; exact hl, its, _, rel, obj⟩
    · rw [off n] at z; cases z
  · obtain ⟨o, ho⟩ := Option.ne_none_iff_exists'.mp hk
    have e := KX a o ho
    rw [obj] at e
    cases e
    have seen : Seen K a its ns s1.heap (fun _ => none) :=
      { only := fun _ => .inl rfl, seq := .inr ⟨_, its.toArray, _, ho, rfl, rfl, rfl, by rw [List.size_toArray, hints.length]; exact hl, by simpa using rel⟩, alone := fun b z => absurd rfl z, free := fun z => absurd rfl z }
    exact goes_true KX hns hb hbb hlim hg obj room F hbind hCX seen (fun b u z => by cases (show (none : Option HO) = some u from z)) (hsp _ seen.only seen.seq)
end
end PD
namespace PD
open PySem PySem.Spec PyProof.Rows PySem.Calls L2
end PD
namespace PD
open PySem PySem.Spec PyProof.Rows PySem.Calls L2
theorem Ok.exn {K : PySem.W.Frag} {S0 : Addr → Prop} {A : Ow} {σ : L2.St} {env : En} {H : Hp} {i : Nat} {a : Addr} {dd : Option Addr} {x : Ex} (k : Ok K S0 A σ env H) (h : ExD K (AV S0 A) H x dd) : Ok K S0 (A.del i) (σ.set i (some (.ref a))) (env.set i (.val (.exn a dd x.C x.fs x.l))) H := k.setVal (by
  cases dd with
  | none => exact ⟨rfl, .inl ⟨rfl, h.1, h.2⟩⟩
  | some p => obtain ⟨vs, z1, zn, z2, z3⟩ := h; exact ⟨rfl, .inr ⟨p, vs, rfl, z1, zn, z2, z3⟩⟩)
end PD
namespace PD
open PySem PySem.Spec PyProof.Rows PySem.Calls L2
end PD
namespace PD
open PySem PySem.Spec PyProof.Rows PySem.Calls L2
end PD
namespace PD
open PySem PySem.Spec PyProof.Rows PySem.Calls L2
def FDs (K : PySem.W.Frag) (S : Addr → Prop) (H0 H : Hp) : List Bool → List D → List V → List Addr → Prop
  | [], ds, vs, qs => ds = [] ∧ vs = [] ∧ qs = []
  | false :: ks, ds, vs, qs => ∃ d r v ws, ds = d :: r ∧ vs = v :: ws ∧ Dat K S H d v ∧ FDs K S H0 H ks r ws qs
  | true :: ks, ds, vs, qs => ∃ (o : OV) (r : List D) (q : Addr) (us : List V) (ho : HO) (ws : List V) (qr : List Addr), ds = o.d :: r ∧ vs = V.ref q :: ws ∧ qs = q :: qr ∧ H0 q = none ∧ q ∉ qr ∧ H q = some ho ∧ o.k.is us ho ∧ Dats K S H o.l us ∧ FDs K S H0 H ks r ws qr
section
variable {K : PySem.W.Frag} {S S' : Addr → Prop} {H0 H1 H H' : Hp}
theorem FDs.step (hS : ∀ b, S' b → S b ∨ H b = none) (hH : Stp S H H') (h0 : ∀ b, H0 b = none → H1 b = none) : ∀ {ks : List Bool} {ds : List D} {vs : List V} {qs : List Addr}, (∀ q ∈ qs, H' q = H q) → FDs K S H0 H ks ds vs qs → FDs K S' H1 H' ks ds vs qs
  | [], _, _, _, _, h => h
  | false :: ks, _, _, _, e, ⟨d, r, v, ws, e1, e2, hd, h⟩ => ⟨d, r, v, ws, e1, e2, Dat.step hS hH d v hd, FDs.step hS hH h0 e h⟩
  | true :: ks, _, _, _, e, ⟨o, r, q, us, ho, ws, qr, e1, e2, e3, z1, z2, z3, z5, z4, h⟩ => by
    subst e3
    exact ⟨o, r, q, us, ho, ws, qr, e1, e2, rfl, h0 q z1, z2, by rw [e q List.mem_cons_self]; exact z3, z5, Dats.step hS hH o.l us z4, FDs.step hS hH h0 (fun q hq => e q (List.mem_cons_of_mem _ hq)) h⟩
theorem FDs.fresh : ∀ {ks : List Bool} {ds : List D} {vs : List V} {qs : List Addr}, FDs K S H0 H ks ds vs qs → ∀ q ∈ qs, H0 q = none
  | [], _, _, _, ⟨_, _, e⟩, q, hq => by rw [e] at hq; cases hq
  | false :: ks, _, _, _, ⟨d, r, v, ws, _, _, _, h⟩, q, hq => h.fresh q hq
  | true :: ks, _, _, _, ⟨l, r, p, us, ho, ws, qr, _, _, e3, z1, _, _, _, _, h⟩, q, hq => by
    rw [e3] at hq
    rcases List.mem_cons.mp hq with e | e
    · rw [e]; exact z1
    · exact h.fresh q e
theorem FDs.len : ∀ {ks : List Bool} {ds : List D} {vs : List V} {qs : List Addr}, FDs K S H0 H ks ds vs qs → vs.length = ks.length
  | [], _, _, _, ⟨_, e, _⟩ => by rw [e]; rfl
  | false :: ks, _, _, _, ⟨d, r, v, ws, _, e, _, h⟩ => by rw [e, List.length_cons, List.length_cons, h.len]
  | true :: ks, _, _, _, ⟨l, r, p, us, ho, ws, qr, _, e, _, _, _, _, _, _, h⟩ => by rw [e, List.length_cons, List.length_cons, h.len]
end
def PostA (ks : List Bool) (K : PySem.W.Frag) (W : WX) (S0 : Addr → Prop) (A : Ow) (σ : L2.St) (H : Hp) (env' : En) (Q : List V → Hp → Prop) : Except Ex (List D) → Prop
  | .ok ds => ∀ A' vs qs H', Ow.le A' A → Ok K (fun b => S0 b ∨ b ∈ qs) A' σ env' H' → Stp (Own A) H H' → FDs K (AV (fun b => S0 b ∨ b ∈ qs) A') H H' ks ds vs qs → Q vs H'
  | .error x => ∀ A' dd H', Ow.le A' A → Ok K S0 A' σ env' H' → Stp (Own A) H H' → ExD K (AV S0 A') H' x dd → W (.ref x.C) dd σ H'
def XAF (ks : List Bool) (K : PySem.W.Frag) (W : WX) (t : TA) (m : Mo (List D)) : Prop :=
  ∀ S0 A σ env H, Ok K S0 A σ env H → ∀ r env', m env = some (r, env') → ∀ Q, PostA ks K W S0 A σ H env' Q r → t σ H Q
structure DAF (X : Cx) (W : WX) (es : List Expr) (ks : List Bool) (t : TA) (m : Mo (List D)) : Prop where
  pa : PA X es t
  er : XAF ks X.K W t m
theorem or_nil {S0 : Addr → Prop} : (fun b => S0 b ∨ b ∈ ([] : List Addr)) = S0 := funext fun b => propext ⟨fun z => z.elim id fun q => (nomatch q), .inl⟩
theorem or_cons {S0 : Addr → Prop} {q : Addr} {qs : List Addr} : (fun b => (S0 b ∨ b = q) ∨ b ∈ qs) = fun b => S0 b ∨ b ∈ q :: qs := funext fun b => propext (by rw [List.mem_cons, or_assoc])
theorem or_cons2 {S0 : Addr → Prop} {q : Addr} {qs : List Addr} : (fun b => S0 b ∨ b ∈ q :: qs) = fun b => (S0 b ∨ b ∈ qs) ∨ b = q := funext fun b => propext (by rw [List.mem_cons, or_assoc, or_comm (a := b = q)])
section
variable {X : Cx} {W : WX} {e : Expr} {es : List Expr} {ks : List Bool} {te : TE} {t : TA} {me : Mo D} {ms mf : Mo (List D)}
theorem daf_nil : DAF X W [] [] tNil (Mo.ret []) := ⟨pa_nil, fun S0 A σ env H k r env' hm Q hp => by
  cases hm
  exact hp A [] [] H .refl (by rw [or_nil]; exact k) .refl ⟨rfl, rfl, rfl⟩⟩
theorem daf_v (h1 : DE X W e te me) (h2 : DAF X W es ks t ms) (hs : starEach (e :: es) X.env = (false, eval e X.env) :: starEach es X.env := by rfl) :
    DAF X W (e :: es) (false :: ks) (tCons te t) (me.bind fun d => ms.bind fun ds => Mo.ret (d :: ds)) := by
  refine ⟨pa_cons h1.pe h2.pa hs, fun S0 A σ env H k r env' hm Q hp => ?_⟩
  rcases Mo.bind_some hm with ⟨d, e1, q1, q2⟩ | ⟨x, e1, q1, q2⟩
  · refine h1.er S0 A σ env H k _ _ q1 _ fun A1 v H1 le k1 st hv => ?_
    rcases Mo.bind_some q2 with ⟨ds, e2, w1, w2⟩ | ⟨x, e2, w1, w2⟩
    · cases w2
      refine h2.er S0 A1 σ e1 H1 k1 _ _ w1 _ fun A2 vs qs H2 le2 k2 st2 hf => ?_
      refine hp A2 (v :: vs) qs H2 (le2.trans le) k2 (st.trans (st2.mono fun b => le.own)) ⟨d, ds, v, vs, rfl, rfl, ?_, FDs.step (fun b z => .inl z) .refl st.dom (fun _ _ => rfl) hf⟩
      refine Dat.step (fun b z => ?_) (st2.mono fun b z => .inr z) d v hv
      rcases z with (z | z) | z
      · exact .inl (.inl z)
      · exact .inr (hf.fresh b z)
      · exact .inl (.inr (le2.own z))
    · cases w2
      exact h2.er S0 A1 σ e1 H1 k1 _ _ w1 _ fun A2 dd H2 le2 k2 st2 ex => hp A2 dd H2 (le2.trans le) k2 (st.trans (st2.mono fun b => le.own)) ex
  · cases q2
    exact h1.er S0 A σ env H k _ _ q1 _ fun A1 dd H1 le k1 st ex => hp A1 dd H1 le k1 st ex
theorem daf_o (h1 : DF X W e te mf) (h2 : DAF X W es ks t ms) (hs : starEach (e :: es) X.env = (false, eval e X.env) :: starEach es X.env := by rfl) :
    DAF X W (e :: es) (true :: ks) (tCons te t) (mf.bind fun l => ms.bind fun ds => Mo.ret (D.lst l :: ds)) := by
  refine ⟨pa_cons h1.pe h2.pa hs, fun S0 A σ env H k r env' hm Q hp => ?_⟩
  rcases Mo.bind_some hm with ⟨l, e1, q1, q2⟩ | ⟨x, e1, q1, q2⟩
  · refine h1.ef S0 A σ env H k _ _ q1 _ fun A1 q us H1 le k1 st hq hq1 hl => ?_
    have nA : ¬ Own A1 q := fun z => k.trA q (.inr (le.own z)) hq
    rcases Mo.bind_some q2 with ⟨ds, e2, w1, w2⟩ | ⟨x, e2, w1, w2⟩
    · cases w2
      refine h2.er (fun b => S0 b ∨ b = q) A1 σ e1 H1 k1 _ _ w1 _ fun A2 vs qs H2 le2 k2 st2 hf => ?_
      have k2 : Ok X.K (fun b => (S0 b ∨ b = q) ∨ b ∈ qs) A2 σ env' H2 := k2
      have hf : FDs X.K (AV (fun b => (S0 b ∨ b = q) ∨ b ∈ qs) A2) H1 H2 ks ds vs qs := hf
      have fr := hf.fresh
      rw [or_cons] at k2 hf
      have nq : q ∉ qs := fun z => by have := fr q z; rw [hq1] at this; cases this
      refine hp A2 (.ref q :: vs) (q :: qs) H2 (le2.trans le) k2 (st.trans (st2.mono fun b => le.own)) ⟨⟨.lst, l⟩, ds, q, us, _, vs, qs, rfl, rfl, rfl, hq, nq, st2.at_ q _ nA hq1, rfl, ?_, FDs.step (fun b z => .inl z) .refl st.dom (fun _ _ => rfl) hf⟩
      refine Dats.step (fun b z => ?_) (st2.mono fun b z => .inr z) l us hl
      rcases z with (z | z) | z
      · exact .inl (.inl (.inl z))
      · rcases List.mem_cons.mp z with z | z
        · exact .inl (.inl (.inr z))
        · exact .inr (fr b z)
      · exact .inl (.inr (le2.own z))
    · cases w2
      refine h2.er (fun b => S0 b ∨ b = q) A1 σ e1 H1 k1 _ _ w1 _ fun A2 dd H2 le2 k2 st2 ex => hp A2 dd H2 (le2.trans le) (k2.show_ fun z => nA (le2.own z)) (st.trans (st2.mono fun b => le.own)) (ex.weak fun b z => z.imp .inl id)
  · cases q2
    exact h1.ef S0 A σ env H k _ _ q1 _ fun A1 dd H1 le k1 st ex => hp A1 dd H1 le k1 st ex
end
def putE : List Nat → List Bool → List D → En → Option En
  | [], [], [], e => some e
  | i :: is, false :: ks, d :: ds, e => putE is ks ds (e.set i (.val d))
  | i :: is, true :: ks, .lst l :: ds, e => if i < e.length then putE is ks ds (e.set i (.own true ⟨.lst, l⟩)) else none
  | i :: is, true :: ks, .dct kk l :: ds, e => if i < e.length then putE is ks ds (e.set i (.own true ⟨.dct kk, l⟩)) else none
  | _, _, _, _ => none
def setAll : List Nat → List V → L2.St → L2.St
  | i :: is, v :: vs, σ => setAll is vs (σ.set i (some v))
  | _, _, σ => σ
theorem put_ok {K : PySem.W.Frag} {S0 : Addr → Prop} {H0 H : Hp} : ∀ {is : List Nat} {ks : List Bool} {ds : List D} {vs : List V} {qs : List Addr} {A : Ow} {σ : L2.St} {env env' : En}, Ok K (fun b => S0 b ∨ b ∈ qs) A σ env H → FDs K (AV (fun b => S0 b ∨ b ∈ qs) A) H0 H ks ds vs qs →
    (∀ q ∈ qs, ¬ S0 q ∧ ¬ Own A q) → putE is ks ds env = some env' → is.length = vs.length ∧ ∃ A', Ok K S0 A' (setAll is vs σ) env' H ∧ ∀ b, Own A' b → Own A b ∨ b ∈ qs := by
  intro is
  induction is with
  | nil =>
    intro ks ds vs qs A σ env env' k hf hq hm
    cases ks with
    | cons b ks => cases hm
    | nil =>
      cases ds with
      | cons d ds => cases hm
      | nil =>
        obtain ⟨_, e2, e3⟩ := hf
        cases hm
        subst e2; subst e3
        rw [or_nil] at k
        exact ⟨rfl, A, k, fun b z => .inl z⟩
  | cons i is put_ok =>
    intro ks ds vs qs A σ env env' k hf hq hm
    cases ks with
    | nil => cases hm
    | cons b ks =>
      cases ds with
      | nil => cases b <;> cases hm
      | cons d ds =>
        cases b with
        | false =>
          obtain ⟨d', r, v, ws, e1, e2, hd, h⟩ := hf
          cases e1
          subst e2
          have av : ∀ b, AV (fun b => S0 b ∨ b ∈ qs) (A.del i) b → AV (fun b => S0 b ∨ b ∈ qs) A b := fun b => Ow.del_le.av
          obtain ⟨z1, A', z2, z3⟩ := put_ok (k.setVal (i := i) hd) (FDs.step (fun b z => .inl (av b z)) .refl (fun _ => id) (fun _ _ => rfl) h) (fun q z => ⟨(hq q z).1, fun w => (hq q z).2 (Ow.del_le.own w)⟩) hm
          exact ⟨by rw [List.length_cons, List.length_cons, z1], A', z2, fun b z => (z3 b z).imp Ow.del_le.own id⟩
        | true =>
          cases d with
          | lst l =>
            obtain ⟨o, r, q, us, ho, ws, qr, e1, e2, e3, z1, z2, z3, z5, z4, h⟩ := hf
            obtain ⟨kd, l'⟩ := o
            cases kd <;> cases e1
            subst e2; subst e3
            unfold putE at hm
            split at hm
            rotate_left
            · cases hm
            rename_i hi
            rw [or_cons2] at k z4 h
            have n0 := (hq q List.mem_cons_self).1
            have nA := (hq q List.mem_cons_self).2
            have k2 := Ok.setOwn (S0 := fun b => S0 b ∨ b ∈ qr) (i := i) k ⟨us, ho, z3, z5, z4⟩ (fun z => z.elim n0 z2) nA hi
            have ow : ∀ b, Own ((A.del i).put i q) b → Own A b ∨ b = q := fun b ⟨j, z⟩ => by
              by_cases h : j = i
              · rw [h, Ow.put_same] at z; cases z; exact .inr rfl
              · rw [Ow.put_ne h, Ow.del_ne h] at z; exact .inl ⟨j, z⟩
            obtain ⟨w1, A', w2, w3⟩ := put_ok k2 (FDs.step (fun b z => .inl (z.elim (fun z => .inl (.inl z)) fun z => (ow b z).elim .inr fun e => .inl (.inr e))) .refl (fun _ => id) (fun _ _ => rfl) h) (fun p hp => ⟨(hq p (List.mem_cons_of_mem _ hp)).1, fun z => (ow p z).elim (hq p (List.mem_cons_of_mem _ hp)).2 fun e => z2 (e ▸ hp)⟩) hm
            refine ⟨by rw [List.length_cons, List.length_cons, w1], A', w2, fun b z => ?_⟩
            rcases w3 b z with z | z
            · exact (ow b z).imp id fun e => by rw [e]; exact List.mem_cons_self
            · exact .inr (List.mem_cons_of_mem _ z)
          | dct kk l =>
            obtain ⟨o, r, q, us, ho, ws, qr, e1, e2, e3, z1, z2, z3, z5, z4, h⟩ := hf
            obtain ⟨kd, l'⟩ := o
            cases kd <;> cases e1
            subst e2; subst e3
            unfold putE at hm
            split at hm
            rotate_left
            · cases hm
            rename_i hi
            rw [or_cons2] at k z4 h
            have n0 := (hq q List.mem_cons_self).1
            have nA := (hq q List.mem_cons_self).2
            have k2 := Ok.setOwn (S0 := fun b => S0 b ∨ b ∈ qr) (i := i) k ⟨us, ho, z3, z5, z4⟩ (fun z => z.elim n0 z2) nA hi
            have ow : ∀ b, Own ((A.del i).put i q) b → Own A b ∨ b = q := fun b ⟨j, z⟩ => by
              by_cases h : j = i
              · rw [h, Ow.put_same] at z; cases z; exact .inr rfl
              · rw [Ow.put_ne h, Ow.del_ne h] at z; exact .inl ⟨j, z⟩
            obtain ⟨w1, A', w2, w3⟩ := put_ok k2 (FDs.step (fun b z => .inl (z.elim (fun z => .inl (.inl z)) fun z => (ow b z).elim .inr fun e => .inl (.inr e))) .refl (fun _ => id) (fun _ _ => rfl) h) (fun p hp => ⟨(hq p (List.mem_cons_of_mem _ hp)).1, fun z => (ow p z).elim (hq p (List.mem_cons_of_mem _ hp)).2 fun e => z2 (e ▸ hp)⟩) hm
            refine ⟨by rw [List.length_cons, List.length_cons, w1], A', w2, fun b z => ?_⟩
            rcases w3 b z with z | z
            · exact (ow b z).imp id fun e => by rw [e]; exact List.mem_cons_self
            · exact .inr (List.mem_cons_of_mem _ z)
          | _ => cases hm
def parO (ms : Mo (List D)) (is : List Nat) (ks : List Bool) : Sm := ofM ms fun ds env => (putE is ks ds env).map fun e => (.nx, e)
/-- what stands behind the arguments is shown of the slots as they are then -/
theorem sr_parO {K : PySem.W.Frag} {ks : List Bool} {is : List Nat} {t : TA} {ms : Mo (List D)} {R : Ends → L2.St → List V → Hp → Prop} (h : XAF ks K W t ms)
    (hR : ∀ D σ vs H1, is.length = vs.length → (∀ H2, Ext H1 H2 → D.nx (setAll is vs σ) H2) → R D σ vs H1) : SR K W (fun D σ H => t σ H fun vs H1 => R D σ vs H1) (parO ms is ks) := by
  intro S0 A σ env H k o env' hm D hp
  rcases ofM_some hm with ⟨ds, e1, q1, q2⟩ | ⟨x, e1, q1, q2⟩
  · cases hm2 : putE is ks ds e1 with
    | none => rw [hm2] at q2; cases q2
    | some e2 =>
      rw [hm2] at q2
      cases q2
      refine h S0 A σ env H k _ _ q1 _ fun A1 vs qs H1 le k1 st hf => ?_
      have nq : ∀ q ∈ qs, ¬ S0 q ∧ ¬ Own A1 q := fun q hq => ⟨fun z => k.tr q z (hf.fresh q hq), fun z => k.trA q (.inr (le.own z)) (hf.fresh q hq)⟩
      refine hR D σ vs H1 (put_ok k1 hf nq hm2).1 fun H2 ex => ?_
      have own : ∀ q ∈ qs, H2 q = H1 q := fun q hq => by
        cases z : H1 q with
        | none => exact absurd z (k1.tr q (.inr hq))
        | some o => exact ex q o z
      obtain ⟨_, A', k2, ho⟩ := put_ok (k1.ext ex) (FDs.step (fun b z => .inl z) (.of ex) (fun _ => id) own hf) nq hm2
      exact hp A' _ H2 k2 ⟨st.trans (.of ex), fun b z => (ho b z).imp le.own (hf.fresh b)⟩
  · cases q2
    exact h S0 A σ env H k _ _ q1 _ fun A1 dd H1 le k1 st ex => hp A1 σ H1 k1 (.le le st) dd ex
section
variable {X : Cx} {W : WX} {i j l : Nat} {x y z : Str} {a b c : Expr} {ta : TA} {ms : Mo (List D)} {ks : List Bool} {px py pz pt pos : Pos} {kt k2 pt2}
theorem ds_parO2 (hc : X.calm = true) (hN : X.N.Nodup) (ha : DAF X W [a, b] ks ta ms) (hi : X.N[i]? = some x := by rfl) (hj : X.N[j]? = some y := by rfl) (hij : i ≠ j := by decide)
    (hx : X.env.scope.names.lookup x = some .local := by rfl) (hy : X.env.scope.names.lookup y = some .local := by rfl)
    (hw : swappedStores [.Tuple [.Name x px, .Name y py] kt pt] (.Tuple [a, b] k2 pt2) X.env = pure (some [x, y]) := by rfl)
    (hs : swapsWithSole [.Tuple [.Name x px, .Name y py] kt pt] (.Tuple [a, b] k2 pt2) pos.line X.env = pure false := by rfl) :
    DS X W (.Assign [.Tuple [.Name x px, .Name y py] kt pt] (.Tuple [a, b] k2 pt2) pos) (tPar i j ta) (parO ms [i, j] ks) :=
  ⟨ps_par hc hN hi hj hij hx hy ha.pa hw hs, sr_parO (R := fun D σ vs H1 => ∃ v w, vs = [v, w] ∧ D.nx ((σ.set i (some v)).set j (some w)) H1) ha.er fun D σ vs H1 hl h => match vs, hl, h with | [v, w], _, h => ⟨v, w, rfl, h H1 fun _ _ e => e⟩⟩
end
end PD
namespace PD
open PySem PySem.Spec PyProof.Rows PySem.Calls L2
section
variable {prog : Program} {w : World} {A : Around} {E : Value → Shared → Prop} {s : Shared}
theorem draw_list {it t : Addr} {items : Array Value} (hne : t ≠ it) : ∀ (n i : Nat) (s : Shared) (Q : List Value → Shared → Prop), s.heap.IsListIter it t i → s.heap.IsList t items → i + n ≤ items.size →
    (∀ h', h'.IsListIter it t (i + n) → Heap.SameBut it s.heap h' → Q ((items.toList.drop i).take n) { s with heap := h' }) → wpAny (model prog w) A (draw (.ref it) n) Q E s
  | 0, i, s, Q, hit, _, _, hQ => by
    show wpAny _ _ (pure []) Q E s
    exact wpAny_pure (by simpa using hQ s.heap hit (Heap.SameBut.refl ..))
  | n + 1, i, s, Q, hit, ht, hle, hQ => by
    have hlt : i < items.size := by omega
    show wpAny _ _ (pyNext (.ref it) >>= _) Q E s
    refine wpAny_bind (wpAny_pyNext_list_item hit ht (x := items[i]) (by simp [hlt]) fun h₁ hit₁ hs₁ => ?_)
    refine wpAny_bind (wpAny_holding (draw_list hne n (i + 1) _ _ hit₁ (ht.extBut hs₁.extBut hne) (by omega) fun h₂ hit₂ hs₂ => wpAny_pure ?_))
    have hd : items.toList.drop i = items[i] :: items.toList.drop (i + 1) := by simp [List.drop_eq_getElem_cons, hlt]
    have := hQ h₂ (by rw [show i + (n + 1) = i + 1 + n by omega]; exact hit₂) (hs₁.trans hs₂)
    rw [hd, List.take_succ_cons] at this
    exact this
theorem unpackItems_list {t : Addr} {items : Array Value} {Q : List Value → Shared → Prop} (hh : A.handled = none) (ht : s.heap.IsList t items)
    (hQ : ∀ h', Heap.ExtBut s.heap.objs.size s.heap h' → Q items.toList { s with heap := h' }) : wpAny (model prog w) A (unpackItems (.ref t) items.size none) Q E s := by
  have hlt : t ≠ s.heap.objs.size := by obtain ⟨o, ho, _⟩ := ht; exact Nat.ne_of_lt (Heap.lt_size ho)
  unfold unpackItems
  refine wpAny_bind ?_
  · unfold notIterableAtAll
    refine wpAny_bind (wpAny_specialOf ht.typeIs slot_list_iter.lookup ?_)
    refine wpAny_pure ?_
    simp only [Bool.false_eq_true, if_false]
    refine wpAny_bind (wpAny_holding (wpAny_pyIter_list ht ?_))
    refine wpAny_bind (wpAny_holding (draw_list hlt items.size 0 _ _ ⟨_, Heap.get?_push_size _ rfl, rfl, rfl⟩ (ht.push _) (by omega) fun h₁ hit₁ hs₁ => ?_))
    have hall : List.take items.size (List.drop 0 items.toList) = items.toList := by
      rw [List.drop_zero]; exact List.take_of_length_le (by simp)
    rw [hall]
    rw [if_neg (by simp)]
    have ht₁ : h₁.IsList t items := (ht.push _).extBut hs₁.extBut hlt
    refine wpAny_bind (wpAny_holding (wpAny_pyNext_list_end hh hit₁ ht₁ (by simp) fun h₂ he₂ => ?_))
    simp only [Option.isSome_none, Bool.false_eq_true, if_false]
    refine wpAny_pure (hQ h₂ fun b o hb e => he₂ b o hb (hs₁.extBut b o hb (Heap.get?_push_of_some _ e)))
theorem assign_Tuple_list {env : Env} {elts : List Expr} {x1} {pos : Pos} {t : Addr} {items : Array Value} {Q : Unit → Shared → Prop} (hh : A.handled = none) (ht : s.heap.IsList t items)
    (hn : (assignEach elts env).length = items.size) (hstar : (assignEach elts env).findIdx? (·.1) = none)
    (h : ∀ h', Heap.ExtBut s.heap.objs.size s.heap h' → wpAny (model prog w) A (assignInOrder ((assignEach elts env).map (·.2)) items.toList) Q E { s with heap := h' }) :
    wpAny (model prog w) A (assign (.Tuple elts x1 pos) env (.ref t)) Q E s := by
  rw [arm_assign_Tuple]
  refine wpAny_bind (wpAny_standAt ?_)
  unfold unpack
  rw [hn, hstar]
  exact wpAny_bind (wpAny_holding (unpackItems_list hh ht h))
end
def gLst (K : PySem.W.Frag) (n : Nat) (t : TGs) : TG := fun v σ H Q => ∃ a xs, v = .ref a ∧ SqL K H a xs ∧ xs.length = n ∧ t xs σ H Q
section
variable {X : Cx} {W : WX} {pos : Pos} {es : List Expr} {gs : TGs} {fs : List D → En → Option En}
theorem pg_lst {k : Nat} {n : Nat} (hc : X.calm = true) (h : PGs X es gs)
    (hn : (assignEach es X.env).length = n := by rfl) (hst : (assignEach es X.env).findIdx? (·.1) = none := by rfl) : PG X (.Tuple es k pos) (gLst X.K n gs) := by
  refine ⟨fun pins s σ H v u Q I r hw => ?_⟩
  obtain ⟨a, xs, e1, hq, hl, hw⟩ := hw
  subst e1
  cases r
  obtain ⟨its, rv, ht, hz⟩ := I.list hq
  refine assign_Tuple_list (I.ok.hd hc) ht.isList (by simp [hn, ← hl, rv.length]) hst fun h' hx => ?_
  have I1 : Inv X pins σ H { s with heap := h' } := I.kept (t' := s.toks) fun b o e => hx b o (Nat.ne_of_lt (Heap.lt_size e)) e
  exact h.run pins _ σ H xs _ Q I1 (by simpa using rv) hw
/-- a, b, .. = x, x a slot with an own list, which stays one's own -/
def unpS (i n : Nat) (fs : List D → En → Option En) : Sm := fun env => match env[i]? with
  | some (.own _ ⟨.lst, l⟩) => if l.length = n then (fs l env).map fun e => (.nx, e) else none
  | some (.val (.lst l)) => if l.length = n then (fs l env).map fun e => (.nx, e) else none
  | _ => none
theorem ds_unp (i : Nat) {k n : Nat} {y : Str} {py pt : Pos} (hc : X.calm = true) (hg : DGs X es gs fs) (hN : X.N[i]? = some y := by rfl) (hvy : Vis X.env.scope y := by first | exact Or.inl rfl | exact Or.inr (Or.inl rfl) | exact Or.inr (Or.inr rfl))
    (hdy : (y == ("__debug__" : Str)) = false := by decide) (hcy : (y == ("__classdict__" : Str)) = false := by decide) (hn : (assignEach es X.env).length = n := by rfl) (hst : (assignEach es X.env).findIdx? (·.1) = none := by rfl)
    (hs : swapsWithSole [.Tuple es k pt] (.Name y py) pos.line X.env = pure false := by rfl) (hw : swappedStores [.Tuple es k pt] (.Name y py) X.env = pure none := by rfl)
    (h1 : (assignEach [.Tuple es k pt] X.env).map (·.2) = [assign (.Tuple es k pt) X.env] := by rfl) :
    DS X W (.Assign [.Tuple es k pt] (.Name y py) pos) (tAsg (tVar i) (gLst X.K n gs)) (unpS i n fs) := by
  refine ⟨ps_asg (pe_var hN hvy hdy hcy) (pg_lst hc hg.pg hn hst) hs hw h1, ?_⟩
  intro S0 A σ env H k o env' hm Dn hp
  have fin : ∀ (a : Addr) (l : List D) (vs : List V), σ[i]? = some (some (.ref a)) → H a = some (.lst vs) → Dats X.K (AV S0 A) H l vs → l.length = n → ((fs l env).map fun e => ((.nx : Out), e)) = some (o, env') → tAsg (tVar i) (gLst X.K n gs) Dn σ H := by
    intro a l vs e1 e2 hl hz hm
    cases q : fs l env with
    | none => rw [q] at hm; cases hm
    | some e3 =>
      rw [q] at hm; cases hm
      refine ⟨.ref a, e1, a, vs, rfl, SqL.of e2, by rw [← hl.len]; exact hz, hg.gr S0 A σ env H k l vs hl _ q _ fun A1 σ1 H1 k1 l1 s1 => hp A1 σ1 H1 k1 (.le l1 s1)⟩
  unfold unpS at hm
  split at hm
  · rename_i b l q
    obtain ⟨p, z1, z2, z3, _⟩ := k.sl i _ q
    obtain ⟨vs, z3, z4⟩ := z3.lst
    split at hm
    · rename_i hz
      exact fin p l vs z2 z3 z4 hz hm
    · cases hm
  · rename_i l q
    obtain ⟨v, z1, p, vs, rfl, z2, _, z4⟩ := k.sl i _ q
    split at hm
    · rename_i hz
      exact fin p l vs z1 z2 z4 hz hm
    · cases hm
  · cases hm
end
def listD : List D → Option D
  | [.lst l] => some (.lst l)
  | [.tup l] => some (.lst l)
  | _ => none
def tupleD : List D → Option D
  | [.lst l] => some (.tup l)
  | [.tup l] => some (.tup l)
  | _ => none
theorem cd_list {X : Cx} : CallD X (.type "list") (fun xs H Q => ∃ p ys, xs = [.ref p] ∧ (SqL X.K H p ys ∨ SqT X.K H p ys) ∧ ∀ l, H l = none → Q (.ref l) (L2.upd H l (.lst ys))) listD := by
  refine ⟨call_list_of, fun S H vs ds d hS hd hg Q hq => ?_⟩
  unfold listD at hg
  split at hg
  · cases hg
    obtain ⟨v, e, p, ws, rfl, h1, _, h2⟩ := hd.one'
    exact ⟨p, ws, e, .inl (SqL.of h1), fun q hn => hq _ _ (Ext.upd hn) (dat_new hS hn h2)⟩
  · cases hg
    obtain ⟨v, e, p, ws, rfl, h1, _, h2⟩ := hd.one'
    exact ⟨p, ws, e, .inr (SqT.of h1), fun q hn => hq _ _ (Ext.upd hn) (dat_new hS hn h2)⟩
  · cases hg
theorem cd_tuple {X : Cx} : CallD X (.type "tuple") (fun xs H Q => ∃ p ys, xs = [.ref p] ∧ ((SqL X.K H p ys ∧ ∀ l, H l = none → Q (.ref l) (L2.upd H l (.tup ys))) ∨ (SqT X.K H p ys ∧ Q (.ref p) H))) tupleD := by
  refine ⟨call_tuple_of, fun S H vs ds d hS hd hg Q hq => ?_⟩
  unfold tupleD at hg
  split at hg
  · cases hg
    obtain ⟨v, e, p, ws, rfl, h1, _, h2⟩ := hd.one'
    exact ⟨p, ws, e, .inl ⟨SqL.of h1, fun q hn => hq _ _ (Ext.upd hn) (dat_newT hS hn h2)⟩⟩
  · cases hg
    obtain ⟨v, e, p, ws, rfl, h1, h3, h2⟩ := hd.one'
    exact ⟨p, ws, e, .inr ⟨SqT.of h1, hq _ _ ext_refl ⟨p, ws, rfl, h1, h3, h2⟩⟩⟩
  · cases hg
end PD
namespace PD
open PySem PySem.Spec PyProof.Rows PySem.Calls L2
section
variable {X : Cx} {W : WX} {elt iter tg : Expr} {ifs : List Expr} {te : TE} {me : Mo D} {pos spos py : Pos} {scope : Scope} {own : List (Str × Nat)} {w : TI} {mi : Mo (List D)} {g : TG} {f : D → En → Option En} {tt : TT} {mt : Mo Bool} {i : Nat} {y : Str}
theorem ds_lcV2 (hc : X.calm = true) (hN : X.N.Nodup) (hi : DI X W tg iter w mi) (ok : BlkOk X.N X.env.scope scope own)
    (hg0 : DG (X.blk X.s_0 (fun _ => none) scope (compEnvC scope [] 0 X.env) []) tg g f) (ht0 : DTs (X.blk X.s_0 (fun _ => none) scope (compEnvC scope [] 0 X.env) []) ifs tt mt) (he0 : DE (X.blk X.s_0 (fun _ => none) scope (compEnvC scope [] 0 X.env) []) W0 elt te me)
    (hg : ∀ (s : Shared) (H : Hp) (C : Addr) (cl : List (Str × Addr)) (fp : List Addr), DG (X.blk s H scope (compEnvC scope cl C X.env) fp) tg g f) (gw : GW g (own.map (·.2)))
    (ht : ∀ (s : Shared) (H : Hp) (C : Addr) (cl : List (Str × Addr)) (fp : List Addr), DTs (X.blk s H scope (compEnvC scope cl C X.env) fp) ifs tt mt)
    (he : ∀ (s : Shared) (H : Hp) (C : Addr) (cl : List (Str × Addr)) (fp : List Addr), DE (X.blk s H scope (compEnvC scope cl C X.env) fp) W0 elt te me)
    (hy : X.N[i]? = some y := by rfl) (hyl : X.env.scope.names.lookup y = some .local := by rfl)
    (hsw : swapsWith (.ListComp elt [⟨tg, iter, ifs, 0⟩] scope pos) (some (.Name y py)) spos.line X.env = pure true := by exact sw_true rfl rfl rfl (by decide +kernel))
    (hs : ∀ x, foldedSetIterable iter X.env x = pure x := by intro _; rfl) :
    DS X W (.Assign [.Name y py] (.ListComp elt [⟨tg, iter, ifs, 0⟩] scope pos) spos) (tAsg (tLc w g tt te (own.map (·.2))) (gName i)) (asgS ((lcM mi f mt me (own.map (·.2))).bind fun l => Mo.ret (.lst l)) (setE i)) :=
  let z := ps_lc (y := y) (py := py) (spos := spos) (i := i) (pos := pos) hc hN hi ok hg gw ht he hy hyl hsw hs
  ds_lcV z.1 z.2
end
end PD
namespace PD
open PySem PySem.Spec PyProof.Rows PySem.Calls L2
end PD
namespace PD
open PySem PySem.Spec PyProof.Rows PySem.Calls L2
structure RoomU (k : Nat) (A : Around) : Prop where
  r : L2H.RoomH k A
  g : A.guards = some []
namespace RoomU
variable {j k : Nat} {A : Around}
theorem mono (z : RoomU k A) (h : j ≤ k) : RoomU j A := ⟨z.r.mono h, z.g⟩
theorem units (z : RoomU k A) : A.units + 64 < cLine := by have := z.r.un; omega
theorem in1 (z : RoomU (k + 1) A) : RoomU k A.in1 := ⟨⟨by have := z.r.dp; show A.depth + 3 * k + 5 < _; omega, by have := z.r.un; show A.units + 1 + 16 * k + 200 < _; omega⟩, z.g⟩
theorem deeper (z : RoomU (k + 1) A) (env : Env) : RoomU k (A.deeper env) := ⟨z.r.deeper env, z.g⟩
end RoomU
theorem RoomG.u {k : Nat} {A : Around} (z : RoomG k A) : RoomU k A := ⟨L2H.roomH_of z.r, z.g⟩
structure FnU (prog : Program) (w : World) (K : PySem.W.Frag) (mg : Str → Option Value) (base : Heap) (CX : CXT) (lvl : Nat) (f : Addr) (fd : FuncData) (names : List Str) (sp : Sp) : Prop where
  len : ∀ xs H Q E, sp xs H Q E → xs.length = names.length
  run : ∀ (A : Around) (frames : List Env) (s : Shared) (H : Hp) (given : Args) (us : List Value) (xs : List V) (Q : VK) (E : XK), RoomU lvl A → Env0 prog w K mg base A frames s H →
    BindsTo s fd given (names.zip us) → Vals xs us → sp xs H Q E → codeAny (model prog w) A (.call (.ref f) given) (CR CX frames prog w H s Q E) s
theorem FnU.mono {prog : Program} {w : World} {K : PySem.W.Frag} {mg : Str → Option Value} {base : Heap} {CX : CXT} {i lvl : Nat} {f : Addr} {fd : FuncData} {names : List Str} {sp : Sp} (g : FnU prog w K mg base CX i f fd names sp) (h : i ≤ lvl) : FnU prog w K mg base CX lvl f fd names sp where
  len := g.len
  run := fun A fr s H gv us xs Q E room => g.run A fr s H gv us xs Q E (room.mono h)
end PD
namespace PD
open PySem PySem.Spec PyProof.Rows PySem.Calls L2
def ninD : D → D → Option D
  | .str a, .str z => match a.cps.toList with
    | [c] => some (.bl (!decide (c ∈ z.cps.toList)))
    | _ => none
  | _, _ => none
theorem RoomG.un65 {k : Nat} {A : Around} (z : RoomG k A) : A.units + 65 < cLine := by have := z.u.r.un; omega
theorem RoomU.un65 {k : Nat} {A : Around} (z : RoomU k A) : A.units + 65 < cLine := by have := z.r.un; omega
section
variable {X : Cx}
theorem od_notin : OpD X (compareOp .NotIn) rNotInS ninD := by
  refine ⟨op_notInS, fun S H x y dx dy d hS hx hy hf Q hq => ?_⟩
  unfold ninD at hf
  split at hf
  · split at hf
    · rename_i a z _ c hc
      cases hf
      cases (show x = .str _ from hx); cases (show y = .str _ from hy)
      exact ⟨c, z, by rw [str_one hc], rfl, hq _ H ext_refl rfl⟩
    · cases hf
  · cases hf
def inLB (x y : D) : Option Bool := match pdOf x, y with
  | some d, .lst l => match pdAll l with
    | some ds => if SeqAt.shaped d = true ∧ SeqAt.shaped (.list ds) = true then some (ds.any fun z => PyData.eqv z d) else none
    | none => none
  | _, _ => none
def inLD (x y : D) : Option D := (inLB x y).map .bl
def ninLD (x y : D) : Option D := (inLB x y).map fun b => .bl (!b)
theorem inLB_cases {x y : D} {b : Bool} {K : PySem.W.Frag} {S : Addr → Prop} {H : Hp} {v w : V} (h : inLB x y = some b) (hx : Dat K S H x v) (hy : Dat K S H y w) :
    ∃ d ds, Dp K H v d ∧ Dp K H w (.list ds) ∧ SeqAt.shaped d = true ∧ SeqAt.shaped (.list ds) = true ∧ b = ds.any fun z => PyData.eqv z d := by
  unfold inLB at h
  split at h
  · rename_i d l e1
    split at h
    · rename_i ds e2
      split at h
      · rename_i hs
        cases h
        exact ⟨d, ds, Dat.dp _ _ _ hx e1, Dat.dp _ _ _ hy (by show (pdAll l).map _ = _; rw [e2]; rfl), hs.1, hs.2, rfl⟩
      · cases h
    · cases h
  · cases h
theorem od_inL (hu : X.A.units + 65 < cLine) : OpD X (compareOp .In) (rInD X.K) inLD := by
  refine ⟨op_inD hu, fun S H x y dx dy d hS hx hy hf Q hq => ?_⟩
  unfold inLD at hf
  cases e : inLB dx dy with
  | none => rw [e] at hf; cases hf
  | some b =>
    rw [e] at hf; cases hf
    obtain ⟨d, ds, h1, h2, h3, h4, rfl⟩ := inLB_cases e hx hy
    exact ⟨d, ds, h1, h2, h3, h4, hq _ H ext_refl rfl⟩
theorem od_ninL (hu : X.A.units + 65 < cLine) : OpD X (compareOp .NotIn) (rNotInD X.K) ninLD := by
  refine ⟨op_notInD hu, fun S H x y dx dy d hS hx hy hf Q hq => ?_⟩
  unfold ninLD at hf
  cases e : inLB dx dy with
  | none => rw [e] at hf; cases hf
  | some b =>
    rw [e] at hf; cases hf
    obtain ⟨d, ds, h1, h2, h3, h4, rfl⟩ := inLB_cases e hx hy
    exact ⟨d, ds, h1, h2, h3, h4, hq _ H ext_refl rfl⟩
end
end PD
namespace PD
open PySem PySem.Spec PyProof.Rows PySem.Calls L2
end PD
namespace PD
open PySem PySem.Spec PyProof.Rows PySem.Calls L2
end PD
namespace PD
open PySem PySem.Spec PyProof.Rows PySem.Calls L2
end PD
namespace PD
open PySem PySem.Spec PyProof.Rows PySem.Calls L2
end PD
namespace PD
open PySem PySem.Spec PyProof.Rows PySem.Calls L2
end PD
namespace PD
open PySem PySem.Spec PyProof.Rows L2
section
variable {X : Cx}
def ltSD : D → D → Option D
  | .str a, .str b => some (.bl (decide (a.cps.toList < b.cps.toList)))
  | _, _ => none
theorem od_ltS : OpD X (compareOp .Lt) (fun x y H Q => ∃ i j, x = .str i ∧ y = .str j ∧ Q (.bl (decide (i.cps.toList < j.cps.toList))) H) ltSD := by
  refine ⟨op_lt_str, fun S H x y dx dy d hS hx hy hf Q hq => ?_⟩
  unfold ltSD at hf
  split at hf
  · cases hf
    cases (show x = .str _ from hx); cases (show y = .str _ from hy)
    exact ⟨_, _, rfl, rfl, hq _ H ext_refl rfl⟩
  · cases hf
def isBD : D → D → Option D
  | .bl a, .bl b => some (.bl (decide (a = b)))
  | _, _ => none
theorem od_isB : OpD X (compareOp .Is) rIsB isBD := by
  refine ⟨op_isBl, fun S H x y dx dy d hS hx hy hf Q hq => ?_⟩
  unfold isBD at hf
  split at hf
  · cases hf
    cases (show x = .bl _ from hx); cases (show y = .bl _ from hy)
    exact ⟨_, _, rfl, rfl, hq _ H ext_refl rfl⟩
  · cases hf
/-- flat data -/
def flV : D → Option V
  | .non => some .non
  | .bl b => some (.bl b)
  | .int i => some (.int i)
  | .str s => some (.str s)
  | _ => none
def flVs : List D → Option (List V)
  | [] => some []
  | d :: l => match flV d, flVs l with
    | some v, some vs => some (v :: vs)
    | _, _ => none
theorem flV_ok {K : PySem.W.Frag} {S : Addr → Prop} {H : Hp} {d : D} {v w : V} (h : flV d = some v) (hd : Dat K S H d w) : w = v ∧ flatV v = true := by
  cases d with
  | non => cases h; exact ⟨hd, rfl⟩
  | bl _ => cases h; exact ⟨hd, rfl⟩
  | int _ => cases h; exact ⟨hd, rfl⟩
  | str _ => cases h; exact ⟨hd, rfl⟩
  | _ => cases h
theorem flVs_ok {K : PySem.W.Frag} {S : Addr → Prop} {H : Hp} : ∀ {l : List D} {vs ws : List V}, flVs l = some vs → Dats K S H l ws → ws = vs ∧ vs.all flatV = true
  | [], vs, ws, h, hd => by cases h; exact ⟨hd, rfl⟩
  | d :: l, vs, ws, h, hd => by
    unfold flVs at h
    split at h
    · rename_i v vs' e1 e2
      cases h
      obtain ⟨x, r, rfl, h1, h2⟩ := hd
      obtain ⟨a1, a2⟩ := flV_ok e1 h1
      obtain ⟨b1, b2⟩ := flVs_ok e2 h2
      subst a1 b1
      exact ⟨rfl, by rw [List.all_cons, a2, b2]; rfl⟩
    · cases h
def inFB (x y : D) : Option Bool := match flV x, y with
  | some v, .tup l => (flVs l).map fun vs => inV v vs
  | some v, .lst l => (flVs l).map fun vs => inV v vs
  | _, _ => none
def inFD (x y : D) : Option D := (inFB x y).map .bl
theorem inFB_some {x y : D} {b : Bool} {K : PySem.W.Frag} {S : Addr → Prop} {H : Hp} {v w : V} (h : inFB x y = some b) (hx : Dat K S H x v) (hy : Dat K S H y w) : ∃ p xs, w = .ref p ∧ (SqL K H p xs ∨ SqT K H p xs) ∧ flatV v = true ∧ xs.all flatV = true ∧ b = inV v xs := by
  unfold inFB at h
  split at h
  · rename_i v' l e
    cases e2 : flVs l with
    | none => rw [e2] at h; cases h
    | some vs =>
      rw [e2] at h; cases h
      obtain ⟨p, ws, rfl, h1, _, h2⟩ := hy
      obtain ⟨a1, a2⟩ := flV_ok e hx
      obtain ⟨b1, b2⟩ := flVs_ok e2 h2
      subst a1 b1
      exact ⟨p, _, rfl, .inr (SqT.of h1), a2, b2, rfl⟩
  · rename_i v' l e
    cases e2 : flVs l with
    | none => rw [e2] at h; cases h
    | some vs =>
      rw [e2] at h; cases h
      obtain ⟨p, ws, rfl, h1, _, h2⟩ := hy
      obtain ⟨a1, a2⟩ := flV_ok e hx
      obtain ⟨b1, b2⟩ := flVs_ok e2 h2
      subst a1 b1
      exact ⟨p, _, rfl, .inl (SqL.of h1), a2, b2, rfl⟩
  · cases h
theorem od_inF : OpD X (compareOp .In) (rIn X.K false) inFD := by
  refine ⟨op_in_seq, fun S H x y dx dy d hS hx hy hf Q hq => ?_⟩
  unfold inFD at hf
  cases e : inFB dx dy with
  | none => rw [e] at hf; cases hf
  | some b =>
    rw [e] at hf; cases hf
    obtain ⟨p, xs, h1, h2, h3, h4, rfl⟩ := inFB_some e hx hy
    exact ⟨p, xs, h1, h2, h3, h4, hq _ H ext_refl rfl⟩
def ninFD (x y : D) : Option D := (inFB x y).map fun b => .bl (!b)
theorem od_ninF : OpD X (compareOp .NotIn) (rIn X.K true) ninFD := by
  refine ⟨op_notIn_seq, fun S H x y dx dy d hS hx hy hf Q hq => ?_⟩
  unfold ninFD at hf
  cases e : inFB dx dy with
  | none => rw [e] at hf; cases hf
  | some b =>
    rw [e] at hf; cases hf
    obtain ⟨p, xs, h1, h2, h3, h4, rfl⟩ := inFB_some e hx hy
    exact ⟨p, xs, h1, h2, h3, h4, hq _ H ext_refl rfl⟩
/-- tuples joined -/
def catTD : D → D → Option D
  | .tup a, .tup b => if a.length + b.length ≤ ssz then some (.tup (a ++ b)) else none
  | _, _ => none
theorem od_catT : OpD X (binaryOp .Add) (rCatA X.K) catTD := by
  refine ⟨op_catA, fun S H x y dx dy d hS hx hy hf Q hq => ?_⟩
  unfold catTD at hf
  split at hf
  · split at hf
    · rename_i l m hz
      cases hf
      obtain ⟨p, vs, rfl, h1, n1, h2⟩ := hx
      obtain ⟨p2, ws, rfl, h3, n2, h4⟩ := hy
      refine ⟨p, p2, vs, ws, rfl, rfl, SqT.of h1, SqT.of h3, by rw [← h2.len, ← h4.len, ssz_eq]; exact hz, fun e => ?_, fun _ e => ?_, fun _ _ q hq' => ?_⟩
      · subst e
        have : l = [] := List.eq_nil_of_length_eq_zero (by rw [h2.len]; rfl)
        subst this
        exact hq _ H ext_refl ⟨p2, ws, rfl, h3, n2, h4⟩
      · subst e
        have : m = [] := List.eq_nil_of_length_eq_zero (by rw [h4.len]; rfl)
        subst this
        exact hq _ H ext_refl ⟨p, vs, rfl, h1, n1, by rw [List.append_nil]; exact h2⟩
      · exact hq _ _ (Ext.upd hq') (dat_newT hS hq' (h2.append h4))
    · cases hf
  · cases hf
def repTD : D → D → Option D
  | .tup a, .int k => if a ≠ [] ∧ 2 ≤ k ∧ k ≤ 1000 ∧ a.length ≤ 1000 then some (.tup (List.replicate k.toNat a).flatten) else none
  | _, _ => none
theorem od_repT : OpD X (binaryOp .Mult) (rRepT X.K) repTD := by
  refine ⟨op_repT, fun S H x y dx dy d hS hx hy hf Q hq => ?_⟩
  unfold repTD at hf
  split at hf
  · split at hf
    · rename_i l m hz
      cases hf
      cases (show y = .int _ from hy)
      obtain ⟨p, vs, rfl, h1, n1, h2⟩ := hx
      exact ⟨p, _, vs, rfl, rfl, SqT.of h1, fun e => hz.1 (by subst e; exact List.eq_nil_of_length_eq_zero (by rw [h2.len]; rfl)), hz.2.1, hz.2.2.1, by rw [← h2.len]; exact hz.2.2.2, fun q hq' => hq _ _ (Ext.upd hq') (dat_newT hS hq' (h2.rep _))⟩
    · cases hf
  · cases hf
end
end PD
namespace PD
open PySem PySem.Spec PyProof.Rows L2
section
variable {X : Cx} {W : WX} {e o a : Expr} {te to ta : TE} {me mo ma : Mo D} {pos apos p p2 : Pos}
def slTD (d : D) (lo hi : Option Int) : Option D := match d with
  | .tup l => some (.tup (cutG l lo hi))
  | _ => none
def slD2 (d : D) (lo hi : Option Int) : Option D := (slD d lo hi).or (slTD d lo hi)
variable {lo hi : Option Expr} {tl th : TO} {ml mh : Mo (Option Int)}
theorem cutG_whole {α : Type} {l : List α} {lo hi : Option Int} (h : HT.sIx l.length 0 lo = 0 ∧ HT.sIx l.length l.length hi = l.length) : cutG l lo hi = l := by
  unfold cutG
  rw [h.1, h.2]
  exact List.take_of_length_le (by simp)
theorem de_slice2 (ha : DE X W a ta ma) (hl : DO X W lo tl ml) (hh : DO X W hi th mh) : DE X W (.Subscript a (.Slice lo hi none p2) pos) (tSl (fun x lo hi H Q => rSl X.K x lo hi H Q ∨ rSlA X.K x lo hi H Q) ta tl th) (ma.bind fun d => ml.bind fun l => mh.bind fun h => Mo.lift (slD2 d l h)) := by
  refine ⟨pe_slice ((sl_str.or sl_list).or sl_tupA) ha.pe hl.po hh.po, ?_⟩
  refine XR.bind (t2 := fun x σ (H1 : Hp) (Q : VK) => tl σ H1 fun l H2 => th σ H2 fun u H3 => rSl X.K x l u H3 Q ∨ rSlA X.K x l u H3 Q) ha.er (KR.carry (t2 := fun x l σ (H2 : Hp) (Q : VK) => th σ H2 fun u H3 => rSl X.K x l u H3 Q ∨ rSlA X.K x l u H3 Q) (m2 := fun d l => mh.bind fun h => Mo.lift (slD2 d l h)) grow_D hl.er ?_)
  intro S0 A σ env H k dx x hx l l' hll r env' hm Q hp
  cases (show l = l' from hll)
  refine KR.carry (t2 := fun x u σ (H3 : Hp) (Q : VK) => rSl X.K x l u H3 Q ∨ rSlA X.K x l u H3 Q) (m2 := fun d h => Mo.lift (slD2 d l h)) grow_D hh.er ?_ S0 A σ env H k dx x hx r env' hm Q hp
  intro S0 A σ env H k dx x hx h h' hhh r env' hm Q hp
  cases (show h = h' from hhh)
  obtain ⟨d, w1, w2⟩ := Mo.lift_some hm
  cases w2
  unfold slD2 slD slTD at w1
  cases dx with
  | str z =>
    left
    simp only [Option.or_none] at w1
    split at w1
    · rename_i hz
      cases w1
      cases (show x = .str z from hx)
      exact .inl ⟨z, rfl, by rw [ssz_eq]; exact hz, hp A _ H .refl k .refl rfl⟩
    · cases w1
  | lst l1 =>
    left
    cases w1
    obtain ⟨q, vs, rfl, h1, _, h2⟩ := hx
    exact .inr ⟨q, vs, rfl, SqL.of h1, fun p hp' => hp A _ _ .refl (k.ext (Ext.upd hp')) (.of (Ext.upd hp')) (dat_new k.trA hp' (h2.cut l h))⟩
  | scr ns =>
    left
    cases w1
    obtain ⟨q, rfl, z⟩ := hx
    refine .inr ⟨q, ns.map V.int, rfl, z.elim (fun ⟨o, z, _⟩ => .inl (.inr ⟨o, z⟩)) .inr, fun p hp' => hp A _ _ .refl (k.ext (Ext.upd hp')) (.of (Ext.upd hp')) (dat_new k.trA hp' ?_)⟩
    exact (Dats.ints ns).cut l h
  | tup l1 =>
    right
    cases w1
    obtain ⟨q, vs, rfl, h1, n1, h2⟩ := hx
    refine ⟨q, vs, rfl, SqT.of h1, fun e => ?_, fun _ p hp' => hp A _ _ .refl (k.ext (Ext.upd hp')) (.of (Ext.upd hp')) (dat_newT k.trA hp' (h2.cut l h))⟩
    rw [← h2.len] at e
    refine hp A _ H .refl k .refl ?_
    rw [cutG_whole e]
    exact ⟨q, vs, rfl, h1, n1, h2⟩
  | _ => cases w1
end
end PD
namespace PD
open PySem PySem.Spec PyProof.Rows L2
end PD
namespace PD
open PySem PySem.Spec PyProof.Rows L2
end PD
namespace PD
open PySem PySem.Spec PyProof.Rows L2
def inA (x y : D) : Option D := (inD x y).or ((inFD x y).or (inLD x y))
def ninA (x y : D) : Option D := (ninD x y).or ((ninFD x y).or (ninLD x y))
def addA (x y : D) : Option D := (addD x y).or (catTD x y)
def mulA (x y : D) : Option D := (mulD x y).or (repTD x y)
def ltA (x y : D) : Option D := (cmpI (fun i j => decide (i < j)) x y).or (ltSD x y)
def isA (x y : D) : Option D := (isND true x y).or (isBD x y)
section
variable {X : Cx}
theorem od_inA (hu : X.A.units + 65 < cLine) : OpD X (compareOp .In) (fun x y H Q => rInS x y H Q ∨ (rIn X.K false x y H Q ∨ rInD X.K x y H Q)) inA := od_in.or (od_inF.or (od_inL hu))
theorem od_ninA (hu : X.A.units + 65 < cLine) : OpD X (compareOp .NotIn) (fun x y H Q => rNotInS x y H Q ∨ (rIn X.K true x y H Q ∨ rNotInD X.K x y H Q)) ninA := od_notin.or (od_ninF.or (od_ninL hu))
theorem od_addA : OpD X (binaryOp .Add) (fun x y H Q => rAddA x y H Q ∨ rCatA X.K x y H Q) addA := od_add.or od_catT
end
end PD
namespace PD
open PySem PySem.Spec PyProof.Rows L2
end PD
namespace PD
open PySem PySem.Spec PyProof.Rows L2
def Frz (G : Addr → Prop) (H : Hp) : Prop := ∀ b, G b → ∃ o : Obj, H b = some (.frz o (.ext fun h => h.get? b = some o))
section
variable {G : Addr → Prop} {H H2 : Hp} {b : Addr}
theorem Frz.none (F : Frz G H) (h : H b = none) : ¬ G b := fun g => by
  obtain ⟨o, e⟩ := F b g
  rw [e] at h; cases h
variable {P : Program} {w : World} {fs : List Addr} {h h2 B : Heap}
theorem Frz.obj (F : Frz G H) (hok : HOk P w H h) (g : G b) : ∃ o, H b = some (.frz o (.ext fun h => h.get? b = some o)) ∧ h.get? b = some o := by
  obtain ⟨o, e⟩ := F b g
  exact ⟨o, e, (hok b _ e).1⟩
end
end PD
namespace PD
open PySem PySem.Spec PyProof.Rows L2
end PD
namespace PD
open PySem PySem.Spec PyProof.Rows L2
end PD
namespace PD
open PySem PySem.Spec PyProof.Rows L2
end PD
namespace PD
open PySem PySem.Spec PyProof.Rows L2
end PD
namespace PD
open PySem PySem.Spec PyProof.Rows L2
end PD
namespace PD
open PySem PySem.Spec PyProof.Rows L2
end PD
namespace PD
open PySem PySem.Spec PyProof.Rows L2
end PD
namespace PD
open PySem PySem.Spec PyProof.Rows PySem.Calls L2
end PD
namespace PD
open PySem PySem.Spec PyProof.Rows PySem.Calls L2
end PD
namespace PD
open PySem PySem.Spec PyProof.Rows PySem.Calls L2
end PD
namespace PD
open PySem PySem.Spec PyProof.Rows PySem.Calls L2
end PD
namespace PD
open PySem PySem.Spec PyProof.Rows PySem.Calls L2
end PD
namespace PD
open PySem PySem.Spec PyProof.Rows PySem.Calls L2
end PD
namespace PD
open PySem PySem.Spec PyProof.Rows PySem.Calls L2
end PD
namespace PD
open PySem PySem.Spec PyProof.Rows PySem.Calls L2
end PD
namespace PD
open PySem PySem.Spec PyProof.Rows PySem.Calls L2
def EqO (X : Cx) (m : Nat) (F : D → D → Option Bool) : Prop := ∀ (A : Around) (pins : List (Addr × Obj)) (s : Shared) (σ : L2.St) (H : Hp) (S : Addr → Prop) (x y : V) (u v : Value) (dx dy : D) (b : Bool), RoomG m A → A.frames = X.A.frames → Inv X pins σ H s → (∀ b, S b → H b ≠ none) →
  Dat X.K S H dx x → Dat X.K S H dy y → RelV x u → RelV y v → F dx dy = some b → wpAny (model X.prog X.w) A (eqBool u v) (fun r s' => r = b ∧ ∃ H', Inv X pins σ H' s' ∧ Ext H H') X.xe s
def eqL (F : D → D → Option Bool) : List D → List D → Option Bool
  | x :: xs, y :: ys => match F x y with
    | some true => eqL F xs ys
    | some false => some false
    | none => none
  | [], [] => some true
  | _, _ => some false
section
variable {X : Cx} {C : Addr} {k : Nat} {fm : List D → Option (Except Ex D)}
def EqR (K : PySem.W.Frag) (F : D → D → Option Bool) : Prop := ∀ (S : Addr → Prop) (H : Hp) (x : V) (dx dy : D) (b : Bool), Dat K S H dx x → Dat K S H dy x → F dx dy = some b → b = true
variable {m n : Nat} {F F' : D → D → Option Bool}
theorem EqO.or (h : EqO X m F) (h' : EqO X m F') : EqO X m (fun x y => (F x y).or (F' x y)) := fun A pins s σ H S x y u v dx dy b hr hf I tr hx hy rx ry e => by
  have e : (F dx dy).or (F' dx dy) = some b := e
  cases q : F dx dy with
  | some b' => rw [q] at e; cases e; exact h A pins s σ H S x y u v dx dy b hr hf I tr hx hy rx ry q
  | none => rw [q, Option.none_or] at e; exact h' A pins s σ H S x y u v dx dy b hr hf I tr hx hy rx ry e
theorem EqR.or {K : PySem.W.Frag} (h : EqR K F) (h' : EqR K F') : EqR K (fun x y => (F x y).or (F' x y)) := fun S H x dx dy b hx hy e => by
  have e : (F dx dy).or (F' dx dy) = some b := e
  cases q : F dx dy with
  | some b' => rw [q] at e; cases e; exact h S H x dx dy b hx hy q
  | none => rw [q, Option.none_or] at e; exact h' S H x dx dy b hx hy e
theorem EqO.mono (h : EqO X m F) (hm : m ≤ n) : EqO X n F := fun A pins s σ H S x y u v dx dy b hr => h A pins s σ H S x y u v dx dy b (hr.mono hm)
def eAt (F : D → D → Option Bool) (la lb : List D) (i : Nat) : Bool := (la[i]?.bind fun p => lb[i]?.bind fun q => F p q) == some true
theorem eqL_val : ∀ {la lb : List D} {b : Bool}, eqL F la lb = some b → b = ((List.range (min la.length lb.length)).all (eAt F la lb) && la.length == lb.length)
  | [], [], b, h => by cases h; rfl
  | [], y :: lb, b, h => by cases h; simp
  | x :: la, [], b, h => by cases h; simp
  | x :: la, y :: lb, b, h => by
    unfold eqL at h
    have e0 : eAt F (x :: la) (y :: lb) 0 = (F x y == some true) := rfl
    have es : ∀ i, eAt F (x :: la) (y :: lb) (i + 1) = eAt F la lb i := fun i => rfl
    have rg : (List.range (min (x :: la).length (y :: lb).length)).all (eAt F (x :: la) (y :: lb)) = ((F x y == some true) && (List.range (min la.length lb.length)).all (eAt F la lb)) := by
      rw [List.length_cons, List.length_cons, Nat.add_min_add_right, List.range_succ_eq_map, List.all_cons, e0, List.all_map]; rfl
    rw [rg]
    split at h
    · rename_i e
      rw [e, eqL_val h]
      simp
    · rename_i e
      cases h
      rw [e]; rfl
    · cases h
end
end PD
namespace PD
open PySem PySem.Spec PyProof.Rows PySem.Calls L2
end PD
namespace PD
open PySem PySem.Spec PyProof.Rows PySem.Calls L2
end PD
namespace PD
open PySem PySem.Spec PyProof.Rows PySem.Calls L2
theorem binds_nd {K : PySem.W.Frag} {x qual : Str} {st : Stmt} {f : Addr} {fd : FuncData} {ps : List Str} (F : FunD K x qual (defArgs st) (defBody st) (defScope st) [] [] f fd)
    (h : ∀ (kV doc pm : Value) (an : Option Addr) (cdv ct : Value) (us : List Value), us.length = ps.length → bindArgs (PySem.W.fnOf x qual (defArgs st) (defBody st) (defScope st) .none kV doc pm an cdv ct) ⟨us, []⟩ = pure (ps.zip us)) : ∃ ds, Vals (([] : List V).drop 0) ds ∧ Binds K fd ps ds := by
  refine ⟨[], .nil, ?_⟩
  obtain ⟨oc, od, dV, kV, doc, pm, an, cdv, ct, osl, e, lk, hc, hd, hk⟩ := F.ex
  rcases hd with ⟨_, z⟩ | ⟨z, _⟩
  · subst z; subst e
    exact .all (h kV doc pm an cdv ct)
  · exact absurd rfl z
end PD
namespace OXB
open PySem PySem.Spec PyProof.Rows
end OXB
namespace PD
open PySem PySem.Spec PyProof.Rows L2
end PD
namespace OXB
open PySem PySem.Spec PyProof.Rows PySem.Calls PySem.Builtin PySem.Builtin.ObjectAttr
end OXB
namespace PD
open PySem PySem.Spec PyProof.Rows PySem.Calls L2 OXB
end PD
namespace PD
open PySem PySem.Spec PyProof.Rows PySem.Calls L2
def keyOf : D → Option Key
  | .int i => some (.inl i)
  | .str s => some (.inr s)
  | _ => none
theorem keyOf_v {K : PySem.W.Frag} {S : Addr → Prop} {H : Hp} {d : D} {k : Key} {v : V} (h : keyOf d = some k) (hv : Dat K S H d v) : v = kV k := by
  unfold keyOf at h
  split at h
  · cases h; exact hv
  · cases h; exact hv
  · cases h
def getKs : List Key → List D → Key → Option D
  | k0 :: ks, d :: ds, k => if k0 = k then some d else getKs ks ds k
  | _, _, _ => none
theorem getKs_some {K : PySem.W.Frag} {S : Addr → Prop} {H : Hp} {k : Key} {d : D} : ∀ {ks : List Key} {l : List D} {vs : List V}, getKs ks l k = some d → Dats K S H l vs → ∃ v, valV (ks.zip vs) k = some v ∧ Dat K S H d v
  | [], _, _, h, _ => by unfold getKs at h; cases h
  | _ :: _, [], _, h, _ => by unfold getKs at h; cases h
  | k0 :: ks, d0 :: l, vs, h, ⟨v, r, e, h1, h2⟩ => by
    subst e
    unfold getKs at h
    rw [List.zip_cons_cons]
    by_cases q : k0 = k
    · rw [if_pos q] at h; cases h
      exact ⟨v, valV_pos (p := (k0, v)) q, h1⟩
    · rw [if_neg q] at h
      obtain ⟨w, a, b⟩ := getKs_some h h2
      exact ⟨w, by rw [valV_neg (p := (k0, v)) q]; exact a, b⟩
theorem getKs_none {K : PySem.W.Frag} {S : Addr → Prop} {H : Hp} {k : Key} : ∀ {ks : List Key} {l : List D} {vs : List V}, ks.length = l.length → getKs ks l k = none → Dats K S H l vs → valV (ks.zip vs) k = none
  | [], _, _, _, _, _ => rfl
  | _ :: _, [], _, e, _, _ => by cases e
  | k0 :: ks, d0 :: l, vs, e0, h, ⟨v, r, e, h1, h2⟩ => by
    subst e
    unfold getKs at h
    rw [List.zip_cons_cons]
    by_cases q : k0 = k
    · rw [if_pos q] at h; cases h
    · rw [if_neg q] at h
      rw [valV_neg (p := (k0, v)) q]
      exact getKs_none (Nat.succ.inj e0) h h2
def dinD : D → D → Option D
  | x, .dct ks l => (keyOf x).map fun k => .bl (getKs ks l k).isSome
  | _, _ => none
def rDIn : R2 := fun y x H Q => ∃ a o, x = .ref a ∧ DGet H a y o ∧ Q (.bl o.isSome) H
section
variable {X : Cx} {W : WX} {o i e : Expr} {td ty te : TE} {mo mi me : Mo D} {pos : Pos}
theorem din_get {K : PySem.W.Frag} {S : Addr → Prop} {H : Hp} {x y : V} {dx dy : D} {b : Bool} (hx : Dat K S H dx x) (hy : Dat K S H dy y) (hf : dinD dx dy = some (.bl b)) : ∃ a ov, y = .ref a ∧ DGet H a x ov ∧ ov.isSome = b := by
  unfold dinD at hf
  split at hf
  · rename_i ks l
    obtain ⟨a, od, vs, rfl, ha, na, hl, hd⟩ := hy
    cases q : keyOf dx with
    | none => rw [q] at hf; cases hf
    | some k =>
      rw [q] at hf; cases hf
      cases g : getKs ks l k with
      | none => exact ⟨a, _, rfl, .inl ⟨_, k, .inr ⟨od, ha⟩, keyOf_v q hx, rfl⟩, by rw [getKs_none hl g hd]; rfl⟩
      | some d =>
        obtain ⟨v, h1, h2⟩ := getKs_some g hd
        exact ⟨a, _, rfl, .inl ⟨_, k, .inr ⟨od, ha⟩, keyOf_v q hx, rfl⟩, by rw [h1]; rfl⟩
  · cases hf
theorem dinD_bl {x y d : D} (h : dinD x y = some d) : ∃ b, d = .bl b := by
  unfold dinD at h
  split at h
  · cases q : keyOf x with
    | none => rw [q] at h; cases h
    | some k => rw [q] at h; cases h; exact ⟨_, rfl⟩
  · cases h
theorem od_din (hr : X.A.units + 1 < cLine) : OpD X (compareOp .In) rDIn dinD := by
  refine ⟨fun pins s σ H x y v u Q I rx ry h => ?_, fun S H x y dx dy d hS hx hy hf Q hq => ?_⟩
  · obtain ⟨a, ov, rfl, g, q⟩ := h
    obtain rfl : u = Value.ref a := ry
    exact d_in hr I g rx fun s3 I3 => ⟨.bl ov.isSome, H, I3, rfl, q⟩
  · obtain ⟨b, rfl⟩ := dinD_bl hf
    obtain ⟨a, ov, rfl, g, e⟩ := din_get hx hy hf
    exact ⟨a, ov, rfl, g, by rw [e]; exact hq _ H ext_refl rfl⟩
end
def putKs (k : Key) : List Key → List Key
  | [] => [k]
  | k0 :: ks => if k0 = k then k0 :: ks else k0 :: putKs k ks
def putDs {α : Type} (k : Key) (x : α) : List Key → List α → List α
  | k0 :: ks, a :: l => if k0 = k then x :: l else a :: putDs k x ks l
  | _, _ => [x]
theorem putDs_len {α : Type} {k : Key} {x : α} : ∀ {ks : List Key} {l : List α}, ks.length = l.length → (putKs k ks).length = (putDs k x ks l).length
  | [], [], _ => rfl
  | _ :: _, [], h => by cases h
  | [], _ :: _, h => by cases h
  | k0 :: ks, a :: l, h => by
    unfold putKs putDs
    split
    · exact h
    · rw [List.length_cons, List.length_cons, putDs_len (Nat.succ.inj h)]
theorem putK_zip {k : Key} {v : V} : ∀ {ks : List Key} {vs : List V}, ks.Nodup → ks.length = vs.length → L2.putK (ks.zip vs) k v = (putKs k ks).zip (putDs k v ks vs)
  | [], [], _, _ => rfl
  | _ :: _, [], _, h => by cases h
  | [], _ :: _, _, h => by cases h
  | k0 :: ks, w :: vs, nd, h => by
    have nd2 := List.nodup_cons.mp nd
    rw [List.zip_cons_cons]
    unfold putKs putDs
    by_cases q : k0 = k
    · rw [if_pos q, if_pos q, List.zip_cons_cons]
      unfold L2.putK
      rw [if_pos (by rw [List.any_cons, decide_eq_true q, Bool.true_or]), List.map_cons, if_pos q]
      congr 1
      have : ∀ p ∈ ks.zip vs, (if p.1 = k then (p.1, v) else p) = p := fun p hp => by
        rw [if_neg]
        intro z
        exact nd2.1 (by rw [q, ← z]; exact (List.of_mem_zip hp).1)
      rw [List.map_congr_left this, List.map_id']
    · rw [if_neg q, if_neg q, List.zip_cons_cons, ← putK_zip nd2.2 (Nat.succ.inj h)]
      unfold L2.putK
      rw [List.any_cons, decide_eq_false q, Bool.false_or, List.map_cons, if_neg q]
      split <;> rfl
theorem putDs_dat {K : PySem.W.Frag} {S : Addr → Prop} {H : Hp} {k : Key} {d : D} {v : V} (hv : Dat K S H d v) : ∀ {ks : List Key} {l : List D} {vs : List V}, Dats K S H l vs → Dats K S H (putDs k d ks l) (putDs k v ks vs)
  | [], l, vs, h => .one hv
  | _ :: _, [], vs, h => by cases (show vs = [] from h); exact .one hv
  | k0 :: ks, d0 :: l, vs, ⟨w, r, e, h1, h2⟩ => by
    subst e
    unfold putDs
    split
    · exact ⟨v, r, rfl, hv, h2⟩
    · exact ⟨w, _, rfl, h1, putDs_dat hv h2⟩
end PD
namespace PD
open PySem PySem.Spec PyProof.Rows PySem.Calls L2
end PD
namespace PD
open PySem PySem.Spec PyProof.Rows PySem.Calls L2
end PD
namespace PD
open PySem PySem.Spec PyProof.Rows PySem.Calls L2
end PD
namespace PD
open PySem PySem.Spec PyProof.Rows PySem.Calls L2
end PD
namespace PD
open PySem PySem.Spec PyProof.Rows PySem.Calls L2
end PD
namespace PD
open PySem PySem.Spec PyProof.Rows PySem.Calls L2
def kvK {α : Type} (l : List (Str × α)) : List (Key × α) := l.map fun p => (.inr p.1, p.2)
/-- what is passed by keywords: new names, none of them a parameter's -/
structure KwOk (ns : List Str) (kws : List (Str × V)) (kw : List (Str × Value)) : Prop where
  rel : KV (kvK kws) (kvK kw)
  nd : (kw.map (·.1)).Nodup
  no : ∀ p ∈ kw, p.1 ∉ ns
  small : kw.length ≤ 1000
abbrev SpK := List V → List (Str × V) → Hp → VK → XK → Prop
def FnRK (P : Program) (w : World) (K : PySem.W.Frag) (mg : Str → Option Value) (base : Heap) (CX : CXT) (lvl : Nat) (f : Addr) (ns : List Str) (sp : SpK) : Prop :=
  ∀ (A : Around) (frames : List Env) (s : Shared) (H : Hp) (us : List Value) (xs : List V) (kw : List (Str × Value)) (kws : List (Str × V)) (Q : VK) (E : XK), RoomG lvl A → Env0 P w K mg base A frames s H → Vals xs us → KwOk ns kws kw → sp xs kws H Q E →
    codeAny (model P w) A (.call (.ref f) ⟨us, kw⟩) (CR CX frames P w H s Q E) s
end PD
namespace PD
open PySem PySem.Spec PyProof.Rows PySem.Calls L2
end PD
namespace PD
open PySem PySem.Spec PyProof.Rows PySem.Calls L2
end PD
namespace PD
open PySem PySem.Spec PyProof.Rows PySem.Calls L2
section
variable {X : Cx} {W : WX} {x : Str} {C f : Addr} {k : Nat} {ns : List Str} {fm : OV → List D → Option (Except Ex D × OV)} {e kd : Expr} {es : List Expr} {t : TA} {td : TE} {ms : Mo (List D)} {md : Mo D} {p pos kpos : Pos}
theorem FnRK.plain {P : Program} {w : World} {K : PySem.W.Frag} {mg : Str → Option Value} {base : Heap} {CX : CXT} {sp : SpK} (F : FnRK P w K mg base CX k f ns sp) : FnRG P w K mg base CX k f (fun vs H Q E => sp vs [] H Q E) :=
  fun A fr s H us xs Q E room e0 r q => F A fr s H us xs [] [] Q E room e0 r ⟨.nil, List.nodup_nil, fun p hp => (nomatch hp), Nat.zero_le _⟩ q
end
end PD
namespace PD
open PySem PySem.Spec PyProof.Rows PySem.Calls L2
end PD
namespace PD
open PySem PySem.Spec PyProof.Rows PySem.Calls L2
end PD
namespace PD
open PySem PySem.Spec PyProof.Rows PySem.Calls L2
end PD
namespace PD
open PySem PySem.Spec PyProof.Rows PySem.Calls L2
end PD
namespace PD
open PySem PySem.Spec PyProof.Rows PySem.Calls L2
end PD
namespace PD
open PySem PySem.Spec PyProof.Rows PySem.Calls L2
end PD
namespace PD
open PySem PySem.Spec PyProof.Rows PySem.Calls L2
end PD
namespace PD
open PySem PySem.Spec PyProof.Rows PySem.Calls L2
end PD
namespace PD
open PySem PySem.Spec PyProof.Rows PySem.Calls L2
end PD
namespace PD
open PySem PySem.Spec PyProof.Rows PySem.Calls L2
end PD
namespace PD
open PySem PySem.Spec PyProof.Rows PySem.Calls L2
end PD
namespace PD
open PySem PySem.Spec PyProof.Rows PySem.Calls L2
end PD
namespace ZL
open PySem PySem.Spec PyProof.Rows PySem.Calls L2
/-- how a zip stands behind i turns -/
def ZSt (h : Heap) (z TI TO i1 i2 l1 l2 S : Addr) (xs ys : Array Value) (i : Nat) : Prop :=
  IsPair h TI (.ref i1) (.ref i2) ∧ h.IsListIter i1 l1 i ∧ h.IsListIter i2 l2 i ∧ h.IsList l1 xs ∧ h.IsList l2 ys ∧
    ((IsZip h z TI TO .none ∧ ∃ a b, IsPair h TO a b) ∨ ∃ T f oT, IsZipHeld h z TI TO T f ∧ h.get? T = some oT ∧ T ≠ z ∧ T ≠ i1 ∧ T ≠ i2 ∧ T ≠ S)
theorem ZSt.keep {h h' : Heap} {z TI TO i1 i2 l1 l2 S : Addr} {xs ys : Array Value} {i : Nat} (q : ZSt h z TI TO i1 i2 l1 l2 S xs ys i) (nS : S ∉ [z, TI, TO, i1, i2, l1, l2]) (k : ∀ b o, b ≠ S → h.get? b = some o → h'.get? b = some o) : ZSt h' z TI TO i1 i2 l1 l2 S xs ys i := by
  have ne : ∀ x ∈ [z, TI, TO, i1, i2, l1, l2], x ≠ S := fun x hx e => nS (e ▸ hx)
  obtain ⟨q1, q2, q3, q4, q5, q6⟩ := q
  refine ⟨k _ _ (ne TI (by simp)) q1, q2.at fun o => k _ o (ne i1 (by simp)), q3.at fun o => k _ o (ne i2 (by simp)), q4.at fun o => k _ o (ne l1 (by simp)), q5.at fun o => k _ o (ne l2 (by simp)), ?_⟩
  rcases q6 with ⟨a, u, v, b⟩ | ⟨T, f, oT, a, b, r1, r2, r3, r4⟩
  · exact .inl ⟨k _ _ (ne z (by simp)) a, u, v, k _ _ (ne TO (by simp)) b⟩
  · exact .inr ⟨T, f, oT, k _ _ (ne z (by simp)) a, k _ _ r4 b, r1, r2, r3, r4⟩
end ZL
namespace PD
open PySem PySem.Spec PyProof.Rows PySem.Calls L2
end PD
namespace PD
open PySem PySem.Spec PyProof.Rows PySem.Calls L2
end PD
namespace PD
open PySem PySem.Spec PyProof.Rows PySem.Calls L2
section
variable {X : Cx} {W : WX} {a b o e : Expr} {ta tb to te : TE} {ma mb mo me : Mo D} {pos apos : Pos}
def intsD : List D → Option (List Int)
  | [] => some []
  | .int i :: r => (intsD r).map (i :: ·)
  | _ => none
theorem intsD_some : ∀ {l : List D} {ns : List Int}, intsD l = some ns → l = ns.map .int
  | [], ns, h => by cases h; rfl
  | d :: r, ns, h => by
    unfold intsD at h
    split at h
    · rename_i e; cases e
    · rename_i i r' e
      cases e
      cases q : intsD r with
      | none => rw [q] at h; cases h
      | some ms => rw [q] at h; cases h; rw [intsD_some q]; rfl
    · cases h
def maxI : List Int → Option Int
  | [] => none
  | i :: r => some (r.foldl max i)
def maxLD : List D → Option D
  | [.lst l] => (intsD l).bind fun ns => (maxI ns).map .int
  | _ => none
theorem foldl_max_mem : ∀ (r : List Int) (i : Int), r.foldl max i ∈ i :: r ∧ ∀ y ∈ i :: r, y ≤ r.foldl max i
  | [], i => ⟨List.mem_cons_self, fun y hy => by rw [List.mem_singleton.mp hy]; exact Int.le_refl _⟩
  | a :: r, i => by
    obtain ⟨h1, h2⟩ := foldl_max_mem r (max i a)
    rw [List.foldl_cons]
    refine ⟨?_, fun y hy => ?_⟩
    · rcases List.mem_cons.mp h1 with e | e
      · rw [e]
        rcases Int.le_total i a with q | q
        · rw [Int.max_eq_right q]; exact List.mem_cons_of_mem _ List.mem_cons_self
        · rw [Int.max_eq_left q]; exact List.mem_cons_self
      · exact List.mem_cons_of_mem _ (List.mem_cons_of_mem _ e)
    · rcases List.mem_cons.mp hy with e | e
      · subst e; exact Int.le_trans (Int.le_max_left y a) (h2 _ List.mem_cons_self)
      · rcases List.mem_cons.mp e with e | e
        · subst e; exact Int.le_trans (Int.le_max_right i y) (h2 _ List.mem_cons_self)
        · exact h2 y (List.mem_cons_of_mem _ e)
theorem cd_maxL (hc : X.calm = true) : CallD X (.builtin "max") (rMax X.K) maxLD := by
  refine ⟨cr_max hc, fun S H vs ds d hS hd hf Q hq => ?_⟩
  unfold maxLD at hf
  split at hf
  · rename_i l
    cases q : intsD l with
    | none => rw [q] at hf; cases hf
    | some ns =>
      rw [q] at hf
      cases intsD_some q
      cases ns with
      | nil => cases hf
      | cons i r =>
        cases hf
        obtain ⟨v, rfl, a, us, rfl, h1, _, h2⟩ := hd.one'
        cases Dats.ofInts h2
        refine ⟨a, i :: r, rfl, SqL.of h1, Nat.succ_pos _, fun m hm hall => ?_⟩
        obtain ⟨z1, z2⟩ := foldl_max_mem r i
        have e : m = r.foldl max i := Int.le_antisymm (z2 m hm) (hall _ z1)
        rw [e]
        exact hq _ H ext_refl rfl
  · cases hf
end
end PD
namespace PD
open PySem PySem.Spec PyProof.Rows PySem.Calls L2
end PD
namespace PD
open PySem PySem.Spec PyProof.Rows PySem.Calls L2
theorem RoomG.un1 {k : Nat} {A : Around} (z : RoomG k A) : A.units + 1 < cLine := by have := z.u.r.un; omega
theorem RoomU.un1 {k : Nat} {A : Around} (z : RoomU k A) : A.units + 1 < cLine := by have := z.r.un; omega
end PD
namespace PD
open PySem PySem.Spec PyProof.Rows PySem.Calls L2
end PD
namespace PD
open PySem PySem.Spec PyProof.Rows PySem.Calls L2
theorem putKs_mem {k : Key} : ∀ {ks : List Key} {x : Key}, x ∈ putKs k ks → x = k ∨ x ∈ ks
  | [], x, h => by simp [putKs] at h; exact .inl h
  | k0 :: ks, x, h => by
    unfold putKs at h
    split at h
    · exact .inr h
    · rcases List.mem_cons.mp h with e | h
      · exact .inr (by rw [e]; exact List.mem_cons_self)
      · exact (putKs_mem h).imp id (List.mem_cons_of_mem _)
theorem putKs_nodup {k : Key} : ∀ {ks : List Key}, ks.Nodup → (putKs k ks).Nodup
  | [], _ => by simp [putKs]
  | k0 :: ks, h => by
    have h2 := List.nodup_cons.mp h
    unfold putKs
    split
    · exact h
    · rename_i ne
      refine List.nodup_cons.mpr ⟨fun z => ?_, putKs_nodup h2.2⟩
      rcases putKs_mem z with e | z
      · exact ne e
      · exact h2.1 z
def dcL (f : D → En → Option En) (mt : Mo Bool) (mk mv : Mo D) (vs : List Nat) : List Key → List D → List D → En → Option (List Key × List D × En)
  | ks, l, [], e => some (ks, l, e)
  | ks, l, d :: ds, e => match f d e with
    | some e1 => (match mt e1 with
      | some (.ok true, e2) => (match mk e2 with
        | some (.ok x, e3) => (match keyOf x with
          | some k => (match mv e3 with
            | some (.ok y, e4) => if ks.length < ssz then dcL f mt mk mv vs (putKs k ks) (putDs k y ks l) ds (wipeE e4 vs) else none
            | _ => none)
          | none => none)
        | _ => none)
      | some (.ok false, e2) => dcL f mt mk mv vs ks l ds (wipeE e2 vs)
      | _ => none)
    | none => none
def dcM (mi : Mo (List D)) (f : D → En → Option En) (mt : Mo Bool) (mk mv : Mo D) (vs : List Nat) : Mo D := mi.bind fun ds e1 =>
  if noOwn e1 vs = true then (match dcL f mt mk mv vs [] [] ds (wipeE e1 vs) with
    | some (ks, l, e2) => some (.ok (.dct ks l), restE e1 e2 vs)
    | none => none) else none
section
variable {X : Cx} {W : WX} {tg kx vx iter : Expr} {ifs : List Expr} {pos : Pos} {w : TI} {mi : Mo (List D)} {g : TG} {f : D → En → Option En} {tt : TT} {tk tv : TE} {mt : Mo Bool} {mk mv : Mo D} {vs : List Nat}
theorem xr_dc {K : PySem.W.Frag} (hi : XR RI K W w mi) (hg : GR K g f) (gw : GW g vs) (ht : XR RB K W0 tt mt) (hk : XR RD K W0 tk mk) (hv : XR RD K W0 tv mv) : XR RD K W (tFrzE (tDc w g tt tk tv vs)) (dcM mi f mt mk mv vs) := by
  intro S0 A σ env H k r env' hm Q hp
  rcases Mo.bind_some hm with ⟨ds, e1, q1, q2⟩ | ⟨x, e1, q1, q2⟩
  rotate_left
  · cases q2
    exact hi S0 A σ env H k _ _ q1 _ fun A1 dd H1 le k1 st ex => hp A1 dd H1 le k1 st ex
  split at q2
  rotate_left
  · cases q2
  rename_i no
  split at q2
  rotate_left
  · cases q2
  rename_i ksF lF ef hl
  cases q2
  refine hi S0 A σ env H k _ _ q1 _ fun A1 J H1 le k1 st hJ => ?_
  intro D hD
  have nOwn : ∀ {B : Ow}, Ow.le B A1 → ¬ Own B D := fun l z => k1.trA D (.inr (l.own z)) hD
  refine ⟨fun i n H2 => n = ds.length - i ∧ i ≤ ds.length ∧ ∃ A2 e2 ks l us, Ow.le A2 A1 ∧ Ok K (fun b => S0 b ∨ b = D) A2 (L2.wipe σ vs) e2 H2 ∧ Stp (Own A1) H1 H2 ∧ H2 D = some (.dK (List.zip ks us)) ∧ ks.Nodup ∧ ks.length = l.length ∧ Dats K (AV (fun b => S0 b ∨ b = D) A2) H2 l us ∧ dcL f mt mk mv vs ks l (ds.drop i) e2 = some (ksF, lF, ef),
    ⟨ds.length, by simp, Nat.zero_le _, A1.dels vs, _, [], [], [], Ow.dels_le, (k1.hide hD).wipe, .of (Ext.upd hD), upd_same, List.nodup_nil, rfl, rfl, hl⟩, ?_⟩
  rintro i n H2 ⟨rfl, hi', A2, e2, ks, l, us, l2, k2, s2, hD2, nd, hlen, hacc, w2⟩
  have it := hJ (AV (fun b => S0 b ∨ b = D) A2) H2 (s2.mono fun b z => .inr z) (fun b z => z.elim (fun z => z.elim (fun z => .inl (.inl z)) fun z => .inr (by rw [z]; exact hD)) fun z => .inl (.inr (l2.own z))) k2.trA i
  by_cases hlt : i < ds.length
  · have hd : ds[i]? = some ds[i] := List.getElem?_eq_getElem hlt
    obtain ⟨go, yl⟩ := it.1 _ hd
    rw [List.drop_eq_getElem_cons hlt] at w2
    unfold dcL at w2
    split at w2
    rotate_left
    · cases w2
    rename_i e3 qf
    refine .inr ⟨go, fun H' => ∃ A3 e4 ks l us, Ow.le A3 A1 ∧ Ok K (fun b => S0 b ∨ b = D) A3 (L2.wipe σ vs) e4 H' ∧ Stp (Own A1) H1 H' ∧ H' D = some (.dK (List.zip ks us)) ∧ ks.Nodup ∧ ks.length = l.length ∧ Dats K (AV (fun b => S0 b ∨ b = D) A3) H' l us ∧ dcL f mt mk mv vs ks l (ds.drop (i + 1)) e4 = some (ksF, lF, ef), fun H' q => ⟨ds.length - (i + 1), by omega, rfl, hlt, q⟩, fun x H3 hy => ?_⟩
    obtain ⟨ex, hx⟩ := yl x H3 hy
    refine gw.mono _ _ _ _ _ ?_ (gw.keep _ _ _ _ (hg (fun b => S0 b ∨ b = D) A2 (L2.wipe σ vs) e2 H3 (k2.ext ex) _ x hx e3 qf (fun σ4 H4 => ∃ A4, Ok K (fun b => S0 b ∨ b = D) A4 σ4 e3 H4 ∧ Ow.le A4 A2 ∧ Stp (Own A2) H3 H4) fun A4 σ4 H4 k4 l4 s4 => ⟨A4, k4, l4, s4⟩))
    rintro σ4 H4 ⟨ew, A4, k4, l4, s4⟩
    rw [wipe_wipe fun _ h => h] at ew
    have st4 : Stp (Own A1) H1 H4 := s2.trans ((Stp.of ex).trans (s4.mono fun b => l2.own))
    refine ⟨ew, ?_⟩
    split at w2
    · rename_i e5 qt
      refine ht _ A4 σ4 e3 H4 k4 _ _ qt _ fun A5 b H5 l5 k5 s5 rb => ?_
      cases (show true = b from rb)
      rw [if_pos rfl]
      split at w2
      rotate_left
      · cases w2
      rename_i y e6 qe
      split at w2
      rotate_left
      · cases w2
      rename_i key hkey
      split at w2
      rotate_left
      · cases w2
      rename_i z e7 qv
      split at w2
      rotate_left
      · cases w2
      rename_i hz
      refine hk _ A5 σ4 e5 H5 k5 _ _ qe _ fun A6 v H6 l6 k6 s6 hv6 => ?_
      refine hv _ A6 σ4 e6 H6 k6 _ _ qv _ fun A7 v7 H7 l7 k7 s7 hv7 => ?_
      have l71 : Ow.le A7 A1 := l7.trans (l6.trans (l5.trans (l4.trans l2)))
      have st2 : Stp (Own A2) H2 H7 := (Stp.of ex).trans (s4.trans ((s5.mono fun b => l4.own).trans ((s6.mono fun b z => l4.own (l5.own z)).trans (s7.mono fun b z => l4.own (l5.own (l6.own z))))))
      have st7 : Stp (Own A1) H1 H7 := st4.trans ((s5.mono fun b z => l2.own (l4.own z)).trans ((s6.mono fun b z => l2.own (l4.own (l5.own z))).trans (s7.mono fun b z => l2.own (l4.own (l5.own (l6.own z))))))
      have hD7 : H7 D = some (.dK (List.zip ks us)) := st2.at_ D _ (nOwn l2) hD2
      have hacc7 : Dats K (AV (fun b => S0 b ∨ b = D) A7) H7 l us := Dats.step (fun b z => z.elim (fun z => .inl (.inl z)) fun z => .inl (.inr (l4.own (l5.own (l6.own (l7.own z)))))) (st2.mono fun b z => .inr z) _ _ hacc
      have hku : ks.length = us.length := hlen.trans hacc.len
      refine ⟨List.zip ks us, key, keyOf_v hkey hv6, hD7, by rw [List.length_zip, ← hku, Nat.min_self, ssz_eq]; exact hz, ?_⟩
      rw [putK_zip nd hku]
      have tr : Stp (AV (fun b => S0 b ∨ b = D) A7) H7 (L2.upd H7 D (.dK ((putKs key ks).zip (putDs key v7 ks us)))) := stp_upd.mono fun b e => .inl (.inr e)
      have kD : Ok K (fun b => S0 b ∨ b = D) A7 σ4 e7 (L2.upd H7 D (.dK ((putKs key ks).zip (putDs key v7 ks us)))) := by
        refine ⟨k7.len, k7.inj, k7.ow, fun j s hs => (k7.sl j s hs).keep (fun _ z => .inl z) tr fun b m q _ hq => ⟨?_, Iff.rfl⟩, fun b z => ?_⟩
        · rw [upd_ne (show q ≠ D from fun e => nOwn l71 ⟨j, e ▸ hq⟩)]
        · by_cases e : b = D
          · rw [e, upd_same]; intro z; cases z
          · rw [upd_ne e]; exact k7.tr b z
      refine ⟨A7.dels vs, _, putKs key ks, putDs key z ks l, putDs key v7 ks us, Ow.dels_le.trans l71, ew ▸ kD.wipe, ⟨fun b o n e => ?_, fun b q => ?_⟩, upd_same, putKs_nodup nd, putDs_len hlen, ?_, w2⟩
      · have nb : b ≠ D := fun z => by rw [z, hD] at e; cases e
        rw [upd_ne nb]; exact st7.at_ b o n e
      · by_cases e : b = D
        · rw [e]; exact hD
        · rw [upd_ne e] at q; exact st7.dom b q
      · exact Dats.step (fun b z => .inl (Ow.dels_le.av z)) tr _ _ (putDs_dat hv7 hacc7)
    · rename_i e5 qt
      refine ht _ A4 σ4 e3 H4 k4 _ _ qt _ fun A5 b H5 l5 k5 s5 rb => ?_
      cases (show false = b from rb)
      rw [if_neg Bool.false_ne_true]
      have l51 : Ow.le A5 A1 := l5.trans (l4.trans l2)
      have st2 : Stp (Own A2) H2 H5 := (Stp.of ex).trans (s4.trans (s5.mono fun b => l4.own))
      have st5 : Stp (Own A1) H1 H5 := st4.trans (s5.mono fun b z => l2.own (l4.own z))
      refine ⟨A5.dels vs, _, ks, l, us, Ow.dels_le.trans l51, ew ▸ k5.wipe, st5, st2.at_ D _ (nOwn l2) hD2, nd, hlen, ?_, w2⟩
      exact Dats.step (fun b z => z.elim (fun z => .inl (.inl z)) fun z => .inl (.inr (l4.own (l5.own (Ow.dels_le.own z))))) (st2.mono fun b z => .inr z) _ _ hacc
    · cases w2
  · have e : i = ds.length := by omega
    rw [List.drop_eq_nil_of_le (by omega)] at w2
    cases w2
    refine .inl ⟨it.2 e, D, _, rfl, hD2, True.intro, fun od => ?_⟩
    have kr := k1.restore no k2 l2 (fun b z => z.imp id fun z => by rw [z]; exact hD) s2
    have n0 : ¬ S0 D := fun z => k1.tr D z hD
    have np : ¬ Own A2 D := nOwn l2
    have uu : ∀ b, b ≠ D → L2.upd H2 D (.frz od (.dK (List.zip ksF us))) b = H2 b := fun b hb => upd_oth hb
    have stF : Stp (Own A) H (L2.upd H2 D (.frz od (.dK (List.zip ksF us)))) := by
      refine ⟨fun b o nb q => ?_, fun b q => ?_⟩
      · have nbD : b ≠ D := fun z => by
          have := st.dom b (by rw [z]; exact hD)
          rw [this] at q; cases q
        rw [uu b nbD]
        exact s2.at_ b o (fun z => nb (le.own z)) (st.at_ b o nb q)
      · by_cases e : b = D
        · rw [e, upd_same] at q; cases q
        · rw [uu b e] at q; exact st.dom b (s2.dom b q)
    refine hp A2 _ _ (l2.trans le) ((kr.put np (by rw [hD2]; nofun)).show_ np) stF ⟨D, od, us, rfl, upd_same, fun z => z.elim n0 np, hlen, ?_⟩
    refine Dats.step (S := AV (fun b => S0 b ∨ b = D) A2) (fun b z => .inl (z.imp .inl id)) ?_ _ _ hacc
    exact ⟨fun b o nb q => by rw [uu b fun e => nb (.inl (.inr e))]; exact q, fun b q => by
      by_cases e : b = D
      · rw [e, upd_same] at q; cases q
      · rwa [uu b e] at q⟩
variable {scope : Scope} {own : List (Str × Nat)}
theorem de_dc (hc : X.calm = true) (hN : X.N.Nodup) (hi : DI X W tg iter w mi) (ok : BlkOk X.N X.env.scope scope own)
    (hg0 : DG (X.blk X.s_0 (fun _ => none) scope (compEnvC scope [] 0 X.env) []) tg g f) (ht0 : DTs (X.blk X.s_0 (fun _ => none) scope (compEnvC scope [] 0 X.env) []) ifs tt mt) (hk0 : DE (X.blk X.s_0 (fun _ => none) scope (compEnvC scope [] 0 X.env) []) W0 kx tk mk) (he0 : DE (X.blk X.s_0 (fun _ => none) scope (compEnvC scope [] 0 X.env) []) W0 vx tv mv)
    (hg : ∀ (s : Shared) (H : Hp) (C : Addr) (cl : List (Str × Addr)) (fp : List Addr), DG (X.blk s H scope (compEnvC scope cl C X.env) fp) tg g f) (gw : GW g (own.map (·.2)))
    (ht : ∀ (s : Shared) (H : Hp) (C : Addr) (cl : List (Str × Addr)) (fp : List Addr), DTs (X.blk s H scope (compEnvC scope cl C X.env) fp) ifs tt mt)
    (hk : ∀ (s : Shared) (H : Hp) (C : Addr) (cl : List (Str × Addr)) (fp : List Addr), DE (X.blk s H scope (compEnvC scope cl C X.env) fp) W0 kx tk mk)
    (he : ∀ (s : Shared) (H : Hp) (C : Addr) (cl : List (Str × Addr)) (fp : List Addr), DE (X.blk s H scope (compEnvC scope cl C X.env) fp) W0 vx tv mv) (hs : ∀ x, foldedSetIterable iter X.env x = pure x := by intro _; rfl) :
    DE X W (.DictComp kx vx [⟨tg, iter, ifs, 0⟩] scope pos) (tFrzE (tDc w g tt tk tv (own.map (·.2)))) (dcM mi f mt mk mv (own.map (·.2))) :=
  ⟨pe_frz (pe_dc hc hN hi.pi ok (fun s H C cl fp => (hg s H C cl fp).pg) (fun s H C cl fp => (ht s H C cl fp).pt) (fun s H C cl fp => (hk s H C cl fp).pe) (fun s H C cl fp => (he s H C cl fp).pe) hs),
   xr_dc hi.ir (hg X.s_0 (fun _ => none) 0 [] []).gr gw (ht X.s_0 (fun _ => none) 0 [] []).er (hk X.s_0 (fun _ => none) 0 [] []).er (he X.s_0 (fun _ => none) 0 [] []).er⟩
end
end PD
namespace PD
open PySem PySem.Spec PyProof.Rows PySem.Calls L2
def spStP (K : PySem.W.Frag) (n : Nat) (f : List D → Option (Except Ex D)) : Sp := fun vs H Q E => ∃ (first rest : List V), vs = first ++ rest ∧ first.length = n ∧ rest.length ≤ sizeLine ∧ ∀ t, H t = none → spP K f (first ++ [.ref t]) (L2.upd H t (.tup rest)) Q E
theorem paired_split {xs ys : List V} : ∀ {us : List Value}, Vals (xs ++ ys) us → ∃ u1 u2, us = u1 ++ u2 ∧ Vals xs u1 ∧ Vals ys u2 := by
  intro us h
  induction xs generalizing us with
  | nil => exact ⟨[], us, rfl, .nil, h⟩
  | cons x xs ih =>
    cases h with
    | cons a b =>
      obtain ⟨u1, u2, e, r1, r2⟩ := ih b
      exact ⟨_ :: u1, u2, by rw [e]; rfl, .cons a r1, r2⟩
section
variable {P : Program} {w : World} {K : PySem.W.Frag} {mg : Str → Option Value} {base : Heap}
theorem auto_PS {nm qual pv : Str} {ps : List Str} {st : Stmt} {f : Addr} {fd : FuncData} {N : List Str} {k n : Nat} {m : Sm} (F : Fun K nm qual st f fd) (S : FnScope N (ps ++ [pv]) (defScope st)) (hn : n = ps.length)
    (hb : ∀ us rest : List Value, us.length = ps.length → bindArgs fd ⟨us ++ rest, []⟩ = (newTuple rest >>= fun t => pure (ps.zip us ++ [(pv, t)])))
    (body : ∀ (cdv : Value) (A : Around) (outer : List Env) (s : Shared) (H : Hp) (E : XK), RoomG k (A.deeper (envOfC qual (defScope st) s.heap.objs.size f cdv)) →
      ∃ t m', DSs (cxOf (L2.CX P w) P w K mg base N qual (defScope st) f cdv A outer s H E) (fun c d _ H => E c d H) (defBody st) t m' ∧ m' = m) :
    FnRG P w K mg base (L2.CX P w) (k + 1) f (spStP K n (runP N (n + 1) m)) := by
  obtain ⟨_, _, _, _, _, _, cdv, _, _, e, look, cod⟩ := F.ex
  subst e hn
  have hps : ps.length + 1 ≤ N.length := by have := congrArg List.length S.pre; rw [List.length_take, List.length_append, List.length_singleton] at this; omega
  intro A frames s H us xs Q E room e0 r ⟨first, rest, ex, hf, hz, hq⟩
  subst ex
  obtain ⟨u0, u2, eu, ru, r2⟩ := paired_split r
  subst eu
  have hl2 : u2.length ≤ sizeLine := by rw [← r2.length]; exact hz
  have hl0 : u0.length = ps.length := by rw [← ru.length]; exact hf
  have hnn : H s.heap.objs.size = none := e0.hok.fresh (Nat.le_refl _)
  refine StX.run_bnd (ps := ps ++ [pv]) look cod S room.r e0 (G := fun ys H2 => ∃ t, H t = none ∧ ys = first ++ [V.ref t] ∧ H2 = L2.upd H t (.tup rest)) (fun A' Ex Q' h => ?_) fun s2 H2 ys ⟨t, ht, ey, eH⟩ room' => ?_
  · rw [hb u0 u2 hl0]
    refine wpAny_bind (wpAny_newTuple (wpAny_pure ?_) hl2)
    have fresh : ObjOk P w (L2.upd H s.heap.objs.size (.tup rest)) (s.heap.push ({ cls := .type "tuple", data := .seq u2.toArray } : Obj)) s.heap.objs.size (.tup rest) := ⟨hz, u2, r2, ⟨_, Heap.get?_push_size _ rfl, rfl, _, rfl⟩⟩
    have grown := StX.un_laid (fs := frs frames) (s := s) (o := ({ cls := .type "tuple", data := .seq u2.toArray } : Obj)) (u := .tup rest) hnn
    have zz : ps.zip u0 ++ [(pv, Value.ref s.heap.objs.size)] = (ps ++ [pv]).zip (u0 ++ [Value.ref s.heap.objs.size]) := by rw [List.zip_append hl0.symm]; rfl
    rw [zz]
    exact h _ _ (first ++ [V.ref s.heap.objs.size]) (u0 ++ [Value.ref s.heap.objs.size]) (StX.env0_laid e0 fresh) grown rfl (fun e s' => StX.cxUp frames s H _ _ E e s' grown (fun b o z => Heap.get?_push_of_some _ z) rfl) (ru.append (.cons rfl .nil)) (by rw [List.length_append, List.length_append, hf]; rfl) ⟨_, hnn, rfl, rfl⟩
  · subst ey eH
    obtain ⟨S0, ds, r', h1, h2, h3, h4⟩ := hq t ht
    obtain ⟨t', m', hd, rfl⟩ := body cdv A frames s2 (L2.upd H t (.tup rest)) E ⟨room', room.g⟩
    obtain ⟨hl, o, env', hm, ho⟩ := runP_some h3
    refine ⟨t', hd.ps, hd.sr S0 (fun _ => none) _ _ _ (ok_start h1 h2 (by rw [hl]; exact hps)) o env' hm _ fun A' σ' H' k' g => ?_⟩
    have ex : Ext (L2.upd H t (.tup rest)) H' := fun b o e => g.1.at_ b o (fun ⟨j, z⟩ => (nomatch z)) e
    have wk : ∀ {d v}, Dat K (AV S0 A') H' d v → Dat K S0 H' d v := fun z => z.weak fun b => .inl
    cases o with
    | nx => cases ho; exact h4 .non H' ex rfl
    | rt d => cases ho; exact fun v hv => h4 v H' ex (wk hv)
    | rf l => cases ho; exact fun p vs hp hq hn hl => h4 (.ref p) H' ex ⟨p, vs, rfl, hq, fun z => hn (.inl z), hl.weak fun b z => .inl (.inl z)⟩
    | bk => cases ho
    | ct => cases ho
    | ex y =>
      cases ho
      refine fun dd hx => h4 dd H' ex ?_
      cases dd with
      | none => exact hx
      | some q => obtain ⟨vs, z1, zn, z2, z3⟩ := hx; exact ⟨vs, z1, fun z => zn (.inl z), z2, z3.weak fun b => .inl⟩
end
structure SMet (K : PySem.W.Frag) (C : Addr) (mc : Value) (m : Str) (g : Addr) : Prop where
  at_ : ∃ p, PySem.W.findCls K (.ref C) mc m = some (.get (.builtin "staticmethod.__get__") (.ref p) .none (.ref C)) ∧ ∃ rest, PySem.W.recIn K p "staticmethod" = some (.ref g :: rest)
  kp : PySem.W.keepIn K (.ref g) = true
def SmS (P : Program) (w : World) (K : PySem.W.Frag) (mg : Str → Option Value) (base : Heap) (C : Addr) (m : Str) (k : Nat) (sp : Sp) : Prop :=
  ∃ (mc : Value) (g : Addr), ClX.CRead K C mc ∧ SMet K C mc m g ∧ FnRG P w K mg base (L2.CX P w) k g sp
def SmIn (K : PySem.W.Frag) (C : Addr) (m qual : Str) (st : Stmt) : Prop := ∃ mc g fd, ClX.CRead K C mc ∧ SMet K C mc m g ∧ Fun K m qual st g fd
theorem sm_of {P : Program} {w : World} {K : PySem.W.Frag} {mg : Str → Option Value} {base : Heap} {C : Addr} {m qual : Str} {st : Stmt} {k : Nat} {sp : Sp} (D : SmIn K C m qual st) (h : ∀ f fd, Fun K m qual st f fd → FnRG P w K mg base (L2.CX P w) k f sp) : SmS P w K mg base C m k sp :=
  let ⟨mc, g, fd, r, c, F⟩ := D; ⟨mc, g, r, c, h g fd F⟩
section
variable {X : Cx} {W : WX} {m : Str} {C : Addr} {k n : Nat} {f : List D → Option (Except Ex D)} {o e : Expr} {es : List Expr} {to : TE} {t : TA} {mo : Mo D} {ms : Mo (List D)} {apos pos : Pos} {pl : Sem Bool}
theorem getsm_ok {pins : List (Addr × Obj)} {σ : L2.St} {H : Hp} {s : Shared} {mc : Value} {g : Addr} {A : Around} {b : Bool} {E : Value → Shared → Prop} {Q : Value × List Value → Shared → Prop} (I : Inv X pins σ H s) (r : ClX.CRead X.K C mc) (c : SMet X.K C mc m g)
    (h : ∀ s', Inv X pins σ H s' → Q (.ref g, []) s') : wpAny (model X.prog X.w) A (getMethod (.ref C) m pl) Q E s := by
  obtain ⟨p, e, rest, hp⟩ := c.at_
  refine PySem.W.method_cls I.kIn r.ga (PySem.W.cls_bind I.kIn r.rd e ?_)
  exact wpAny_call (PySem.W.sm_get (s := { s with toks := s.toks + 1 }) I.kIn hp (PySem.W.handed_on rfl (h _ (I.tok _))))
theorem run_RG {pins : List (Addr × Obj)} {σ : L2.St} {H : Hp} {s : Shared} {CX : CXT} {lvl : Nat} {g : Addr} {sp : Sp} {E : XK} {Q : VK} {us : List Value} {xs : List V} (F : FnRG X.prog X.w X.K X.mg X.base CX lvl g sp) (room : RoomG lvl X.A) (pass : PassesAt CX X σ E) (I : Inv X pins σ H s) (r : Vals xs us) (q : sp xs H Q E) :
    wpAny (model X.prog X.w) X.A (call (.ref g) us) (EP X pins σ Q) X.xe s := by
  have go := F X.A X.stack s H us xs Q E room I.env0 r q
  refine wpAny_call (codeAny_mono go fun res s2 h => ?_)
  match res, h with
  | .error v, h => exact pass pins H s v s2 I h
  | .ok (.ret u), h => exact I.after h
def starP (n : Nat) (f : List D → Option (Except Ex D)) (ds : List D) : Option (Except Ex D) := if n ≤ ds.length ∧ (ds.drop n).length ≤ ssz then f (ds.take n ++ [.tup (ds.drop n)]) else none
def tSMeth (K : PySem.W.Frag) (C : Addr) (sp : Sp) (E : L2.St → XK) (to : TE) (t : TA) : TE := fun σ H Q => to σ H fun x H1 => x = .ref C ∧ t σ H1 fun vs H2 => sp vs H2 Q (E σ)
theorem xr_smeth {K : PySem.W.Frag} (ho : XR RD K W to mo) (ha : XR RDs K W t ms) : XR RD K W (tSMeth K C (spStP K n f) (WE W) to t) (mo.bind fun d => (isFnM C d).bind fun _ => ms.bind fun ds => Mo.liftR (starP n f ds)) := by
  refine XR.bind (t2 := fun x σ (H1 : Hp) (Q : VK) => x = V.ref C ∧ t σ H1 fun vs H2 => spStP K n f vs H2 Q (WE W σ)) ho ?_
  intro S0 A σ env H k d v hd r env' hm Q hp
  rcases Mo.bind_some hm with ⟨z, e1, q1, q2⟩ | ⟨y, e1, q1, q2⟩
  · obtain ⟨rfl, w2⟩ := isFnM_some q1
    cases w2
    refine ⟨hd, ?_⟩
    rcases Mo.bind_some q2 with ⟨ds, e2, q3, q4⟩ | ⟨y, e1, q3, q4⟩
    · obtain ⟨w3, w4⟩ := Mo.liftR_some q4
      subst w4
      unfold starP at w3
      split at w3
      rotate_left
      · cases w3
      rename_i hlen
      refine ha S0 A σ _ H k _ _ q3 _ fun A1 vs H1 le k1 st hv => ?_
      refine ⟨vs.take n, vs.drop n, (List.take_append_drop _ _).symm, by rw [List.length_take, ← hv.len]; omega, by rw [List.length_drop, ← hv.len, ssz_eq, ← List.length_drop]; exact hlen.2, fun t ht => ?_⟩
      have ex1 : Ext H1 (L2.upd H1 t (.tup (vs.drop n))) := Ext.upd ht
      have nt : ¬ AV S0 A1 t := fun z => k1.trA t z ht
      have split : Dats K (AV S0 A1) H1 (ds.take n) (vs.take n) ∧ Dats K (AV S0 A1) H1 (ds.drop n) (vs.drop n) := ⟨hv.take n, hv.drop n⟩
      refine ⟨AV S0 A1, ds.take n ++ [.tup (ds.drop n)], r, fun b z => ne_none_ext ex1 (k1.trA b z), (split.1.ext ex1).append (Dats.one (d := .tup (ds.drop n)) ⟨t, vs.drop n, rfl, upd_same, nt, split.2.ext ex1⟩), w3, ?_⟩
      cases r with
      | ok d => exact fun v H' ex hv => hp A1 v H' le (k1.ext (fun b o z => ex b o (ex1 b o z))) (st.trans (.of fun b o z => ex b o (ex1 b o z))) hv
      | error y => exact fun dd H' ex hv => hp A1 dd H' le (k1.ext (fun b o z => ex b o (ex1 b o z))) (st.trans (.of fun b o z => ex b o (ex1 b o z))) hv
    · cases q4
      exact ha S0 A σ _ H k _ _ q3 _ fun A1 dd H1 le k1 st ex => hp A1 dd H1 le k1 st ex
  · obtain ⟨_, w1, w2⟩ := Mo.lift_some q1
    cases w2
theorem de_smeth (G : SmS X.prog X.w X.K X.mg X.base C m k (spStP X.K n f)) (hr : RoomG k X.A) (tk : Takes X W) (ho : DE X W o to mo) (ha : DA X W (e :: es) t ms)
    (hst : starEach (e :: es) X.env = (false, eval e X.env) :: starEach es X.env := by rfl) (hpl : (backTo pos (starEach es X.env)).any (·.1) = false := by rfl)
    (ht : eval (.Call (.Attribute o m apos) (e :: es) [] pos) X.env = (do
      let ov ← eval o X.env
      standAt apos.atName
      let (f, first) ← holding [ov] (getMethod ov m pl)
      callWith pos f first (backTo pos (starEach (e :: es) X.env)) (backToKw pos (keywordEach [] X.env))) := by rfl) :
    DE X W (.Call (.Attribute o m apos) (e :: es) [] pos) (tSMeth X.K C (spStP X.K n f) (WE W) to t) (mo.bind fun d => (isFnM C d).bind fun _ => ms.bind fun ds => Mo.liftR (starP n f ds)) := by
  obtain ⟨mc, g, r, c, F⟩ := G
  refine ⟨⟨fun pins s σ H Q I h => ?_⟩, xr_smeth ho.er ha.er⟩
  refine PySem.W.methodCall_KW (pl := pl) (thn (ho.pe.run pins s σ H _ I h) fun u s1 ⟨x, H1, I1, rx, ex, q⟩ => ?_) ht
  subst ex
  obtain rfl : u = Value.ref C := rx
  refine getsm_ok (b := false) I1 r c fun s2 I2 => ?_
  exact PySem.W.callWith_K (h₀ := X.base) I2.ok.mod.kin c.kp (thn (ha.pa.run pos pins s2 σ H1 _ I2 q) fun us s3 ⟨vs, H2, I3, rv, q2⟩ => ⟨I3.kIn, run_RG F hr (passAt tk σ) I3 rv q2⟩) hst hpl
theorem de_smeth0 (G : SmS X.prog X.w X.K X.mg X.base C m k (spStP X.K n f)) (hr : RoomG k X.A) (tk : Takes X W) (ho : DE X W o to mo)
    (ht : eval (.Call (.Attribute o m apos) [] [] pos) X.env = (do
      let ov ← eval o X.env
      standAt apos.atName
      let (f, first) ← holding [ov] (getMethod ov m pl)
      callWith pos f first (backTo pos (starEach [] X.env)) (backToKw pos (keywordEach [] X.env))) := by rfl) :
    DE X W (.Call (.Attribute o m apos) [] [] pos) (tSMeth X.K C (spStP X.K n f) (WE W) to tNil) (mo.bind fun d => (isFnM C d).bind fun _ => (Mo.ret []).bind fun ds => Mo.liftR (starP n f ds)) := by
  obtain ⟨mc, g, r, c, F⟩ := G
  refine ⟨⟨fun pins s σ H Q I h => ?_⟩, xr_smeth ho.er xr_nilA⟩
  refine PySem.W.methodCall_KW (pl := pl) (thn (ho.pe.run pins s σ H _ I h) fun u s1 ⟨x, H1, I1, rx, ex, q⟩ => ?_) ht
  subst ex
  obtain rfl : u = Value.ref C := rx
  refine getsm_ok (b := false) I1 r c fun s2 I2 => ?_
  exact PySem.W.callWith_K0 I2.kIn c.kp (run_RG (us := []) (xs := []) F hr (passAt tk σ) I2 .nil q)
end
end PD
namespace PD
open PySem PySem.Spec PyProof.Rows PySem.Calls L2
section
variable {K : PySem.W.Frag}
theorem star_s0 {nm qual pv : Str} {st : Stmt} {f : Addr} {fd : FuncData} (F : Fun K nm qual st f fd)
    (h0 : ∀ (kV doc pm cdv ct : Value) (an : Option Addr), bindArgs (PySem.W.fnOf nm qual (defArgs st) (defBody st) (defScope st) .none kV doc pm an cdv ct) ⟨[], []⟩ = (newTuple [] >>= fun t => pure [(pv, t)]))
    (h1 : ∀ (kV doc pm cdv ct : Value) (an : Option Addr) r rs, bindArgs (PySem.W.fnOf nm qual (defArgs st) (defBody st) (defScope st) .none kV doc pm an cdv ct) ⟨r :: rs, []⟩ = (newTuple (r :: rs) >>= fun t => pure [(pv, t)])) :
    ∀ us rest : List Value, us.length = ([] : List Str).length → bindArgs fd ⟨us ++ rest, []⟩ = (newTuple rest >>= fun t => pure (([] : List Str).zip us ++ [(pv, t)])) := by
  obtain ⟨_, _, _, _, _, _, _, _, _, e, _, _⟩ := F.ex
  subst e
  intro us rest hl
  match us, hl with
  | [], _ =>
    cases rest with
    | nil => exact h0 _ _ _ _ _ _
    | cons r rs => exact h1 _ _ _ _ _ _ r rs
theorem star_s1 {nm qual p1 pv : Str} {st : Stmt} {f : Addr} {fd : FuncData} (F : Fun K nm qual st f fd)
    (h0 : ∀ (kV doc pm cdv ct : Value) (an : Option Addr) a, bindArgs (PySem.W.fnOf nm qual (defArgs st) (defBody st) (defScope st) .none kV doc pm an cdv ct) ⟨[a], []⟩ = (newTuple [] >>= fun t => pure [(p1, a), (pv, t)]))
    (h1 : ∀ (kV doc pm cdv ct : Value) (an : Option Addr) a r rs, bindArgs (PySem.W.fnOf nm qual (defArgs st) (defBody st) (defScope st) .none kV doc pm an cdv ct) ⟨a :: r :: rs, []⟩ = (newTuple (r :: rs) >>= fun t => pure [(p1, a), (pv, t)])) :
    ∀ us rest : List Value, us.length = ([p1] : List Str).length → bindArgs fd ⟨us ++ rest, []⟩ = (newTuple rest >>= fun t => pure (([p1] : List Str).zip us ++ [(pv, t)])) := by
  obtain ⟨_, _, _, _, _, _, _, _, _, e, _, _⟩ := F.ex
  subst e
  intro us rest hl
  match us, hl with
  | [a], _ =>
    cases rest with
    | nil => exact h0 _ _ _ _ _ _ a
    | cons r rs => exact h1 _ _ _ _ _ _ a r rs
end
end PD
namespace PD
open PySem PySem.Spec PyProof.Rows PySem.Calls L2
def inOwn (C : Addr) (fm : List D → Option (Except Ex D)) : D → D → Option D
  | x, .ins C' fs l => if C' = C then (match okD (fm [.ins C' fs l, x]) with
    | some (.bl b) => some (.bl b)
    | _ => none) else none
  | _, _ => none
def rInOwn (K : PySem.W.Frag) (C : Addr) (fm : List D → Option (Except Ex D)) : R2 := fun y x H Q => ∃ a dx fs, x = .ref a ∧ H a = some (.ins C dx fs) ∧ spP K fm [x, y] H (fun v H' => ∃ b, v = .bl b ∧ Q (.bl b) H') E0
section
variable {X : Cx} {C : Addr} {k : Nat} {fm : List D → Option (Except Ex D)}
theorem od_inOwn (G : Mth X.prog X.w X.K X.mg X.base C "__contains__" k (spP X.K fm)) (hr : RoomG k X.A) : OpD X (compareOp .In) (rInOwn X.K C fm) (inOwn C fm) := by
  refine ⟨fun pins s σ H x y v u Q I rx ry h => ?_, fun S H x y dx dy d hS hx hy hf Q hq => ?_⟩
  · obtain ⟨f, fd, ps, M, F, hb⟩ := G
    obtain ⟨a, dx, fs, rfl, ha, hsp⟩ := h
    cases ry
    obtain ⟨mA, O, _⟩ := ins_get I.hok ha
    obtain ⟨od, J, _⟩ := O.look
    obtain ⟨mm, hF⟩ := I.fr
    refine PySem.W.in_K hF I.ok.mod.kin J M.at_ M.fn (wpAny_mono (run_in (us := [.ref a, v]) (vs := [.ref a, x]) F hr rfl hb passL I (.cons rfl (.cons rx .nil)) hsp) (fun r s' hv => ?_) fun _ _ e => e)
    obtain ⟨z, H', I', rz, b, rfl, q⟩ := hv
    cases rz
    show wpAny _ _ (truthy (Value.bool b)) _ _ _
    exact wpAny_pure ⟨V.bl b, H', I', rfl, q⟩
  · unfold inOwn at hf
    split at hf
    · rename_i z C' fs l
      split at hf
      · rename_i e; subst e
        split at hf
        · rename_i b eb
          cases hf
          obtain ⟨a, ddx, vs, rfl, z1, _⟩ := id hy
          exact ⟨a, ddx, _, rfl, z1, spP_use hS (.two hy hx) (okD_some eb) fun v H' ex hv => ⟨b, hv, hq _ H' ex rfl⟩⟩
        · cases hf
      · cases hf
    · cases hf
variable {W : WX} {e : Expr} {te : TE} {me : Mo D} {pos : Pos}
end
def eqOwnT (C : Addr) (fm : List D → Option (Except Ex D)) : D → D → Option Bool
  | .ins C1 fs l, .ins C2 gs l2 => if C1 = C ∧ C2 = C then (match okD (fm [.ins C1 fs l, .ins C2 gs l2]) with
    | some (.bl true) => some true
    | _ => none) else none
  | _, _ => none
def eqLstT (F : D → D → Option Bool) : D → D → Option D
  | .lst a, .lst b => if eqL F a b = some true then some (.bl true) else none
  | _, _ => none
section
variable {X : Cx} {C : Addr} {k m : Nat} {fm : List D → Option (Except Ex D)} {F : D → D → Option Bool}
theorem eqO_ownT (L : CmpC X.K C) (G : Mth X.prog X.w X.K X.mg X.base C "__eq__" k (spP X.K fm)) : EqO X k (eqOwnT C fm) := by
  intro A pins s σ H S x y u v dx dy b hr hf I tr hx hy rx ry e
  unfold eqOwnT at e
  split at e
  rotate_left
  · cases e
  rename_i C1 fs l C2 gs l2
  split at e
  rotate_left
  · cases e
  rename_i hc
  split at e
  rotate_left
  · cases e
  rename_i eb
  cases e
  obtain ⟨e1, e2⟩ := hc
  subst e1; subst e2
  obtain ⟨a, ddx, vs, rfl, z1, _⟩ := id hx
  obtain ⟨a2, ddy, ws, rfl, z2, _⟩ := id hy
  cases rx; cases ry
  by_cases hne : a = a2
  · subst hne
    exact SeqAt.EqAt.same (A := A) (s := s) (.ref a) X.prog X.w X.xe _ ⟨rfl, H, I, ext_refl⟩
  obtain ⟨f, fd, ps, M, Ff, hb⟩ := G
  obtain ⟨mA, O, _⟩ := ins_get I.hok z1
  obtain ⟨od, J, _⟩ := O.look
  obtain ⟨mB, O', _⟩ := ins_get I.hok z2
  obtain ⟨od', J', _⟩ := O'.look
  obtain ⟨mm, hF⟩ := I.fr
  refine GQ.eqBool_refG hne ?_
  refine PySem.W.cmp_K (op := .Eq) hr.units0 hF I.ok.mod.kin J J'.type (by simp [PySem.W.notFirst]) M.at_ M.fn ?_
  have hsp : spP X.K fm [.ref a, .ref a2] H (fun v H' => v = .bl true ∧ Ext H H') E0 := spP_use tr (.two hx hy) (okD_some eb) fun v H' ex hv => ⟨hv, ex⟩
  refine wpAny_mono (run_in (A' := A) (us := [.ref a, .ref a2]) (vs := [.ref a, .ref a2]) Ff hr hf hb passL I (.cons rfl (.cons rfl .nil)) hsp) (fun r s' hv => ?_) fun _ _ e => e
  obtain ⟨z, H', I', rz, ez, ex⟩ := hv
  subst ez
  cases rz
  exact ⟨true, rfl, rfl, H', I', ex⟩
theorem od_eqLstT (h : EqO X m F) (hr : RoomG (m + 1) X.A) : OpD X (compareOp .Eq) (fun x y H Q => ∃ (S : Addr → Prop) (dx dy : D), (∀ b, S b → H b ≠ none) ∧ Dat X.K S H dx x ∧ Dat X.K S H dy y ∧ eqLstT F dx dy = some (.bl true) ∧ ∀ H', Ext H H' → Q (.bl true) H') (eqLstT F) := by
  refine ⟨fun pins s σ H x y u v Q I rx ry ⟨S, dx, dy, tr, hx, hy, e, q⟩ => ?_, fun S H x y dx dy d hS hx hy hf Q hq => ?_⟩
  · unfold eqLstT at e
    split at e
    rotate_left
    · cases e
    rename_i la lb
    split at e
    rotate_left
    · cases e
    rename_i el
    obtain ⟨a, vs, rfl, ha, na, hl⟩ := hx
    obtain ⟨a2, vs2, rfl, hb, nb, hl2⟩ := hy
    cases rx; cases ry
    show wpAny (model X.prog X.w) X.A (richCompare .Eq _ _) (EP X pins σ Q) X.xe s
    have all := eqL_val el
    have all2 : (List.range (min la.length lb.length)).all (eAt F la lb) = true ∧ (la.length == lb.length) = true := by rw [← Bool.and_eq_true]; exact all.symm
    have len : la.length = lb.length := beq_iff_eq.mp all2.2
    have at_ : ∀ i, i < la.length → eAt F la lb i = true := fun i hi => List.all_eq_true.mp all2.1 i (List.mem_range.mpr (by rw [← len, Nat.min_self]; exact hi))
    refine wpAny_mono (GQ.rc_listG (l := a) (b := a2) (N := vs.length) hr.units0 (fun _ s' => ∃ H', Inv X pins σ H' s' ∧ Ext H H') (Q := fun r s' => r = .bool true ∧ ∃ H', Inv X pins σ H' s' ∧ Ext H H') (fun i s' q' => ?_) (fun s' q => ⟨rfl, q⟩) ⟨H, I, ext_refl⟩) (fun r s' ⟨e1, H', I', ex⟩ => ?_) fun _ _ x => x
    · obtain ⟨H1, I1, x1⟩ := id q'
      obtain ⟨z, its, kk, r, e⟩ := I1.hok a _ (x1 _ _ ha)
      obtain ⟨z2, its2, kk2, r2, e2⟩ := I1.hok a2 _ (x1 _ _ hb)
      refine ⟨its.toArray, its2.toArray, kk, kk2, e, e2, by rw [List.size_toArray, ← r.length], by rw [List.size_toArray, ← r2.length, ← hl2.len, ← len, hl.len], fun h1 h2 => ?_⟩
      have i1 : i < la.length := by rw [hl.len, r.length]; simpa using h1
      have i2 : i < lb.length := by rw [← len]; exact i1
      obtain ⟨w1, k1, d1⟩ := hl.get (List.getElem?_eq_getElem i1)
      obtain ⟨w2, k2, d2⟩ := hl2.get (List.getElem?_eq_getElem i2)
      obtain ⟨u1, g1, ru1⟩ := r.get k1
      obtain ⟨u2, g2, ru2⟩ := r2.get k2
      have f1 : its.toArray[i] = u1 := by simpa [List.getElem?_eq_some_iff] using (List.getElem?_eq_some_iff.mp g1).2
      have f2 : its2.toArray[i] = u2 := by simpa [List.getElem?_eq_some_iff] using (List.getElem?_eq_some_iff.mp g2).2
      rw [f1, f2]
      have ev : F la[i] lb[i] = some true := by
        have := at_ i i1
        unfold eAt at this
        rw [List.getElem?_eq_getElem i1, List.getElem?_eq_getElem i2] at this
        exact beq_iff_eq.mp this
      refine wpAny_mono (h X.A.in1 pins s' σ H1 S w1 w2 u1 u2 la[i] lb[i] true hr.in1 rfl I1 (fun c hc => ne_none_ext x1 (tr c hc)) (d1.ext x1) (d2.ext x1) ru1 ru2 ev) (fun q s2 ⟨q1, H2, I2, x2⟩ => ?_) fun _ _ x => x
      exact ⟨q1, H2, I2, fun c o z => x2 c o (x1 c o z)⟩
    · subst e1
      exact ⟨.bl true, H', I', rfl, q H' ex⟩
  · have hd : d = .bl true := by
      unfold eqLstT at hf
      split at hf
      · split at hf
        · cases hf; rfl
        · cases hf
      · cases hf
    subst hd
    exact ⟨S, dx, dy, hS, hx, hy, hf, fun H' ex => hq _ H' ex rfl⟩
end
end PD
namespace PD
open PySem PySem.Spec PyProof.Rows PySem.Calls L2
def lrgD : D → Option D
  | .int n => if -(2 ^ 62) ≤ n ∧ n ≤ 2 ^ 24 then some (.lst ((List.range n.toNat).map fun i => D.int (i : Nat))) else none
  | _ => none
theorem Dats.ofFn {K : PySem.W.Frag} {S : Addr → Prop} {H : Hp} {f : Nat → Int} : ∀ {l : List Nat}, Dats K S H (l.map fun i => D.int (f i)) (l.map fun i => V.int (f i))
  | [] => rfl
  | a :: l => ⟨_, _, rfl, rfl, Dats.ofFn⟩
section
variable {X : Cx} {W : WX} {e : Expr} {te : TE} {me : Mo D} {p p2 pos pos2 : Pos}
theorem de_listRg (hc : X.calm = true) (hg : Gl X "list") (hm : X.mg "list" = none) (hg2 : Gl X "range") (hm2 : X.mg "range" = none) (he : DE X W e te me)
    (na : starEach [e] X.env = (false, eval e X.env) :: starEach [] X.env := by rfl) (na2 : starEach [.Call (.Name "range" p2) [e] [] pos2] X.env = (false, eval (.Call (.Name "range" p2) [e] [] pos2) X.env) :: starEach [] X.env := by rfl) :
    DE X W (.Call (.Name "list" p) [.Call (.Name "range" p2) [e] [] pos2] [] pos) (tLstRg (tRg1 te)) (me.bind fun d => Mo.lift (lrgD d)) := by
  refine ⟨pe_listRg hc hg hm (prg_1 hg2 hm2 he.pe na) na2, ?_⟩
  refine XR.bind (t2 := fun (x : V) (σ : L2.St) (H1 : Hp) (Q : VK) => ∃ n : Int, x = V.int n ∧ (RgOk 0 n ∧ ∀ q : Addr, H1 q = none → Q (V.ref q) (L2.upd H1 q (HO.lst (rgV 0 n))))) he.er ?_
  intro S0 A σ env H k d v hd r env' hm Q hp
  obtain ⟨d', e1, e2⟩ := Mo.lift_some hm
  cases e2
  unfold lrgD at e1
  split at e1
  rotate_left
  · cases e1
  rename_i n
  split at e1
  rotate_left
  · cases e1
  rename_i hb
  cases e1
  cases (show v = .int n from hd)
  refine ⟨n, rfl, ⟨by decide, by decide, hb.1, by have := hb.2; omega, by have := hb.2; omega⟩, fun q hq => hp A _ _ .refl (k.ext (Ext.upd hq)) (.of (Ext.upd hq)) (dat_new k.trA hq ?_)⟩
  unfold rgV
  rw [show (n - 0).toNat = n.toNat by rw [Int.sub_zero]]
  have : (fun i : Nat => V.int (0 + (i : Nat))) = fun i : Nat => V.int ((i : Nat) : Int) := funext fun i => by rw [Int.zero_add]
  rw [this]
  exact Dats.ofFn
def intsOf : List D → Option (List Int)
  | [] => some []
  | .int i :: r => (intsOf r).map (i :: ·)
  | _ => none
theorem intsOf_some : ∀ {l : List D} {ns : List Int}, intsOf l = some ns → l = ns.map .int
  | [], ns, h => by cases h; rfl
  | .int i :: r, ns, h => by
    unfold intsOf at h
    cases q : intsOf r with
    | none => rw [q] at h; cases h
    | some m => rw [q] at h; cases h; rw [intsOf_some q]; rfl
  | .non :: _, _, h => by cases h
  | .bl _ :: _, _, h => by cases h
  | .str _ :: _, _, h => by cases h
  | .tup _ :: _, _, h => by cases h
  | .lst _ :: _, _, h => by cases h
  | .ins _ _ _ :: _, _, h => by cases h
  | .dct _ _ :: _, _, h => by cases h
  | .exn _ _ _ _ _ :: _, _, h => by cases h
  | .scr _ :: _, _, h => by cases h
  | .fn _ :: _, _, h => by cases h
  | .ty _ :: _, _, h => by cases h
  | .lam _ _ :: _, _, h => by cases h
  | .clo _ _ _ _ _ :: _, _, h => by cases h
def leI (a b : Int) : Bool := decide (a ≤ b)
def sortI (ns : List Int) : List Int := ns.mergeSort leI
theorem sortI_perm (ns : List Int) : (sortI ns).Perm ns := List.mergeSort_perm ns leI
theorem sortI_pw (ns : List Int) : (sortI ns).Pairwise (· ≤ ·) := by
  have := List.pairwise_mergeSort (le := leI) (fun a b c h1 h2 => decide_eq_true (Int.le_trans (of_decide_eq_true h1) (of_decide_eq_true h2))) (fun a b => by
    rcases Int.le_total a b with h | h
    · rw [show leI a b = true from decide_eq_true h]; rfl
    · rw [show leI b a = true from decide_eq_true h]; simp) ns
  exact this.imp fun h => of_decide_eq_true h
theorem sortI_uniq {ns ms : List Int} (h : ms.Perm ns) (p : ms.Pairwise (· ≤ ·)) : ms = sortI ns :=
  List.Perm.eq_of_pairwise (fun a b _ _ h1 h2 => Int.le_antisymm h1 h2) p (sortI_pw ns) (h.trans (sortI_perm ns).symm)
def sortID : List D → Option D
  | [.lst l] => (intsOf l).map fun ns => .lst ((sortI ns).map .int)
  | _ => none
theorem Dats.ofInts9 {K : PySem.W.Frag} {S : Addr → Prop} {H : Hp} : ∀ {ns : List Int} {vs : List V}, Dats K S H (ns.map .int) vs → vs = ns.map .int
  | [], vs, h => h
  | n :: ns, vs, ⟨v, r, e, h1, h2⟩ => by rw [e, Dats.ofInts9 h2]; cases (show v = .int n from h1); rfl
theorem Dats.ints9 {K : PySem.W.Frag} {S : Addr → Prop} {H : Hp} : ∀ {ns : List Int}, Dats K S H (ns.map .int) (ns.map .int)
  | [] => rfl
  | n :: ns => ⟨_, _, rfl, rfl, Dats.ints9⟩
theorem cd_sortI : CallD X (.builtin "sorted") (rSortedI X.K) sortID := by
  refine ⟨cr_sortedI, fun S H vs ds d hS hd hg Q hq => ?_⟩
  unfold sortID at hg
  split at hg
  rotate_left
  · cases hg
  rename_i l
  cases e : intsOf l with
  | none => rw [e] at hg; cases hg
  | some ns =>
    rw [e] at hg
    cases hg
    obtain ⟨v, rfl, q, ws, rfl, h1, _, h2⟩ := hd.one'
    cases intsOf_some e
    cases Dats.ofInts9 h2
    refine ⟨q, ns, rfl, SqL.of h1, fun ys p hp hs hn => ?_⟩
    cases sortI_uniq hp hs
    exact hq _ _ (Ext.upd hn) (dat_new hS hn Dats.ints9)
end
end PD
namespace PD
open PySem PySem.Spec PyProof.Rows PySem.Calls L2
def rAnyT (K : PySem.W.Frag) : List V → Hp → VK → Prop := fun vs H Q => ∃ (a : Addr) (bs : List Bool), vs = [V.ref a] ∧ SqT K H a (bs.map V.bl) ∧ Q (.bl (bs.any id)) H
def rAllT (K : PySem.W.Frag) : List V → Hp → VK → Prop := fun vs H Q => ∃ (a : Addr) (bs : List Bool), vs = [V.ref a] ∧ SqT K H a (bs.map V.bl) ∧ Q (.bl (bs.all id)) H
section
variable {X : Cx}
theorem iter_anyT {prog : Program} {w : World} {A : Around} {E : Value → Shared → Prop} {s : Shared} {l : Addr} {items : Array Value} {Q : Value → Shared → Prop} (hl : s.heap.IsTuple l items)
    (h : ∀ s₂ : Shared, s₂ = { s with heap := s.heap.push { cls := .type "tuple_iterator", data := .fields #[.ref l, .int 0 0] } } →
      (s₂.heap.IsTupleIter s.heap.objs.size l 0 ∧ s₂.heap.IsTuple l items) → l ≠ s.heap.objs.size → Q (.ref s.heap.objs.size) s₂) : wpAny (model prog w) A (pyIter (.ref l)) Q E s := by
  have hlt : l < s.heap.objs.size := by obtain ⟨_, e, _⟩ := hl; exact Heap.lt_size e
  exact wpAny_pyIter_tuple hl (h _ rfl ⟨⟨_, Heap.get?_push_size _ rfl, rfl, rfl⟩, hl.push _⟩ (Nat.ne_of_lt hlt))
theorem cr_anyT (hc : X.calm = true) : CallR X (.builtin "any") (rAnyT X.K) := by
  intro pins s σ H vs us Q I r h
  obtain ⟨a, bs, rfl, hs, q⟩ := h
  obtain ⟨its, rv, hl, _⟩ := I.tuple hs
  rw [Vals.ref1 r]
  have hb := rv.bls
  refine call_any_walk (iter_anyT (show s.heap.IsTuple a its.toArray from hl) fun s₂ e2 st hne => ?_)
  subst e2
  refine ⟨_, _, _, _, _, _, _, rfl, Walks.tuple (A := X.A.in1) (I.ok.hd hc) _ a hne its.toArray, st, truth_bools hb, fun h' tk hk => ?_⟩
  refine ⟨.bl _, H, I.kept fun b o eo => hk b o (fun hmem => ?_) (Heap.get?_push_of_some _ eo), ?_, q⟩
  · rcases List.mem_cons.mp hmem with e1 | hmem
    · exact absurd (e1 ▸ Heap.lt_size eo) (Nat.lt_irrefl _)
    · cases hmem
  · show Value.bool _ = Value.bool _
    rw [← L2.any_range, hb, List.size_toArray, List.length_map]
theorem cr_allT (hc : X.calm = true) : CallR X (.builtin "all") (rAllT X.K) := by
  intro pins s σ H vs us Q I r h
  obtain ⟨a, bs, rfl, hs, q⟩ := h
  obtain ⟨its, rv, hl, _⟩ := I.tuple hs
  rw [Vals.ref1 r]
  have hb := rv.bls
  refine call_all_walk (iter_anyT (show s.heap.IsTuple a its.toArray from hl) fun s₂ e2 st hne => ?_)
  subst e2
  refine ⟨_, _, _, _, _, _, _, rfl, Walks.tuple (A := X.A.in1) (I.ok.hd hc) _ a hne its.toArray, st, truth_bools hb, fun h' tk hk => ?_⟩
  refine ⟨.bl _, H, I.kept fun b o eo => hk b o (fun hmem => ?_) (Heap.get?_push_of_some _ eo), ?_, q⟩
  · rcases List.mem_cons.mp hmem with e1 | hmem
    · exact absurd (e1 ▸ Heap.lt_size eo) (Nat.lt_irrefl _)
    · cases hmem
  · show Value.bool _ = Value.bool _
    rw [← L2.all_range, hb, List.size_toArray, List.length_map]
def anyTD : List D → Option D
  | [.tup l] => (blsD l).map fun bs => .bl (bs.any id)
  | _ => none
def allTD : List D → Option D
  | [.tup l] => (blsD l).map fun bs => .bl (bs.all id)
  | _ => none
theorem cd_anyT (hc : X.calm = true) : CallD X (.builtin "any") (rAnyT X.K) anyTD := by
  refine ⟨cr_anyT hc, fun S H vs ds d hS hd hf Q hq => ?_⟩
  unfold anyTD at hf
  split at hf
  · rename_i l
    cases q : blsD l with
    | none => rw [q] at hf; cases hf
    | some bs =>
      rw [q] at hf; cases hf
      obtain ⟨v, rfl, a, ws, rfl, h1, _, h2⟩ := hd.one'
      rw [blsD_some q] at h2
      rw [Dats.ofBls h2] at h1
      exact ⟨a, bs, rfl, SqT.of h1, hq _ H ext_refl rfl⟩
  · cases hf
theorem cd_allT (hc : X.calm = true) : CallD X (.builtin "all") (rAllT X.K) allTD := by
  refine ⟨cr_allT hc, fun S H vs ds d hS hd hf Q hq => ?_⟩
  unfold allTD at hf
  split at hf
  · rename_i l
    cases q : blsD l with
    | none => rw [q] at hf; cases hf
    | some bs =>
      rw [q] at hf; cases hf
      obtain ⟨v, rfl, a, ws, rfl, h1, _, h2⟩ := hd.one'
      rw [blsD_some q] at h2
      rw [Dats.ofBls h2] at h1
      exact ⟨a, bs, rfl, SqT.of h1, hq _ H ext_refl rfl⟩
  · cases hf
def anyA (x : List D) : Option D := (anyD x).or (anyTD x)
def allA (x : List D) : Option D := (allD x).or (allTD x)
end
end PD
namespace PD
open PySem PySem.Spec PyProof.Rows PySem.Calls L2
end PD
namespace PySem
open Sem (wp)
section
variable {M : Model} {A : Around} {R : GenEnd} {Y : Protocol} {n : Nat} {s₀ : Shared} {c : Code} {fs : List Frame} {s : Shared} {ev : Env}
  {K : Flow → Sem Fin} {H : Value → Sem Fin} {gf : Bool → Bool} {lw : List Value → List Value}
theorem seg_For {tg iter : Expr} {body : List Stmt} {pos : Pos}
    (h : wpAny M (A.over c fs) (eval iter ev) (fun x s1 => wpAny M (A.over c fs) (pyIter x) (fun it s2 => ∀ p, Seg M A R Y n s₀ (.forLoop tg it body [] ev) (M.den (.forLoop tg it body [] ev))
      (.ret (fun r => ((match r with | .ok f => (.pure f : Sem Flow) | .error e => .raise e).onRaise (L2.cameBack ev)).wrap K H gf lw) none (gf false) (lw []) c p [] :: fs) s2) (fun x s' => Seg M A R Y n s₀ c (H x) fs s') s1) (fun x s' => Seg M A R Y n s₀ c (H x) fs s') s)
    (hfo : ∀ x, foldedSetIterable iter ev x = pure x) :
    Seg M A R Y n s₀ c ((exec (.For tg iter body [] pos) ev).wrap K H gf lw) fs s := by
  rw [exec_For]
  show Seg _ _ _ _ _ _ _ (.at pos fun _ => ((eval iter ev >>= fun v => foldedSetIterable iter ev v >>= fun x => standAt iter.pos >>= fun _ => holding [x] (pyIter x) >>= fun it => runOwn (.forLoop tg it body [] ev) ev) : Sem Flow).wrap K H gf lw) fs s
  refine seg_at ?_
  refine seg_bind_wrap ?_
  refine wpAny_mono h (fun x s1 h1 => ?_) fun _ _ z => z
  rw [hfo x]
  refine seg_at ?_
  refine seg_bind_wrap (wpAny_pure ?_)
  refine seg_bind_wrap (wpAny_holding ?_)
  refine wpAny_mono h1 (fun it s2 h2 => ?_) fun _ _ z => z
  exact seg_call h2
end
section
variable {prog : Program} {w : World} {A : Around} {R : GenEnd} {Y : Protocol} {n : Nat} {s₀ : Shared} {fs : List Frame} {s : Shared} {ev : Env}
theorem seg_forLoop {tg : Expr} {it : Value} {body : List Stmt}
    (h : wpAny (model prog w) (A.over (.forLoop tg it body [] ev) fs) (pyNext it) (fun r s1 => match r with
      | none => Seg (model prog w) A R Y n s₀ (.block [] ev) (.pure (.done .next)) fs s1
      | some v => wpAny (model prog w) (A.over (.forLoop tg it body [] ev) fs) (letOwnedTupleGo tg it v) (fun _ s2 => wpAny (model prog w) (A.over (.forLoop tg it body [] ev) fs) (assign tg ev v) (fun _ s3 =>
          Seg (model prog w) A R Y n s₀ (.forLoop tg it body [] ev) ((execs body ev).wrap (fun f => match f with
            | .next | .cont => .pure (.again (.forLoop tg it body [] ev))
            | .brk => .pure (.done .next)
            | .ret v => .pure (.done (.ret v))) (fun e => (do noteFrame e ev; theTreesLotGoes e : Sem Unit).wrap (fun _ => .raise e) .raise id id) id id) fs s3)
          (fun x s' => Seg (model prog w) A R Y n s₀ (.forLoop tg it body [] ev) ((do noteFrame x ev; theTreesLotGoes x : Sem Unit).wrap (fun _ => .raise x) .raise id id) fs s') s2)
          (fun x s' => Seg (model prog w) A R Y n s₀ (.forLoop tg it body [] ev) ((do noteFrame x ev; theTreesLotGoes x : Sem Unit).wrap (fun _ => .raise x) .raise id id) fs s') s1)
      (fun x s' => Seg (model prog w) A R Y n s₀ (.forLoop tg it body [] ev) ((do noteFrame x ev; theTreesLotGoes x : Sem Unit).wrap (fun _ => .raise x) .raise id id) fs s') s) :
    Seg (model prog w) A R Y n s₀ (.forLoop tg it body [] ev) ((model prog w).den (.forLoop tg it body [] ev)) fs s := by
  show Seg _ A R Y n s₀ _ ((forTurn tg it body [] ev).onRaise (fun x => do noteFrame x ev; theTreesLotGoes x)) fs s
  unfold forTurn
  rw [Sem.onRaise_eq_wrap]
  show Seg _ A R Y n s₀ _ (.at tg.pos fun _ => ((((pyNext it).onRaise (fun _ => standAt { tg.pos with line := 0 })) >>= _ : Sem Fin)).wrap _ _ _ _) fs s
  refine seg_at ?_
  have hx : ∀ (x : Value) (s' : Shared), Seg (model prog w) A R Y n s₀ (.forLoop tg it body [] ev) ((do noteFrame x ev; theTreesLotGoes x : Sem Unit).wrap (fun _ => .raise x) .raise id id) fs s' → Seg (model prog w) A R Y n s₀ (.forLoop tg it body [] ev) ((do noteFrame x ev; theTreesLotGoes x : Sem Unit).bind fun _ => .raise x) fs s' := fun x s' q => by
    rw [Sem.bind_eq_wrap]; exact q
  refine seg_bind_wrap (wpAny_onRaise ?_)
  refine wpAny_mono h (fun r s1 h1 => ?_) fun x s' q => wpAny_standAt (hx x s' q)
  cases r with
  | none =>
    refine seg_again rfl ?_
    exact h1
  | some v =>
    refine seg_bind_wrap ?_
    refine wpAny_mono h1 (fun _ s2 h2 => ?_) fun x s' q => hx x s' q
    refine seg_bind_wrap ?_
    refine wpAny_mono h2 (fun _ s3 h3 => ?_) fun x s' q => hx x s' q
    show Seg _ A R Y n s₀ _ (Sem.wrap _ _ _ _ (_ >>= _)) fs s3
    rw [Sem.bind_eq_wrap', Sem.wrap_wrap]
    rw [Sem.wrap_congr (execs body ev) _ _ (K' := fun f => match f with
          | .next | .cont => .pure (.again (.forLoop tg it body [] ev))
          | .brk => .pure (.done .next)
          | .ret v => .pure (.done (.ret v))) (H' := (fun e => (do noteFrame e ev; theTreesLotGoes e : Sem Unit).wrap (fun _ => .raise e) .raise id id))
      (fun f => by cases f <;> rfl)
      (fun e => by first | exact Sem.bind_eq_wrap _ _ | (show (do noteFrame e ev; theTreesLotGoes e : Sem Unit).bind (fun _ => .raise e) = _; rw [Sem.bind_eq_wrap]))]
    exact h3
end
end PySem
namespace L2
open PySem PySem.Spec PyProof.Rows GenW
section
variable {X : Cx} {tg : Expr}
/-- W: the invariant by the turn, a measure and what is out; N: what the body is to reach -/
def tGFor (wi : TI) (g : TG) (tb : TGn) : TGn := fun D out σ H => wi σ H fun J H1 => ∃ W : Nat → Nat → List V → St → Hp → Prop, (∃ m, W 0 m out σ H1) ∧ ∀ i m out σ H, W i m out σ H →
  (J.stop i H ∧ D.nx out σ H) ∨ (J.go i H ∧ ∃ N : List V → St → Hp → Prop, (∀ ys' σ' H', N ys' σ' H' → ∃ m', m' < m ∧ W (i + 1) m' ys' σ' H') ∧ ∀ x H', J.yld i H x H' → g x σ H' fun σ2 H2 => tb { D with nx := N, ct := N, bk := D.nx } out σ2 H2)
theorem gs_for {iter : Expr} {body : List Stmt} {wi : TI} {g : TG} {tb : TGn} {pos : Pos} (hpo : PassesOwn (model X.prog X.w) X.A X.env X.xe) (hc : X.calm = true) (hi : PI X tg iter wi) (hg : PG X tg g) (hb : GSs X body tb)
    (hfo : ∀ x, foldedSetIterable iter X.env x = pure x := by intro _; rfl) : GS X (.For tg iter body [] pos) (tGFor wi g tb) := by
  refine ⟨fun A S ip R n out s₀ c fs K J gf lw s σ H D gc hn k hI h => ?_⟩
  obtain ⟨arr, cc, r, I⟩ := hI
  refine seg_For ?_ hfo
  rw [gc.over]
  have xout : ∀ (x : Value) (s' : Shared), X.xe x s' → Seg (model X.prog X.w) A R (GY X S) n s₀ c (J x) fs s' := fun x s' hx => k.exc n s₀ x s' hx
  refine wpAny_mono (hi.run _ s σ H _ I h) (fun v s1 h1 => ?_) xout
  refine wpAny_mono h1 (fun itv s2 h2 => ?_) xout
  obtain ⟨it, fp, tn, JJ, H2, e, I2, T, st2, f2, W, ⟨m0, w0⟩, turn⟩ := h2
  subst e
  intro p
  -- the walked thing's own objects
  have stat : ∀ {H' : Hp} {acc' : Array Value} {c' : Nat}, (∀ b ∈ fp, H' b = none) → ∀ b ∈ fp, FpOk X ((S, lstObj acc' c') :: ip) H' b := fun {H' acc' c'} hn b hb => by
    obtain ⟨_, q1, q2, q3, q4, q5⟩ := f2 b hb
    refine ⟨hn b hb, q1, q2, q3, q4, fun p hpo => ?_⟩
    rcases List.mem_append.mp hpo with hpo | hpo
    · exact q5 p (List.mem_append_left _ hpo)
    · rcases List.mem_cons.mp hpo with hpo | hpo
      · rw [hpo]; exact q5 (S, lstObj arr cc) (List.mem_append_right _ List.mem_cons_self)
      · exact q5 p (List.mem_append_right _ (List.mem_cons_of_mem _ hpo))
  have hSf : ∀ b ∈ fp, b ≠ S := fun b hb z => (f2 b hb).2.2.2.2.2 (S, lstObj arr cc) (List.mem_append_right _ List.mem_cons_self) z.symm
  have gl := fun (kk : Result → Sem PySem.Fin) => gc_loop (k := kk) (c' := .forLoop tg (.ref it) body [] X.env) (l := lw []) (kp := []) (p := p) gc rfl rfl
  have ee : ∀ (n : Nat) (s₀ : Shared) (x : Value) (s' : Shared), X.xe x s' → Seg (model X.prog X.w) A R (GY X S) n s₀ (.forLoop tg (.ref it) body [] X.env)
      ((do noteFrame x X.env; theTreesLotGoes x : Sem Unit).wrap (fun _ => .raise x) .raise id id)
      (.ret (fun r => ((match r with | .ok f => (.pure f : Sem Flow) | .error e => .raise e).onRaise (cameBack X.env)).wrap K J gf lw) none (gf false) (lw []) c p [] :: fs) s' := fun n s₀ x s' hx => by
    refine seg_wrap ?_
    rw [(gl _).over]
    refine wpAny_bind (wpAny_mono (hpo x s' hx) (fun _ s'' hcb => wpAny_theTreesLotGoes ?_) fun y s'' hcb => ?_)
    · exact seg_leaf (.error x) (seg_cameBack gc k hcb)
    · exact seg_leaf (.error y) (seg_cameBack gc k hcb)
  have loop : ∀ (m i n : Nat) (out : List V) (s₀ s : Shared) (σ : St) (H : Hp), n + out.length = sizeLine → W i m out σ H → GI X S ip out σ H s → tn i s.heap → (∀ b ∈ fp, H b = none) →
      Seg (model X.prog X.w) A R (GY X S) n s₀ (.forLoop tg (.ref it) body [] X.env) ((model X.prog X.w).den (.forLoop tg (.ref it) body [] X.env))
        (.ret (fun r => ((match r with | .ok f => (.pure f : Sem Flow) | .error e => .raise e).onRaise (cameBack X.env)).wrap K J gf lw) none (gf false) (lw []) c p [] :: fs) s := by
    intro m
    induction m using Nat.strongRecOn with
    | ind m ih =>
      intro i n out s₀ s3 σ3 H3 hn w3 hI st3 fr3
      obtain ⟨acc3, cc3, r3, I3⟩ := hI
      refine seg_forLoop ?_
      rw [(gl _).over]
      rcases turn i m out σ3 H3 w3 with ⟨stop, qn⟩ | ⟨go, N, hN, step⟩
      · refine wpAny_mono (T.done X rfl rfl rfl hc i _ s3 σ3 H3 (fun _ _ => False) I3 (stat fr3) st3 stop) (fun r s4 q => ?_) fun x s' hx => False.elim hx
        obtain ⟨hr, I4⟩ := q
        subst hr
        exact seg_leaf (.ok .next) (k.ok n out s₀ s4 .next hn ⟨σ3, H3, ⟨acc3, cc3, r3, I4⟩, qn⟩)
      · refine wpAny_mono (T.item X rfl rfl rfl hc i _ s3 σ3 H3 (fun _ _ => False) I3 (stat fr3) st3 go) (fun r s4 q => ?_) fun x s' hx => False.elim hx
        obtain ⟨u, hr, h4⟩ := q
        subst hr
        refine wpAny_mono h4 (fun _ s5 q5 => ?_) fun x s' hx => False.elim hx
        obtain ⟨x, H5, I5, r5, y5, u5, fr5⟩ := q5
        have I5' := I5.pinned (stat fr5) (T.obj _ _ u5)
        refine wpAny_mono (hg.run _ s5 σ3 H5 x u _ I5' r5 (step x H5 y5)) (fun _ s6 q6 => ?_) fun x s' hx => ee n s₀ x s' hx
        obtain ⟨σ6, H6, I6, q6⟩ := q6
        have gl2 := fun (kk : Result → Sem PySem.Fin) => gl kk
        refine hb.run A S (ip ++ pinsAt fp s5.heap) R n out s₀ _ _ _ _ id id s6 σ6 H6 { D with nx := N, ct := N, bk := D.nx } ⟨gc.pn, fun p hpo => ?_, gc.apart, (gl _).over, (gl _).split, (gl _).guard, rfl⟩ hn ⟨fun n' ys' s₀' s7 f hn' hfo => ?_, fun n' s₀' x s7 hx => ee n' s₀' x s7 hx⟩ ⟨acc3, cc3, r3, I6⟩ q6
        · rcases List.mem_append.mp hpo with hpo | hpo
          · exact gc.ip p hpo
          · exact hSf _ (of_pinsAt hpo).1
        · have again : ∀ {σ7 : St} {H7 : Hp}, GI X S (ip ++ pinsAt fp s5.heap) ys' σ7 H7 s7 → N ys' σ7 H7 → Seg (model X.prog X.w) A R (GY X S) n' s₀' (.forLoop tg (.ref it) body [] X.env) (.pure (.again (.forLoop tg (.ref it) body [] X.env)))
              (.ret (fun r => ((match r with | .ok f => (.pure f : Sem Flow) | .error e => .raise e).onRaise (cameBack X.env)).wrap K J gf lw) none (gf false) (lw []) c p [] :: fs) s7 := fun {σ7 H7} I7 n7 => by
            obtain ⟨m', hm, w7⟩ := hN ys' σ7 H7 n7
            obtain ⟨acc7, cc7, r7, I7⟩ := I7
            have pin7 : ∀ b ∈ fp, ∀ o, s5.heap.get? b = some o → s7.heap.get? b = some o ∧ H7 b = none := fun b hb o e => by
              have q := I7.pin (b, o) (List.mem_append_right _ (List.mem_cons_of_mem _ (List.mem_append_right _ (mem_pinsAt hb e))))
              exact ⟨q.1, q.2.1⟩
            refine seg_again rfl (ih m' hm (i + 1) n' ys' s₀' s7 σ7 H7 hn' w7 ⟨acc7, cc7, r7, I7.pins_of fun p hpo => I7.pin p ?_⟩ (T.keep _ _ _ u5 fun b hb o e => (pin7 b hb o e).1) fun b hb => ?_)
            · rcases List.mem_cons.mp hpo with hpo | hpo
              · rw [hpo]; exact List.mem_append_right _ List.mem_cons_self
              · exact List.mem_append_right _ (List.mem_cons_of_mem _ (List.mem_append_left _ hpo))
            · obtain ⟨o, e, d⟩ := T.obj _ _ u5 b hb
              exact (pin7 b hb o e).2
          have unp : ∀ {σ7 : St} {H7 : Hp}, GI X S (ip ++ pinsAt fp s5.heap) ys' σ7 H7 s7 → GI X S ip ys' σ7 H7 s7 := fun {σ7 H7} I7 => by
            obtain ⟨acc7, cc7, r7, I7⟩ := I7
            refine ⟨acc7, cc7, r7, I7.pins_of fun p hpo => I7.pin p ?_⟩
            rcases List.mem_cons.mp hpo with hpo | hpo
            · rw [hpo]; exact List.mem_append_right _ List.mem_cons_self
            · exact List.mem_append_right _ (List.mem_cons_of_mem _ (List.mem_append_left _ hpo))
          cases f with
          | next =>
            obtain ⟨σ7, H7, I7, n7⟩ := hfo
            exact again I7 n7
          | cont =>
            obtain ⟨σ7, H7, I7, n7⟩ := hfo
            exact again I7 n7
          | brk =>
            obtain ⟨σ7, H7, I7, q7⟩ := hfo
            exact seg_leaf (.ok .next) (k.ok n' ys' s₀' s7 .next hn' ⟨σ7, H7, unp I7, q7⟩)
          | ret v =>
            obtain ⟨x7, σ7, H7, I7, rv, q7⟩ := hfo
            exact seg_leaf (.ok (.ret v)) (k.ok n' ys' s₀' s7 (.ret v) hn' ⟨x7, σ7, H7, unp I7, rv, q7⟩)
  exact loop m0 0 n out s₀ s2 σ H2 hn w0 ⟨arr, cc, r, I2⟩ st2 fun b hb => (f2 b hb).1
end
end L2
namespace PD
open PySem PySem.W PySem.Spec PyProof.Rows PySem.Calls
open Sem (wp)
end PD
namespace PD
open PySem PySem.Spec PyProof.Rows PySem.Calls L2
end PD
namespace PD
open PySem PySem.Spec PyProof.Rows PySem.Calls L2
abbrev GSm := En → List D → Option (Out × En × List D)
def GPost (K : PySem.W.Frag) (W : WX) (S0 : Addr → Prop) (A : Ow) (H : Hp) (env' : En) (l : List D) (D : GEnds) (o : Out) : Prop :=
  ∀ A' σ' H' ys, Ok K S0 A' σ' env' H' → Go A H A' H' → Dats K (AV S0 A') H' l ys → match o with
    | .nx => D.nx ys σ' H'
    | .rt d => ∀ v, Dat K (AV S0 A') H' d v → D.rt ys v H'
    | .rf r => ∀ q vs, H q = none → H' q = some (.lst vs) → ¬ AV S0 A' q → Dats K (fun b => AV S0 A' b ∨ b = q) H' r vs → D.rt ys (.ref q) H'
    | .bk => D.bk ys σ' H'
    | .ct => D.ct ys σ' H'
    | .ex x => ∀ dd, ExD K (AV S0 A') H' x dd → W (.ref x.C) dd σ' H'
theorem GPost.imp {K : PySem.W.Frag} {W : WX} {S0 : Addr → Prop} {A B : Ow} {H H1 : Hp} {env' : En} {l : List D} {D : GEnds} {o : Out} (h : GPost K W S0 A H env' l D o) (g : Go A H B H1) : GPost K W S0 B H1 env' l D o := by
  intro A' σ' H' ys k q r
  have z := h A' σ' H' ys k (g.trans q) r
  cases o with
  | rf l => exact fun p vs hp => z p vs (g.1.dom p hp)
  | nx => exact z
  | rt d => exact z
  | bk => exact z
  | ct => exact z
  | ex x => exact z
/-- what is out stays as it was told -/
theorem Dats.go {K : PySem.W.Frag} {S0 : Addr → Prop} {A B : Ow} {H H1 : Hp} {l : List D} {ys : List V} (h : Dats K (AV S0 A) H l ys) (g : Go A H B H1) : Dats K (AV S0 B) H1 l ys :=
  Dats.step (fun b z => z.elim (fun z => .inl (.inl z)) fun z => (g.2 b z).elim (fun z => .inl (.inr z)) .inr) (g.1.mono fun b z => .inr z) _ _ h
def GSR (K : PySem.W.Frag) (W : WX) (t : TGn) (m : GSm) : Prop :=
  ∀ S0 A σ env H, Ok K S0 A σ env H → ∀ l ys, Dats K (AV S0 A) H l ys → ∀ o env' l', m env l = some (o, env', l') → ∀ D, GPost K W S0 A H env' l' D o → t D ys σ H
structure DGS (X : Cx) (W : WX) (s : Stmt) (t : TGn) (m : GSm) : Prop where
  gs : GS X s t
  sr : GSR X.K W t m
structure DGSs (X : Cx) (W : WX) (s : List Stmt) (t : TGn) (m : GSm) : Prop where
  gs : GSs X s t
  sr : GSR X.K W t m
/-- no yield in it -/
def plG (m : Sm) : GSm := fun e l => (m e).map fun z => (z.1, z.2, l)
theorem gsr_pl {K : PySem.W.Frag} {W : WX} {t : TS} {m : Sm} (h : SR K W t m) : GSR K W (tPlain t) (plG m) := by
  intro S0 A σ env H k l ys hl o env' l' hm D hp
  unfold plG at hm
  cases q : m env with
  | none => rw [q] at hm; cases hm
  | some z =>
    rw [q] at hm; cases hm
    refine h S0 A σ env H k _ _ q (D.at ys) fun A' σ' H' k' g => ?_
    have z := hp A' σ' H' ys k' g (hl.go g)
    revert z
    cases z0 : z.1 <;> intro z <;> exact z
section
variable {X : Cx} {W : WX} {st : Stmt} {rest body : List Stmt} {t : TS} {tg u : TGn} {m : Sm} {mg n : GSm} {e : Expr} {te : TE} {me : Mo D} {p pos : Pos}
theorem dgs_pl (h : DS X W st t m) : DGS X W st (tPlain t) (plG m) := ⟨gs_ps h.ps, gsr_pl h.sr⟩
theorem dgss_pl (h : DSs X W rest t m) : DGSs X W rest (tPlain t) (plG m) := ⟨gss_pss h.ps, gsr_pl h.sr⟩
def nxG : GSm := fun e l => some (.nx, e, l)
theorem dgss_nil : DGSs X W [] tG0 nxG := ⟨gss_nil, fun S0 A σ env H k l ys hl o env' l' hm D hp => by cases hm; exact hp A σ H ys k .refl hl⟩
def seqG (m n : GSm) : GSm := fun e l => match m e l with
  | some (.nx, e', l') => n e' l'
  | r => r
theorem gsr_seq {K : PySem.W.Frag} {t u : TGn} {m n : GSm} (h1 : GSR K W t m) (h2 : GSR K W u n) : GSR K W (tGThen t u) (seqG m n) := by
  intro S0 A σ env H k l ys hl o env' l' hm D hp
  unfold seqG at hm
  split at hm
  · rename_i e' l1 q
    exact h1 S0 A σ env H k l ys hl _ _ _ q _ fun A1 σ1 H1 ys1 k1 g r1 => h2 S0 A1 σ1 e' H1 k1 l1 ys1 r1 o env' l' hm D (hp.imp g)
  · rename_i hh
    refine h1 S0 A σ env H k l ys hl _ _ _ hm _ fun A1 σ1 H1 ys1 k1 g r1 => ?_
    have q := hp A1 σ1 H1 ys1 k1 g r1
    cases o with
    | nx => exact absurd hm (hh _ _)
    | rt d => exact q
    | bk => exact q
    | ct => exact q
    | ex x => exact q
    | rf l => exact q
theorem dgss_cons (h1 : DGS X W st tg mg) (h2 : DGSs X W rest u n) : DGSs X W (st :: rest) (tGThen tg u) (seqG mg n) := ⟨gss_cons h1.gs h2.gs, gsr_seq h1.sr h2.sr⟩
/-- yield e -/
def yldG (me : Mo D) : GSm := fun e l => if l.length < ssz then (match me e with
  | some (.ok d, e') => some (.nx, e', l ++ [d])
  | some (.error x, e') => some (.ex x, e', l)
  | none => none) else none
theorem gsr_yld {K : PySem.W.Frag} (h : XR RD K W te me) : GSR K W (tGYield te) (yldG me) := by
  intro S0 A σ env H k l ys hl o env' l' hm D hp
  have hsz : (16777216 : Nat) = sizeLine := by decide
  unfold yldG at hm
  split at hm
  · rename_i hlt
    refine ⟨by rw [← hl.len, ← hsz]; exact hlt, ?_⟩
    split at hm
    · rename_i d e' q
      cases hm
      refine h S0 A σ env H k _ _ q _ fun A1 v H1 le k1 st rd => ?_
      exact hp A1 σ H1 (ys ++ [v]) k1 (.le le st) ((hl.go (.le le st)).append (.one rd))
    · rename_i x e' q
      cases hm
      exact h S0 A σ env H k _ _ q _ fun A1 dd H1 le k1 st ex => hp A1 σ H1 ys k1 (.le le st) (hl.go (.le le st)) dd ex
    · cases hm
  · cases hm
theorem dgs_yld (h : DE X W e te me) (hco : X.env.scope.isCoroutine = false := by rfl) (hi : interactive X.env = false := by rfl) : DGS X W (.Expr (.Yield (some e) p) pos) (tGYield te) (yldG me) := ⟨gs_yield h.pe hco hi, gsr_yld h.er⟩
def forGL (f : D → En → Option En) (b : GSm) : List D → GSm
  | [], e, l => some (.nx, e, l)
  | d :: ds, e, l => match f d e with
    | some e1 => (match b e1 l with
      | some (.nx, e2, l2) => forGL f b ds e2 l2
      | some (.ct, e2, l2) => forGL f b ds e2 l2
      | some (.bk, e2, l2) => some (.nx, e2, l2)
      | r => r)
    | none => none
def forG (mi : Mo (List D)) (f : D → En → Option En) (b : GSm) : GSm := fun e l => match mi e with
  | some (.ok ds, e') => forGL f b ds e' l
  | some (.error x, e') => some (.ex x, e', l)
  | none => none
theorem gsr_for {K : PySem.W.Frag} {w : TI} {g : TG} {f : D → En → Option En} {tb : TGn} {m : GSm} {mi : Mo (List D)} (hi : XR RI K W w mi) (hg : GR K g f) (hb : GSR K W tb m) : GSR K W (tGFor w g tb) (forG mi f m) := by
  intro S0 A0 σ0 env0 H0 k0 l0 ys0 hl0 o env' l' hm D hp0
  unfold forG at hm
  split at hm
  · rename_i ds env q0
    refine hi S0 A0 σ0 env0 H0 k0 _ _ q0 _ fun A J H le0 k st0 hJ => ?_
    have hl : Dats K (AV S0 A) H l0 ys0 := hl0.go (.le le0 st0)
    have hp := hp0.imp (.le le0 st0)
    refine ⟨fun i n ys1 σ1 H1 => n = ds.length - i ∧ i ≤ ds.length ∧ ∃ A1 e1 l1, Ok K S0 A1 σ1 e1 H1 ∧ Go A H A1 H1 ∧ Dats K (AV S0 A1) H1 l1 ys1 ∧ forGL f m (ds.drop i) e1 l1 = some (o, env', l'), ⟨ds.length, by simp, Nat.zero_le _, A, env, l0, k, .refl, hl, hm⟩, ?_⟩
    rintro i n ys1 σ1 H1 ⟨rfl, hi, A1, e1, l1, k1, g1, r1, w1⟩
    have av : ∀ {A2 : Ow} {H2 : Hp}, Go A H A2 H2 → ∀ b, AV S0 A2 b → AV S0 A b ∨ H b = none := fun g2 b z => z.elim (fun z => .inl (.inl z)) fun z => (g2.2 b z).elim (fun z => .inl (.inr z)) .inr
    have it := hJ (AV S0 A1) H1 (g1.1.mono fun b z => .inr z) (av g1) k1.trA i
    by_cases hlt : i < ds.length
    · have hd : ds[i]? = some ds[i] := List.getElem?_eq_getElem hlt
      obtain ⟨go, yl⟩ := it.1 _ hd
      rw [List.drop_eq_getElem_cons hlt] at w1
      unfold forGL at w1
      split at w1
      · rename_i e2 qf
        refine .inr ⟨go, fun ys' σ' H' => ∃ A2 e3 l3, Ok K S0 A2 σ' e3 H' ∧ Go A H A2 H' ∧ Dats K (AV S0 A2) H' l3 ys' ∧ forGL f m (ds.drop (i + 1)) e3 l3 = some (o, env', l'), fun ys' σ' H' q => ⟨ds.length - (i + 1), by omega, rfl, hlt, q⟩, fun x H3 hy => ?_⟩
        obtain ⟨ex, hx⟩ := yl x H3 hy
        refine hg S0 A1 σ1 e1 H3 (k1.ext ex) _ x hx e2 qf _ fun A2 σ2 H4 k2 l2 s2 => ?_
        have ga : Go A1 H1 A2 H4 := (Go.le .refl (.of ex)).trans (.le l2 s2)
        have g3 : Go A H A2 H4 := g1.trans ga
        have r3 := r1.go ga
        split at w1
        · rename_i e3 l3 q3
          exact hb S0 A2 σ2 e2 H4 k2 l1 ys1 r3 _ _ _ q3 _ fun A3 σ3 H5 ys3 k3 g4 r4 => ⟨A3, e3, l3, k3, g3.trans g4, r4, w1⟩
        · rename_i e3 l3 q3
          exact hb S0 A2 σ2 e2 H4 k2 l1 ys1 r3 _ _ _ q3 _ fun A3 σ3 H5 ys3 k3 g4 r4 => ⟨A3, e3, l3, k3, g3.trans g4, r4, w1⟩
        · rename_i e3 l3 q3
          cases w1
          exact hb S0 A2 σ2 e2 H4 k2 l1 ys1 r3 _ _ _ q3 _ fun A3 σ3 H5 ys3 k3 g4 r4 => hp A3 σ3 H5 ys3 k3 (g3.trans g4) r4
        · rename_i x1 x2 x3
          refine hb S0 A2 σ2 e2 H4 k2 l1 ys1 r3 _ _ _ w1 _ fun A3 σ3 H5 ys3 k3 g4 r4 => ?_
          have z := hp A3 σ3 H5 ys3 k3 (g3.trans g4) r4
          cases o with
          | nx => exact absurd w1 (x1 _ _)
          | rt d => exact z
          | bk => exact absurd w1 (x3 _ _)
          | ct => exact absurd w1 (x2 _ _)
          | ex x => exact z
          | rf l => exact fun p vs hp => z p vs (g3.1.dom p hp)
      · cases w1
    · have e : i = ds.length := by omega
      rw [List.drop_eq_nil_of_le (by omega)] at w1
      cases w1
      exact .inl ⟨it.2 e, hp A1 σ1 H1 ys1 k1 g1 r1⟩
  · rename_i x e' q0
    cases hm
    exact hi S0 A0 σ0 env0 H0 k0 _ _ q0 _ fun A1 dd H1 le k1 st ex => hp0 A1 σ0 H1 ys0 k1 (.le le st) (hl0.go (.le le st)) dd ex
  · cases hm
theorem dgs_for {iter tgt : Expr} {w : TI} {g : TG} {f : D → En → Option En} {tb : TGn} {m : GSm} {mi : Mo (List D)} (hp : PassesOwn (model X.prog X.w) X.A X.env X.xe) (hc : X.calm = true) (hi : DI X W tgt iter w mi) (hg : DG X tgt g f) (hb : DGSs X W body tb m)
    (hs : ∀ x, foldedSetIterable iter X.env x = pure x := by intro _; rfl) : DGS X W (.For tgt iter body [] pos) (tGFor w g tb) (forG mi f m) := ⟨gs_for hp hc hi.pi hg.pg hb.gs hs, gsr_for hi.ir hg.gr hb.sr⟩
def outG : Out × En × List D → Option (List D)
  | (.nx, _, l) => some l
  | (.rt .non, _, l) => some l
  | _ => none
def runG (N : List Str) (n : Nat) (m : GSm) (ds : List D) : Option (List D) := if ds.length = n then (m (stE N ds) []).bind outG else none
theorem runG_some {N : List Str} {n : Nat} {m : GSm} {ds l : List D} (h : runG N n m ds = some l) : ds.length = n ∧ ∃ o env', m (stE N ds) [] = some (o, env', l) ∧ (o = .nx ∨ o = .rt .non) := by
  unfold runG at h
  split at h
  · rename_i hl
    cases q : m (stE N ds) [] with
    | none => rw [q] at h; cases h
    | some z =>
      rw [q] at h
      obtain ⟨o, e, l2⟩ := z
      cases o with
      | nx => cases h; exact ⟨hl, _, _, rfl, .inl rfl⟩
      | rt d =>
        cases d <;> first | (cases h; exact ⟨hl, _, _, rfl, .inr rfl⟩) | cases h
      | _ => cases h
  · cases h
def spG (K : PySem.W.Frag) (f : List D → Option (List D)) : SpG := fun vs H Q _ => ∃ (S : Addr → Prop) (ds l : List D), (∀ b, S b → H b ≠ none) ∧ Dats K S H ds vs ∧ f ds = some l ∧ ∀ ys H', Ext H H' → Dats K S H' l ys → Q ys H'
/-- the body's run keeps the promise -/
theorem spG_run {K : PySem.W.Frag} {N ps : List Str} {n : Nat} {m : GSm} {t : TGn} {vs : List V} {H : Hp} {Q : List V → Hp → Prop} {E : XK} {W : WX} (hps : ps.length ≤ N.length) (hn : n = ps.length) (h : GSR K W t m) (q : spG K (runG N n m) vs H Q E) :
    t { nx := fun ys _ H' => Q ys H', rt := fun ys v H' => v = .non ∧ Q ys H' } [] (L2.start N vs) H := by
  obtain ⟨S, ds, l, h1, h2, h3, h4⟩ := q
  obtain ⟨hl, o, env', hm, ho⟩ := runG_some h3
  refine h S (fun _ => none) _ _ H (ok_start h1 h2 (by omega)) [] [] rfl o env' l hm _ fun A' σ' H' ys k' g r => ?_
  have ex : Ext H H' := fun b o e => g.1.at_ b o (fun ⟨j, z⟩ => (nomatch z)) e
  have z := h4 ys H' ex (r.weak fun b => .inl)
  rcases ho with rfl | rfl
  · exact z
  · exact fun v hv => ⟨hv, z⟩
end
end PD
namespace PD
open PySem PySem.Spec PyProof.Rows PySem.Calls L2 GenW
/-- a generator that has not begun: it runs wherever there is room and no repr is under way -/
def MadeG (P : Program) (wd : World) (k : Nat) (outer : List Env) (H : Hp) (s : Shared) (Q : List V → Hp → Prop) (E : XK) (u : Value) (s' : Shared) : Prop :=
  ∃ (a : Addr) (g : Nat) (c : Code), u = .ref a ∧ (s.heap.objs.size ≤ a ∧ a < s'.heap.objs.size) ∧ (s'.heap.IsGen a g ∧ s'.gens[g]? = some (.fresh c)) ∧ (s'.os = s.os ∧ AllBare s'.gens ∧ s'.heap.NoLimit) ∧ (∀ b o, s.heap.get? b = some o → s'.heap.get? b = some o) ∧
    ∀ (A : Around) (S : Addr) (s2 : Shared), RoomG k A → A.frames = some outer → s'.heap.objs.size ≤ S → (∀ b o, s'.heap.get? b = some o → s2.heap.get? b = some o) → (∃ c, s2.heap.get? S = some (lstObj #[] c)) → s2.os = s.os → AllBare s2.gens →
      Seg (model P wd) A (REnd P wd outer H s [] S a g Q E) (YItem s S a g) sizeLine s2 c ((model P wd).den c) [] s2
structure FnY (P : Program) (wd : World) (K : PySem.W.Frag) (mg : Str → Option Value) (base : Heap) (k : Nat) (f : Addr) (fd : FuncData) (ps : List Str) (sp : SpG) : Prop where
  len : ∀ xs H Q E, sp xs H Q E → xs.length = ps.length
  run : ∀ (A : Around) (outer : List Env) (s : Shared) (H : Hp) (us : List Value) (vs : List V) (Q : List V → Hp → Prop) (E : XK), RoomG k A → Env0 P wd K mg base A outer s H → BindsTo s fd ⟨us, []⟩ (ps.zip us) → Vals vs us → sp vs H Q E →
    codeAny (model P wd) A (.call (.ref f) ⟨us, []⟩) (fun r s' => match r with | .ok (.ret u) => MadeG P wd k outer H s Q E u s' | _ => False) s
section
variable {P : Program} {wd : World} {K : PySem.W.Frag} {mg : Str → Option Value} {base : Heap}
/-- the frame is made; the object of the generator is laid -/
theorem made_gen {k : Nat} {f : Addr} {qual : Str} {body : List Stmt} {scope : Scope} {cdv : Value} {N ps : List Str} {sp : SpG} (S : GScope N ps scope)
    (walk : ∀ (A : Around) (outer : List Env) (s : Shared) (H : Hp) (vs : List V) (Q : List V → Hp → Prop) (E : XK) (pn : List (Addr × Obj)), RoomG k (A.deeper (envOfC qual scope s.heap.objs.size f cdv)) → sp vs H Q E →
      ∃ t, GSs (gcxOf P wd K mg base N qual scope f cdv A outer s H E pn) body t ∧ t { nx := fun out _ H' => Q out H', rt := fun out v H' => v = .non ∧ Q out H' } [] (L2.start N vs) H)
    {A : Around} {outer : List Env} {s s1 : Shared} {H : Hp} {us : List Value} {vs : List V} {Q : List V → Hp → Prop} {E : XK} (hh : A.handled = none) (en : Env0 P wd K mg base A outer s H) (hl : vs.length = ps.length) (r : Vals vs us) (hsp : sp vs H Q E)
    (x : InCallC s s.heap.objs.size (bindL (envOfC qual scope s.heap.objs.size f cdv).kindOf (ps.zip us) fun _ => none) (cellsFrom (s.heap.objs.size + 1) scope.names []) (bindC (envOfC qual scope s.heap.objs.size f cdv).kindOf (ps.zip us) fun _ => none) s1)
    (go : Obj) (nm qn : Value) (tk : Nat) (g1 : go.cls = .type "generator") (g2 : go.data = .fields #[.int s1.gens.size 0, nm, qn]) (g3 : go.slots = #[]) (g4 : ∀ h : Heap, (h.push go).get? h.objs.size = some go) :
    MadeG P wd (k + 1) outer H s Q E (.ref s1.heap.objs.size) { s1 with gens := s1.gens.push (.fresh (.func body (envOfC qual scope s.heap.objs.size f cdv))), toks := tk, heap := s1.heap.push go } := by
  let a := s1.heap.objs.size
  obtain ⟨h1, tk1, em1, _⟩ := x.done
  have o1 : s1.os = s.os := by rw [em1]
  have gn1 : s1.gens = s.gens := by rw [em1]
  have lt1 : s.heap.objs.size < a := x.toInCall.ns.lt
  have kp1 := x.toInCall.keep
  have lim : s.heap.NoLimit := en.mod.nolimit.keeps fun b o e => (en.bs b o e).1
  have isg : ∀ h : Heap, h.get? a = some go → h.IsGen a s1.gens.size := fun h e => ⟨go, nm, qn, e, g1, g2, g3⟩
  refine ⟨a, s1.gens.size, _, rfl, ⟨Nat.le_of_lt lt1, ?_⟩, ⟨isg _ (g4 _), Array.getElem?_push_size ..⟩, ⟨o1, AllBare.push (by rw [gn1]; exact en.bare) rfl, (lim.keeps kp1).keeps fun b o e => Heap.get?_push_of_some _ e⟩, fun b o e => Heap.get?_push_of_some _ (kp1 b o e), ?_⟩
  · show a < (s1.heap.push go).objs.size
    rw [Heap.size_push]; exact Nat.lt_succ_self _
  intro B Sx s2 room hfr hSx hk2 hSo hos hba
  have e0w : Env0 P wd K mg base B outer s H := ⟨hfr, en.mod, en.bs, en.bsz, en.funs, en.frf, en.hok, en.bare⟩
  let pn : List (Addr × Obj) := [(a, go)]
  let X := gcxOf P wd K mg base N qual scope f cdv B outer s H E pn
  obtain ⟨t, ht, hq⟩ := walk B outer s H vs Q E pn (room.deeper _) hsp
  have I1 : Inv (gcxOf P wd K mg base N qual scope f cdv B outer s H E []) [] (L2.start N vs) H s1 := inv_startG S room.hd e0w hl r x
  have kq2 : ∀ b o, s1.heap.get? b = some o → s2.heap.get? b = some o := fun b o e => hk2 b o (Heap.get?_push_of_some _ e)
  have I2 : Inv (gcxOf P wd K mg base N qual scope f cdv B outer s H E []) [] (L2.start N vs) H s2 :=
    I1.call' (ch := []) (hos.trans o1.symm) (Un.kept kq2) (I1.hok.kept kq2) hba fun b z => by simp at z
  have hSz : a < Sx := by
    have q : (s1.heap.push go).objs.size ≤ Sx := hSx
    rw [Heap.size_push] at q
    exact q
  obtain ⟨cS, heS⟩ := hSo
  have hea : s2.heap.get? a = some go := hk2 a go (g4 _)
  have hgd : ∀ v, go.data ≠ .cell v := fun v q => by rw [g2] at q; cases q
  -- what is younger than the frame is none of its own
  have young : ∀ b, a ≤ b → H b = none ∧ b ≠ s.heap.objs.size ∧ b ∉ frs outer ∧ s.heap.objs.size ≤ b ∧ ∀ y c, (cellsFrom (s.heap.objs.size + 1) scope.names []).lookup y = some c → c ≠ b := fun b hb => by
    refine ⟨I1.hok.fresh hb, Nat.ne_of_gt (Nat.lt_of_lt_of_le lt1 hb), I1.nofs hb, Nat.le_trans (Nat.le_of_lt lt1) hb, fun y c e z => ?_⟩
    obtain ⟨v, ob, ho, _⟩ := I1.cell y c e
    have := Heap.lt_size ho
    rw [z] at this
    exact absurd (Nat.lt_of_lt_of_le this hb) (Nat.lt_irrefl _)
  have hG : GI X Sx [] [] (L2.start N vs) H s2 := by
    refine ⟨#[], cS, .nil, Inv.pinnedG I2 fun p hp => ?_⟩
    rcases List.mem_append.mp hp with z | z
    · rw [List.mem_singleton.mp z]
      obtain ⟨v1, v2, v3, _, _⟩ := young a (Nat.le_refl _)
      exact ⟨hea, v1, v2, v3, hgd⟩
    · rw [List.mem_singleton.mp z]
      obtain ⟨v1, v2, v3, _, _⟩ := young Sx (Nat.le_of_lt hSz)
      exact ⟨heS, v1, v2, v3, fun v q => by cases q⟩
  have hAp : Apart X Sx := by
    obtain ⟨_, v2, _, y4, y5⟩ := young Sx (Nat.le_of_lt hSz)
    exact ⟨y4, v2, y5⟩
  have hpn : ∀ p ∈ pn, p.1 ≠ Sx := fun p hp => by
    rw [List.mem_singleton.mp hp]; exact Nat.ne_of_lt hSz
  have pinned : ∀ {ip : List (Addr × Obj)} {out : List V} {s' : Shared} {σ' : L2.St} {H' : Hp}, GI X Sx ip out σ' H' s' → s'.heap.IsGen a s1.gens.size := fun {ip out s' σ' H'} ⟨arr, cc, _, iv⟩ =>
    isg _ (iv.pin (a, go) (List.mem_append_left _ (List.mem_singleton.mpr rfl))).1
  refine seg_func ?_
  refine seg_imp (R := L2.GR X Sx (fun out v H' => v = .non ∧ Q out H') fun e s' => L2.CX P wd outer H s E e s' ∧ ∀ p ∈ pn, s'.heap.get? p.1 = some p.2) (Y := GY X Sx) (fun n s₀ r s1' hR => ?_) (fun n s₀ v s1' kap kap' hkk hY => ?_) sizeLine ?_
  · cases r with
    | error e =>
      obtain ⟨q1, q2⟩ := hR
      exact .inr ⟨e, rfl, q1, isg _ (q2 (a, go) (List.mem_singleton.mpr rfl))⟩
    | ok fl =>
      cases fl with
      | next => exact False.elim hR
      | brk => exact False.elim hR
      | cont => exact False.elim hR
      | ret u =>
        obtain ⟨out, v, ip, σ', H', hn, gi, rv, ev, fin⟩ := hR
        subst ev
        have eu : u = Value.none := rv
        subst eu
        obtain ⟨a1, _, _, arr, cc, ra, ea⟩ := gi.at
        obtain ⟨_, _, _, iv⟩ := gi
        exact .inl ⟨.inl rfl, H', out, arr, cc, iv.os, iv.bare, iv.base, iv.hok, a1, ea, ra, by omega, fin⟩
  · obtain ⟨out, xx, ip, σ', H', hn, h2, gi, h3⟩ := hY
    obtain ⟨_, _, _, arr, cc, ra, ea⟩ := gi.at
    have hg := pinned gi
    obtain ⟨_, _, _, iv⟩ := gi
    have hsz : arr.size = out.length := by
      have e1 := ra.length
      have e2 : arr.toList.length = arr.size := by simp
      omega
    exact ⟨iv.os, iv.bare, iv.nolimit, hg, ⟨arr, cc, ea, by rw [hsz]; exact hn⟩, fun s' z => hkk _ _ (h3 s' z)⟩
  · refine ht.run B Sx [] _ sizeLine [] s2 _ [] _ _ id id s2 (L2.start N vs) H _ ⟨hpn, fun p hp => (by simp at hp), hAp, over_func, rfl, rfl, rfl⟩ (Nat.add_zero _) ⟨fun n out s₀ s' fl hn hs => ?_, fun n s₀ e s' hx => ?_⟩ hG hq
    · cases fl with
      | next =>
        obtain ⟨σ', H', gi, fin⟩ := hs
        exact seg_end (.ok (.ret .none)) ⟨out, .non, [], σ', H', hn, gi, rfl, rfl, fin⟩
      | brk => exact hs.elim fun _ z => z.elim fun _ z => z.2.elim
      | cont => exact hs.elim fun _ z => z.elim fun _ z => z.2.elim
      | ret u =>
        obtain ⟨v, σ', H', gi, rv, ev, fin⟩ := hs
        exact seg_end (.ok (.ret u)) ⟨out, v, [], σ', H', hn, gi, rv, ev, fin⟩
    · refine seg_wrap ?_
      rw [over_func]
      refine wpAny_mono (show wpAny (model P wd) (B.deeper (envOfC qual scope s.heap.objs.size f cdv)) (leaving (envOfC qual scope s.heap.objs.size f cdv) e) (fun _ s'' => L2.CX P wd outer H s E e s'' ∧ ∀ p ∈ pn, s''.heap.get? p.1 = some p.2) (fun _ _ => False) s' from hx) (fun _ s'' q => ?_) fun _ s'' q => q.elim
      exact seg_end (.error e) q
theorem auto_G {x qual : Str} {st : Stmt} {f : Addr} {fd : FuncData} {N ps : List Str} {k n : Nat} {m : GSm} (F : Fun K x qual st f fd) (S : GScope N ps (defScope st)) (hn : n = ps.length)
    (body : ∀ (cdv : Value) (A : Around) (outer : List Env) (s : Shared) (H : Hp) (E : XK) (pn : List (Addr × Obj)), RoomG k (A.deeper (envOfC qual (defScope st) s.heap.objs.size f cdv)) →
      ∃ t m', DGSs (gcxOf P wd K mg base N qual (defScope st) f cdv A outer s H E pn) (fun c d _ H => E c d H) (defBody st) t m' ∧ m' = m) :
    FnY P wd K mg base (k + 1) f fd ps (spG K (runG N n m)) := by
  obtain ⟨_, _, _, _, _, _, cdv, _, _, e, look, cod⟩ := F.ex
  subst e
  have len : ∀ vs H Q E, spG K (runG N n m) vs H Q E → vs.length = ps.length := fun vs H Q E h => by
    obtain ⟨S, ds, l, h1, h2, h3, _⟩ := h
    rw [← h2.len, ← hn]; exact (runG_some h3).1
  have hps : ps.length ≤ N.length := by have := congrArg List.length S.pre; rw [List.length_take] at this; omega
  refine ⟨len, fun A outer s H us vs Q E room en hb r hsp => ?_⟩
  have old : ∀ b o, base.get? b = some o → s.heap.get? b = some o := fun b o e => (en.bs b o e).1
  have kinds : ∀ y ∈ ps.zip us, (defScope st).names.lookup y.1 = some .local ∨ ((defScope st).names.lookup y.1 = some .cell ∧ ((cellsFrom (s.heap.objs.size + 1) (defScope st).names []).lookup y.1).isSome = true) := by
    rintro ⟨x, u⟩ hy
    exact (S.par x (List.of_mem_zip hy).1).imp id fun c => ⟨c, PySem.W.cellsFrom_some _ _ _ (.inl c)⟩
  refine codeAny_call_generator room.depth ((en.mod.kin.keeps old) _ _ look) rfl S.co S.gen rfl (PySem.W.codeRec_of (en.mod.kin.keeps old) cod) (hb _ _ _ _ ?_)
  refine wpAny_newFunctionEnv_cells S.kind kinds fun envv hEnv s1 made => ?_
  subst hEnv
  refine ⟨(en.mod.nolimit.keeps old).keeps made.toInCall.keep, ?_⟩
  exact made_gen S (fun B outer' s' H' vs' Q' E' pn hr hs => by
    obtain ⟨t, m', ht, rfl⟩ := body cdv B outer' s' H' E' pn hr
    exact ⟨t, ht.gs, spG_run hps hn ht.sr hs⟩) room.hd en (len _ _ _ _ hsp) r hsp made _ _ _ _ rfl rfl rfl fun h => Heap.get?_push_size _ rfl
end
end PD
namespace PD
open PySem PySem.Spec PyProof.Rows PySem.Calls L2 GenW
theorem drain_list {P : Program} {w : World} {outer : List Env} {H : Hp} {sc s : Shared} {Q : List V → Hp → Prop} {EX : XK} {B : Around} {k : Nat} {u : Value} {Q' : Value → Shared → Prop} {E : Value → Shared → Prop}
    (hr : RoomG (k + 3) B) (hfr : B.frames = some outer) (h : MadeG P w k outer H sc Q EX u s)
    (hQ : ∀ S s' acc c H' ys, s.heap.objs.size ≤ S → s'.heap.get? S = some (lstObj acc c) → Vals ys acc.toList → ys.length ≤ sizeLine → s'.os = sc.os → AllBare s'.gens → Un (frs outer) [] H H' sc.heap s'.heap → HOk P w H' s'.heap → H' S = none → Q ys H' → Q' (.ref S) s')
    (hexc : ∀ e s' g, L2.CX P w outer H sc EX e s' → NotStop (model P w) e s'.heap ∧ E e (s'.setGen g .finished)) :
    wpAny (model P w) B (call (.type "list") [u]) Q' E s := by
  obtain ⟨a, g, c, rfl, ⟨_, ha⟩, ⟨hg, hgs⟩, ⟨hos, hb, hl⟩, hkp, wake⟩ := h
  have hSa : s.heap.objs.size ≠ a := Nat.ne_of_gt ha
  have hSc : s.heap.objs.size ≠ cStatics := Nat.ne_of_gt (let ⟨_, hn, _⟩ := hl; hn.lt)
  refine callType_codes (Q₁ := fun obj s₁ => obj = .ref s.heap.objs.size ∧ s₁ = { s with heap := s.heap.push { cls := .type "list", data := .seq #[] } }) PySem.F.called_list (PySem.F.typeCall_list_1 _) PySem.F.entry_list_init
    (code_list_new _ ⟨rfl, rfl⟩) fun obj s₁ q₁ => ?_
  obtain ⟨rfl, rfl⟩ := q₁
  have l1 : (s.heap.push { cls := .type "list", data := .seq #[] }).get? s.heap.objs.size = some { cls := .type "list", data := .seq #[] } := Heap.get?_push_size _ rfl
  have l2 := Heap.get?_update_self (Obj.mapSeq (fun _ => (#[] : Array Value))) l1 rfl
  have l3 := Heap.get?_update_self (Obj.mapSeq (·.push Value.none)) l2 rfl
  have l4 := Heap.get?_update_self (Obj.mapSeq (·.pop)) l3 rfl
  have upd9 : ∀ (h : Heap) (f : Obj → Obj), (∀ b o, s.heap.get? b = some o → h.get? b = some o) → ∀ b o, s.heap.get? b = some o → (h.update s.heap.objs.size f).get? b = some o := fun h f q b o e =>
    (Heap.get?_update_other _ _ (Ne.symm (Nat.ne_of_lt (Heap.lt_size e)))).trans (q b o e)
  have k2 := upd9 (s.heap.push { cls := .type "list", data := .seq #[] }) (Obj.mapSeq (fun _ => (#[] : Array Value))) fun b o e => Heap.get?_push_of_some _ e
  have k4 := upd9 _ (Obj.mapSeq (·.pop)) (upd9 _ (Obj.mapSeq (·.push Value.none)) k2)
  refine ⟨⟨_, l1, rfl⟩, PySem.F.args_list_init_2 _ _, ?_⟩
  show wpAny _ B.in1.in1 (do let old ← Builtin.List.listItems (.ref s.heap.objs.size); Builtin.List.listUpdate (.ref s.heap.objs.size) (fun _ => #[]); letGo old.toList.reverse; Builtin.List.listExtendWith (.ref s.heap.objs.size) (.ref a) .none) _ _ _
  refine wpAny_bind ?_
  unfold Builtin.List.listItems
  refine wpAny_bind (wpAny_seqItems l1 rfl (wpAny_pure ?_))
  show wpAny _ B.in1.in1 (updateSeq s.heap.objs.size (fun _ => #[]) >>= fun _ => letGo (#[] : Array Value).toList.reverse >>= fun _ => Builtin.List.listExtendWith (.ref s.heap.objs.size) (.ref a) .none) _ _ _
  refine wpAny_bind (wpAny_updateSeq l1 rfl ?_ (Nat.zero_le _) (Nat.zero_le _))
  refine wpAny_bind (wpAny_letGo ?_)
  unfold Builtin.List.listExtendWith
  have ty2 : ∀ h : Heap, (∀ b o, s.heap.get? b = some o → h.get? b = some o) → h.IsGen a g := fun h q => hg.keeps q
  refine wpAny_bind (wpAny_typeOf (Heap.IsGen.typeIs (s := { s with heap := _ }) (ty2 _ k2)) ?_)
  have m1 : Builtin.List.listSameRef (.ref s.heap.objs.size) (.ref a) = false := by simp [Builtin.List.listSameRef, hSa]
  have n2 : (Value.type "generator" == Value.type "list") = false := by decide
  have n3 : (Value.type "generator" == Value.type "tuple") = false := by decide
  simp only [m1, n2, n3, Bool.or_false, Bool.false_eq_true, if_false]
  refine wpAny_bind (wpAny_pyIter_gen (s := { s with heap := _ }) (ty2 _ k2) ?_)
  refine wpAny_bind (wpAny_holding ?_)
  unfold Builtin.List.listLengthHint
  refine wpAny_bind (wpAny_specialOf (Heap.IsGen.typeIs (s := { s with heap := _ }) (ty2 _ k2)) PySem.F.gen_no_len ?_)
  show wpAny _ B.in1.in1 (specialOf (Value.ref a) (Str.ofString "__length_hint__") >>= _) _ _ _
  refine wpAny_bind (wpAny_specialOf (Heap.IsGen.typeIs (s := { s with heap := _ }) (ty2 _ k2)) PySem.F.gen_no_hint ?_)
  refine wpAny_pure ?_
  show wpAny _ B.in1.in1 (rule "list.extend.makes-room" >>= fun _ => Builtin.List.listTouch (.ref s.heap.objs.size) >>= fun _ => again (.builtin "list.extend.loop" ⟨[.ref s.heap.objs.size, .ref a, .none], []⟩)) _ _ _
  refine wpAny_bind (wpAny_rule ?_)
  refine wpAny_bind ?_
  show wpAny _ B.in1.in1 (updateSeq s.heap.objs.size (·.push .none) >>= fun _ => updateSeq s.heap.objs.size (·.pop)) _ _ _
  refine wpAny_bind (wpAny_updateSeq l2 rfl ?_ (Nat.zero_le _) (Nat.succ_le_succ (Nat.zero_le _)))
  refine wpAny_updateSeq l3 rfl ?_ (show 1 ≤ sizeLine by decide) (Nat.zero_le _)
  refine wpAny_pure ⟨plainId_quiet PySem.F.plain_extend_loop _, ?_⟩
  have dp := hr.r.dp
  have un := hr.r.un
  refine drain (P := P) (w := w) (outer := outer) (H := H) (sc := sc) (ex := []) (Q := Q) (EX := EX) (A := B.in1) (g := g) hr.hd (by show B.depth < _; omega) hSa hSc
    (fun s' arr c H' ys q1 q2 q3 q4 q5 q6 q7 q8 q9 => ⟨rfl, hQ _ s' arr c H' ys (Nat.le_refl _) q1 q2 q3 q4 q5 q6 q7 q8 q9⟩) (fun e s' hc => hexc e s' g hc)
    sizeLine _ (ty2 _ k4) (hl.keeps k4) ⟨_, hgs, rfl, ?_⟩
  refine wake _ _ _ ⟨⟨hr.hd, ?_, ?_⟩, hr.g⟩ hfr (Nat.le_refl _) k4 ⟨_, l4⟩ hos (allBare_setGen (s := { s with heap := _ }) hb rfl)
  · show B.depth + 3 * k + 5 < _
    omega
  · show B.units + 1 + 1 + 1 + 16 * k + 200 < _
    omega
/-- a generator method of an own class -/
def MthY (P : Program) (w : World) (K : PySem.W.Frag) (mg : Str → Option Value) (base : Heap) (C : Addr) (m : Str) (k : Nat) (g : List D → Option (List D)) : Prop :=
  ∃ (f : Addr) (fd : FuncData) (ps : List Str), Meth K C m f ∧ FnY P w K mg base k f fd ps (spG K g) ∧ Binds K fd ps []
theorem mthY_of {P : Program} {w : World} {K : PySem.W.Frag} {mg : Str → Option Value} {base : Heap} {C : Addr} {m qual : Str} {st : Stmt} {ps : List Str} {k : Nat} {g : List D → Option (List D)} (D : MethIn K C m qual st ps) (h : ∀ f fd, Fun K m qual st f fd → FnY P w K mg base k f fd ps (spG K g)) : MthY P w K mg base C m k g :=
  let ⟨f, fd, F, hm, hb⟩ := D
  ⟨f, fd, ps, hm, h f fd F, hb⟩
def tListM (C : Addr) (m : Str) (sp : SpG) (ta : TE) (t : TA) : TE := fun σ H Q => ta σ H fun x H1 => ∃ a dx fs, x = .ref a ∧ H1 a = some (.ins C dx fs) ∧ fs.lookup m = none ∧
  t σ H1 fun vs H2 => sp (x :: vs) H2 (fun out H3 => ∀ p, H3 p = none → Q (.ref p) (L2.upd H3 p (.lst out))) E0
section
variable {X : Cx} {W : WX} {C : Addr} {k : Nat} {nm m : Str} {o e : Expr} {rs : List Expr} {ta te : TE} {t : TA} {p pos pos' ap : Pos} {g : List D → Option (List D)} {mo : Mo D} {ms : Mo (List D)}
theorem pe_listM {pb : Sem Bool} (he : PE X o ta) (c : Cls X.K C) (G : MthY X.prog X.w X.K X.mg X.base C m k g) (hpa : PA X (e :: rs) t) (hr : RoomG (k + 3) X.A) (hg : Gl X nm) (hmg : X.mg nm = none) (hv : bootBuiltins nm = some (.type "list"))
    (hst : starEach (e :: rs) X.env = (false, eval e X.env) :: starEach rs X.env := by rfl) (hpl : (backTo pos' (starEach rs X.env)).any (·.1) = false := by rfl)
    (ht : eval (.Call (.Attribute o m ap) (e :: rs) [] pos') X.env = (do
      let ov ← eval o X.env
      standAt ap.atName
      let (f, first) ← holding [ov] (getMethod ov m pb)
      callWith pos' f first (backTo pos' (starEach (e :: rs) X.env)) (backToKw pos' (keywordEach [] X.env))) := by rfl)
    (hnm : nm ≠ "__name__" := by decide) (hdb : (nm == ("__debug__" : Str)) = false := by decide)
    (h1 : starEach [(Expr.Call (.Attribute o m ap) (e :: rs) [] pos')] X.env = (false, eval (.Call (.Attribute o m ap) (e :: rs) [] pos') X.env) :: starEach [] X.env := by rfl) :
    PE X (.Call (.Name nm p) [.Call (.Attribute o m ap) (e :: rs) [] pos'] [] pos) (tListM C m (spG X.K g) ta t) := by
  refine ⟨fun pins s σ H Q I hz => ?_⟩
  obtain ⟨f, fd, ps, hm, F, hb⟩ := G
  refine wpAny_Call_Name_kw (ld_blt I hg hmg hv ?_ hnm hdb)
  refine PyProof.Rows.callWith_type1 ?_ h1 rfl
  rw [h1]
  show wpAny _ _ (spliced ((false, eval (.Call (.Attribute o m ap) (e :: rs) [] pos') X.env) :: backTo pos (starEach [] X.env))) _ _ s
  refine Calls.spliced_cons ?_
  refine PySem.W.methodCall_KW (pl := pb) (thn (he.run pins s σ H _ I hz) fun u s1 ⟨x, H1, J1, rx, a, dx, fs, ex, ha, l, q⟩ => ?_) ht
  subst ex
  obtain rfl : u = Value.ref a := rx
  refine getmeth_ok J1 ha c hm l ?_
  refine PySem.W.callWith_K (first := [.ref a]) (h₀ := X.base) I.ok.mod.kin hm.kp (thn (hpa.run pos' pins s1 σ H1 _ J1 q) fun uu s2 ⟨vs, H2, J2, r, q2⟩ => ⟨J2.kIn, ?_⟩) hst hpl
  have r2 : Vals (V.ref a :: vs) (Value.ref a :: uu) := .cons rfl r
  have hl2 : (Value.ref a :: uu).length = ps.length := by rw [← r2.length]; exact F.len _ _ _ _ q2
  refine wpAny_call (codeAny_mono (F.run X.A X.stack s2 H2 _ _ _ E0 (hr.mono (by omega)) J2.env0 (by
    have := hb s2 (.ref a :: uu) J2.kIn (by simpa using hl2)
    simpa using this) r2 q2) fun r s3 hz => ?_)
  cases r with
  | error e => exact False.elim hz
  | ok fl =>
    cases fl with
    | next => exact False.elim hz
    | brk => exact False.elim hz
    | cont => exact False.elim hz
    | ret u =>
      refine Calls.spliced_nil ?_
      refine drain_list hr J2.ok.frames hz (fun S s' acc c' H' ys q0 q1 q3 hl q4 q5 q6 q7 q8 q9 => ?_) fun e s' g hc => False.elim ?_
      · have hsz : s2.heap.objs.size ≤ s3.heap.objs.size := by
          obtain ⟨a, g, c, _, ⟨h1, h2⟩, _⟩ := hz
          exact Nat.le_trans h1 (Nat.le_of_lt h2)
        exact ⟨.ref S, L2.upd H' S (.lst ys), J2.drained (Nat.le_trans hsz q0) hl q1 q3 .nil q4 q5 q6 q7 q8, rfl, q9 S q8⟩
      · obtain ⟨_, _, _, _, _, _, _, _, _, _, _, _, _, z⟩ := hc
theorem de_listM {pl : Sem Bool} (c : Cls X.K C) (G : MthY X.prog X.w X.K X.mg X.base C m k g) (hr : RoomG (k + 3) X.A) (ho : DE X W o ta mo) (hpa : DA X W (e :: es) t ms) (hg : Gl X nm) (hmg : X.mg nm = none) (hv : bootBuiltins nm = some (.type "list"))
    (hst : starEach (e :: es) X.env = (false, eval e X.env) :: starEach es X.env := by rfl) (hpl : (backTo pos' (starEach es X.env)).any (·.1) = false := by rfl)
    (ht : eval (.Call (.Attribute o m apos) (e :: es) [] pos') X.env = (do
      let ov ← eval o X.env
      standAt apos.atName
      let (fn, self) ← holding [ov] (getMethod ov m pl)
      callWith pos' fn self (backTo pos' (starEach (e :: es) X.env)) (backToKw pos' (keywordEach [] X.env))) := by rfl)
    (hnm : nm ≠ "__name__" := by decide) (hdb : (nm == ("__debug__" : Str)) = false := by decide)
    (h1 : starEach [(Expr.Call (.Attribute o m apos) (e :: es) [] pos')] X.env = (false, eval (.Call (.Attribute o m apos) (e :: es) [] pos') X.env) :: starEach [] X.env := by rfl) :
    DE X W (.Call (.Name nm p) [.Call (.Attribute o m apos) (e :: es) [] pos'] [] pos) (tListM C m (spG X.K g) ta t) (mo.bind fun d => (insM C m d).bind fun _ => ms.bind fun ds => Mo.lift ((g (d :: ds)).map .lst)) := by
  refine ⟨pe_listM ho.pe c G hpa.pa hr hg hmg hv hst hpl ht hnm hdb h1, ?_⟩
  refine XR.bind (t2 := fun x σ (H1 : Hp) (Q : VK) => ∃ a dx fs, x = V.ref a ∧ H1 a = some (.ins C dx fs) ∧ fs.lookup m = none ∧ t σ H1 fun vs H2 => spG X.K g (x :: vs) H2 (fun out H3 => ∀ p, H3 p = none → Q (.ref p) (L2.upd H3 p (.lst out))) E0) ho.er ?_
  intro S0 A σ env H k d v hd r env' hm Q hp
  rcases Mo.bind_some hm with ⟨z, e1, q1, q2⟩ | ⟨y, e1, q1, q2⟩
  · obtain ⟨⟨fs, l, rfl, hl⟩, w2⟩ := insM_some q1
    cases w2
    obtain ⟨a, dx, vs, rfl, ha', hs, hz, hdl⟩ := id hd
    refine ⟨a, dx, _, rfl, ha', lookup_zip_none hdl hl, ?_⟩
    rcases Mo.bind_some q2 with ⟨ds, e2, q3, q4⟩ | ⟨y, e1, q3, q4⟩
    · obtain ⟨w3, w4, w5⟩ := Mo.lift_some q4
      cases w5
      cases qg : g (.ins C fs l :: ds) with
      | none => rw [qg] at w4; cases w4
      | some out =>
        rw [qg] at w4; cases w4
        refine hpa.er S0 A σ _ H k _ _ q3 _ fun A1 ws H1 le k1 st hv => ?_
        have hd1 : Dat X.K (AV S0 A1) H1 (.ins C fs l) (.ref a) := Dat.step (fun b z => .inl (le.av z)) (st.mono fun b z => .inr z) _ _ hd
        refine ⟨AV S0 A1, .ins C fs l :: ds, out, k1.trA, ⟨_, ws, rfl, hd1, hv⟩, qg, fun ys H2 ex hys p hn => ?_⟩
        have k2 := k1.ext ex
        exact hp A1 _ _ le (k2.ext (Ext.upd hn)) ((st.trans (.of ex)).trans (.of (Ext.upd hn))) (dat_new k2.trA hn hys)
    · cases q4
      exact hpa.er S0 A σ _ H k _ _ q3 _ fun A1 dd H1 le k1 st ex => hp A1 dd H1 le k1 st ex
  · obtain ⟨_, w2⟩ := insM_some q1
    cases w2
end
end PD
namespace PD
open PySem PySem.Spec PyProof.Rows PySem.Calls L2
def PrY (P : Program) (w : World) (K : PySem.W.Frag) (mg : Str → Option Value) (base : Heap) (C : Addr) (f : Str) (k : Nat) (fm : List D → Option (Except Ex D)) : Prop :=
  ∃ (p g : Addr) (fd : FuncData) (ps : List Str), PropOf K C f p g ∧ FnG P w K mg base (L2.CX P w) k g fd ps (spP K fm) ∧ Binds K fd ps []
/-- the getter stands in the class behind @property -/
def PrIn (K : PySem.W.Frag) (C : Addr) (f qual : Str) (st : Stmt) (ps : List Str) : Prop := ∃ p g fd, Fun K f qual st g fd ∧ PropOf K C f p g ∧ Binds K fd ps []
theorem prY_of {P : Program} {w : World} {K : PySem.W.Frag} {mg : Str → Option Value} {base : Heap} {C : Addr} {f qual : Str} {st : Stmt} {ps : List Str} {k : Nat} {fm : List D → Option (Except Ex D)} (D : PrIn K C f qual st ps) (h : ∀ g fd, Fun K f qual st g fd → FnG P w K mg base (L2.CX P w) k g fd ps (spP K fm)) : PrY P w K mg base C f k fm :=
  let ⟨p, g, fd, F, hp, hb⟩ := D
  ⟨p, g, fd, ps, hp, h g fd F, hb⟩
section
variable {X : Cx} {W : WX} {C : Addr} {k : Nat} {f : Str} {fm : List D → Option (Except Ex D)} {e : Expr} {ta : TE} {mo : Mo D} {pos : Pos}
def tPrY (C : Addr) (sp : Sp) (ta : TE) : TE := fun σ H Q => ta σ H fun x H1 => ∃ a dx fs, x = .ref a ∧ H1 a = some (.ins C dx fs) ∧ sp [x] H1 Q E0
theorem de_prop (c : Cls X.K C) (G : PrY X.prog X.w X.K X.mg X.base C f k fm) (hr : RoomG (k + 1) X.A) (he : DE X W e ta mo) (hab : attributeBase e f X.env (eval e X.env) = eval e X.env := by rfl) :
    DE X W (.Attribute e f pos) (tPrY C (spP X.K fm) ta) (mo.bind fun d => Mo.lift (own1 C fm d)) := by
  obtain ⟨p, g, fd, ps, hp, F, hb⟩ := G
  refine ⟨⟨fun pins s σ H Q I h => ?_⟩, ?_⟩
  · refine attr_of hab (thn (he.pe.run pins s σ H _ I h) fun u s1 ⟨x, H1, J, rx, a, dx, fs, ex, ea, q⟩ => ?_)
    subst ex
    cases rx
    obtain ⟨_, O, _⟩ := ins_get J.hok ea
    obtain ⟨_, L, _⟩ := O.look
    obtain ⟨rest, rec_⟩ := hp.rec_
    have len : ([Value.ref a] : List Value).length = ps.length := F.len _ _ _ _ q
    have isc : (PySem.W.clsIn X.K C).isSome = true := by
      obtain ⟨cd, z, _⟩ := PySem.W.any_some c.hd
      rw [z]; rfl
    refine PySem.W.get_bind J.kIn L (PySem.W.plainGet_of (c.get f)).1 (PySem.W.findObj_data isc hp.at_ hp.get hp.tak) (PySem.W.plainGet_of (c.get f)).2 (wpAny_call (PySem.W.prop_get (s := { s1 with toks := s1.toks + 1 }) J.kIn rec_ ?_))
    have T := J.tok (s1.toks + 1)
    refine codeAny_mono (F.run X.A.in1 X.stack { s1 with toks := s1.toks + 1 } H1 ⟨[.ref a], []⟩ [.ref a] [.ref a] Q E0 hr.in1 T.env0.in1 (by simpa using hb _ [.ref a] T.kIn (by simpa using len)) (.cons rfl .nil) q) fun r s2 hq => ?_
    cases r with
    | error er => exact False.elim (by
        obtain ⟨_, _, _, _, _, _, _, _, _, _, _, _, _, z⟩ := hq)
    | ok fl =>
      cases fl with
      | ret u =>
        obtain ⟨v, H2, I2, rv, z⟩ := T.after hq
        show wpAny _ _ (handedOut u) _ _ _
        rw [PySem.W.handedOut_of (handed_of rv)]
        exact wpAny_pure ⟨v, H2, I2, rv, z⟩
      | next => exact hq.elim
      | brk => exact hq.elim
      | cont => exact hq.elim
  · refine XR.bind (t2 := fun x σ (H1 : Hp) (Q : VK) => ∃ a dx fs, x = V.ref a ∧ H1 a = some (.ins C dx fs) ∧ spP X.K fm [x] H1 Q E0) he.er ?_
    intro S0 A σ env H k d v hd r env' hm Q hq
    obtain ⟨d', e1, e2⟩ := Mo.lift_some hm
    cases e2
    unfold own1 at e1
    split at e1
    · split at e1
      · rename_i hC
        subst hC
        obtain ⟨a, dx, vs, rfl, h1, _⟩ := id hd
        exact ⟨a, dx, _, rfl, h1, spP_use k.trA (.one hd) (okD_some e1) fun v H' ex hv => hq A v H' .refl (k.ext ex) (.of ex) hv⟩
      · cases e1
    · cases e1
end
end PD
namespace LX
open PySem PySem.Spec PyProof.Rows PySem.Calls L2 PD
/-- is_integer -/
noncomputable def m_is_integer (c : Cs) : Sm := (ofM ((((getM 0).bind fun x10 => ((Mo.ret (.ty "int")).bind fun x8 => (Mo.ret []).bind fun x9 => Mo.ret (x8 :: x9)).bind fun x11 => Mo.ret (x10 :: x11)).bind fun x12 => Mo.lift ((isiT c "int") x12)).bind fun x13 => (Mo.lift (truD x13)).bind fun x14 => if x14 = true then ((((getM 0).bind fun x3 => ((Mo.ret (.ty "bool")).bind fun x1 => (Mo.ret []).bind fun x2 => Mo.ret (x1 :: x2)).bind fun x4 => Mo.ret (x3 :: x4)).bind fun x5 => Mo.lift ((isiT c "bool") x5)).bind fun x6 => (Mo.lift (truD x6)).bind fun x7 => Mo.ret (.bl (!x7))) else Mo.ret x13) fun x15 e => some (.rt x15, e))
noncomputable def F_is_integer (c : Cs) : List D → Option (Except Ex D) := runP ["value"] 1  (m_is_integer c)
/-- check_ascending -/
noncomputable def m_check_ascending (c : Cs) : Sm := (forS (((((getM 0).bind fun x1 => (Mo.ret []).bind fun x2 => Mo.ret (x1 :: x2)).bind fun x3 => Mo.lift (lenD x3)).bind fun x4 => (Mo.ret []).bind fun x5 => Mo.ret (x4 :: x5)).bind fun x6 => Mo.lift (rng1D x6)) (setE 2) (seqS (asgS (ixNM 0 (getM 2)) (setE 3)) (ifS ((((((getM 3).bind fun x23 => (Mo.ret []).bind fun x24 => Mo.ret (x23 :: x24)).bind fun x25 => Mo.liftR (F_is_integer c x25)).bind fun x26 => Mo.lift (blD x26)).bind fun x27 => Mo.ret (!x27)).bind fun x28 => if x28 = true then Mo.ret true else (((((Mo.ret (.int 0)).bind fun x17 => (getM 3).bind fun x18 => (Mo.lift (((cmpI fun i j => decide (i ≤ j)) x17 x18).bind blD)).bind fun x20 => if x20 = true then (getM 1).bind fun x19 => Mo.lift ((cmpI fun i j => decide (i ≤ j)) x18 x19) else Mo.ret (.bl false)).bind fun x16 => Mo.lift (blD x16)).bind fun x21 => Mo.ret (!x21)).bind fun x22 => if x22 = true then Mo.ret true else ((((getM 2).bind fun x13 => (Mo.ret (.int 0)).bind fun x14 => Mo.lift ((cmpI fun i j => decide (j < i)) x13 x14)).bind fun x12 => Mo.lift (blD x12)).bind fun x15 => if x15 = true then (((getM 3).bind fun x10 => (ixNM 0 ((getM 2).bind fun x8 => (Mo.ret (.int 1)).bind fun x9 => Mo.lift (subD x8 x9))).bind fun x11 => Mo.lift ((cmpI fun i j => decide (i ≤ j)) x10 x11)).bind fun x7 => Mo.lift (blD x7)) else Mo.ret false))) (fun _ => none) nxS)))
noncomputable def F_check_ascending (c : Cs) : List D → Option (Except Ex D) := runP ["values", "most", "index", "value"] 2  (m_check_ascending c)
/-- others_before -/
noncomputable def m_others_before (c : Cs) : Sm := (seqS (ifS ((((getM 1).bind fun x7 => (Mo.ret .non).bind fun x8 => Mo.lift (isA x7 x8)).bind fun x6 => Mo.lift (blD x6)).bind fun x9 => if x9 = true then Mo.ret true else (((((getM 0).bind fun x1 => (Mo.ret []).bind fun x2 => Mo.ret (x1 :: x2)).bind fun x3 => Mo.lift (anyA x3)).bind fun x4 => Mo.lift (blD x4)).bind fun x5 => Mo.ret (!x5))) (ofM (((getM 2).bind fun x10 => (Mo.ret []).bind fun x11 => Mo.ret (x10 :: x11)).bind fun x12 => Mo.lift (tupleD x12)) fun x13 e => some (.rt x13, e)) nxS) (seqS (asgS (dcM ((getM 2).bind fun x14 => Mo.lift (iterD x14)) (setE 4) (Mo.ret true) (getM 4) (Mo.ret (.bl true)) [4]) (setE 3)) (ofM ((((lcM (((getM 1).bind fun x15 => (Mo.ret []).bind fun x16 => Mo.ret (x15 :: x16)).bind fun x17 => Mo.lift (rng1D x17)) (setE 4) ((((getM 4).bind fun x19 => (getM 3).bind fun x20 => Mo.lift (dinD x19 x20)).bind fun x26 => (ixNM 0 ((getM 4).bind fun x24 => (((getM 0).bind fun x21 => (Mo.ret []).bind fun x22 => Mo.ret (x21 :: x22)).bind fun x23 => Mo.lift (lenD x23)).bind fun x25 => Mo.lift (modD x24 x25))).bind fun x27 => Mo.lift (neD x26 x27)).bind fun x18 => Mo.lift (blD x18)) (getM 4) [4]).bind fun x28 => Mo.ret (.lst x28)).bind fun x29 => (Mo.ret []).bind fun x30 => Mo.ret (x29 :: x30)).bind fun x31 => Mo.lift (tupleD x31)) fun x32 e => some (.rt x32, e))))
noncomputable def F_others_before (c : Cs) : List D → Option (Except Ex D) := runP ["hits", "begin", "singles", "known", "number"] 3  (m_others_before c)
/-- Rounds___init__ -/
noncomputable def m_Rounds___init__ (c : Cs) : Sm := (seqS (fldS 0 c.Rounds "modulus" (getM 1)) (seqS (fldS 0 c.Rounds "hits" ((((lcM (((getM 1).bind fun x1 => (Mo.ret []).bind fun x2 => Mo.ret (x1 :: x2)).bind fun x3 => Mo.lift (rng1D x3)) (setE 5) (Mo.ret true) ((getM 5).bind fun x4 => (getM 4).bind fun x5 => Mo.lift (inA x4 x5)) [5]).bind fun x6 => Mo.ret (.lst x6)).bind fun x7 => (Mo.ret []).bind fun x8 => Mo.ret (x7 :: x8)).bind fun x9 => Mo.lift (tupleD x9))) (fldS 0 c.Rounds "others" (((fldNM 0 c.Rounds "hits").bind fun x14 => ((getM 2).bind fun x12 => ((getM 3).bind fun x10 => (Mo.ret []).bind fun x11 => Mo.ret (x10 :: x11)).bind fun x13 => Mo.ret (x12 :: x13)).bind fun x15 => Mo.ret (x14 :: x15)).bind fun x16 => Mo.liftR (F_others_before c x16)))))
noncomputable def F_Rounds___init__ (c : Cs) : OV → List D → Option (Except Ex D × OV) := runM ["self", "modulus", "begin", "singles", "ends", "rest"] 5  (m_Rounds___init__ c)
/-- hits_at -/
noncomputable def m_hits_at (c : Cs) : Sm := (ofM ((fldNM 0 c.Rounds "hits").bind fun x6 => ((getM 1).bind fun x4 => (((fldNM 0 c.Rounds "hits").bind fun x1 => (Mo.ret []).bind fun x2 => Mo.ret (x1 :: x2)).bind fun x3 => Mo.lift (lenD x3)).bind fun x5 => Mo.lift (modD x4 x5)).bind fun x7 => Mo.lift (ixD x6 x7)) fun x8 e => some (.rt x8, e))
noncomputable def F_hits_at (c : Cs) : List D → Option (Except Ex D) := runP ["rounds", "number"] 2  (m_hits_at c)
/-- is_member -/
noncomputable def m_is_member (c : Cs) : Sm := (ofM ((((getM 0).bind fun x3 => ((getM 1).bind fun x1 => (Mo.ret []).bind fun x2 => Mo.ret (x1 :: x2)).bind fun x4 => Mo.ret (x3 :: x4)).bind fun x5 => Mo.liftR (F_hits_at c x5)).bind fun x8 => ((getM 1).bind fun x6 => (fldNM 0 c.Rounds "others").bind fun x7 => Mo.lift (inA x6 x7)).bind fun x9 => Mo.lift (neD x8 x9)) fun x10 e => some (.rt x10, e))
noncomputable def F_is_member (c : Cs) : List D → Option (Except Ex D) := runP ["rounds", "number"] 2  (m_is_member c)
/-- common_multiple -/
noncomputable def m_common_multiple (c : Cs) : Sm := (seqS (parS ((getM 0).bind fun x3 => ((getM 1).bind fun x1 => (Mo.ret []).bind fun x2 => Mo.ret (x1 :: x2)).bind fun x4 => Mo.ret (x3 :: x4)) 2 3) (seqS (whileS (((getM 3).bind fun x6 => (Mo.ret (.int 0)).bind fun x7 => Mo.lift ((cmpI fun i j => decide (j < i)) x6 x7)).bind fun x5 => Mo.lift (blD x5)) (parS ((getM 3).bind fun x12 => (((getM 2).bind fun x8 => (getM 3).bind fun x9 => Mo.lift (modD x8 x9)).bind fun x10 => (Mo.ret []).bind fun x11 => Mo.ret (x10 :: x11)).bind fun x13 => Mo.ret (x12 :: x13)) 2 3)) (ofM (((getM 0).bind fun x14 => (getM 1).bind fun x15 => Mo.lift (mulA x14 x15)).bind fun x16 => (getM 2).bind fun x17 => Mo.lift (fdivD x16 x17)) fun x18 e => some (.rt x18, e))))
noncomputable def F_common_multiple (c : Cs) : List D → Option (Except Ex D) := runP ["one", "other", "high", "low"] 2  (m_common_multiple c)
/-- told_of -/
noncomputable def m_told_of (c : Cs) : Sm := (ofM (ixNM 2 (((Mo.ret (.int 2)).bind fun x9 => (((((getM 0).bind fun x3 => ((getM 3).bind fun x1 => (Mo.ret []).bind fun x2 => Mo.ret (x1 :: x2)).bind fun x4 => Mo.ret (x3 :: x4)).bind fun x5 => Mo.liftR (F_is_member c x5)).bind fun x6 => (Mo.ret []).bind fun x7 => Mo.ret (x6 :: x7)).bind fun x8 => Mo.lift (intD x8)).bind fun x10 => Mo.lift (mulA x9 x10)).bind fun x19 => (((((getM 1).bind fun x13 => ((getM 3).bind fun x11 => (Mo.ret []).bind fun x12 => Mo.ret (x11 :: x12)).bind fun x14 => Mo.ret (x13 :: x14)).bind fun x15 => Mo.liftR (F_is_member c x15)).bind fun x16 => (Mo.ret []).bind fun x17 => Mo.ret (x16 :: x17)).bind fun x18 => Mo.lift (intD x18)).bind fun x20 => Mo.lift (addA x19 x20))) fun x21 e => some (.rt x21, e))
noncomputable def F_told_of (c : Cs) : List D → Option (Except Ex D) := runP ["one", "other", "told", "number"] 4  (m_told_of c)
/-- joined -/
noncomputable def m_joined (c : Cs) : Sm := (seqS (asgS (((fldNM 0 c.Rounds "modulus").bind fun x3 => ((fldNM 1 c.Rounds "modulus").bind fun x1 => (Mo.ret []).bind fun x2 => Mo.ret (x1 :: x2)).bind fun x4 => Mo.ret (x3 :: x4)).bind fun x5 => Mo.liftR (F_common_multiple c x5)) (setE 3)) (seqS (ifS (((getM 3).bind fun x7 => (Mo.ret (.int 5040)).bind fun x8 => Mo.lift ((cmpI fun i j => decide (j < i)) x7 x8)).bind fun x6 => Mo.lift (blD x6)) (fun _ => none) nxS) (seqS (asgS ((lcM (((getM 3).bind fun x9 => (Mo.ret []).bind fun x10 => Mo.ret (x9 :: x10)).bind fun x11 => Mo.lift (rng1D x11)) (setE 8) ((ixNM 2 (((Mo.ret (.int 2)).bind fun x20 => (((((getM 0).bind fun x14 => ((getM 8).bind fun x12 => (Mo.ret []).bind fun x13 => Mo.ret (x12 :: x13)).bind fun x15 => Mo.ret (x14 :: x15)).bind fun x16 => Mo.liftR (F_hits_at c x16)).bind fun x17 => (Mo.ret []).bind fun x18 => Mo.ret (x17 :: x18)).bind fun x19 => Mo.lift (intD x19)).bind fun x21 => Mo.lift (mulA x20 x21)).bind fun x30 => (((((getM 1).bind fun x24 => ((getM 8).bind fun x22 => (Mo.ret []).bind fun x23 => Mo.ret (x22 :: x23)).bind fun x25 => Mo.ret (x24 :: x25)).bind fun x26 => Mo.liftR (F_hits_at c x26)).bind fun x27 => (Mo.ret []).bind fun x28 => Mo.ret (x27 :: x28)).bind fun x29 => Mo.lift (intD x29)).bind fun x31 => Mo.lift (addA x30 x31))).bind fun x32 => Mo.lift (blD x32)) (getM 8) [8]).bind fun x33 => Mo.ret (.lst x33)) (setE 4)) (seqS (asgS (((getM 3).bind fun x40 => ((Mo.ret (.int 0)).bind fun x38 => (((Mo.ret []).bind tupM).bind fun x36 => ((getM 4).bind fun x34 => (Mo.ret []).bind fun x35 => Mo.ret (x34 :: x35)).bind fun x37 => Mo.ret (x36 :: x37)).bind fun x39 => Mo.ret (x38 :: x39)).bind fun x41 => Mo.ret (x40 :: x41)).bind fun x42 => Mo.liftR (mkD c.Rounds (F_Rounds___init__ c) (x42 ++ []))) (setE 5)) (seqS (asgS (((((fldNM 0 c.Rounds "others").bind fun x43 => (Mo.ret []).bind fun x44 => Mo.ret (x43 :: x44)).bind fun x45 => Mo.lift (listD x45)).bind fun x51 => ((lcM ((fldNM 1 c.Rounds "others").bind fun x46 => Mo.lift (iterD x46)) (setE 8) (((getM 8).bind fun x48 => (fldNM 0 c.Rounds "others").bind fun x49 => Mo.lift (ninA x48 x49)).bind fun x47 => Mo.lift (blD x47)) (getM 8) [8]).bind fun x50 => Mo.ret (.lst x50)).bind fun x52 => Mo.lift (catL x51 x52)).bind fun x53 => Mo.ret (.lst x53)) (setE 6)) (seqS (asgS ((lcM ((getM 6).bind fun x54 => Mo.lift (iterD x54)) (setE 8) (((((getM 0).bind fun x62 => ((getM 1).bind fun x60 => ((getM 2).bind fun x58 => ((getM 8).bind fun x56 => (Mo.ret []).bind fun x57 => Mo.ret (x56 :: x57)).bind fun x59 => Mo.ret (x58 :: x59)).bind fun x61 => Mo.ret (x60 :: x61)).bind fun x63 => Mo.ret (x62 :: x63)).bind fun x64 => Mo.liftR (F_told_of c x64)).bind fun x70 => (((getM 5).bind fun x67 => ((getM 8).bind fun x65 => (Mo.ret []).bind fun x66 => Mo.ret (x65 :: x66)).bind fun x68 => Mo.ret (x67 :: x68)).bind fun x69 => Mo.liftR (F_hits_at c x69)).bind fun x71 => Mo.lift (neD x70 x71)).bind fun x55 => Mo.lift (blD x55)) (getM 8) [8]).bind fun x72 => Mo.ret (.lst x72)) (setE 7)) (ofM (((getM 3).bind fun x87 => ((Mo.ret .non).bind fun x85 => (((((lcM ((getM 7).bind fun x75 => Mo.lift (iterD x75)) (setE 8) (Mo.ret true) (((getM 8).bind fun x76 => (Mo.ret []).bind fun x77 => Mo.ret (x76 :: x77)).bind fun x78 => Mo.lift (intD x78)) [8]).bind fun x79 => Mo.ret (.lst x79)).bind fun x80 => (Mo.ret []).bind fun x81 => Mo.ret (x80 :: x81)).bind fun x82 => Mo.lift (sortID x82)).bind fun x83 => ((getM 4).bind fun x73 => (Mo.ret []).bind fun x74 => Mo.ret (x73 :: x74)).bind fun x84 => Mo.ret (x83 :: x84)).bind fun x86 => Mo.ret (x85 :: x86)).bind fun x88 => Mo.ret (x87 :: x88)).bind fun x89 => Mo.liftR (mkD c.Rounds (F_Rounds___init__ c) (x89 ++ []))) fun x90 e => some (.rt x90, e))))))))
noncomputable def F_joined (c : Cs) : List D → Option (Except Ex D) := runP ["one", "other", "told", "many", "rests", "found", "numbers", "turned", "number"] 3  (m_joined c)
/-- Rounds___or__ -/
noncomputable def m_Rounds___or__ (c : Cs) : Sm := (seqS (ifS (((((getM 1).bind fun x3 => ((Mo.ret (.fn c.Rounds)).bind fun x1 => (Mo.ret []).bind fun x2 => Mo.ret (x1 :: x2)).bind fun x4 => Mo.ret (x3 :: x4)).bind fun x5 => Mo.lift ((isiC c c.Rounds) x5)).bind fun x6 => Mo.lift (blD x6)).bind fun x7 => Mo.ret (!x7)) (fun _ => none) nxS) (ofM (((getM 0).bind fun x20 => ((getM 1).bind fun x18 => ((((Mo.ret (.bl false)).bind fun x14 => ((Mo.ret (.bl true)).bind fun x12 => ((Mo.ret (.bl true)).bind fun x10 => ((Mo.ret (.bl true)).bind fun x8 => (Mo.ret []).bind fun x9 => Mo.ret (x8 :: x9)).bind fun x11 => Mo.ret (x10 :: x11)).bind fun x13 => Mo.ret (x12 :: x13)).bind fun x15 => Mo.ret (x14 :: x15)).bind tupM).bind fun x16 => (Mo.ret []).bind fun x17 => Mo.ret (x16 :: x17)).bind fun x19 => Mo.ret (x18 :: x19)).bind fun x21 => Mo.ret (x20 :: x21)).bind fun x22 => Mo.liftR (F_joined c x22)) fun x23 e => some (.rt x23, e)))
noncomputable def F_Rounds___or__ (c : Cs) : List D → Option (Except Ex D) := runP ["self", "other"] 2  (m_Rounds___or__ c)
/-- Rounds___sub__ -/
noncomputable def m_Rounds___sub__ (c : Cs) : Sm := (seqS (ifS (((((getM 1).bind fun x3 => ((Mo.ret (.fn c.Rounds)).bind fun x1 => (Mo.ret []).bind fun x2 => Mo.ret (x1 :: x2)).bind fun x4 => Mo.ret (x3 :: x4)).bind fun x5 => Mo.lift ((isiC c c.Rounds) x5)).bind fun x6 => Mo.lift (blD x6)).bind fun x7 => Mo.ret (!x7)) (fun _ => none) nxS) (ofM (((getM 0).bind fun x20 => ((getM 1).bind fun x18 => ((((Mo.ret (.bl false)).bind fun x14 => ((Mo.ret (.bl false)).bind fun x12 => ((Mo.ret (.bl true)).bind fun x10 => ((Mo.ret (.bl false)).bind fun x8 => (Mo.ret []).bind fun x9 => Mo.ret (x8 :: x9)).bind fun x11 => Mo.ret (x10 :: x11)).bind fun x13 => Mo.ret (x12 :: x13)).bind fun x15 => Mo.ret (x14 :: x15)).bind tupM).bind fun x16 => (Mo.ret []).bind fun x17 => Mo.ret (x16 :: x17)).bind fun x19 => Mo.ret (x18 :: x19)).bind fun x21 => Mo.ret (x20 :: x21)).bind fun x22 => Mo.liftR (F_joined c x22)) fun x23 e => some (.rt x23, e)))
noncomputable def F_Rounds___sub__ (c : Cs) : List D → Option (Except Ex D) := runP ["self", "other"] 2  (m_Rounds___sub__ c)
/-- Rounds___xor__ -/
noncomputable def m_Rounds___xor__ (c : Cs) : Sm := (seqS (ifS (((((getM 1).bind fun x3 => ((Mo.ret (.fn c.Rounds)).bind fun x1 => (Mo.ret []).bind fun x2 => Mo.ret (x1 :: x2)).bind fun x4 => Mo.ret (x3 :: x4)).bind fun x5 => Mo.lift ((isiC c c.Rounds) x5)).bind fun x6 => Mo.lift (blD x6)).bind fun x7 => Mo.ret (!x7)) (fun _ => none) nxS) (ofM (((getM 0).bind fun x20 => ((getM 1).bind fun x18 => ((((Mo.ret (.bl false)).bind fun x14 => ((Mo.ret (.bl true)).bind fun x12 => ((Mo.ret (.bl true)).bind fun x10 => ((Mo.ret (.bl false)).bind fun x8 => (Mo.ret []).bind fun x9 => Mo.ret (x8 :: x9)).bind fun x11 => Mo.ret (x10 :: x11)).bind fun x13 => Mo.ret (x12 :: x13)).bind fun x15 => Mo.ret (x14 :: x15)).bind tupM).bind fun x16 => (Mo.ret []).bind fun x17 => Mo.ret (x16 :: x17)).bind fun x19 => Mo.ret (x18 :: x19)).bind fun x21 => Mo.ret (x20 :: x21)).bind fun x22 => Mo.liftR (F_joined c x22)) fun x23 e => some (.rt x23, e)))
noncomputable def F_Rounds___xor__ (c : Cs) : List D → Option (Except Ex D) := runP ["self", "other"] 2  (m_Rounds___xor__ c)
/-- Rounds___eq__ -/
noncomputable def m_Rounds___eq__ (c : Cs) : Sm := (seqS (ifS ((((((getM 1).bind fun x6 => ((Mo.ret (.fn c.Rounds)).bind fun x4 => (Mo.ret []).bind fun x5 => Mo.ret (x4 :: x5)).bind fun x7 => Mo.ret (x6 :: x7)).bind fun x8 => Mo.lift ((isiC c c.Rounds) x8)).bind fun x9 => Mo.lift (blD x9)).bind fun x10 => Mo.ret (!x10)).bind fun x11 => if x11 = true then Mo.ret true else (((fldNM 0 c.Rounds "others").bind fun x2 => (fldNM 1 c.Rounds "others").bind fun x3 => Mo.lift (neD x2 x3)).bind fun x1 => Mo.lift (blD x1))) (ofM (Mo.ret (.bl false)) fun x12 e => some (.rt x12, e)) nxS) (seqS (asgS (((fldNM 0 c.Rounds "modulus").bind fun x15 => ((fldNM 1 c.Rounds "modulus").bind fun x13 => (Mo.ret []).bind fun x14 => Mo.ret (x13 :: x14)).bind fun x16 => Mo.ret (x15 :: x16)).bind fun x17 => Mo.liftR (F_common_multiple c x17)) (setE 2)) (ofM ((((lcM (((getM 2).bind fun x18 => (Mo.ret []).bind fun x19 => Mo.ret (x18 :: x19)).bind fun x20 => Mo.lift (rng1D x20)) (setE 3) (Mo.ret true) ((((getM 0).bind fun x23 => ((getM 3).bind fun x21 => (Mo.ret []).bind fun x22 => Mo.ret (x21 :: x22)).bind fun x24 => Mo.ret (x23 :: x24)).bind fun x25 => Mo.liftR (F_hits_at c x25)).bind fun x31 => (((getM 1).bind fun x28 => ((getM 3).bind fun x26 => (Mo.ret []).bind fun x27 => Mo.ret (x26 :: x27)).bind fun x29 => Mo.ret (x28 :: x29)).bind fun x30 => Mo.liftR (F_hits_at c x30)).bind fun x32 => Mo.lift (eqD x31 x32)) [3]).bind fun x33 => Mo.ret (.lst x33)).bind fun x34 => (Mo.ret []).bind fun x35 => Mo.ret (x34 :: x35)).bind fun x36 => Mo.lift (allA x36)) fun x37 e => some (.rt x37, e))))
noncomputable def F_Rounds___eq__ (c : Cs) : List D → Option (Except Ex D) := runP ["self", "other", "many", "number"] 2  (m_Rounds___eq__ c)
/-- Rounds___bool__ -/
noncomputable def m_Rounds___bool__ (c : Cs) : Sm := (ofM ((((fldNM 0 c.Rounds "hits").bind fun x9 => (Mo.ret []).bind fun x10 => Mo.ret (x9 :: x10)).bind fun x11 => Mo.lift (anyA x11)).bind fun x12 => (Mo.lift (truD x12)).bind fun x13 => if x13 = true then Mo.ret x12 else ((((((fldNM 0 c.Rounds "others").bind fun x1 => (Mo.ret []).bind fun x2 => Mo.ret (x1 :: x2)).bind fun x3 => Mo.lift (lenD x3)).bind fun x4 => (Mo.ret (.int 0)).bind fun x5 => Mo.lift ((cmpI fun i j => decide (j < i)) x4 x5)).bind fun x6 => (Mo.ret []).bind fun x7 => Mo.ret (x6 :: x7)).bind fun x8 => Mo.lift (boolD x8))) fun x14 e => some (.rt x14, e))
noncomputable def F_Rounds___bool__ (c : Cs) : List D → Option (Except Ex D) := runP ["self"] 1  (m_Rounds___bool__ c)
noncomputable def oTruR (c : Cs) : D → Option Bool := fun x => (truD x).or (own1B c.Rounds (F_Rounds___bool__ c) x)
/-- Rounds___contains__ -/
noncomputable def m_Rounds___contains__ (c : Cs) : Sm := (ofM ((((getM 1).bind fun x10 => (Mo.ret []).bind fun x11 => Mo.ret (x10 :: x11)).bind fun x12 => Mo.liftR (F_is_integer c x12)).bind fun x13 => (Mo.lift (truD x13)).bind fun x14 => if x14 = true then (((getM 1).bind fun x6 => (Mo.ret (.int 0)).bind fun x7 => Mo.lift ((cmpI fun i j => decide (j ≤ i)) x6 x7)).bind fun x8 => (Mo.lift (truD x8)).bind fun x9 => if x9 = true then (((getM 0).bind fun x3 => ((getM 1).bind fun x1 => (Mo.ret []).bind fun x2 => Mo.ret (x1 :: x2)).bind fun x4 => Mo.ret (x3 :: x4)).bind fun x5 => Mo.liftR (F_is_member c x5)) else Mo.ret x8) else Mo.ret x13) fun x15 e => some (.rt x15, e))
noncomputable def F_Rounds___contains__ (c : Cs) : List D → Option (Except Ex D) := runP ["self", "value"] 2  (m_Rounds___contains__ c)
/-- Rounds_told -/
noncomputable def m_Rounds_told (c : Cs) : Sm := (seqS (ofM (((getM 0).bind fun x3 => ((Mo.ret (.int 1000000)).bind fun x1 => (Mo.ret []).bind fun x2 => Mo.ret (x1 :: x2)).bind fun x4 => Mo.ret (x3 :: x4)).bind fun x5 => Mo.liftR (F_check_ascending c x5)) fun _ => nxS) (seqS (asgS ((((((getM 0).bind fun x7 => (Mo.ret []).bind fun x8 => Mo.ret (x7 :: x8)).bind fun x9 => Mo.lift (lenD x9)).bind fun x10 => (Mo.ret (.int 0)).bind fun x11 => Mo.lift ((cmpI fun i j => decide (j < i)) x10 x11)).bind fun x6 => Mo.lift (blD x6)).bind fun x15 => if x15 = true then ((ixNM 0 ((Mo.ret (.int 1)).bind fun x12 => Mo.lift (negD x12))).bind fun x13 => (Mo.ret (.int 1)).bind fun x14 => Mo.lift (addA x13 x14)) else (Mo.ret (.int 0))) (setE 1)) (ofM (((Mo.ret (.int 1)).bind fun x22 => ((getM 1).bind fun x20 => ((getM 0).bind fun x18 => (((Mo.ret []).bind tupM).bind fun x16 => (Mo.ret []).bind fun x17 => Mo.ret (x16 :: x17)).bind fun x19 => Mo.ret (x18 :: x19)).bind fun x21 => Mo.ret (x20 :: x21)).bind fun x23 => Mo.ret (x22 :: x23)).bind fun x24 => Mo.liftR (mkD c.Rounds (F_Rounds___init__ c) (x24 ++ []))) fun x25 e => some (.rt x25, e))))
noncomputable def F_Rounds_told (c : Cs) : List D → Option (Except Ex D) := runP ["members", "begin"] 1  (m_Rounds_told c)
/-- Rounds_rests -/
noncomputable def m_Rounds_rests (c : Cs) : Sm := (seqS (ifS ((((((getM 0).bind fun x7 => (Mo.ret []).bind fun x8 => Mo.ret (x7 :: x8)).bind fun x9 => Mo.liftR (F_is_integer c x9)).bind fun x10 => Mo.lift (blD x10)).bind fun x11 => Mo.ret (!x11)).bind fun x12 => if x12 = true then Mo.ret true else ((((Mo.ret (.int 1)).bind fun x2 => (getM 0).bind fun x3 => (Mo.lift (((cmpI fun i j => decide (i ≤ j)) x2 x3).bind blD)).bind fun x5 => if x5 = true then (Mo.ret (.int 5040)).bind fun x4 => Mo.lift ((cmpI fun i j => decide (i ≤ j)) x3 x4) else Mo.ret (.bl false)).bind fun x1 => Mo.lift (blD x1)).bind fun x6 => Mo.ret (!x6))) (fun _ => none) nxS) (seqS (ofM (((getM 1).bind fun x17 => (((getM 0).bind fun x13 => (Mo.ret (.int 1)).bind fun x14 => Mo.lift (subD x13 x14)).bind fun x15 => (Mo.ret []).bind fun x16 => Mo.ret (x15 :: x16)).bind fun x18 => Mo.ret (x17 :: x18)).bind fun x19 => Mo.liftR (F_check_ascending c x19)) fun _ => nxS) (ofM (((getM 0).bind fun x26 => ((Mo.ret (.int 0)).bind fun x24 => (((Mo.ret []).bind tupM).bind fun x22 => ((getM 1).bind fun x20 => (Mo.ret []).bind fun x21 => Mo.ret (x20 :: x21)).bind fun x23 => Mo.ret (x22 :: x23)).bind fun x25 => Mo.ret (x24 :: x25)).bind fun x27 => Mo.ret (x26 :: x27)).bind fun x28 => Mo.liftR (mkD c.Rounds (F_Rounds___init__ c) (x28 ++ []))) fun x29 e => some (.rt x29, e))))
noncomputable def F_Rounds_rests (c : Cs) : List D → Option (Except Ex D) := runP ["modulus", "rests"] 2  (m_Rounds_rests c)
noncomputable def oEqR (c : Cs) : D → D → Option D := fun x y => (eqD x y).or ((ownL c.Rounds (F_Rounds___eq__ c) x y).or (eqLstT (eqOwnT c.Rounds (F_Rounds___eq__ c)) x y))
noncomputable def oNeR (c : Cs) : D → D → Option D := fun x y => (neD x y).or (notD (ownL c.Rounds (F_Rounds___eq__ c) x y))
noncomputable def oInR (c : Cs) : D → D → Option D := fun x y => (inA x y).or (inOwn c.Rounds (F_Rounds___contains__ c) x y)
/-- check_number -/
noncomputable def m_check_number (c : Cs) : Sm := (ifS ((((((getM 0).bind fun x7 => (Mo.ret []).bind fun x8 => Mo.ret (x7 :: x8)).bind fun x9 => Mo.liftR (F_is_integer c x9)).bind fun x10 => Mo.lift (blD x10)).bind fun x11 => Mo.ret (!x11)).bind fun x12 => if x12 = true then Mo.ret true else ((((Mo.ret (.int 0)).bind fun x2 => (getM 0).bind fun x3 => (Mo.lift (((cmpI fun i j => decide (i ≤ j)) x2 x3).bind blD)).bind fun x5 => if x5 = true then (getM 1).bind fun x4 => Mo.lift ((cmpI fun i j => decide (i ≤ j)) x3 x4) else Mo.ret (.bl false)).bind fun x1 => Mo.lift (blD x1)).bind fun x6 => Mo.ret (!x6))) (fun _ => none) nxS)
noncomputable def F_check_number (c : Cs) : List D → Option (Except Ex D) := runP ["value", "most"] 2  (m_check_number c)
/-- next_member -/
noncomputable def m_next_member (c : Cs) : Sm := (seqS (ifS (((((fldNM 0 c.Rounds "hits").bind fun x1 => (Mo.ret []).bind fun x2 => Mo.ret (x1 :: x2)).bind fun x3 => Mo.lift (anyA x3)).bind fun x4 => Mo.lift (blD x4)).bind fun x5 => Mo.ret (!x5)) (seqS (forS ((fldNM 0 c.Rounds "others").bind fun x6 => Mo.lift (iterD x6)) (setE 2) (ifS (((getM 2).bind fun x8 => (getM 1).bind fun x9 => Mo.lift ((cmpI fun i j => decide (j ≤ i)) x8 x9)).bind fun x7 => Mo.lift (blD x7)) (ofM (getM 2) fun x10 e => some (.rt x10, e)) nxS)) (ofM (Mo.ret .non) fun x11 e => some (.rt x11, e))) nxS) (seqS (asgS (getM 1) (setE 3)) (seqS (whileS (((((getM 0).bind fun x14 => ((getM 3).bind fun x12 => (Mo.ret []).bind fun x13 => Mo.ret (x12 :: x13)).bind fun x15 => Mo.ret (x14 :: x15)).bind fun x16 => Mo.liftR (F_is_member c x16)).bind fun x17 => Mo.lift (blD x17)).bind fun x18 => Mo.ret (!x18)) (asgS ((getM 3).bind fun x19 => (Mo.ret (.int 1)).bind fun x20 => Mo.lift (addA x19 x20)) (setE 3))) (ofM (getM 3) fun x21 e => some (.rt x21, e)))))
noncomputable def F_next_member (c : Cs) : List D → Option (Except Ex D) := runP ["rounds", "first", "number", "place"] 2  (m_next_member c)
/-- Rounds_whole_from -/
noncomputable def m_Rounds_whole_from (c : Cs) : Sm := (seqS (ifS (((((fldNM 0 c.Rounds "hits").bind fun x1 => (Mo.ret []).bind fun x2 => Mo.ret (x1 :: x2)).bind fun x3 => Mo.lift (allA x3)).bind fun x4 => Mo.lift (blD x4)).bind fun x5 => Mo.ret (!x5)) (ofM (Mo.ret .non) fun x6 e => some (.rt x6, e)) nxS) (ofM ((((((fldNM 0 c.Rounds "others").bind fun x8 => (Mo.ret []).bind fun x9 => Mo.ret (x8 :: x9)).bind fun x10 => Mo.lift (lenD x10)).bind fun x11 => (Mo.ret (.int 0)).bind fun x12 => Mo.lift ((cmpI fun i j => decide (j < i)) x11 x12)).bind fun x7 => Mo.lift (blD x7)).bind fun x18 => if x18 = true then (((fldNM 0 c.Rounds "others").bind fun x14 => ((Mo.ret (.int 1)).bind fun x13 => Mo.lift (negD x13)).bind fun x15 => Mo.lift (ixD x14 x15)).bind fun x16 => (Mo.ret (.int 1)).bind fun x17 => Mo.lift (addA x16 x17)) else (Mo.ret (.int 0))) fun x19 e => some (.rt x19, e)))
noncomputable def F_Rounds_whole_from (c : Cs) : List D → Option (Except Ex D) := runP ["self"] 1  (m_Rounds_whole_from c)
/-- Rounds_after -/
noncomputable def m_Rounds_after (c : Cs) : Sm := (seqS (ofM (((getM 1).bind fun x3 => ((Mo.ret (.int 1000000000)).bind fun x1 => (Mo.ret []).bind fun x2 => Mo.ret (x1 :: x2)).bind fun x4 => Mo.ret (x3 :: x4)).bind fun x5 => Mo.liftR (F_check_number c x5)) fun _ => nxS) (ofM (((getM 0).bind fun x8 => ((getM 1).bind fun x6 => (Mo.ret []).bind fun x7 => Mo.ret (x6 :: x7)).bind fun x9 => Mo.ret (x8 :: x9)).bind fun x10 => Mo.liftR (F_next_member c x10)) fun x11 e => some (.rt x11, e)))
noncomputable def F_Rounds_after (c : Cs) : List D → Option (Except Ex D) := runP ["self", "first"] 2  (m_Rounds_after c)
/-- Rounds_members -/
noncomputable def m_Rounds_members (c : Cs) : GSm := (seqG (plG (ofM (((getM 1).bind fun x3 => ((Mo.ret (.int 1000000000)).bind fun x1 => (Mo.ret []).bind fun x2 => Mo.ret (x1 :: x2)).bind fun x4 => Mo.ret (x3 :: x4)).bind fun x5 => Mo.liftR (F_check_number c x5)) fun _ => nxS)) (seqG (plG (ofM (((getM 2).bind fun x8 => ((Mo.ret (.int 1000)).bind fun x6 => (Mo.ret []).bind fun x7 => Mo.ret (x6 :: x7)).bind fun x9 => Mo.ret (x8 :: x9)).bind fun x10 => Mo.liftR (F_check_number c x10)) fun _ => nxS)) (seqG (plG (asgS (getM 1) (setE 3))) (seqG (forG (((getM 2).bind fun x11 => (Mo.ret []).bind fun x12 => Mo.ret (x11 :: x12)).bind fun x13 => Mo.lift (rng1D x13)) (setE 4) (seqG (plG (asgS (((getM 0).bind fun x16 => ((getM 3).bind fun x14 => (Mo.ret []).bind fun x15 => Mo.ret (x14 :: x15)).bind fun x17 => Mo.ret (x16 :: x17)).bind fun x18 => Mo.liftR (F_next_member c x18)) (setE 5))) (seqG (plG (ifS (((getM 5).bind fun x20 => (Mo.ret .non).bind fun x21 => Mo.lift (isA x20 x21)).bind fun x19 => Mo.lift (blD x19)) (fun e => some (.rt .non, e)) nxS)) (seqG (yldG (getM 5)) (plG (asgS ((getM 5).bind fun x22 => (Mo.ret (.int 1)).bind fun x23 => Mo.lift (addA x22 x23)) (setE 3))))))) nxG))))
noncomputable def F_Rounds_members (c : Cs) : List D → Option (List D) := runG ["self", "first", "many", "place", "turn", "found"] 3 (m_Rounds_members c)
/-- greatest_common -/
noncomputable def m_greatest_common (c : Cs) : Sm := (seqS (parS ((((getM 0).bind fun x6 => (Mo.ret []).bind fun x7 => Mo.ret (x6 :: x7)).bind fun x8 => Mo.lift (absD x8)).bind fun x9 => ((((getM 1).bind fun x1 => (Mo.ret []).bind fun x2 => Mo.ret (x1 :: x2)).bind fun x3 => Mo.lift (absD x3)).bind fun x4 => (Mo.ret []).bind fun x5 => Mo.ret (x4 :: x5)).bind fun x10 => Mo.ret (x9 :: x10)) 0 1) (seqS (whileS (((getM 1).bind fun x12 => (Mo.ret (.int 0)).bind fun x13 => Mo.lift (neD x12 x13)).bind fun x11 => Mo.lift (blD x11)) (parS ((getM 1).bind fun x18 => (((getM 0).bind fun x14 => (getM 1).bind fun x15 => Mo.lift (modD x14 x15)).bind fun x16 => (Mo.ret []).bind fun x17 => Mo.ret (x16 :: x17)).bind fun x19 => Mo.ret (x18 :: x19)) 0 1)) (ofM (getM 0) fun x20 e => some (.rt x20, e))))
noncomputable def F_greatest_common (c : Cs) : List D → Option (Except Ex D) := runP ["one", "two"] 2  (m_greatest_common c)
/-- Ratio___init__ -/
noncomputable def m_Ratio___init__ (c : Cs) : Sm := (seqS (ifS (((((getM 1).bind fun x1 => (Mo.ret []).bind fun x2 => Mo.ret (x1 :: x2)).bind fun x3 => Mo.liftR (F_is_integer c x3)).bind fun x4 => Mo.lift (blD x4)).bind fun x5 => Mo.ret (!x5)) (fun _ => none) nxS) (seqS (ifS ((((((getM 2).bind fun x9 => (Mo.ret []).bind fun x10 => Mo.ret (x9 :: x10)).bind fun x11 => Mo.liftR (F_is_integer c x11)).bind fun x12 => Mo.lift (blD x12)).bind fun x13 => Mo.ret (!x13)).bind fun x14 => if x14 = true then Mo.ret true else (((getM 2).bind fun x7 => (Mo.ret (.int 1)).bind fun x8 => Mo.lift (ltA x7 x8)).bind fun x6 => Mo.lift (blD x6))) (fun _ => none) nxS) (seqS (asgS (((getM 1).bind fun x17 => ((getM 2).bind fun x15 => (Mo.ret []).bind fun x16 => Mo.ret (x15 :: x16)).bind fun x18 => Mo.ret (x17 :: x18)).bind fun x19 => Mo.liftR (F_greatest_common c x19)) (setE 3)) (seqS (fldS 0 c.Ratio "top" ((getM 1).bind fun x20 => (getM 3).bind fun x21 => Mo.lift (fdivD x20 x21))) (fldS 0 c.Ratio "bottom" ((getM 2).bind fun x22 => (getM 3).bind fun x23 => Mo.lift (fdivD x22 x23)))))))
noncomputable def F_Ratio___init__ (c : Cs) : OV → List D → Option (Except Ex D × OV) := runM ["self", "top", "bottom", "common"] 3  (m_Ratio___init__ c)
noncomputable def oBoolR (c : Cs) : List D → Option D := fun x => (boolD x).or (one1 (fun d => (own1B c.Rounds (F_Rounds___bool__ c) d).map .bl) x)
/-- _law_purse -/
noncomputable def m__law_purse (c : Cs) : Sm := (seqS (asgS ((((getM 1).bind fun x5 => (((getM 0).bind fun x2 => (Mo.ret []).bind fun x3 => Mo.ret (x2 :: x3)).bind fun x4 => Mo.lift (lenD x4)).bind fun x6 => Mo.lift ((cmpI fun i j => decide (i < j)) x5 x6)).bind fun x1 => Mo.lift (blD x1)).bind fun x7 => if x7 = true then (ixNM 0 (getM 1)) else (Mo.ret (.int 0))) (setE 2)) (seqS (asgS (((((((getM 2).bind fun x8 => (Mo.ret (.int 69621)).bind fun x9 => Mo.lift (mulD x8 x9)).bind fun x12 => ((getM 1).bind fun x10 => (Mo.ret (.int 40692)).bind fun x11 => Mo.lift (mulD x10 x11)).bind fun x13 => Mo.lift (addD x12 x13)).bind fun x14 => (Mo.ret (.int 10007)).bind fun x15 => Mo.lift (addD x14 x15)).bind fun x16 => (Mo.ret []).bind fun x17 => Mo.ret (x16 :: x17)).bind fun x18 => Mo.lift (intD x18)).bind fun x19 => (Mo.ret (.int 2147483549)).bind fun x20 => Mo.lift (modD x19 x20)) (setE 3)) (seqS (forS (((((getM 1).bind fun x25 => (((getM 0).bind fun x22 => (Mo.ret []).bind fun x23 => Mo.ret (x22 :: x23)).bind fun x24 => Mo.lift (lenD x24)).bind fun x26 => Mo.lift ((cmpI fun i j => decide (j ≤ i)) x25 x26)).bind fun x21 => Mo.lift (blD x21)).bind fun x31 => if x31 = true then ((getM 0).bind fun x28 => (Mo.ret none).bind fun x29 => ((Mo.ret (.int 4)).bind fun x27 => Mo.lift ((intOf x27).map some)).bind fun x30 => Mo.lift (slD x28 x29 x30)) else ((Mo.ret []).bind lstM)).bind fun x32 => Mo.lift (iterD x32)) (setE 4) (asgS ((((((getM 3).bind fun x33 => (Mo.ret (.int 45991)).bind fun x34 => Mo.lift (mulD x33 x34)).bind fun x35 => (getM 4).bind fun x36 => Mo.lift (addD x35 x36)).bind fun x37 => (Mo.ret []).bind fun x38 => Mo.ret (x37 :: x38)).bind fun x39 => Mo.lift (intD x39)).bind fun x40 => (Mo.ret (.int 2147483549)).bind fun x41 => Mo.lift (modD x40 x41)) (setE 3))) (ofM ((((((((getM 2).bind fun x47 => (Mo.ret []).bind fun x48 => Mo.ret (x47 :: x48)).bind fun x49 => Mo.lift (absD x49)).bind fun x52 => ((Mo.ret (.int 10)).bind fun x50 => (Mo.ret (.int 18)).bind fun x51 => Mo.lift (powD x50 x51)).bind fun x53 => Mo.lift ((cmpI fun i j => decide (j ≤ i)) x52 x53)).bind fun x46 => Mo.lift (blD x46)).bind fun x57 => if x57 = true then (((getM 2).bind fun x54 => (Mo.ret []).bind fun x55 => Mo.ret (x54 :: x55)).bind fun x56 => Mo.lift (absD x56)) else (Mo.ret (.int 0))).bind fun x58 => ((getM 3).bind fun x44 => ((Mo.ret (.int 0)).bind fun x42 => (Mo.ret []).bind fun x43 => Mo.ret (x42 :: x43)).bind fun x45 => Mo.ret (x44 :: x45)).bind fun x59 => Mo.ret (x58 :: x59)).bind lnM) fun x60 e => some (.rf x60, e)))))
noncomputable def F__law_purse (c : Cs) : List D → Option (List D) := runF ["_law_cells", "_law_at", "_law_cell", "_law_seed", "_law_other"] 2  (m__law_purse c)
/-- _law_take -/
noncomputable def m__law_take (c : Cs) : Sm := (seqS (unpS 0 3 (consE (setE 2) (consE (setE 3) (consE (setE 4) nilE)))) (seqS (asgS (((((((getM 3).bind fun x5 => ((Mo.ret (.int 50027)).bind fun x3 => ((Mo.ret (.int 6)).bind fun x1 => (getM 4).bind fun x2 => Mo.lift (mulD x1 x2)).bind fun x4 => Mo.lift (addD x3 x4)).bind fun x6 => Mo.lift (mulD x5 x6)).bind fun x9 => ((Mo.ret (.int 12347)).bind fun x7 => (getM 4).bind fun x8 => Mo.lift (mulD x7 x8)).bind fun x10 => Mo.lift (addD x9 x10)).bind fun x11 => (Mo.ret (.int 12358)).bind fun x12 => Mo.lift (addD x11 x12)).bind fun x13 => (Mo.ret []).bind fun x14 => Mo.ret (x13 :: x14)).bind fun x15 => Mo.lift (intD x15)).bind fun x16 => (Mo.ret (.int 2147483549)).bind fun x17 => Mo.lift (modD x16 x17)) (subE 0 (Mo.ret (.int 1)))) (seqS (asgS ((getM 4).bind fun x18 => (Mo.ret (.int 1)).bind fun x19 => Mo.lift (addD x18 x19)) (subE 0 (Mo.ret (.int 2)))) (seqS (ifS (((getM 2).bind fun x21 => (Mo.ret (.int 0)).bind fun x22 => Mo.lift ((cmpI fun i j => decide (j < i)) x21 x22)).bind fun x20 => Mo.lift (blD x20)) (seqS (asgS ((((getM 2).bind fun x23 => (Mo.ret []).bind fun x24 => Mo.ret (x23 :: x24)).bind fun x25 => Mo.lift (intD x25)).bind fun x26 => (getM 1).bind fun x27 => Mo.lift (fdivD x26 x27)) (subE 0 (Mo.ret (.int 0)))) (ofM ((((getM 2).bind fun x28 => (Mo.ret []).bind fun x29 => Mo.ret (x28 :: x29)).bind fun x30 => Mo.lift (intD x30)).bind fun x31 => (getM 1).bind fun x32 => Mo.lift (modD x31 x32)) fun x33 e => some (.rt x33, e))) nxS) (ofM (((((ixNM 0 (Mo.ret (.int 1))).bind fun x34 => (Mo.ret (.int 128)).bind fun x35 => Mo.lift (fdivD x34 x35)).bind fun x36 => (Mo.ret []).bind fun x37 => Mo.ret (x36 :: x37)).bind fun x38 => Mo.lift (intD x38)).bind fun x39 => (getM 1).bind fun x40 => Mo.lift (modD x39 x40)) fun x41 e => some (.rt x41, e))))))
noncomputable def F__law_take (c : Cs) : OV → List D → Option (Except Ex D × OV) := runM ["_law_draws", "_law_many", "_law_figures", "_law_seed", "_law_turn"] 2  (m__law_take c)
/-- _law_set -/
noncomputable def m__law_set (c : Cs) : Sm := (seqS (asgS (ixNM 1 (callM 0 (F__law_take c) ((((getM 1).bind fun x1 => (Mo.ret []).bind fun x2 => Mo.ret (x1 :: x2)).bind fun x3 => Mo.lift (lenD x3)).bind fun x4 => (Mo.ret []).bind fun x5 => Mo.ret (x4 :: x5)))) (setE 2)) (seqS (asgS ((lcM (((((getM 2).bind fun x8 => ((Mo.ret (.int 30)).bind fun x6 => (Mo.ret []).bind fun x7 => Mo.ret (x6 :: x7)).bind fun x9 => Mo.ret (x8 :: x9)).bind fun x10 => Mo.lift (min2D x10)).bind fun x11 => (Mo.ret []).bind fun x12 => Mo.ret (x11 :: x12)).bind fun x13 => Mo.lift (rng1D x13)) (setE 5) (((callM 0 (F__law_take c) ((Mo.ret (.int 2)).bind fun x15 => (Mo.ret []).bind fun x16 => Mo.ret (x15 :: x16))).bind fun x17 => (Mo.ret (.int 0)).bind fun x18 => Mo.lift (eqD x17 x18)).bind fun x14 => Mo.lift (blD x14)) (getM 5) [5]).bind fun x19 => Mo.ret (.lst x19)) (setE 3)) (seqS (ifS (((callM 0 (F__law_take c) ((Mo.ret (.int 5)).bind fun x21 => (Mo.ret []).bind fun x22 => Mo.ret (x21 :: x22))).bind fun x23 => (Mo.ret (.int 0)).bind fun x24 => Mo.lift (eqD x23 x24)).bind fun x20 => Mo.lift (blD x20)) (asgS ((getM 2).bind fun x25 => Mo.lift (lrgD x25)) (setE 3)) nxS) (seqS (asgS ((lcM (((callM 0 (F__law_take c) ((Mo.ret (.int 5)).bind fun x26 => (Mo.ret []).bind fun x27 => Mo.ret (x26 :: x27))).bind fun x28 => (Mo.ret []).bind fun x29 => Mo.ret (x28 :: x29)).bind fun x30 => Mo.lift (rng1D x30)) (setE 6) (Mo.ret true) (callM 0 (F__law_take c) (((((Mo.ret (.int 9)).bind fun x35 => ((Mo.ret (.int 40)).bind fun x33 => ((Mo.ret (.int 300)).bind fun x31 => (Mo.ret []).bind fun x32 => Mo.ret (x31 :: x32)).bind fun x34 => Mo.ret (x33 :: x34)).bind fun x36 => Mo.ret (x35 :: x36)).bind lstM).bind fun x39 => (callM 0 (F__law_take c) ((Mo.ret (.int 3)).bind fun x37 => (Mo.ret []).bind fun x38 => Mo.ret (x37 :: x38))).bind fun x40 => Mo.lift (ixD x39 x40)).bind fun x41 => (Mo.ret []).bind fun x42 => Mo.ret (x41 :: x42))) [6]).bind fun x43 => Mo.ret (.lst x43)) (setE 4)) (ofM (((getM 2).bind fun x55 => ((getM 3).bind fun x53 => (((lcM (((Mo.ret (.int 300)).bind fun x44 => (Mo.ret []).bind fun x45 => Mo.ret (x44 :: x45)).bind fun x46 => Mo.lift (rng1D x46)) (setE 7) (((getM 7).bind fun x48 => (getM 4).bind fun x49 => Mo.lift (inA x48 x49)).bind fun x47 => Mo.lift (blD x47)) (getM 7) [7]).bind fun x50 => Mo.ret (.lst x50)).bind fun x51 => (Mo.ret []).bind fun x52 => Mo.ret (x51 :: x52)).bind fun x54 => Mo.ret (x53 :: x54)).bind fun x56 => Mo.ret (x55 :: x56)).bind tupM) fun x57 e => some (.rt x57, e))))))
noncomputable def F__law_set (c : Cs) : OV → List D → Option (Except Ex D × OV) := runM ["_law_draws", "_law_moduli", "_law_many", "_law_rests", "_law_some", "_law_rest", "_law_turn", "_law_number"] 2  (m__law_set c)
/-- _law_holds -/
noncomputable def m__law_holds (c : Cs) : Sm := (ofM ((((((getM 1).bind fun x1 => (Mo.ret []).bind fun x2 => Mo.ret (x1 :: x2)).bind fun x3 => Mo.lift (intD x3)).bind fun x4 => (ixNM 0 (Mo.ret (.int 0))).bind fun x5 => Mo.lift (modD x4 x5)).bind fun x6 => (ixNM 0 (Mo.ret (.int 1))).bind fun x7 => Mo.lift (inA x6 x7)).bind fun x10 => ((getM 1).bind fun x8 => (ixNM 0 (Mo.ret (.int 2))).bind fun x9 => Mo.lift (inA x8 x9)).bind fun x11 => Mo.lift (neD x10 x11)) fun x12 e => some (.rt x12, e))
noncomputable def F__law_holds (c : Cs) : List D → Option (Except Ex D) := runP ["_law_model", "_law_number"] 2  (m__law_holds c)
/-- _law_formed -/
noncomputable def m__law_formed (c : Cs) : Sm := (seqS (parS (((Mo.ret (.fn c.Rounds)).bind fun x5 => (isFnM c.Rounds x5).bind fun _ => ((ixNM 0 (Mo.ret (.int 0))).bind fun x7 => (Mo.ret []).bind fun x8 => Mo.ret (x7 :: x8)).bind fun x6 => Mo.liftR (starP 1 (F_Rounds_rests c) x6)).bind fun x9 => (((Mo.ret (.fn c.Rounds)).bind fun x1 => (isFnM c.Rounds x1).bind fun _ => (Mo.ret []).bind fun x2 => Mo.liftR (starP 0 (F_Rounds_told c) x2)).bind fun x3 => (Mo.ret []).bind fun x4 => Mo.ret (x3 :: x4)).bind fun x10 => Mo.ret (x9 :: x10)) 1 2) (seqS (forS ((ixNM 0 (Mo.ret (.int 1))).bind fun x11 => Mo.lift (iterD x11)) (setE 3) (asgS ((getM 1).bind fun x18 => ((Mo.ret (.fn c.Rounds)).bind fun x12 => (isFnM c.Rounds x12).bind fun _ => ((ixNM 0 (Mo.ret (.int 0))).bind fun x16 => ((getM 3).bind fun x14 => (Mo.ret []).bind fun x15 => Mo.ret (x14 :: x15)).bind fun x17 => Mo.ret (x16 :: x17)).bind fun x13 => Mo.liftR (starP 1 (F_Rounds_rests c) x13)).bind fun x19 => Mo.lift ((ownL c.Rounds (F_Rounds___or__ c)) x18 x19)) (setE 1))) (seqS (forS ((ixNM 0 (Mo.ret (.int 2))).bind fun x20 => Mo.lift (iterD x20)) (setE 4) (asgS ((getM 2).bind fun x25 => ((Mo.ret (.fn c.Rounds)).bind fun x21 => (isFnM c.Rounds x21).bind fun _ => ((getM 4).bind fun x23 => (Mo.ret []).bind fun x24 => Mo.ret (x23 :: x24)).bind fun x22 => Mo.liftR (starP 0 (F_Rounds_told c) x22)).bind fun x26 => Mo.lift ((ownL c.Rounds (F_Rounds___or__ c)) x25 x26)) (setE 2))) (ofM ((getM 1).bind fun x27 => (getM 2).bind fun x28 => Mo.lift ((ownL c.Rounds (F_Rounds___xor__ c)) x27 x28)) fun x29 e => some (.rt x29, e)))))
noncomputable def F__law_formed (c : Cs) : List D → Option (Except Ex D) := runP ["_law_model", "_law_rests", "_law_others", "_law_rest", "_law_number"] 1  (m__law_formed c)
/-- _law_members -/
noncomputable def m__law_members (c : Cs) : Sm := (seqS (parO (((Mo.ret []).bind lnM).bind fun x21 => ((((((lcM (((((getM 1).bind fun x3 => (Mo.ret []).bind fun x4 => Mo.ret (x3 :: x4)).bind lstM).bind fun x5 => (ixNM 0 (Mo.ret (.int 2))).bind fun x6 => Mo.lift (addA x5 x6)).bind fun x7 => Mo.lift (iterD x7)) (setE 6) (Mo.ret true) (((getM 6).bind fun x8 => (Mo.ret []).bind fun x9 => Mo.ret (x8 :: x9)).bind fun x10 => Mo.lift (intD x10)) [6]).bind fun x11 => Mo.ret (.lst x11)).bind fun x12 => (Mo.ret []).bind fun x13 => Mo.ret (x12 :: x13)).bind fun x14 => Mo.lift (maxLD x14)).bind fun x19 => ((ixNM 0 (Mo.ret (.int 0))).bind fun x17 => ((getM 2).bind fun x15 => (Mo.ret (.int 1)).bind fun x16 => Mo.lift (addA x15 x16)).bind fun x18 => Mo.lift (mulA x17 x18)).bind fun x20 => Mo.lift (addA x19 x20)).bind fun x1 => (Mo.ret []).bind fun x2 => Mo.ret (x1 :: x2)).bind fun x22 => Mo.ret (D.lst x21 :: x22)) [3, 4] [true, false]) (seqS (ifS (((ixNM 0 (Mo.ret (.int 1))).bind fun x24 => ((Mo.ret []).bind lstM).bind fun x25 => Mo.lift (eqD x24 x25)).bind fun x23 => Mo.lift (blD x23)) (ofM (((lcM ((ixNM 0 (Mo.ret (.int 2))).bind fun x26 => Mo.lift (iterD x26)) (setE 5) (((getM 5).bind fun x28 => (getM 1).bind fun x29 => Mo.lift ((cmpI fun i j => decide (j ≤ i)) x28 x29)).bind fun x27 => Mo.lift (blD x27)) (getM 5) [5]).bind fun x30 => Mo.ret (.lst x30)).bind fun x32 => (Mo.ret none).bind fun x33 => ((getM 2).bind fun x31 => Mo.lift ((intOf x31).map some)).bind fun x34 => Mo.lift (slD2 x32 x33 x34)) fun x35 e => some (.rt x35, e)) nxS) (seqS (forS (((getM 1).bind fun x40 => (((getM 4).bind fun x36 => (Mo.ret (.int 1)).bind fun x37 => Mo.lift (addA x36 x37)).bind fun x38 => (Mo.ret []).bind fun x39 => Mo.ret (x38 :: x39)).bind fun x41 => Mo.ret (x40 :: x41)).bind fun x42 => Mo.lift (rng2D x42)) (setE 5) (ifS ((((peekM 3 lenD).bind fun x50 => (getM 2).bind fun x51 => Mo.lift (ltA x50 x51)).bind fun x49 => Mo.lift (blD x49)).bind fun x52 => if x52 = true then ((((getM 0).bind fun x45 => ((getM 5).bind fun x43 => (Mo.ret []).bind fun x44 => Mo.ret (x43 :: x44)).bind fun x46 => Mo.ret (x45 :: x46)).bind fun x47 => Mo.liftR (F__law_holds c x47)).bind fun x48 => Mo.lift (blD x48)) else Mo.ret false) (ofM (mutM 3 appD ((getM 5).bind fun x53 => (Mo.ret []).bind fun x54 => Mo.ret (x53 :: x54))) fun _ => nxS) nxS)) (ofM (getM 3) fun x55 e => some (.rt x55, e)))))
noncomputable def F__law_members (c : Cs) : List D → Option (Except Ex D) := runP ["_law_model", "_law_first", "_law_many", "_law_found", "_law_last", "_law_number", "_law_k"] 3  (m__law_members c)
/-- _law_whole -/
noncomputable def m__law_whole (c : Cs) : Sm := (seqS (ifS (((((ixNM 0 (Mo.ret (.int 1))).bind fun x2 => (Mo.ret []).bind fun x3 => Mo.ret (x2 :: x3)).bind fun x4 => Mo.lift (lenD x4)).bind fun x5 => (ixNM 0 (Mo.ret (.int 0))).bind fun x6 => Mo.lift (ltA x5 x6)).bind fun x1 => Mo.lift (blD x1)) (ofM (Mo.ret .non) fun x7 e => some (.rt x7, e)) nxS) (ofM ((((ixNM 0 (Mo.ret (.int 2))).bind fun x9 => ((Mo.ret []).bind lstM).bind fun x10 => Mo.lift (neD x9 x10)).bind fun x8 => Mo.lift (blD x8)).bind fun x16 => if x16 = true then (((ixNM 0 (Mo.ret (.int 2))).bind fun x12 => ((Mo.ret (.int 1)).bind fun x11 => Mo.lift (negD x11)).bind fun x13 => Mo.lift (ixD x12 x13)).bind fun x14 => (Mo.ret (.int 1)).bind fun x15 => Mo.lift (addA x14 x15)) else (Mo.ret (.int 0))) fun x17 e => some (.rt x17, e)))
noncomputable def F__law_whole (c : Cs) : List D → Option (Except Ex D) := runP ["_law_model"] 1  (m__law_whole c)
/-- _law_right -/
noncomputable def m__law_right (c : Cs) : Sm := (seqS (asgS (callM 0 (F__law_set c) ((((Mo.ret (.int 1)).bind fun x15 => ((Mo.ret (.int 2)).bind fun x13 => ((Mo.ret (.int 3)).bind fun x11 => ((Mo.ret (.int 4)).bind fun x9 => ((Mo.ret (.int 5)).bind fun x7 => ((Mo.ret (.int 6)).bind fun x5 => ((Mo.ret (.int 7)).bind fun x3 => ((Mo.ret (.int 12)).bind fun x1 => (Mo.ret []).bind fun x2 => Mo.ret (x1 :: x2)).bind fun x4 => Mo.ret (x3 :: x4)).bind fun x6 => Mo.ret (x5 :: x6)).bind fun x8 => Mo.ret (x7 :: x8)).bind fun x10 => Mo.ret (x9 :: x10)).bind fun x12 => Mo.ret (x11 :: x12)).bind fun x14 => Mo.ret (x13 :: x14)).bind fun x16 => Mo.ret (x15 :: x16)).bind lstM).bind fun x17 => (Mo.ret []).bind fun x18 => Mo.ret (x17 :: x18))) (setE 1)) (seqS (asgS (((getM 1).bind fun x19 => (Mo.ret []).bind fun x20 => Mo.ret (x19 :: x20)).bind fun x21 => Mo.liftR (F__law_formed c x21)) (setE 2)) (seqS (ifS ((((fldNM 2 c.Rounds "modulus").bind fun x36 => (ixNM 1 (Mo.ret (.int 0))).bind fun x37 => Mo.lift ((oNeR c) x36 x37)).bind fun x35 => Mo.lift (blD x35)).bind fun x38 => if x38 = true then Mo.ret true else ((((((getM 2).bind fun x23 => Mo.lift (own1 c.Rounds (F_Rounds_whole_from c) x23)).bind fun x24 => (Mo.ret []).bind fun x25 => Mo.ret (x24 :: x25)).bind fun x26 => Mo.lift ((one1 reprPD) x26)).bind fun x33 => (((((getM 1).bind fun x27 => (Mo.ret []).bind fun x28 => Mo.ret (x27 :: x28)).bind fun x29 => Mo.liftR (F__law_whole c x29)).bind fun x30 => (Mo.ret []).bind fun x31 => Mo.ret (x30 :: x31)).bind fun x32 => Mo.lift ((one1 reprPD) x32)).bind fun x34 => Mo.lift ((oNeR c) x33 x34)).bind fun x22 => Mo.lift (blD x22))) (ofM (Mo.ret (.bl false)) fun x39 e => some (.rt x39, e)) nxS) (seqS (ifS (((((getM 2).bind fun x41 => (Mo.ret []).bind fun x42 => Mo.ret (x41 :: x42)).bind fun x43 => Mo.lift ((oBoolR c) x43)).bind fun x50 => (((ixNM 1 (Mo.ret (.int 1))).bind fun x46 => ((Mo.ret []).bind lstM).bind fun x47 => Mo.lift ((oNeR c) x46 x47)).bind fun x48 => (Mo.lift (truD x48)).bind fun x49 => if x49 = true then Mo.ret x48 else ((ixNM 1 (Mo.ret (.int 2))).bind fun x44 => ((Mo.ret []).bind lstM).bind fun x45 => Mo.lift ((oNeR c) x44 x45))).bind fun x51 => Mo.lift ((oNeR c) x50 x51)).bind fun x40 => Mo.lift (blD x40)) (ofM (Mo.ret (.bl false)) fun x52 e => some (.rt x52, e)) nxS) (seqS (asgS (((Mo.ret (.bl true)).bind fun x82 => ((Mo.ret (.bl false)).bind fun x80 => (((Mo.ret (.int 1)).bind fun x77 => Mo.lift (negD x77)).bind fun x78 => (((Mo.ret (.int 7)).bind fun x74 => Mo.lift (negD x74)).bind fun x75 => ((Mo.ret .non).bind fun x72 => ((Mo.ret (.str ("3" : Str))).bind fun x70 => ((((Mo.ret (.int 3)).bind fun x65 => (Mo.ret []).bind fun x66 => Mo.ret (x65 :: x66)).bind fun x67 => Mo.liftR (mkD c.Ratio (F_Ratio___init__ c) (x67 ++ [D.int 1]))).bind fun x68 => ((((Mo.ret (.int 1)).bind fun x61 => (Mo.ret []).bind fun x62 => Mo.ret (x61 :: x62)).bind tupM).bind fun x63 => (((Mo.ret []).bind lstM).bind fun x59 => (((Mo.ret (.int 1)).bind fun x55 => ((Mo.ret (.int 10)).bind fun x53 => (Mo.ret (.int 20)).bind fun x54 => Mo.lift (powD x53 x54)).bind fun x56 => Mo.lift ((fun x y => ((subD x y).or ((ownL c.Rounds (F_Rounds___sub__ c)) x y))) x55 x56)).bind fun x57 => (Mo.ret []).bind fun x58 => Mo.ret (x57 :: x58)).bind fun x60 => Mo.ret (x59 :: x60)).bind fun x64 => Mo.ret (x63 :: x64)).bind fun x69 => Mo.ret (x68 :: x69)).bind fun x71 => Mo.ret (x70 :: x71)).bind fun x73 => Mo.ret (x72 :: x73)).bind fun x76 => Mo.ret (x75 :: x76)).bind fun x79 => Mo.ret (x78 :: x79)).bind fun x81 => Mo.ret (x80 :: x81)).bind fun x83 => Mo.ret (x82 :: x83)).bind lstM) (setE 3)) (seqS (ifS ((((lcM (((Mo.ret (.int 60)).bind fun x85 => (Mo.ret []).bind fun x86 => Mo.ret (x85 :: x86)).bind fun x87 => Mo.lift (rng1D x87)) (setE 7) (Mo.ret true) ((getM 7).bind fun x88 => (getM 2).bind fun x89 => Mo.lift ((oInR c) x88 x89)) [7]).bind fun x90 => Mo.ret (.lst x90)).bind fun x100 => ((lcM (((Mo.ret (.int 60)).bind fun x91 => (Mo.ret []).bind fun x92 => Mo.ret (x91 :: x92)).bind fun x93 => Mo.lift (rng1D x93)) (setE 7) (Mo.ret true) (((getM 1).bind fun x96 => ((getM 7).bind fun x94 => (Mo.ret []).bind fun x95 => Mo.ret (x94 :: x95)).bind fun x97 => Mo.ret (x96 :: x97)).bind fun x98 => Mo.liftR (F__law_holds c x98)) [7]).bind fun x99 => Mo.ret (.lst x99)).bind fun x101 => Mo.lift ((oNeR c) x100 x101)).bind fun x84 => Mo.lift (blD x84)) (ofM (Mo.ret (.bl false)) fun x102 e => some (.rt x102, e)) nxS) (seqS (ifS (((((lcM ((getM 3).bind fun x103 => Mo.lift (iterD x103)) (setE 8) (Mo.ret true) ((getM 8).bind fun x104 => (getM 2).bind fun x105 => Mo.lift ((oInR c) x104 x105)) [8]).bind fun x106 => Mo.ret (.lst x106)).bind fun x107 => (Mo.ret []).bind fun x108 => Mo.ret (x107 :: x108)).bind fun x109 => Mo.lift (anyA x109)).bind fun x110 => Mo.lift (blD x110)) (ofM (Mo.ret (.bl false)) fun x111 e => some (.rt x111, e)) nxS) (seqS (forS ((((Mo.ret (.int 0)).bind fun x128 => ((callM 0 (F__law_take c) ((Mo.ret (.int 60)).bind fun x124 => (Mo.ret []).bind fun x125 => Mo.ret (x124 :: x125))).bind fun x126 => ((callM 0 (F__law_take c) ((Mo.ret (.int 400)).bind fun x120 => (Mo.ret []).bind fun x121 => Mo.ret (x120 :: x121))).bind fun x122 => ((((Mo.ret (.int 10)).bind fun x112 => (Mo.ret (.int 9)).bind fun x113 => Mo.lift (powD x112 x113)).bind fun x116 => (callM 0 (F__law_take c) ((Mo.ret (.int 5)).bind fun x114 => (Mo.ret []).bind fun x115 => Mo.ret (x114 :: x115))).bind fun x117 => Mo.lift ((fun x y => ((subD x y).or ((ownL c.Rounds (F_Rounds___sub__ c)) x y))) x116 x117)).bind fun x118 => (Mo.ret []).bind fun x119 => Mo.ret (x118 :: x119)).bind fun x123 => Mo.ret (x122 :: x123)).bind fun x127 => Mo.ret (x126 :: x127)).bind fun x129 => Mo.ret (x128 :: x129)).bind lstM).bind fun x130 => Mo.lift (iterD x130)) (setE 4) (seqS (asgS (((getM 1).bind fun x135 => ((getM 4).bind fun x133 => ((Mo.ret (.int 3)).bind fun x131 => (Mo.ret []).bind fun x132 => Mo.ret (x131 :: x132)).bind fun x134 => Mo.ret (x133 :: x134)).bind fun x136 => Mo.ret (x135 :: x136)).bind fun x137 => Mo.liftR (F__law_members c x137)) (setE 5)) (ifS (((((((getM 2).bind fun x148 => (insM c.Rounds "after" x148).bind fun _ => ((getM 4).bind fun x150 => (Mo.ret []).bind fun x151 => Mo.ret (x150 :: x151)).bind fun x149 => Mo.liftR (F_Rounds_after c (x148 :: x149))).bind fun x152 => (Mo.ret []).bind fun x153 => Mo.ret (x152 :: x153)).bind fun x154 => Mo.lift ((one1 reprPD) x154)).bind fun x164 => (((((getM 5).bind fun x157 => (((Mo.ret .non).bind fun x155 => (Mo.ret []).bind fun x156 => Mo.ret (x155 :: x156)).bind lstM).bind fun x158 => Mo.lift (addA x157 x158)).bind fun x159 => (Mo.ret (.int 0)).bind fun x160 => Mo.lift (ixD x159 x160)).bind fun x161 => (Mo.ret []).bind fun x162 => Mo.ret (x161 :: x162)).bind fun x163 => Mo.lift ((one1 reprPD) x163)).bind fun x165 => Mo.lift ((oNeR c) x164 x165)).bind fun x147 => Mo.lift (blD x147)).bind fun x166 => if x166 = true then Mo.ret true else ((((getM 2).bind fun x143 => (insM c.Rounds "members" x143).bind fun _ => ((getM 4).bind fun x141 => ((Mo.ret (.int 3)).bind fun x139 => (Mo.ret []).bind fun x140 => Mo.ret (x139 :: x140)).bind fun x142 => Mo.ret (x141 :: x142)).bind fun x144 => Mo.lift ((F_Rounds_members c (x143 :: x144)).map D.lst)).bind fun x145 => (getM 5).bind fun x146 => Mo.lift ((oNeR c) x145 x146)).bind fun x138 => Mo.lift (blD x138))) (ofM (Mo.ret (.bl false)) fun x167 e => some (.rt x167, e)) nxS))) (seqS (asgS (callM 0 (F__law_take c) ((Mo.ret (.int 9)).bind fun x168 => (Mo.ret []).bind fun x169 => Mo.ret (x168 :: x169))) (setE 6)) (ofM ((((getM 2).bind fun x182 => (insM c.Rounds "members" x182).bind fun _ => ((Mo.ret (.int 5)).bind fun x180 => ((getM 6).bind fun x178 => (Mo.ret []).bind fun x179 => Mo.ret (x178 :: x179)).bind fun x181 => Mo.ret (x180 :: x181)).bind fun x183 => Mo.lift ((F_Rounds_members c (x182 :: x183)).map D.lst)).bind fun x191 => (((getM 1).bind fun x188 => ((Mo.ret (.int 5)).bind fun x186 => ((getM 6).bind fun x184 => (Mo.ret []).bind fun x185 => Mo.ret (x184 :: x185)).bind fun x187 => Mo.ret (x186 :: x187)).bind fun x189 => Mo.ret (x188 :: x189)).bind fun x190 => Mo.liftR (F__law_members c x190)).bind fun x192 => Mo.lift ((oEqR c) x191 x192)).bind fun x193 => (Mo.lift (truD x193)).bind fun x194 => if x194 = true then (((getM 2).bind fun x174 => (insM c.Rounds "members" x174).bind fun _ => ((Mo.ret (.int 0)).bind fun x172 => ((Mo.ret (.int 0)).bind fun x170 => (Mo.ret []).bind fun x171 => Mo.ret (x170 :: x171)).bind fun x173 => Mo.ret (x172 :: x173)).bind fun x175 => Mo.lift ((F_Rounds_members c (x174 :: x175)).map D.lst)).bind fun x176 => ((Mo.ret []).bind lstM).bind fun x177 => Mo.lift ((oEqR c) x176 x177)) else Mo.ret x193) fun x195 e => some (.rt x195, e)))))))))))
noncomputable def F__law_right (c : Cs) : OV → List D → Option (Except Ex D × OV) := runM ["_law_draws", "_law_model", "_law_mine", "_law_odd", "_law_first", "_law_due", "_law_many", "_law_number", "_law_value"] 1  (m__law_right c)
/-- _law_several_right -/
noncomputable def m__law_several_right (c : Cs) : Sm := (seqS (parS ((callM 0 (F__law_take c) ((Mo.ret (.int 1000)).bind fun x7 => (Mo.ret []).bind fun x8 => Mo.ret (x7 :: x8))).bind fun x9 => (((Mo.ret (.int 1)).bind fun x3 => (callM 0 (F__law_take c) ((Mo.ret (.int 999)).bind fun x1 => (Mo.ret []).bind fun x2 => Mo.ret (x1 :: x2))).bind fun x4 => Mo.lift (addA x3 x4)).bind fun x5 => (Mo.ret []).bind fun x6 => Mo.ret (x5 :: x6)).bind fun x10 => Mo.ret (x9 :: x10)) 1 2) (seqS (parS (((Mo.ret (.fn c.Rounds)).bind fun x23 => (isFnM c.Rounds x23).bind fun _ => ((getM 1).bind fun x33 => (((getM 1).bind fun x29 => (getM 2).bind fun x30 => Mo.lift (addA x29 x30)).bind fun x31 => (((Mo.ret (.int 10)).bind fun x25 => (Mo.ret (.int 6)).bind fun x26 => Mo.lift (powD x25 x26)).bind fun x27 => (Mo.ret []).bind fun x28 => Mo.ret (x27 :: x28)).bind fun x32 => Mo.ret (x31 :: x32)).bind fun x34 => Mo.ret (x33 :: x34)).bind fun x24 => Mo.liftR (starP 0 (F_Rounds_told c) x24)).bind fun x35 => (((Mo.ret (.fn c.Rounds)).bind fun x11 => (isFnM c.Rounds x11).bind fun _ => ((Mo.ret (.int 5040)).bind fun x19 => ((Mo.ret (.int 0)).bind fun x17 => ((getM 2).bind fun x15 => ((Mo.ret (.int 5039)).bind fun x13 => (Mo.ret []).bind fun x14 => Mo.ret (x13 :: x14)).bind fun x16 => Mo.ret (x15 :: x16)).bind fun x18 => Mo.ret (x17 :: x18)).bind fun x20 => Mo.ret (x19 :: x20)).bind fun x12 => Mo.liftR (starP 1 (F_Rounds_rests c) x12)).bind fun x21 => (Mo.ret []).bind fun x22 => Mo.ret (x21 :: x22)).bind fun x36 => Mo.ret (x35 :: x36)) 3 4) (seqS (asgS ((((getM 3).bind fun x53 => (insM c.Rounds "members" x53).bind fun _ => ((Mo.ret (.int 0)).bind fun x51 => ((Mo.ret (.int 9)).bind fun x49 => (Mo.ret []).bind fun x50 => Mo.ret (x49 :: x50)).bind fun x52 => Mo.ret (x51 :: x52)).bind fun x54 => Mo.lift ((F_Rounds_members c (x53 :: x54)).map D.lst)).bind fun x55 => (((getM 4).bind fun x45 => (insM c.Rounds "members" x45).bind fun _ => ((Mo.ret (.int 5000)).bind fun x43 => ((Mo.ret (.int 4)).bind fun x41 => (Mo.ret []).bind fun x42 => Mo.ret (x41 :: x42)).bind fun x44 => Mo.ret (x43 :: x44)).bind fun x46 => Mo.lift ((F_Rounds_members c (x45 :: x46)).map D.lst)).bind fun x47 => ((fldNM 3 c.Rounds "modulus").bind fun x39 => ((fldNM 4 c.Rounds "modulus").bind fun x37 => (Mo.ret []).bind fun x38 => Mo.ret (x37 :: x38)).bind fun x40 => Mo.ret (x39 :: x40)).bind fun x48 => Mo.ret (x47 :: x48)).bind fun x56 => Mo.ret (x55 :: x56)).bind lstM) (setE 5)) (seqS (ifS (((getM 5).bind fun x88 => (((((getM 1).bind fun x84 => (((getM 1).bind fun x80 => (getM 2).bind fun x81 => Mo.lift (addA x80 x81)).bind fun x82 => (((Mo.ret (.int 10)).bind fun x76 => (Mo.ret (.int 6)).bind fun x77 => Mo.lift (powD x76 x77)).bind fun x78 => (Mo.ret []).bind fun x79 => Mo.ret (x78 :: x79)).bind fun x83 => Mo.ret (x82 :: x83)).bind fun x85 => Mo.ret (x84 :: x85)).bind lstM).bind fun x86 => ((((Mo.ret (.int 5039)).bind fun x72 => ((Mo.ret (.int 5040)).bind fun x70 => (((Mo.ret (.int 5040)).bind fun x66 => (getM 2).bind fun x67 => Mo.lift (addA x66 x67)).bind fun x68 => (((Mo.ret (.int 5040)).bind fun x62 => (Mo.ret (.int 5039)).bind fun x63 => Mo.lift (addA x62 x63)).bind fun x64 => (Mo.ret []).bind fun x65 => Mo.ret (x64 :: x65)).bind fun x69 => Mo.ret (x68 :: x69)).bind fun x71 => Mo.ret (x70 :: x71)).bind fun x73 => Mo.ret (x72 :: x73)).bind lstM).bind fun x74 => ((Mo.ret (.int 1)).bind fun x60 => ((Mo.ret (.int 5040)).bind fun x58 => (Mo.ret []).bind fun x59 => Mo.ret (x58 :: x59)).bind fun x61 => Mo.ret (x60 :: x61)).bind fun x75 => Mo.ret (x74 :: x75)).bind fun x87 => Mo.ret (x86 :: x87)).bind lstM).bind fun x89 => Mo.lift ((oNeR c) x88 x89)).bind fun x57 => Mo.lift (blD x57)) (ofM (Mo.ret (.bl false)) fun x90 e => some (.rt x90, e)) nxS) (seqS (asgS ((((getM 3).bind fun x123 => (insM c.Rounds "after" x123).bind fun _ => (((getM 1).bind fun x125 => (Mo.ret (.int 1)).bind fun x126 => Mo.lift (addA x125 x126)).bind fun x127 => (Mo.ret []).bind fun x128 => Mo.ret (x127 :: x128)).bind fun x124 => Mo.liftR (F_Rounds_after c (x123 :: x124))).bind fun x129 => (((getM 3).bind fun x113 => (insM c.Rounds "after" x113).bind fun _ => ((((Mo.ret (.int 10)).bind fun x115 => (Mo.ret (.int 6)).bind fun x116 => Mo.lift (powD x115 x116)).bind fun x117 => (Mo.ret (.int 1)).bind fun x118 => Mo.lift (addA x117 x118)).bind fun x119 => (Mo.ret []).bind fun x120 => Mo.ret (x119 :: x120)).bind fun x114 => Mo.liftR (F_Rounds_after c (x113 :: x114))).bind fun x121 => ((((Mo.ret (.fn c.Rounds)).bind fun x105 => (isFnM c.Rounds x105).bind fun _ => (Mo.ret []).bind fun x106 => Mo.liftR (starP 0 (F_Rounds_told c) x106)).bind fun x107 => (insM c.Rounds "after" x107).bind fun _ => ((Mo.ret (.int 0)).bind fun x109 => (Mo.ret []).bind fun x110 => Mo.ret (x109 :: x110)).bind fun x108 => Mo.liftR (F_Rounds_after c (x107 :: x108))).bind fun x111 => ((((Mo.ret (.fn c.Rounds)).bind fun x91 => (isFnM c.Rounds x91).bind fun _ => ((Mo.ret (.int 1)).bind fun x95 => ((Mo.ret (.int 0)).bind fun x93 => (Mo.ret []).bind fun x94 => Mo.ret (x93 :: x94)).bind fun x96 => Mo.ret (x95 :: x96)).bind fun x92 => Mo.liftR (starP 1 (F_Rounds_rests c) x92)).bind fun x97 => (insM c.Rounds "after" x97).bind fun _ => (((Mo.ret (.int 10)).bind fun x99 => (Mo.ret (.int 9)).bind fun x100 => Mo.lift (powD x99 x100)).bind fun x101 => (Mo.ret []).bind fun x102 => Mo.ret (x101 :: x102)).bind fun x98 => Mo.liftR (F_Rounds_after c (x97 :: x98))).bind fun x103 => (Mo.ret []).bind fun x104 => Mo.ret (x103 :: x104)).bind fun x112 => Mo.ret (x111 :: x112)).bind fun x122 => Mo.ret (x121 :: x122)).bind fun x130 => Mo.ret (x129 :: x130)).bind lstM) (setE 5)) (seqS (ifS ((((getM 5).bind fun x159 => ((((getM 1).bind fun x155 => (getM 2).bind fun x156 => Mo.lift (addA x155 x156)).bind fun x157 => ((Mo.ret .non).bind fun x153 => ((Mo.ret .non).bind fun x151 => (((Mo.ret (.int 10)).bind fun x147 => (Mo.ret (.int 9)).bind fun x148 => Mo.lift (powD x147 x148)).bind fun x149 => (Mo.ret []).bind fun x150 => Mo.ret (x149 :: x150)).bind fun x152 => Mo.ret (x151 :: x152)).bind fun x154 => Mo.ret (x153 :: x154)).bind fun x158 => Mo.ret (x157 :: x158)).bind lstM).bind fun x160 => Mo.lift ((oNeR c) x159 x160)).bind fun x146 => Mo.lift (blD x146)).bind fun x161 => if x161 = true then Mo.ret true else ((((((Mo.ret (.fn c.Rounds)).bind fun x139 => (isFnM c.Rounds x139).bind fun _ => (Mo.ret []).bind fun x140 => Mo.liftR (starP 0 (F_Rounds_told c) x140)).bind fun x141 => (Mo.ret []).bind fun x142 => Mo.ret (x141 :: x142)).bind fun x143 => Mo.lift ((oBoolR c) x143)).bind fun x144 => Mo.lift (blD x144)).bind fun x145 => if x145 = true then Mo.ret true else (((((Mo.ret (.fn c.Rounds)).bind fun x131 => (isFnM c.Rounds x131).bind fun _ => ((Mo.ret (.int 7)).bind fun x133 => (Mo.ret []).bind fun x134 => Mo.ret (x133 :: x134)).bind fun x132 => Mo.liftR (starP 1 (F_Rounds_rests c) x132)).bind fun x135 => (Mo.ret []).bind fun x136 => Mo.ret (x135 :: x136)).bind fun x137 => Mo.lift ((oBoolR c) x137)).bind fun x138 => Mo.lift (blD x138)))) (ofM (Mo.ret (.bl false)) fun x162 e => some (.rt x162, e)) nxS) (ofM ((((((Mo.ret (.fn c.Rounds)).bind fun x177 => (isFnM c.Rounds x177).bind fun _ => ((Mo.ret (.int 2)).bind fun x183 => ((Mo.ret (.int 0)).bind fun x181 => ((Mo.ret (.int 1)).bind fun x179 => (Mo.ret []).bind fun x180 => Mo.ret (x179 :: x180)).bind fun x182 => Mo.ret (x181 :: x182)).bind fun x184 => Mo.ret (x183 :: x184)).bind fun x178 => Mo.liftR (starP 1 (F_Rounds_rests c) x178)).bind fun x185 => Mo.lift (own1 c.Rounds (F_Rounds_whole_from c) x185)).bind fun x186 => (((getM 3).bind fun x174 => Mo.lift (own1 c.Rounds (F_Rounds_whole_from c) x174)).bind fun x175 => ((((Mo.ret (.fn c.Rounds)).bind fun x163 => (isFnM c.Rounds x163).bind fun _ => ((Mo.ret (.int 3)).bind fun x169 => ((Mo.ret (.int 0)).bind fun x167 => ((Mo.ret (.int 1)).bind fun x165 => (Mo.ret []).bind fun x166 => Mo.ret (x165 :: x166)).bind fun x168 => Mo.ret (x167 :: x168)).bind fun x170 => Mo.ret (x169 :: x170)).bind fun x164 => Mo.liftR (starP 1 (F_Rounds_rests c) x164)).bind fun x171 => Mo.lift (own1 c.Rounds (F_Rounds_whole_from c) x171)).bind fun x172 => (Mo.ret []).bind fun x173 => Mo.ret (x172 :: x173)).bind fun x176 => Mo.ret (x175 :: x176)).bind fun x187 => Mo.ret (x186 :: x187)).bind lstM).bind fun x194 => (((Mo.ret (.int 0)).bind fun x192 => ((Mo.ret .non).bind fun x190 => ((Mo.ret .non).bind fun x188 => (Mo.ret []).bind fun x189 => Mo.ret (x188 :: x189)).bind fun x191 => Mo.ret (x190 :: x191)).bind fun x193 => Mo.ret (x192 :: x193)).bind lstM).bind fun x195 => Mo.lift ((oEqR c) x194 x195)) fun x196 e => some (.rt x196, e))))))))
noncomputable def F__law_several_right (c : Cs) : OV → List D → Option (Except Ex D × OV) := runM ["_law_draws", "_law_a", "_law_b", "_law_some", "_law_rests", "_law_found"] 1  (m__law_several_right c)
/-- law -/
noncomputable def m_law (c : Cs) : Sm := (seqS (forS (((((Mo.ret (.int 1)).bind fun x11 => ((((((getM 0).bind fun x3 => (Mo.ret []).bind fun x4 => Mo.ret (x3 :: x4)).bind fun x5 => Mo.lift (lenD x5)).bind fun x6 => ((Mo.ret (.int 4)).bind fun x1 => (Mo.ret []).bind fun x2 => Mo.ret (x1 :: x2)).bind fun x7 => Mo.ret (x6 :: x7)).bind fun x8 => Mo.lift (min2D x8)).bind fun x9 => (Mo.ret []).bind fun x10 => Mo.ret (x9 :: x10)).bind fun x12 => Mo.ret (x11 :: x12)).bind fun x13 => Mo.lift (max2D x13)).bind fun x14 => (Mo.ret []).bind fun x15 => Mo.ret (x14 :: x15)).bind fun x16 => Mo.lift (rng1D x16)) (setE 1) (seqS (ownS (((getM 0).bind fun x19 => ((getM 1).bind fun x17 => (Mo.ret []).bind fun x18 => Mo.ret (x17 :: x18)).bind fun x20 => Mo.ret (x19 :: x20)).bind fun x21 => Mo.lift (F__law_purse c x21)) 2) (ifS ((((callM 2 (F__law_right c) (Mo.ret [])).bind fun x24 => Mo.lift (blD x24)).bind fun x25 => Mo.ret (!x25)).bind fun x26 => if x26 = true then Mo.ret true else (((callM 2 (F__law_several_right c) (Mo.ret [])).bind fun x22 => Mo.lift (blD x22)).bind fun x23 => Mo.ret (!x23))) (ofM (Mo.ret (.bl false)) fun x27 e => some (.rt x27, e)) nxS))) (ofM (Mo.ret (.bl true)) fun x28 e => some (.rt x28, e)))
noncomputable def F_law (c : Cs) : List D → Option (Except Ex D) := runP ["_law_cells", "_law_at", "_law_draws"] 1  (m_law c)
end LX
namespace PD
open PySem PySem.Spec PyProof.Rows PySem.Calls L2
theorem x_parO {ms : Mo (List D)} {is : List Nat} {ks : List Bool} {ds : List D} {e e1 e2 e3 : En} (h1 : ms e = some (.ok ds, e1)) (h2 : putE is ks ds e1 = some e2) (hn : e2 = e3) : parO ms is ks e = some (.nx, e3) := by
  show ofM _ _ e = _; unfold ofM; rw [h1]; dsimp only; rw [h2, hn]; rfl
theorem x_unpO {i n : Nat} {fs : List D → En → Option En} {b : Bool} {l : List D} {e e2 e3 : En} (h : e[i]? = some (.own b ⟨.lst, l⟩)) (hl : l.length = n) (h2 : fs l e = some e2) (hn : e2 = e3) : unpS i n fs e = some (.nx, e3) := by
  unfold unpS; rw [h]; dsimp only; rw [if_pos hl, h2, hn]; rfl
theorem x_unpV {i n : Nat} {fs : List D → En → Option En} {l : List D} {e e2 e3 : En} (h : e[i]? = some (.val (.lst l))) (hl : l.length = n) (h2 : fs l e = some e2) (hn : e2 = e3) : unpS i n fs e = some (.nx, e3) := by
  unfold unpS; rw [h]; dsimp only; rw [if_pos hl, h2, hn]; rfl
/-- a loop over a list of x's data, with a state -/
theorem forL_st {σ α : Type} {f : D → En → Option En} {b : Sm} (g : α → D) (E : σ → En) (step : σ → α → σ) (Inv : σ → List α → Prop) (h : ∀ s x xs, Inv s (x :: xs) → ∃ e1, f (g x) (E s) = some e1 ∧ b e1 = some (.nx, E (step s x)) ∧ Inv (step s x) xs) :
    ∀ (xs : List α) (s : σ), Inv s xs → forL f b (xs.map g) (E s) = some (.nx, E (xs.foldl step s)) ∧ Inv (xs.foldl step s) []
  | [], s, hs => ⟨rfl, hs⟩
  | x :: xs, s, hs => by
    obtain ⟨e1, h1, h2, h3⟩ := h s x xs hs
    obtain ⟨r1, r2⟩ := forL_st g E step Inv h xs _ h3
    refine ⟨?_, r2⟩
    rw [List.map_cons, forL_cons, h1]
    dsimp only
    rw [h2]
    dsimp only
    rw [r1]
    rfl
theorem rngL_eq {n : Nat} : rngL 0 (n : Int) = (List.range n).map fun i : Nat => D.int (i : Int) := by
  unfold rngL
  rw [Int.sub_zero, Int.toNat_natCast]
  exact List.map_congr_left fun i _ => by rw [Int.zero_add]
theorem rng1_nat {n : Nat} (h : n < 1000) : rng1D [.int (n : Int)] = some ((List.range n).map fun i : Nat => D.int (i : Int)) := by
  rw [← rngL_eq]
  show rngD [.int (n : Int)] = _
  exact rngD_ev (j := (n : Int)) (by omega) (by omega)
theorem ix_lst {l : List D} {k : Nat} {d : D} (h : l[k]? = some d) : ixD (.lst l) (.int (k : Int)) = some d := by
  have hk : k < l.length := (List.getElem?_eq_some_iff.mp h).1
  show atI l (k : Int) = _
  unfold atI ixN
  rw [if_pos (Int.natCast_nonneg k), if_pos (by omega), Int.toNat_natCast]; exact h
theorem len_lst {l : List D} : lenD [.lst l] = some (.int (l.length : Int)) := by unfold lenD; rfl
theorem len_tup {l : List D} : lenD [.tup l] = some (.int (l.length : Int)) := by unfold lenD; rfl
/-- loops with an invariant -/
theorem forL_ex {σ α : Type} {f : D → En → Option En} {b : Sm} (g : α → D) (E : σ → En) (Inv : σ → List α → Prop) (h : ∀ s x xs, Inv s (x :: xs) → ∃ e1 s', f (g x) (E s) = some e1 ∧ b e1 = some (.nx, E s') ∧ Inv s' xs) :
    ∀ (xs : List α) (s : σ), Inv s xs → ∃ s', forL f b (xs.map g) (E s) = some (.nx, E s') ∧ Inv s' []
  | [], s, hs => ⟨s, rfl, hs⟩
  | x :: xs, s, hs => by
    obtain ⟨e1, s1, h1, h2, h3⟩ := h s x xs hs
    obtain ⟨s2, r1, r2⟩ := forL_ex g E Inv h xs s1 h3
    refine ⟨s2, ?_, r2⟩
    rw [List.map_cons, forL_cons, h1]
    dsimp only
    rw [h2]
    dsimp only
    rw [r1]
theorem forL_rng {σ : Type} {f : D → En → Option En} {b : Sm} (E : σ → En) (Inv : σ → Nat → Prop) (n : Nat) (h : ∀ s k, k < n → Inv s k → ∃ e1 s', f (.int (k : Int)) (E s) = some e1 ∧ b e1 = some (.nx, E s') ∧ Inv s' (k + 1)) (s : σ) (h0 : Inv s 0) :
    ∃ s', forL f b ((List.range n).map fun i : Nat => D.int (i : Int)) (E s) = some (.nx, E s') ∧ Inv s' n := by
  have := forL_ex (f := f) (b := b) (fun i : Nat => D.int (i : Int)) E (fun s xs => ∃ k, k ≤ n ∧ xs = (List.range n).drop k ∧ Inv s k) (fun s x xs ⟨k, hk, e, hi⟩ => by
    have hlt : k < n := by
      rcases Nat.lt_or_ge k n with z | z
      · exact z
      · rw [List.drop_eq_nil_of_le (by rw [List.length_range]; exact z)] at e; cases e
    rw [List.drop_eq_getElem_cons (by rw [List.length_range]; exact hlt), List.getElem_range] at e
    injection e with ea eb
    subst ea
    obtain ⟨e1, s', h1, h2, h3⟩ := h s x hlt hi
    exact ⟨e1, s', h1, h2, x + 1, hlt, eb, h3⟩) (List.range n) s ⟨0, Nat.zero_le _, rfl, h0⟩
  obtain ⟨s', h1, k, hk, e, h2⟩ := this
  refine ⟨s', h1, ?_⟩
  have : n - k = 0 := by have := congrArg List.length e; rw [List.length_drop, List.length_range] at this; simpa using this.symm
  rwa [show n = k by omega]
inductive All2 {α β : Type} (R : α → β → Prop) : List α → List β → Prop where
  | nil : All2 R [] []
  | cons {a b l m} : R a b → All2 R l m → All2 R (a :: l) (b :: m)
theorem All2.len {α β : Type} {R : α → β → Prop} {l : List α} {m : List β} (h : All2 R l m) : l.length = m.length := by induction h with | nil => rfl | cons _ _ ih => rw [List.length_cons, List.length_cons, ih]
theorem All2.get {α β : Type} {R : α → β → Prop} {l : List α} {m : List β} (h : All2 R l m) : ∀ {i : Nat} {a : α}, l[i]? = some a → ∃ b, m[i]? = some b ∧ R a b := by
  induction h with
  | nil => intro i a e; cases i <;> cases e
  | cons h _ ih =>
    intro i a e
    cases i with
    | zero => cases e; exact ⟨_, rfl, h⟩
    | succ i => exact ih e
theorem lcL_ex {σ α : Type} {f : D → En → Option En} {mt : Mo Bool} {me : Mo D} {vs : List Nat} (gd : α → D) (E : σ → En) (Inv : σ → List α → Prop) (R : α → D → Prop)
    (h : ∀ s x xs, Inv s (x :: xs) → ∃ e1 e2 e3 y s', f (gd x) (E s) = some e1 ∧ mt e1 = some (.ok true, e2) ∧ me e2 = some (.ok y, e3) ∧ wipeE e3 vs = E s' ∧ R x y ∧ Inv s' xs) :
    ∀ (xs : List α) (s : σ) (acc : List D), Inv s xs → acc.length + xs.length ≤ 1000 → ∃ ys s', lcL f mt me vs acc (xs.map gd) (E s) = some (.ok (acc ++ ys), E s') ∧ Inv s' [] ∧ All2 R xs ys
  | [], s, acc, hs, _ => ⟨[], s, by rw [List.map_nil, lcL_nil]; exact congrArg (fun z => some ((Except.ok z : Except Ex (List D)), E s)) (List.append_nil acc).symm, hs, .nil⟩
  | x :: xs, s, acc, hs, hl => by
    obtain ⟨e1, e2, e3, y, s1, h1, h2, h3, h4, h5, h6⟩ := h s x xs hs
    rw [List.length_cons] at hl
    obtain ⟨ys, s2, r1, r2, r3⟩ := lcL_ex gd E Inv R h xs s1 (acc ++ [y]) h6 (by rw [List.length_append, List.length_singleton]; omega)
    refine ⟨y :: ys, s2, ?_, r2, .cons h5 r3⟩
    rw [List.map_cons, lcL_cons, h1]
    dsimp only
    rw [h2]
    dsimp only
    rw [h3]
    dsimp only
    rw [if_pos (Nat.lt_of_lt_of_le (show acc.length < 1001 by omega) (by decide)), h4, r1, List.append_assoc]
    rfl
theorem lcL_mapA {α : Type} {f : D → En → Option En} {mt : Mo Bool} {me : Mo D} {vs : List Nat} (gd g : α → D) (e0 : En) : ∀ (xs : List α) (acc : List D), (∀ x ∈ xs, ∃ e1 e2 e3, f (gd x) e0 = some e1 ∧ mt e1 = some (.ok true, e2) ∧ me e2 = some (.ok (g x), e3) ∧ wipeE e3 vs = e0) → acc.length + xs.length ≤ 1000 →
    lcL f mt me vs acc (xs.map gd) e0 = some (.ok (acc ++ xs.map g), e0)
  | [], acc, _, _ => by rw [List.map_nil, lcL_nil, List.map_nil, List.append_nil]
  | x :: xs, acc, h, hl => by
    obtain ⟨e1, e2, e3, h1, h2, h3, h4⟩ := h x List.mem_cons_self
    rw [List.length_cons] at hl
    rw [List.map_cons, lcL_cons, h1]
    dsimp only
    rw [h2]
    dsimp only
    rw [h3]
    dsimp only
    rw [if_pos (Nat.lt_of_lt_of_le (show acc.length < 1001 by omega) (by decide)), h4, lcL_mapA gd g e0 xs _ (fun x hx => h x (List.mem_cons_of_mem _ hx)) (by rw [List.length_append, List.length_singleton]; omega), List.append_assoc]
    rfl
theorem x_lcA {α : Type} {mi : Mo (List D)} {f : D → En → Option En} {mt : Mo Bool} {me : Mo D} {vs : List Nat} {e e1 e2 e' : En} (gd g : α → D) (xs : List α) (h1 : mi e = some (.ok (xs.map gd), e1)) (hn : noOwn e1 vs = true) (hw : wipeE e1 vs = e2)
    (h : ∀ x ∈ xs, ∃ a b d, f (gd x) e2 = some a ∧ mt a = some (.ok true, b) ∧ me b = some (.ok (g x), d) ∧ wipeE d vs = e2) (hl : xs.length ≤ 1000) (hr : restE e1 e2 vs = e') : lcM mi f mt me vs e = some (.ok (xs.map g), e') :=
  x_lc h1 rfl hn hw ((lcL_mapA gd g e2 xs [] h (by rw [List.length_nil]; omega)).trans (by rw [List.nil_append])) hr
theorem ix_map {α : Type} {l : List α} {k : Nat} {a : α} {g : α → D} (h : l[k]? = some a) : ixD (.lst (l.map g)) (.int (k : Int)) = some (g a) := ix_lst (by rw [List.getElem?_map, h]; rfl)
theorem ix_mapT {α : Type} {l : List α} {k : Nat} {a : α} {g : α → D} (h : l[k]? = some a) : ixD (.tup (l.map g)) (.int (k : Int)) = some (g a) := ix_map h
theorem len_mapT {α : Type} {l : List α} {g : α → D} : lenD [.tup (l.map g)] = some (.int (l.length : Int)) := by rw [len_tup, List.length_map]
def EnR (m : Sm) (e : En) (P : Out → En → Prop) : Prop := ∃ o e1, m e = some (o, e1) ∧ P o e1
section
variable {m s t b : Sm} {e e1 e2 : En} {P Q : Out → En → Prop} {o : Out}
theorem EnR.of (h : m e = some (o, e1)) (p : P o e1) : EnR m e P := ⟨o, e1, h, p⟩
theorem EnR.imp (h : EnR m e P) (q : ∀ o e1, P o e1 → Q o e1) : EnR m e Q := let ⟨o, e1, h1, h2⟩ := h; ⟨o, e1, h1, q o e1 h2⟩
theorem en_seq (h1 : s e = some (.nx, e1)) (h2 : EnR t e1 P) : EnR (seqS s t) e P := let ⟨o, e2, w1, w2⟩ := h2; ⟨o, e2, x_seq h1 w1, w2⟩
theorem en_seqE (h : EnR s e fun o e1 => o = .nx ∧ EnR t e1 P) : EnR (seqS s t) e P := let ⟨_, _, h1, e, h2⟩ := h; en_seq (e ▸ h1) h2
theorem en_for {σ α : Type} {mi : Mo (List D)} {f : D → En → Option En} {ds : List D} (g : α → D) (E : σ → En) (Inv : σ → List α → Prop) (xs : List α) (s0 : σ) (h1 : mi e = some (.ok ds, e1)) (hd : ds = xs.map g) (he : e1 = E s0) (h0 : Inv s0 xs)
    (h : ∀ s x xs, Inv s (x :: xs) → ∃ e2, f (g x) (E s) = some e2 ∧ EnR b e2 fun o e3 => o = .nx ∧ ∃ s', e3 = E s' ∧ Inv s' xs) (k : ∀ s', Inv s' [] → P .nx (E s')) : EnR (forS mi f b) e P := by
  obtain ⟨s', r1, r2⟩ := forL_ex (f := f) (b := b) g E Inv (fun s x xs hi => by
    obtain ⟨e2, q1, o, e3, q2, q3, s', q4, q5⟩ := h s x xs hi
    subst q3; subst q4
    exact ⟨e2, s', q1, q2, q5⟩) xs s0 h0
  subst he
  exact ⟨_, _, x_for h1 hd r1, k s' r2⟩
theorem en_rng {σ : Type} {mi : Mo (List D)} {f : D → En → Option En} {ds : List D} (E : σ → En) (Inv : σ → Nat → Prop) (n : Nat) (s0 : σ) (h1 : mi e = some (.ok ds, e1)) (hd : ds = (List.range n).map fun i : Nat => D.int (i : Int)) (he : e1 = E s0) (h0 : Inv s0 0)
    (h : ∀ s k, k < n → Inv s k → ∃ e2, f (.int (k : Int)) (E s) = some e2 ∧ EnR b e2 fun o e3 => o = .nx ∧ ∃ s', e3 = E s' ∧ Inv s' (k + 1)) (k : ∀ s', Inv s' n → P .nx (E s')) : EnR (forS mi f b) e P := by
  obtain ⟨s', r1, r2⟩ := forL_rng (f := f) (b := b) E Inv n (fun s k hk hi => by
    obtain ⟨e2, q1, o, e3, q2, q3, s', q4, q5⟩ := h s k hk hi
    subst q3; subst q4
    exact ⟨e2, s', q1, q2, q5⟩) s0 h0
  subst he
  exact ⟨_, _, x_for h1 hd r1, k s' r2⟩
theorem x_PE {N : List Str} {n : Nat} {ds : List D} {r : Except Ex D} {e0 : En} (hl : ds.length = n) (he : stE N ds = e0) (h : EnR m e0 fun o _ => outR o = some r) : runP N n m ds = some r := by
  obtain ⟨o, e1, h1, h2⟩ := h
  exact x_P hl he h1 h2
theorem x_ME {N : List Str} {n : Nat} {l0 : OV} {ds : List D} {e0 : En} {R : Except Ex D → OV → Prop} (hl : ds.length + 1 = n) (he : stO N l0 ds = e0) (h : EnR m e0 fun o e1 => ∃ r l, outR o = some r ∧ e1[0]? = some (.own false l) ∧ R r l) : ∃ r l, runM N n m l0 ds = some (r, l) ∧ R r l := by
  obtain ⟨o, e1, h1, r, l, h2, h3, h4⟩ := h
  exact ⟨r, l, x_M hl he h1 h2 h3, h4⟩
end
theorem turn_mk {f : D → En → Option En} {mt : Mo Bool} {me : Mo D} {vs : List Nat} {x y : D} {e2 a b d : En} (h1 : f x e2 = some a) (h2 : mt a = some (.ok true, b)) (h3 : me b = some (.ok y, d)) (h4 : wipeE d vs = e2) : ∃ a b d, f x e2 = some a ∧ mt a = some (.ok true, b) ∧ me b = some (.ok y, d) ∧ wipeE d vs = e2 := ⟨a, b, d, h1, h2, h3, h4⟩
theorem lp_mk {f : D → En → Option En} {b : Sm} {x : D} {e e2 : En} {P : Out → En → Prop} (h1 : f x e = some e2) (h2 : EnR b e2 P) : ∃ e2, f x e = some e2 ∧ EnR b e2 P := ⟨e2, h1, h2⟩
theorem bnot_t : (!true) = false := rfl
theorem bnot_f : (!false) = true := rfl
def XE {α : Type} (m : Mo α) (e : En) (P : α → En → Prop) : Prop := ∃ a e1, m e = some (.ok a, e1) ∧ P a e1
section
variable {α β : Type} {m : Mo α} {e e1 : En} {P : α → En → Prop}
theorem xe_of {a : α} (h : m e = some (.ok a, e1)) (p : P a e1) : XE m e P := ⟨a, e1, h, p⟩
theorem xe_bind {f : α → Mo β} {P : β → En → Prop} (h : XE m e fun a e1 => XE (f a) e1 P) : XE (m.bind f) e P := by
  obtain ⟨a, e1, h1, b, e2, h2, h3⟩ := h
  exact ⟨b, e2, x_bind h1 h2, h3⟩
theorem en_asgX {me : Mo D} {f : D → En → Option En} {P : Out → En → Prop} (h : XE me e fun d e1 => ∃ e2, f d e1 = some e2 ∧ P .nx e2) : EnR (asgS me f) e P := by
  obtain ⟨d, e1, h1, e2, h2, h3⟩ := h
  exact ⟨_, _, x_asg h1 h2 rfl, h3⟩
theorem xe_lc {σ γ : Type} {mi : Mo (List D)} {f : D → En → Option En} {mt : Mo Bool} {me : Mo D} {vs : List Nat} {ds : List D} {P : List D → En → Prop} (gd : γ → D) (E : σ → En) (Inv : σ → List γ → Prop) (R : γ → D → Prop) (xs : List γ) (s0 : σ) (h1 : mi e = some (.ok ds, e1)) (hd : ds = xs.map gd) (hn : noOwn e1 vs = true) (he : wipeE e1 vs = E s0) (h0 : Inv s0 xs) (hl : xs.length ≤ 1000)
    (h : ∀ s x xs, Inv s (x :: xs) → ∃ a1 a2 a3 y s', f (gd x) (E s) = some a1 ∧ mt a1 = some (.ok true, a2) ∧ me a2 = some (.ok y, a3) ∧ wipeE a3 vs = E s' ∧ R x y ∧ Inv s' xs)
    (k : ∀ ys s', Inv s' [] → All2 R xs ys → P ys (restE e1 (E s') vs)) : XE (lcM mi f mt me vs) e P := by
  subst hd
  obtain ⟨ys, s', r1, r2, r3⟩ := lcL_ex (f := f) (mt := mt) (me := me) (vs := vs) gd E Inv R h xs s0 [] h0 (by rw [List.length_nil]; omega)
  rw [List.nil_append] at r1
  exact ⟨ys, _, x_lc h1 rfl hn he r1 rfl, k ys s' r2 r3⟩
end
theorem turn_ex {σ : Type} {f : D → En → Option En} {mt : Mo Bool} {me : Mo D} {vs : List Nat} {x y : D} {e a b d : En} {E : σ → En} {s' : σ} {Q : D → σ → Prop} (h1 : f x e = some a) (h2 : mt a = some (.ok true, b)) (h3 : me b = some (.ok y, d)) (h4 : wipeE d vs = E s') (h5 : Q y s') : ∃ a1 a2 a3 y s', f x e = some a1 ∧ mt a1 = some (.ok true, a2) ∧ me a2 = some (.ok y, a3) ∧ wipeE a3 vs = E s' ∧ Q y s' := ⟨a, b, d, y, s', h1, h2, h3, h4, h5⟩
end PD
namespace PD
open PySem PySem.Spec PyProof.Rows PySem.Calls L2
theorem lcL_filtA {α : Type} {f : D → En → Option En} {mt : Mo Bool} {me : Mo D} {vs : List Nat} (gd g : α → D) (p : α → Bool) (e0 : En) : ∀ (xs : List α) (acc : List D),
    (∀ x ∈ xs, ∃ e1 e2, f (gd x) e0 = some e1 ∧ mt e1 = some (.ok (p x), e2) ∧ (p x = true → ∃ e3, me e2 = some (.ok (g x), e3) ∧ wipeE e3 vs = e0) ∧ (p x = false → wipeE e2 vs = e0)) → acc.length + xs.length ≤ 1000 →
    lcL f mt me vs acc (xs.map gd) e0 = some (.ok (acc ++ (xs.filter p).map g), e0)
  | [], acc, _, _ => by rw [List.map_nil, lcL_nil, List.filter_nil, List.map_nil, List.append_nil]
  | x :: xs, acc, h, hl => by
    obtain ⟨e1, e2, h1, h2, h3, h4⟩ := h x List.mem_cons_self
    rw [List.length_cons] at hl
    rw [List.map_cons]
    refine x_lcc h1 rfl h2 ?_
    cases hp : p x with
    | true =>
      obtain ⟨e3, h5, h6⟩ := h3 hp
      refine x_lckT rfl h5 (by omega) rfl h6 ?_
      rw [lcL_filtA gd g p e0 xs _ (fun x hx => h x (List.mem_cons_of_mem _ hx)) (by rw [List.length_append, List.length_singleton]; omega), List.filter_cons_of_pos hp, List.map_cons, List.append_assoc]; rfl
    | false =>
      refine x_lckF rfl (h4 hp) ?_
      rw [lcL_filtA gd g p e0 xs acc (fun x hx => h x (List.mem_cons_of_mem _ hx)) (by omega), List.filter_cons_of_neg (by rw [hp]; exact Bool.false_ne_true)]
theorem x_lcF {α : Type} {mi : Mo (List D)} {f : D → En → Option En} {mt : Mo Bool} {me : Mo D} {vs : List Nat} {e e1 e2 e' : En} (gd g : α → D) (p : α → Bool) (xs : List α) (h1 : mi e = some (.ok (xs.map gd), e1)) (hn : noOwn e1 vs = true) (hw : wipeE e1 vs = e2)
    (h : ∀ x ∈ xs, ∃ e1 e3, f (gd x) e2 = some e1 ∧ mt e1 = some (.ok (p x), e3) ∧ (p x = true → ∃ e4, me e3 = some (.ok (g x), e4) ∧ wipeE e4 vs = e2) ∧ (p x = false → wipeE e3 vs = e2)) (hl : xs.length ≤ 1000) (hr : restE e1 e2 vs = e') : lcM mi f mt me vs e = some (.ok ((xs.filter p).map g), e') :=
  x_lc h1 rfl hn hw ((lcL_filtA gd g p e2 xs [] h (by rw [List.length_nil]; omega)).trans (by rw [List.nil_append])) hr
theorem x_lcFV {α : Type} {mi : Mo (List D)} {f : D → En → Option En} {mt : Mo Bool} {me : Mo D} {vs : List Nat} {e e1 e2 e' : En} (gd g : α → D) (p : α → Bool) (xs : List α) (h1 : mi e = some (.ok (xs.map gd), e1)) (hn : noOwn e1 vs = true) (hw : wipeE e1 vs = e2)
    (h : ∀ x ∈ xs, ∃ e1 e3, f (gd x) e2 = some e1 ∧ mt e1 = some (.ok (p x), e3) ∧ (p x = true → ∃ e4, me e3 = some (.ok (g x), e4) ∧ wipeE e4 vs = e2) ∧ (p x = false → wipeE e3 vs = e2)) (hl : xs.length ≤ 1000) (hr : restE e1 e2 vs = e') : ((lcM mi f mt me vs).bind fun l => Mo.ret (D.lst l)) e = some (.ok (.lst ((xs.filter p).map g)), e') :=
  x_bind (x_lcF gd g p xs h1 hn hw h hl hr) (x_bok rfl)
theorem turn_f {f : D → En → Option En} {mt : Mo Bool} {me : Mo D} {vs : List Nat} {x y : D} {p : Bool} {e0 a b d : En} (h1 : f x e0 = some a) (h2 : mt a = some (.ok p, b)) (h3 : me b = some (.ok y, d)) (h4 : wipeE d vs = e0) (h5 : wipeE b vs = e0) :
    ∃ e1 e3, f x e0 = some e1 ∧ mt e1 = some (.ok p, e3) ∧ (p = true → ∃ e4, me e3 = some (.ok y, e4) ∧ wipeE e4 vs = e0) ∧ (p = false → wipeE e3 vs = e0) := ⟨a, b, h1, h2, fun _ => ⟨d, h3, h4⟩, fun _ => h5⟩
def od : Option D → SD
  | none => .no
  | some d => .val d
theorem whileN_st {σ : Type} {cm : Mo Bool} {b : Sm} (E : σ → En) (Inv : σ → Prop) (μ : σ → Nat) (h : ∀ s, Inv s → ∃ k : Bool, cm (E s) = some (.ok k, E s) ∧ (k = true → ∃ s', b (E s) = some (.nx, E s') ∧ Inv s' ∧ μ s' < μ s) ∧ (k = false → True)) :
    ∀ (n : Nat) (s : σ), μ s ≤ n → Inv s → ∃ s', whileN cm b (n + 1) (E s) = some (.nx, E s') ∧ Inv s' ∧ cm (E s') = some (.ok false, E s')
  | n, s, hn, hi => by
    obtain ⟨k, h1, h2, _⟩ := h s hi
    cases k with
    | false =>
      refine ⟨s, ?_, hi, h1⟩
      show (match cm (E s) with
        | some (.ok true, e1) => (match b e1 with | some (.nx, e2) => whileN cm b n e2 | some (.ct, e2) => whileN cm b n e2 | some (.bk, e2) => some (.nx, e2) | r => r)
        | some (.ok false, e1) => some (.nx, e1) | some (.error x, e1) => some (.ex x, e1) | none => none) = _
      rw [h1]
    | true =>
      obtain ⟨s1, h3, h4, h5⟩ := h2 rfl
      cases n with
      | zero => omega
      | succ n =>
        obtain ⟨s2, r1, r2, r3⟩ := whileN_st E Inv μ h n s1 (by omega) h4
        refine ⟨s2, ?_, r2, r3⟩
        show (match cm (E s) with
          | some (.ok true, e1) => (match b e1 with | some (.nx, e2) => whileN cm b (n + 1) e2 | some (.ct, e2) => whileN cm b (n + 1) e2 | some (.bk, e2) => some (.nx, e2) | r => r)
          | some (.ok false, e1) => some (.nx, e1) | some (.error x, e1) => some (.ex x, e1) | none => none) = _
        rw [h1]
        dsimp only
        rw [h3]
        exact r1
theorem en_while {σ : Type} {cm : Mo Bool} {b : Sm} {e : En} {P : Out → En → Prop} (E : σ → En) (Inv : σ → Prop) (μ : σ → Nat) (s0 : σ) (he : e = E s0) (h0 : Inv s0) (h : ∀ s, Inv s → ∃ k : Bool, cm (E s) = some (.ok k, E s) ∧ (k = true → ∃ s', b (E s) = some (.nx, E s') ∧ Inv s' ∧ μ s' < μ s) ∧ (k = false → True))
    (k : ∀ s, Inv s → cm (E s) = some (.ok false, E s) → P .nx (E s)) : EnR (whileS cm b) e P := by
  subst he
  obtain ⟨s', h1, h2, h3⟩ := whileN_st E Inv μ h (μ s0) s0 (Nat.le_refl _) h0
  exact ⟨_, _, whileS_of h1, k s' h2 h3⟩
theorem addA_int {i j : Int} : addA (.int i) (.int j) = some (.int (i + j)) := rfl
theorem addA_lst {a b : List D} (h : a.length + b.length ≤ 1000) : addA (.lst a) (.lst b) = some (.lst (a ++ b)) := by unfold addA; rw [addD_lst h]; rfl
theorem mulA_int {i j : Int} (h : j.natAbs < 2 ^ 64) : mulA (.int i) (.int j) = some (.int (i * j)) := by unfold mulA; rw [mulD_R h]; rfl
theorem slD2_lst {l : List D} {a b : Option Int} : slD2 (.lst l) a b = some (.lst (cutG l a b)) := rfl
theorem iterD_lst {l : List D} : iterD (.lst l) = some l := rfl
theorem iterD_tup {l : List D} : iterD (.tup l) = some l := rfl
theorem cutG_to {α : Type} {l : List α} {k : Nat} : cutG l none (some (k : Int)) = l.take k := by
  unfold cutG
  rw [HT.sIx_none, HT.sIx_nat]
  show l.take (min k l.length - 0) = _
  rw [Nat.sub_zero]
  rcases Nat.le_total k l.length with h | h
  · rw [Nat.min_eq_left h]
  · rw [Nat.min_eq_right h, List.take_of_length_le (Nat.le_refl _), List.take_of_length_le h]
end PD
namespace LX
open PySem PySem.Spec PyProof.Rows PySem.Calls L2 PD
local macro_rules
  | `(tactic| exists (), $fs,*) => do
    let mut t ← `(tactic| fail)
    for f in fs.getElems.reverse do
      t ← `(tactic| first | exact $f | $t:tactic)
    `(tactic| repeat' (first | (with_reducible first | exact x_ret | apply x_bind | apply x_bok | exact x_berr | apply x_lift | apply x_liftR | apply x_seq | apply x_snx | exact x_srt | exact x_sex | exact x_srf | exact x_sbk | exact x_sct | exact x_nx | apply x_of | apply x_ook | exact x_oerr | apply x_asg | apply x_if | apply x_callM | apply x_ixN | apply x_par | apply x_par3 | apply x_own | apply x_parO | apply x_mut | apply x_fld | apply x_for | apply x_lc | exact x_jsnil | apply x_jscons | exact x_isFn | exact x_fnil | apply x_fcons | apply x_fknx | apply x_fkct | exact x_fkrt | exact x_fkex | exact x_fkbk | exact x_lcnil | apply x_lcc) | ((with_reducible first | apply x_get | apply x_ixV | apply x_fldV | apply x_unpO | apply x_peekV); exact rfl) | ((with_reducible first | apply x_getO | apply x_ixO | apply x_fldO | apply x_unpV | apply x_peekO); exact rfl) | ((with_reducible first | apply x_tup | apply x_lst | apply x_ln); exact Nat.le_of_ble_eq_true rfl) | ((with_reducible first | apply x_len | apply x_ins); exact rfl) | ((with_reducible first | apply x_ifT | apply x_mifT); with_reducible exact rfl) | ((with_reducible first | apply x_ifF | apply x_mifF); with_reducible exact rfl) | ((with_reducible first | apply x_ifT | apply x_mifT | apply x_lckT); with_reducible first | exact rfl | exact bnot_t | exact bnot_f | assumption | $t:tactic | exact decide_eq_true (by first | assumption | omega)) | ((with_reducible first | apply x_ifF | apply x_mifF | apply x_lckF); with_reducible first | exact rfl | exact bnot_t | exact bnot_f | assumption | $t:tactic | exact decide_eq_false (by first | assumption | omega)) | (with_reducible $t:tactic) | ((simp only [List.set_cons_zero, List.set_cons_succ, List.cons_append, List.nil_append, wipeE, restE, OV_d_lst, List.getD_cons_succ, List.getD_cons_zero]); exact rfl) | exact rfl | ((with_reducible show (_ = _)); assumption)))
  | `(tactic| exists $fs,*) => do
    let mut t ← `(tactic| fail)
    for f in fs.getElems.reverse do
      t ← `(tactic| first | exact $f | $t:tactic)
    `(tactic| repeat' (first | (with_reducible first | exact x_ret | apply x_bind | apply x_bok | exact x_berr | apply x_lift | apply x_liftR | apply x_seq | apply x_snx | exact x_srt | exact x_sex | exact x_srf | exact x_sbk | exact x_sct | exact x_nx | apply x_of | apply x_ook | exact x_oerr | apply x_asg | apply x_if | apply x_callM | apply x_ixN | apply x_par | apply x_par3 | apply x_own | apply x_parO | apply x_mut | apply x_fld | apply x_for | apply x_lc | exact x_jsnil | apply x_jscons | exact x_isFn) | ((with_reducible first | apply x_get | apply x_ixV | apply x_fldV | apply x_unpO | apply x_peekV); exact rfl) | ((with_reducible first | apply x_getO | apply x_ixO | apply x_fldO | apply x_unpV | apply x_peekO); exact rfl) | ((with_reducible first | apply x_tup | apply x_lst | apply x_ln); exact Nat.le_of_ble_eq_true rfl) | ((with_reducible first | apply x_len | apply x_ins); exact rfl) | ((with_reducible first | apply x_ifT | apply x_mifT); with_reducible exact rfl) | ((with_reducible first | apply x_ifF | apply x_mifF); with_reducible exact rfl) | ((with_reducible first | apply x_ifT | apply x_mifT); with_reducible first | exact rfl | exact bnot_t | exact bnot_f | assumption | $t:tactic | exact decide_eq_true (by first | assumption | omega)) | ((with_reducible first | apply x_ifF | apply x_mifF); with_reducible first | exact rfl | exact bnot_t | exact bnot_f | assumption | $t:tactic | exact decide_eq_false (by first | assumption | omega)) | (with_reducible $t:tactic) | ((simp only [List.set_cons_zero, List.set_cons_succ, List.cons_append, List.nil_append, wipeE, restE, OV_d_lst, List.getD_cons_succ, List.getD_cons_zero]); exact rfl) | exact rfl | ((with_reducible show (_ = _)); assumption)))
structure Pv where
  g : Int
  x : Int
  n : Int
def Pv.l (p : Pv) : List D := [.int p.g, .int p.x, .int p.n]
structure Pv.ok (k : Int) (p : Pv) : Prop where
  g0 : 0 ≤ p.g
  x0 : 0 ≤ p.x
  x1 : p.x < 2147483549
  n0 : 0 ≤ p.n
  n1 : p.n ≤ k
theorem Pv.ok.mono {j k : Int} {p : Pv} (h : p.ok j) (hk : j ≤ k) : p.ok k := ⟨h.g0, h.x0, h.x1, h.n0, Int.le_trans h.n1 hk⟩
def tkS (p : Pv) : Int := (p.x * (50027 + 6 * p.n) + 12347 * p.n + 12358).fmod 2147483549
def tk2 (p : Pv) (m : Int) : Int × Pv := if 0 < p.g then (p.g.fmod m, ⟨p.g.fdiv m, tkS p, p.n + 1⟩) else (((tkS p).fdiv 128).fmod m, ⟨p.g, tkS p, p.n + 1⟩)
theorem tk2_rng {p : Pv} {m : Int} (hm : 0 < m) : 0 ≤ (tk2 p m).1 ∧ (tk2 p m).1 < m := by
  unfold tk2
  split <;> exact ⟨Int.fmod_nonneg_of_pos _ hm, Int.fmod_lt_of_pos _ hm⟩
theorem tk2_ok {p : Pv} {m k : Int} (h : p.ok k) (hm : 0 < m) : (tk2 p m).2.ok (k + 1) := by
  have a : 0 ≤ tkS p := Int.fmod_nonneg_of_pos _ (by decide)
  have b : tkS p < 2147483549 := Int.fmod_lt_of_pos _ (by decide)
  have c := h.n0
  have d := h.n1
  unfold tk2
  split
  · exact ⟨Int.fdiv_nonneg h.g0 (by omega), a, b, by show 0 ≤ p.n + 1; omega, by show p.n + 1 ≤ k + 1; omega⟩
  · exact ⟨h.g0, a, b, by show 0 ≤ p.n + 1; omega, by show p.n + 1 ≤ k + 1; omega⟩
theorem take2_ev {c : Cs} {p : Pv} {k m : Int} (h : p.ok k) (hk : k ≤ 1000000) (hm : 0 < m) (hb : m < 2 ^ 60) : F__law_take c ⟨.lst, p.l⟩ [.int m] = some (.ok (.int (tk2 p m).1), ⟨.lst, (tk2 p m).2.l⟩) := by
  have x0 := h.x0
  have x1 := h.x1
  have n0 := h.n0
  have n1 := h.n1
  have m1 : mulD (.int 6) (.int p.n) = some (.int (6 * p.n)) := mulD_b (bdi_lt (by decide) (by decide)) (bdi_lt (by omega) (by decide))
  have m2 : mulD (.int p.x) (.int (50027 + 6 * p.n)) = some (.int (p.x * (50027 + 6 * p.n))) := mulD_b (bdi_lt (by omega) (by decide)) (bdi_lt (by omega) (by decide))
  have m3 : mulD (.int 12347) (.int p.n) = some (.int (12347 * p.n)) := mulD_b (bdi_lt (by decide) (by decide)) (bdi_lt (by omega) (by decide))
  have e1 : modD (.int (p.x * (50027 + 6 * p.n) + 12347 * p.n + 12358)) (.int 2147483549) = some (.int (tkS p)) := modD_int (by decide)
  have e2 : modD (.int p.g) (.int m) = some (.int (p.g.fmod m)) := modD_int (by omega)
  have e3 : fdivD (.int p.g) (.int m) = some (.int (p.g.fdiv m)) := fdivD_int (by omega) (Nat.lt_trans (log2_lt (k := 60) (by omega) (by decide)) (by decide))
  have e4 : fdivD (.int (tkS p)) (.int 128) = some (.int ((tkS p).fdiv 128)) := fdivD_int (by decide) (by decide)
  have e5 : modD (.int ((tkS p).fdiv 128)) (.int m) = some (.int (((tkS p).fdiv 128).fmod m)) := modD_int (by omega)
  have ii : ∀ z : Int, intD [.int z] = some (.int z) := fun z => rfl
  have x : ixD (.lst [.int p.g, .int (tkS p), .int (p.n + 1)]) (.int 1) = some (.int (tkS p)) := rfl
  by_cases hg : 0 < p.g
  · have t : tk2 p m = (p.g.fmod m, ⟨p.g.fdiv m, tkS p, p.n + 1⟩) := if_pos hg
    rw [t]
    apply x_M (n := 2) rfl
    exact (show stO ["_law_draws", "_law_many", "_law_figures", "_law_seed", "_law_turn"] ⟨.lst, p.l⟩ [.int m] = [.own false ⟨.lst, p.l⟩, .val (.int m), .no, .no, .no] from rfl)
    unfold m__law_take
    exists m1, m2, m3, e1, e2, e3, ii _, decide_eq_true hg
  · have t : tk2 p m = (((tkS p).fdiv 128).fmod m, ⟨p.g, tkS p, p.n + 1⟩) := if_neg hg
    rw [t]
    apply x_M (n := 2) rfl
    exact (show stO ["_law_draws", "_law_many", "_law_figures", "_law_seed", "_law_turn"] ⟨.lst, p.l⟩ [.int m] = [.own false ⟨.lst, p.l⟩, .val (.int m), .no, .no, .no] from rfl)
    unfold m__law_take
    exists m1, m2, m3, e1, e4, e5, ii _, x, decide_eq_false hg
theorem purse2_ev {c : Cs} {ns : List Int} {a : Int} (h0 : 0 ≤ a) (h1 : a < 1000) : ∃ p : Pv, p.ok 0 ∧ F__law_purse c [.scr ns, .int a] = some p.l := by
  have hl : lenD [.scr ns] = some (.int (ns.length : Nat)) := rfl
  obtain ⟨cv, hcv⟩ : ∃ cv : Int, cv = if a < (ns.length : Nat) then ns.getD a.toNat 0 else 0 := ⟨_, rfl⟩
  have m1 : mulD (.int cv) (.int 69621) = some (.int (cv * 69621)) := mulD_R (by decide)
  have m2 : mulD (.int a) (.int 40692) = some (.int (a * 40692)) := mulD_R (by decide)
  have e1 : modD (.int (cv * 69621 + a * 40692 + 10007)) (.int 2147483549) = some (.int ((cv * 69621 + a * 40692 + 10007).fmod 2147483549)) := modD_int (by decide)
  have p18 : powD (.int 10) (.int 18) = some (.int (10 ^ 18)) := powD_ev (n := 18) (k := 4) (by unfold bdi; decide) (by decide) (by decide)
  have ii : ∀ z : Int, intD [.int z] = some (.int z) := fun z => rfl
  have hsl : slD (.scr ns) none (some 4) = some (.lst ((cutG ns none (some 4)).map .int)) := congrArg (fun l => some (D.lst l)) (cutG_map _ _ _ _)
  let E : Int × SD → En := fun s => [SD.val (.scr ns), SD.val (.int a), SD.val (.int cv), SD.val (.int s.1), s.2]
  have fin : ∀ s : Int × SD, 0 ≤ s.1 ∧ s.1 < 2147483549 → ∃ p : Pv, p.ok 0 ∧ p.l = [.int (if (10 : Int) ^ 18 ≤ cv.natAbs then (cv.natAbs : Int) else 0), .int s.1, .int 0] := fun s hs =>
    ⟨⟨if (10 : Int) ^ 18 ≤ cv.natAbs then (cv.natAbs : Int) else 0, s.1, 0⟩, ⟨by dsimp only; split <;> omega, hs.1, hs.2, Int.le_refl _, Int.le_refl _⟩, rfl⟩
  have ab : absD [.int cv] = some (.int (cv.natAbs : Int)) := absD_int
  have main : ∃ s : Int × SD, (0 ≤ s.1 ∧ s.1 < 2147483549) ∧ F__law_purse c [.scr ns, .int a] = some [.int (if (10 : Int) ^ 18 ≤ cv.natAbs then (cv.natAbs : Int) else 0), .int s.1, .int 0] := by
    by_cases ha : a < (ns.length : Nat)
    · have ec : ixD (.scr ns) (.int a) = some (.int cv) := by rw [hcv, if_pos ha]; exact ix_scr h0 ha
      refine ⟨((cv * 69621 + a * 40692 + 10007).fmod 2147483549, SD.no), ⟨Int.fmod_nonneg_of_pos _ (by decide), Int.fmod_lt_of_pos _ (by decide)⟩, ?_⟩
      have ha2 : decide ((ns.length : Int) ≤ a) = false := decide_eq_false (by omega)
      have itn : iterD (.lst []) = some [] := rfl
      by_cases hg : (10 : Int) ^ 18 ≤ cv.natAbs
      · rw [if_pos hg]
        apply x_F (n := 2) rfl
        exact (show stE ["_law_cells", "_law_at", "_law_cell", "_law_seed", "_law_other"] [.scr ns, .int a] = [.val (.scr ns), .val (.int a), .no, .no, .no] from rfl)
        unfold m__law_purse
        exists (), hl, decide_eq_true ha, ec, m1, m2, e1, ii _, ha2, itn, ab, p18, decide_eq_true hg
      · rw [if_neg hg]
        apply x_F (n := 2) rfl
        exact (show stE ["_law_cells", "_law_at", "_law_cell", "_law_seed", "_law_other"] [.scr ns, .int a] = [.val (.scr ns), .val (.int a), .no, .no, .no] from rfl)
        unfold m__law_purse
        exists (), hl, decide_eq_true ha, ec, m1, m2, e1, ii _, ha2, itn, ab, p18, decide_eq_false hg
    · have ec : cv = 0 := by rw [hcv, if_neg ha]
      have ha2 : decide ((ns.length : Int) ≤ a) = true := decide_eq_true (by omega)
      have itn : iterD (.lst ((cutG ns none (some 4)).map .int)) = some ((cutG ns none (some 4)).map .int) := rfl
      have inv0 : ∀ z : Int, 0 ≤ z.fmod 2147483549 ∧ z.fmod 2147483549 < 2147483549 := fun z => ⟨Int.fmod_nonneg_of_pos _ (by decide), Int.fmod_lt_of_pos _ (by decide)⟩
      let st : Int × SD → Int → Int × SD := fun s n => ((s.1 * 45991 + n).fmod 2147483549, SD.val (.int n))
      let s1 : Int × SD := (cutG ns none (some 4)).foldl st ((cv * 69621 + a * 40692 + 10007).fmod 2147483549, SD.no)
      have hs1 : 0 ≤ s1.1 ∧ s1.1 < 2147483549 := by
        have : ∀ (l : List Int) (s : Int × SD), 0 ≤ s.1 ∧ s.1 < 2147483549 → 0 ≤ (l.foldl st s).1 ∧ (l.foldl st s).1 < 2147483549 := fun l => by
          induction l with
          | nil => exact fun s h => h
          | cons n l ih => exact fun s h => ih _ (inv0 _)
        exact this _ _ (inv0 _)
      have h0z : absD [.int cv] = some (.int 0) := by rw [ec]; rfl
      refine ⟨s1, hs1, ?_⟩
      have hgz : ¬ (10 : Int) ^ 18 ≤ cv.natAbs := by rw [ec]; decide
      have hg0 : decide ((10 : Int) ^ 18 ≤ (cv.natAbs : Int)) = false := decide_eq_false hgz
      rw [if_neg hgz]
      apply x_F (n := 2) rfl
      exact (show stE ["_law_cells", "_law_at", "_law_cell", "_law_seed", "_law_other"] [.scr ns, .int a] = [.val (.scr ns), .val (.int a), .no, .no, .no] from rfl)
      unfold m__law_purse
      apply x_seq
      · (refine x_asg (e1 := [SD.val (.scr ns), SD.val (.int a), .no, .no, .no]) (d := .int cv) ?_ rfl rfl)
        rw [ec]
        exists hl, decide_eq_false ha
      apply x_snx
      apply x_seq
      · exists m1, m2, e1, ii _
      apply x_snx
      apply x_seq
      · apply x_for
        · exists hl, ha2, hsl, itn
        · rfl
        · refine (forL_st D.int (fun s : Int × SD => ([SD.val (.scr ns), SD.val (.int a), SD.val (.int cv), SD.val (.int s.1), s.2] : En)) st (fun s _ => 0 ≤ s.1 ∧ s.1 < 2147483549) (fun s n xs hs => ?_) (cutG ns none (some 4)) ((cv * 69621 + a * 40692 + 10007).fmod 2147483549, SD.no) (inv0 _)).1
          have m4 : mulD (.int s.1) (.int 45991) = some (.int (s.1 * 45991)) := mulD_R (by decide)
          have e2 : modD (.int (s.1 * 45991 + n)) (.int 2147483549) = some (.int ((s.1 * 45991 + n).fmod 2147483549)) := modD_int (by decide)
          refine ⟨_, rfl, ?_, inv0 _⟩
          exists m4, e2, ii _
      apply x_snx
      exists ab, p18, hg0
  obtain ⟨s, hs, h⟩ := main
  obtain ⟨p, h1, h2⟩ := fin s hs
  exact ⟨p, h1, h2 ▸ h⟩
theorem lcL_mapAB {α : Type} {f : D → En → Option En} {mt : Mo Bool} {me : Mo D} {vs : List Nat} (gd g : α → D) (e0 : En) : ∀ (xs : List α) (acc : List D), (∀ x ∈ xs, ∃ e1 e2 e3, f (gd x) e0 = some e1 ∧ mt e1 = some (.ok true, e2) ∧ me e2 = some (.ok (g x), e3) ∧ wipeE e3 vs = e0) → acc.length + xs.length ≤ 100000 →
    lcL f mt me vs acc (xs.map gd) e0 = some (.ok (acc ++ xs.map g), e0)
  | [], acc, _, _ => by rw [List.map_nil, lcL_nil, List.map_nil, List.append_nil]
  | x :: xs, acc, h, hl => by
    obtain ⟨e1, e2, e3, h1, h2, h3, h4⟩ := h x List.mem_cons_self
    rw [List.length_cons] at hl
    rw [List.map_cons, lcL_cons, h1]
    dsimp only
    rw [h2]
    dsimp only
    rw [h3]
    dsimp only
    rw [if_pos (Nat.lt_of_lt_of_le (show acc.length < 100001 by omega) (by decide)), h4, lcL_mapAB gd g e0 xs _ (fun x hx => h x (List.mem_cons_of_mem _ hx)) (by rw [List.length_append, List.length_singleton]; omega), List.append_assoc]
    rfl
theorem x_lcAB {α : Type} {mi : Mo (List D)} {f : D → En → Option En} {mt : Mo Bool} {me : Mo D} {vs : List Nat} {e e1 e2 e' : En} (gd g : α → D) (xs : List α) (h1 : mi e = some (.ok (xs.map gd), e1)) (hn : noOwn e1 vs = true) (hw : wipeE e1 vs = e2)
    (h : ∀ x ∈ xs, ∃ a b d, f (gd x) e2 = some a ∧ mt a = some (.ok true, b) ∧ me b = some (.ok (g x), d) ∧ wipeE d vs = e2) (hl : xs.length ≤ 100000) (hr : restE e1 e2 vs = e') : lcM mi f mt me vs e = some (.ok (xs.map g), e') :=
  x_lc h1 rfl hn hw ((lcL_mapAB gd g e2 xs [] h (by rw [List.length_nil]; omega)).trans (by rw [List.nil_append])) hr
theorem x_lcVB {α : Type} {mi : Mo (List D)} {f : D → En → Option En} {mt : Mo Bool} {me : Mo D} {vs : List Nat} {e e1 e2 e' : En} (gd g : α → D) (xs : List α) (h1 : mi e = some (.ok (xs.map gd), e1)) (hn : noOwn e1 vs = true) (hw : wipeE e1 vs = e2)
    (h : ∀ x ∈ xs, ∃ a b d, f (gd x) e2 = some a ∧ mt a = some (.ok true, b) ∧ me b = some (.ok (g x), d) ∧ wipeE d vs = e2) (hl : xs.length ≤ 100000) (hr : restE e1 e2 vs = e') : ((lcM mi f mt me vs).bind fun l => Mo.ret (D.lst l)) e = some (.ok (D.lst (xs.map g)), e') :=
  x_bind (x_lcAB gd g xs h1 hn hw h hl hr) (x_bok rfl)
theorem rngD_evB {j : Int} (h : 0 ≤ j) (h2 : j < 1000000) : rngD [.int j] = some (rngL 0 j) := by
  show (if -(2 ^ 62) ≤ j ∧ j < 2 ^ 62 then some (rngL 0 j) else none) = _
  rw [if_pos ⟨by omega, by omega⟩]
theorem rng1_natB {n : Nat} (h : n < 1000000) : rng1D [.int (n : Int)] = some ((List.range n).map fun i : Nat => D.int (i : Int)) := by
  rw [← rngL_eq]
  show rngD [.int (n : Int)] = _
  exact rngD_evB (j := (n : Int)) (Int.natCast_nonneg n) (by omega)
end LX
namespace LX
open PySem PySem.Spec PyProof.Rows PySem.Calls L2 PD
local macro_rules
  | `(tactic| exists $fs,*) => do
    let mut t ← `(tactic| fail)
    for f in fs.getElems.reverse do
      t ← `(tactic| first | exact $f | $t:tactic)
    `(tactic| repeat' (first | (with_reducible first | exact x_ret | apply x_bind | apply x_bok | exact x_berr | apply x_lift | apply x_liftR | apply x_seq | apply x_snx | exact x_srt | exact x_sex | exact x_srf | exact x_sbk | exact x_sct | exact x_nx | apply x_of | apply x_ook | exact x_oerr | apply x_asg | apply x_if | apply x_callM | apply x_ixN | apply x_par | apply x_par3 | apply x_own | apply x_parO | apply x_mut | apply x_fld | apply x_for | apply x_lc | exact x_jsnil | apply x_jscons | exact x_isFn) | ((with_reducible first | apply x_get | apply x_ixV | apply x_fldV | apply x_unpO | apply x_peekV); exact rfl) | ((with_reducible first | apply x_getO | apply x_ixO | apply x_fldO | apply x_unpV | apply x_peekO); exact rfl) | ((with_reducible first | apply x_tup | apply x_lst | apply x_ln); exact Nat.le_of_ble_eq_true rfl) | ((with_reducible first | apply x_len | apply x_ins); exact rfl) | ((with_reducible first | apply x_ifT | apply x_mifT); with_reducible exact rfl) | ((with_reducible first | apply x_ifF | apply x_mifF); with_reducible exact rfl) | ((with_reducible first | apply x_ifT | apply x_mifT); with_reducible first | exact rfl | exact bnot_t | exact bnot_f | assumption | $t:tactic | exact decide_eq_true (by first | assumption | omega)) | ((with_reducible first | apply x_ifF | apply x_mifF); with_reducible first | exact rfl | exact bnot_t | exact bnot_f | assumption | $t:tactic | exact decide_eq_false (by first | assumption | omega)) | (with_reducible $t:tactic) | ((simp only [List.set_cons_zero, List.set_cons_succ, List.cons_append, List.nil_append, wipeE, restE, OV_d_lst, List.getD_cons_succ, List.getD_cons_zero]); exact rfl) | exact rfl | ((with_reducible show (_ = _)); assumption)))
abbrev nD : Nat → D := fun i => D.int (i : Int)
structure Rd where
  m : Nat
  h : List Bool
  o : List Nat
structure Rd.ok (r : Rd) : Prop where
  m0 : 0 < r.m
  dv : r.m ∣ 420
  hl : r.h.length = r.m
  os : ∃ p : Nat → Bool, r.o = (List.range 300).filter p
def Rd.hit (r : Rd) (n : Nat) : Bool := r.h.getD (n % r.m) false
def Rd.mem (r : Rd) (n : Nat) : Bool := r.hit n != decide (n ∈ r.o)
def rdD (c : Cs) (m : Nat) (h : List Bool) (o : List Nat) : D := .ins c.Rounds ["modulus", "hits", "others"] [.int (m : Int), .tup (h.map .bl), .tup (o.map nD)]
def Rd.d (c : Cs) (r : Rd) : D := rdD c r.m r.h r.o
theorem Rd.ok.m1 {r : Rd} (h : r.ok) : r.m ≤ 420 := Nat.le_of_dvd (by decide) h.dv
theorem Rd.ok.ol {r : Rd} (h : r.ok) : r.o.length ≤ 300 := by
  obtain ⟨p, e⟩ := h.os
  rw [e]
  exact Nat.le_trans (List.length_filter_le _ _) (by rw [List.length_range]; exact Nat.le_refl _)
theorem Rd.ok.lt {r : Rd} (h : r.ok) {n : Nat} (hn : n ∈ r.o) : n < 300 := by
  obtain ⟨p, e⟩ := h.os
  rw [e] at hn
  exact List.mem_range.mp (List.mem_filter.mp hn).1
theorem Rd.ok.nd {r : Rd} (h : r.ok) : r.o.Nodup := by
  obtain ⟨p, e⟩ := h.os
  rw [e]
  exact List.nodup_range.sublist List.filter_sublist
theorem flVs_nat : ∀ l : List Nat, flVs (l.map nD) = some (l.map fun i : Nat => V.int (i : Int))
  | [] => rfl
  | s :: l => by
    show (match flV (nD s), flVs (l.map nD) with | some v, some vs => some (v :: vs) | _, _ => none) = _
    rw [flVs_nat l]; rfl
theorem inV_nat {s : Nat} : ∀ l : List Nat, inV (.int (s : Int)) (l.map fun i : Nat => V.int (i : Int)) = decide (s ∈ l)
  | [] => rfl
  | a :: l => by
    show (eqV (.int (a : Int)) (.int (s : Int)) || inV (.int (s : Int)) (l.map fun i : Nat => V.int (i : Int))) = _
    rw [inV_nat l]
    have e : eqV (.int (a : Int)) (.int (s : Int)) = decide (a = s) := by
      show decide ((a : Int) = (s : Int)) = _
      exact decide_eq_decide.mpr Int.ofNat_inj
    rw [e, ← Bool.decide_or]
    exact decide_eq_decide.mpr ⟨fun z => z.elim (fun e => by rw [e]; exact List.mem_cons_self) (List.mem_cons_of_mem _), fun z => (List.mem_cons.mp z).imp (fun e => e.symm) id⟩
theorem inFB_natT {s : Nat} {l : List Nat} : inFB (nD s) (.tup (l.map nD)) = some (decide (s ∈ l)) := by
  show (flVs (l.map nD)).map _ = _
  rw [flVs_nat]
  show some (inV (.int (s : Int)) (l.map fun i : Nat => V.int (i : Int))) = _
  rw [inV_nat]
theorem inFB_natL {s : Nat} {l : List Nat} : inFB (nD s) (.lst (l.map nD)) = some (decide (s ∈ l)) := by
  show (flVs (l.map nD)).map _ = _
  rw [flVs_nat]
  show some (inV (.int (s : Int)) (l.map fun i : Nat => V.int (i : Int))) = _
  rw [inV_nat]
theorem inA_nt {s : Nat} {l : List Nat} : inA (nD s) (.tup (l.map nD)) = some (.bl (decide (s ∈ l))) := by
  show (none : Option D).or ((inFD (nD s) (.tup (l.map nD))).or _) = _
  unfold inFD; rw [inFB_natT]; rfl
theorem inA_nl {s : Nat} {l : List Nat} : inA (nD s) (.lst (l.map nD)) = some (.bl (decide (s ∈ l))) := by
  show (none : Option D).or ((inFD (nD s) (.lst (l.map nD))).or _) = _
  unfold inFD; rw [inFB_natL]; rfl
theorem ninA_nt {s : Nat} {l : List Nat} : ninA (nD s) (.tup (l.map nD)) = some (.bl (!decide (s ∈ l))) := by
  show (none : Option D).or ((ninFD (nD s) (.tup (l.map nD))).or _) = _
  unfold ninFD; rw [inFB_natT]; rfl
theorem neD_b {a b : Bool} : neD (.bl a) (.bl b) = some (.bl (a != b)) := by cases a <;> cases b <;> rfl
theorem intD_b {a : Bool} : intD [.bl a] = some (.int (if a then 1 else 0)) := rfl
theorem bls_any {l : List Bool} : anyA [.tup (l.map .bl)] = some (.bl (l.any id)) := by
  have := blsD_map l
  show (none : Option D).or ((blsD (l.map D.bl)).map _) = _
  rw [this]; rfl
theorem bls_anyL {l : List Bool} : anyA [.lst (l.map .bl)] = some (.bl (l.any id)) := by
  have := blsD_map l
  show ((blsD (l.map D.bl)).map _).or _ = _
  rw [this]; rfl
section
variable {c : Cs} {r a b : Rd}
theorem fl_m {m : Nat} {h : List Bool} {o : List Nat} : fldD c.Rounds "modulus" (rdD c m h o) = some (.int (m : Int)) := by
  show (if c.Rounds = c.Rounds then _ else none) = _
  rw [if_pos rfl]; rfl
theorem fl_h {m : Nat} {h : List Bool} {o : List Nat} : fldD c.Rounds "hits" (rdD c m h o) = some (.tup (h.map .bl)) := by
  show (if c.Rounds = c.Rounds then _ else none) = _
  rw [if_pos rfl]; rfl
theorem fl_o {m : Nat} {h : List Bool} {o : List Nat} : fldD c.Rounds "others" (rdD c m h o) = some (.tup (o.map nD)) := by
  show (if c.Rounds = c.Rounds then _ else none) = _
  rw [if_pos rfl]; rfl
theorem hits_at_ev0 {m : Nat} {h : List Bool} {o : List Nat} {n : Nat} (h0 : 0 < m) (hl : h.length = m) : F_hits_at c [rdD c m h o, nD n] = some (.ok (.bl (h.getD (n % m) false))) := by
  have ln : lenD [.tup (h.map .bl)] = some (.int (m : Int)) := by rw [len_mapT, hl]
  have md : modD (nD n) (.int (m : Int)) = some (nD (n % m)) := by
    show modD (.int (n : Int)) (.int (m : Int)) = _
    rw [modD_int (by omega), fmod_nat]
  have ix : ixD (.tup (h.map .bl)) (nD (n % m)) = some (.bl (h.getD (n % m) false)) := by
    have hk : n % m < h.length := by rw [hl]; exact Nat.mod_lt _ h0
    rw [ix_mapT (List.getElem?_eq_getElem hk), List.getD_eq_getElem?_getD, List.getElem?_eq_getElem hk]; rfl
  apply x_P (n := 2) rfl
  exact (show stE ["rounds", "number"] [rdD c m h o, nD n] = [.val (rdD c m h o), .val (nD n)] from rfl)
  unfold m_hits_at
  exists fl_m, fl_h, fl_o, ln, md, ix
theorem hits_at_ev {n : Nat} (h : r.ok) : F_hits_at c [r.d c, nD n] = some (.ok (.bl (r.hit n))) := hits_at_ev0 h.m0 h.hl
theorem is_member_ev {n : Nat} (h : r.ok) : F_is_member c [r.d c, nD n] = some (.ok (.bl (r.mem n))) := by
  have e := hits_at_ev (c := c) (n := n) h
  unfold Rd.d at e ⊢
  apply x_P (n := 2) rfl
  exact (show stE ["rounds", "number"] [rdD c r.m r.h r.o, nD n] = [.val (rdD c r.m r.h r.o), .val (nD n)] from rfl)
  unfold m_is_member
  exists e, fl_o, inA_nt, neD_b
theorem common_multiple_ev {a b : Nat} (ha : 0 < a) (hb : 0 < b) (ha1 : a ≤ 6000) (hb1 : b ≤ 6000) : F_common_multiple c [.int (a : Int), .int (b : Int)] = some (.ok (.int (Nat.lcm a b : Nat))) := by
  have mu : mulA (.int (a : Int)) (.int (b : Int)) = some (.int ((a * b : Nat) : Int)) := by rw [mulA_int (by omega), Int.natCast_mul]
  have g0 : 0 < Nat.gcd a b := Nat.gcd_pos_of_pos_left _ ha
  have g1 : Nat.gcd a b ≤ a := Nat.gcd_le_left _ ha
  have fd : fdivD (.int ((a * b : Nat) : Int)) (.int ((Nat.gcd a b : Nat) : Int)) = some (.int (Nat.lcm a b : Nat)) := by
    rw [fdivD_int (by omega) (Nat.lt_of_le_of_lt (Nat.log2_le_self _) (by rw [Int.natAbs_natCast]; omega)), Int.fdiv_eq_ediv_of_nonneg _ (by omega)]
    unfold Nat.lcm
    rw [Int.natCast_ediv]
  apply x_P (n := 2) rfl
  exact (show stE ["one", "other", "high", "low"] [.int (a : Int), .int (b : Int)] = [.val (.int (a : Int)), .val (.int (b : Int)), .no, .no] from rfl)
  unfold m_common_multiple
  apply x_seq
  · exists rfl
  apply x_snx
  apply x_seq
  · refine gcd_loop (fun m n : Nat => ([SD.val (D.int (a : Int)), SD.val (D.int (b : Int)), SD.val (D.int m), SD.val (D.int n)] : En)) ?hc ?hb b a
    case hc =>
      intro m n
      have e : (!decide ((n : Int) = 0)) = decide ((0 : Int) < n) := by rw [← decide_not]; exact decide_eq_decide.mpr (by omega)
      rw [e]
      exists rfl
    case hb =>
      intro m n hn
      have e : modD (.int m) (.int n) = some (.int ((m % n : Nat) : Int)) := by rw [modD_int (by omega), fmod_nat]
      exists e
  apply x_snx
  exists mu, fd
def opT (f : Bool → Bool → Bool) : D := .tup [.bl (f false false), .bl (f false true), .bl (f true false), .bl (f true true)]
theorem sel {f : Bool → Bool → Bool} {x y : Bool} : ixD (opT f) (.int ((2 * if x then 1 else 0) + if y then 1 else 0)) = some (.bl (f x y)) := by cases x <;> cases y <;> rfl
theorem mul2 {x : Bool} : mulA (.int 2) (.int (if x then 1 else 0)) = some (.int (2 * if x then 1 else 0)) := by cases x <;> rfl
theorem told_of_ev {f : Bool → Bool → Bool} {n : Nat} (ha : a.ok) (hb : b.ok) : F_told_of c [a.d c, b.d c, opT f, nD n] = some (.ok (.bl (f (a.mem n) (b.mem n)))) := by
  have e1 := is_member_ev (c := c) (n := n) ha
  have e2 := is_member_ev (c := c) (n := n) hb
  apply x_P (n := 4) rfl
  exact (show stE ["one", "other", "told", "number"] [a.d c, b.d c, opT f, nD n] = [.val (a.d c), .val (b.d c), .val (opT f), .val (nD n)] from rfl)
  unfold m_told_of
  exists e1, e2, intD_b, mul2, sel, addA_int
theorem ob_non {h : D} {l : List D} : F_others_before c [h, .non, .lst l] = some (.ok (.tup l)) := by
  have e : isA .non .non = some (.bl true) := rfl
  have t : tupleD [.lst l] = some (.tup l) := rfl
  apply x_P (n := 3) rfl
  exact (show stE ["hits", "begin", "singles", "known", "number"] [h, .non, .lst l] = [.val (h), .val (.non), .val (.lst l), .no, .no] from rfl)
  unfold m_others_before
  exists e, t
theorem ob_no {h : List Bool} {i : Int} {l : List D} (hn : h.any id = false) : F_others_before c [.tup (h.map .bl), .int i, .tup l] = some (.ok (.tup l)) := by
  have e : isA (.int i) .non = some (.bl false) := rfl
  have t : tupleD [.tup l] = some (.tup l) := rfl
  have an : anyA [.tup (h.map .bl)] = some (.bl false) := by rw [bls_any, hn]
  apply x_P (n := 3) rfl
  exact (show stE ["hits", "begin", "singles", "known", "number"] [.tup (h.map .bl), .int i, .tup l] = [.val (.tup (h.map .bl)), .val (.int i), .val (.tup l), .no, .no] from rfl)
  unfold m_others_before
  exists e, t, an
theorem ob_0 {h : List Bool} : F_others_before c [.tup (h.map .bl), .int 0, .tup []] = some (.ok (.tup [])) := by
  cases hn : h.any id with
  | false => exact ob_no hn
  | true =>
    have e : isA (.int 0) .non = some (.bl false) := rfl
    have t : tupleD [.lst []] = some (.tup []) := rfl
    have an : anyA [.tup (h.map .bl)] = some (.bl true) := by rw [bls_any, hn]
    have rg : rng1D [.int 0] = some [] := rfl
    apply x_P (n := 3) rfl
    exact (show stE ["hits", "begin", "singles", "known", "number"] [.tup (h.map .bl), .int 0, .tup []] = [.val (.tup (h.map .bl)), .val (.int 0), .val (.tup []), .no, .no] from rfl)
    unfold m_others_before
    exists e, an, t, rg
end
end LX
namespace LX
open PySem PySem.Spec PyProof.Rows PySem.Calls L2 PD
local macro_rules
  | `(tactic| exists $fs,*) => do
    let mut t ← `(tactic| fail)
    for f in fs.getElems.reverse do
      t ← `(tactic| first | exact $f | $t:tactic)
    `(tactic| repeat' (first | (with_reducible first | exact x_ret | apply x_bind | apply x_bok | exact x_berr | apply x_lift | apply x_liftR | apply x_seq | apply x_snx | exact x_srt | exact x_sex | exact x_srf | exact x_sbk | exact x_sct | exact x_nx | apply x_of | apply x_ook | exact x_oerr | apply x_asg | apply x_if | apply x_callM | apply x_ixN | apply x_par | apply x_par3 | apply x_own | apply x_parO | apply x_mut | apply x_fld | apply x_for | apply x_lc | exact x_jsnil | apply x_jscons | exact x_isFn) | ((with_reducible first | apply x_get | apply x_ixV | apply x_fldV | apply x_unpO | apply x_peekV); exact rfl) | ((with_reducible first | apply x_getO | apply x_ixO | apply x_fldO | apply x_unpV | apply x_peekO); exact rfl) | ((with_reducible first | apply x_tup | apply x_lst | apply x_ln); exact Nat.le_of_ble_eq_true rfl) | ((with_reducible first | apply x_len | apply x_ins); exact rfl) | ((with_reducible first | apply x_ifT | apply x_mifT); with_reducible exact rfl) | ((with_reducible first | apply x_ifF | apply x_mifF); with_reducible exact rfl) | ((with_reducible first | apply x_ifT | apply x_mifT); with_reducible first | exact rfl | exact bnot_t | exact bnot_f | assumption | $t:tactic | exact decide_eq_true (by first | assumption | omega)) | ((with_reducible first | apply x_ifF | apply x_mifF); with_reducible first | exact rfl | exact bnot_t | exact bnot_f | assumption | $t:tactic | exact decide_eq_false (by first | assumption | omega)) | (with_reducible $t:tactic) | ((simp only [List.set_cons_zero, List.set_cons_succ, List.cons_append, List.nil_append, wipeE, restE, OV_d_lst, List.getD_cons_succ, List.getD_cons_zero]); exact rfl) | exact rfl | ((with_reducible show (_ = _)); assumption)))
section
variable {c : Cs} {r a b : Rd}
theorem i_int_int {c : Cs} {i : Int} : isiT c "int" [(.int i), .ty "int"] = some (.bl true) := (isiT_ev (t := .int) rfl trivial).trans (by rw [tyP_int_int])
theorem i_bool_int {c : Cs} {i : Int} : isiT c "bool" [(.int i), .ty "bool"] = some (.bl false) := (isiT_ev (t := .int) rfl trivial).trans (by rw [tyP_bool_int])
theorem is_integer_ev {i : Int} : F_is_integer c [.int i] = some (.ok (.bl true)) := by
  apply x_P (n := 1) rfl
  exact (show stE ["value"] [.int i] = [.val (.int i)] from rfl)
  unfold m_is_integer
  exists i_int_int, i_bool_int, truD_bl
theorem init_ev {m : Nat} {beg sing ends : D} {hf : Nat → Bool} {o : List Nat} (hm : m < 6000) (he : ∀ n, n < m → inA (nD n) ends = some (.bl (hf n)))
    (ho : F_others_before c [.tup (((List.range m).map hf).map .bl), beg, sing] = some (.ok (.tup (o.map nD)))) :
    mkD c.Rounds (F_Rounds___init__ c) [.int (m : Int), beg, sing, ends] = some (.ok (rdD c m ((List.range m).map hf) o)) := by
  have rg : rng1D [.int (m : Int)] = some ((List.range m).map nD) := rng1_natB (by omega)
  have tp : tupleD [.lst ((List.range m).map fun n => D.bl (hf n))] = some (.tup (((List.range m).map hf).map .bl)) := by rw [List.map_map]; rfl
  have e : F_Rounds___init__ c ⟨.ins c.Rounds [], []⟩ [.int (m : Int), beg, sing, ends] = some (.ok .non, ⟨.ins c.Rounds ["modulus", "hits", "others"], [.int (m : Int), .tup (((List.range m).map hf).map .bl), .tup (o.map nD)]⟩) := by
    apply x_M (n := 5) rfl
    exact (show stO ["self", "modulus", "begin", "singles", "ends", "rest"] ⟨.ins c.Rounds [], []⟩ [.int (m : Int), beg, sing, ends] = [.own false ⟨.ins c.Rounds [], []⟩, .val (.int (m : Int)), .val (beg), .val (sing), .val (ends), .no] from rfl)
    unfold m_Rounds___init__
    apply x_seq (o := .nx) (e1 := [.own false ⟨.ins c.Rounds ["modulus"], [.int (m : Int)]⟩, .val (.int (m : Int)), .val beg, .val sing, .val ends, .no])
    · exists rfl
    apply x_snx
    apply x_seq (o := .nx) (e1 := [.own false ⟨.ins c.Rounds ["modulus", "hits"], [.int (m : Int), .tup (((List.range m).map hf).map .bl)]⟩, .val (.int (m : Int)), .val beg, .val sing, .val ends, .no])
    · apply x_fld (d := .tup (((List.range m).map hf).map .bl)) (e1 := [.own false ⟨.ins c.Rounds ["modulus"], [.int (m : Int)]⟩, .val (.int (m : Int)), .val beg, .val sing, .val ends, .no])
      · apply x_bind
        · apply x_bind
          · apply x_lcVB (e' := [.own false ⟨.ins c.Rounds ["modulus"], [.int (m : Int)]⟩, .val (.int (m : Int)), .val beg, .val sing, .val ends, .no]) nD (fun n => D.bl (hf n)) (List.range m)
            · exists rg
            · rfl
            · rfl
            · intro n hn
              have hh := he n (List.mem_range.mp hn)
              apply turn_mk
              · rfl
              · rfl
              · exists hh
              · rfl
            · rw [List.length_range]; omega
            · rfl
          · exists rfl
        · exists tp
      · rfl
      · rfl
      · rfl
    apply x_snx
    exists ho
  unfold mkD
  rw [e]
  rfl
theorem cle_t {i j : Int} (h : i ≤ j) : (cmpI fun i j => decide (i ≤ j)) (.int i) (.int j) = some (.bl true) := by show some (D.bl (decide (i ≤ j))) = _; rw [decide_eq_true h]
theorem cle_f {i j : Int} (h : j < i) : (cmpI fun i j => decide (i ≤ j)) (.int i) (.int j) = some (.bl false) := by show some (D.bl (decide (i ≤ j))) = _; rw [decide_eq_false (Int.not_le.mpr h)]
theorem cleb_t {i j : Int} (h : i ≤ j) : ((cmpI fun i j => decide (i ≤ j)) (.int i) (.int j)).bind blD = some true := by rw [cle_t h]; rfl
theorem cgt_t {i j : Int} (h : j < i) : (cmpI fun i j => decide (j < i)) (.int i) (.int j) = some (.bl true) := by show some (D.bl (decide (j < i))) = _; rw [decide_eq_true h]
theorem cgt_f {i j : Int} (h : i ≤ j) : (cmpI fun i j => decide (j < i)) (.int i) (.int j) = some (.bl false) := by show some (D.bl (decide (j < i))) = _; rw [decide_eq_false (Int.not_lt.mpr h)]
theorem cge_t {i j : Int} (h : j ≤ i) : (cmpI fun i j => decide (j ≤ i)) (.int i) (.int j) = some (.bl true) := by show some (D.bl (decide (j ≤ i))) = _; rw [decide_eq_true h]
theorem check_asc_ev {l : List Nat} {k : Nat} (hl : l.length < 1000) (ha : l.Pairwise (· < ·)) (hk : ∀ x ∈ l, x ≤ k) : F_check_ascending c [.tup (l.map nD), .int (k : Int)] = some (.ok .non) := by
  have ln : lenD [.tup (l.map nD)] = some (.int (l.length : Int)) := len_mapT
  have rg : rng1D [.int (l.length : Int)] = some ((List.range l.length).map nD) := rng1_nat hl
  apply x_PE (n := 2) rfl
  exact (show stE ["values", "most", "index", "value"] [.tup (l.map nD), .int (k : Int)] = [.val (.tup (l.map nD)), .val (.int (k : Int)), .no, .no] from rfl)
  unfold m_check_ascending
  apply en_rng (σ := SD × SD) (fun s => [.val (.tup (l.map nD)), .val (.int (k : Int)), s.1, s.2]) (fun _ _ => True) l.length (.no, .no)
  · exists ln, rg
  · rfl
  · rfl
  · trivial
  · rintro s i hi -
    obtain ⟨v, hv⟩ : ∃ v, v = l.getD i 0 := ⟨_, rfl⟩
    have ix : ixD (.tup (l.map nD)) (.int (i : Int)) = some (nD v) := by
      rw [ix_mapT (List.getElem?_eq_getElem hi), hv, List.getD_eq_getElem?_getD, List.getElem?_eq_getElem hi]; rfl
    have c1 := cleb_t (i := 0) (j := (v : Int)) (by omega)
    have mem : v ∈ l := by
      rw [hv, List.getD_eq_getElem?_getD, List.getElem?_eq_getElem hi]; exact List.getElem_mem hi
    have c2 := cle_t (i := (v : Int)) (j := (k : Int)) (by have := hk _ mem; omega)
    apply lp_mk (e2 := [.val (.tup (l.map nD)), .val (.int (k : Int)), .val (nD i), s.2])
    · rfl
    refine ⟨.nx, [.val (.tup (l.map nD)), .val (.int (k : Int)), .val (nD i), .val (nD v)], ?_, rfl, (.val (nD i), .val (nD v)), rfl, trivial⟩
    by_cases h0 : i = 0
    · have c3 := cgt_f (i := (i : Int)) (j := 0) (by omega)
      exists ix, is_integer_ev, c1, c2, c3
    · have c3 := cgt_t (i := (i : Int)) (j := 0) (by omega)
      obtain ⟨j, hj⟩ : ∃ j, i = j + 1 := ⟨i - 1, by omega⟩
      have hj1 : j < l.length := by omega
      obtain ⟨w, hw⟩ : ∃ w, w = l.getD j 0 := ⟨_, rfl⟩
      have sb : subD (.int (i : Int)) (.int 1) = some (nD j) := by
        show _ = some (D.int (j : Int))
        rw [subD_int, show (i : Int) - 1 = (j : Int) by omega]
      have ix2 : ixD (.tup (l.map nD)) (nD j) = some (nD w) := by
        rw [ix_mapT (List.getElem?_eq_getElem hj1), hw, List.getD_eq_getElem?_getD, List.getElem?_eq_getElem hj1]; rfl
      have lt : w < v := by
        rw [hw, hv, List.getD_eq_getElem?_getD, List.getElem?_eq_getElem hj1, List.getD_eq_getElem?_getD, List.getElem?_eq_getElem hi]
        exact List.pairwise_iff_getElem.mp ha j i hj1 hi (by omega)
      have c4 := cle_f (i := (v : Int)) (j := (w : Int)) (by omega)
      exists ix, is_integer_ev, c1, c2, c3, sb, ix2, c4
  · intro s _
    rfl
end
end LX
namespace LX
open PySem PySem.Spec PyProof.Rows PySem.Calls L2 PD
local macro_rules
  | `(tactic| exists $fs,*) => do
    let mut t ← `(tactic| fail)
    for f in fs.getElems.reverse do
      t ← `(tactic| first | exact $f | $t:tactic)
    `(tactic| repeat' (first | (with_reducible first | exact x_ret | apply x_bind | apply x_bok | exact x_berr | apply x_lift | apply x_liftR | apply x_seq | apply x_snx | exact x_srt | exact x_sex | exact x_srf | exact x_sbk | exact x_sct | exact x_nx | apply x_of | apply x_ook | exact x_oerr | apply x_asg | apply x_if | apply x_callM | apply x_ixN | apply x_par | apply x_par3 | apply x_own | apply x_parO | apply x_mut | apply x_fld | apply x_for | apply x_lc | exact x_jsnil | apply x_jscons | exact x_isFn) | ((with_reducible first | apply x_get | apply x_ixV | apply x_fldV | apply x_unpO | apply x_peekV); exact rfl) | ((with_reducible first | apply x_getO | apply x_ixO | apply x_fldO | apply x_unpV | apply x_peekO); exact rfl) | ((with_reducible first | apply x_tup | apply x_lst | apply x_ln); exact Nat.le_of_ble_eq_true rfl) | ((with_reducible first | apply x_len | apply x_ins); exact rfl) | ((with_reducible first | apply x_ifT | apply x_mifT); with_reducible exact rfl) | ((with_reducible first | apply x_ifF | apply x_mifF); with_reducible exact rfl) | ((with_reducible first | apply x_ifT | apply x_mifT); with_reducible first | exact rfl | exact bnot_t | exact bnot_f | assumption | $t:tactic | exact decide_eq_true (by first | assumption | omega)) | ((with_reducible first | apply x_ifF | apply x_mifF); with_reducible first | exact rfl | exact bnot_t | exact bnot_f | assumption | $t:tactic | exact decide_eq_false (by first | assumption | omega)) | (with_reducible $t:tactic) | ((simp only [List.set_cons_zero, List.set_cons_succ, List.cons_append, List.nil_append, wipeE, restE, OV_d_lst, List.getD_cons_succ, List.getD_cons_zero]); exact rfl) | exact rfl | ((with_reducible show (_ = _)); assumption)))
theorem filt_one {n : Nat} : ∀ {N : Nat}, n < N → (List.range N).filter (fun k => decide (k = n)) = [n]
  | 0, h => by omega
  | N + 1, h => by
    rw [List.range_succ, List.filter_append]
    by_cases q : n < N
    · rw [filt_one q, List.filter_cons, if_neg (by rw [decide_eq_false (by omega)]; exact Bool.false_ne_true), List.filter_nil, List.append_nil]
    · have e : N = n := by omega
      rw [List.filter_eq_nil_iff.mpr (fun k hk => by rw [decide_eq_false (by have := List.mem_range.mp hk; omega)]; exact Bool.false_ne_true), List.nil_append, List.filter_cons, if_pos (by rw [decide_eq_true e]), List.filter_nil, e]
theorem filt_none {N : Nat} : (List.range N).filter (fun _ => false) = [] := List.filter_eq_nil_iff.mpr fun k _ => Bool.false_ne_true
def Rd.one (n : Nat) : Rd := ⟨1, [false], [n]⟩
def Rd.nil : Rd := ⟨1, [false], []⟩
def Rd.rests (m : Nat) (l : List Nat) : Rd := ⟨m, (List.range m).map fun n => decide (n ∈ l), []⟩
theorem Rd.one_ok {n : Nat} (h : n < 300) : (Rd.one n).ok := ⟨Nat.zero_lt_one, ⟨420, rfl⟩, rfl, _, (filt_one h).symm⟩
theorem Rd.nil_ok : Rd.nil.ok := ⟨Nat.zero_lt_one, ⟨420, rfl⟩, rfl, _, filt_none.symm⟩
theorem Rd.rests_ok {m : Nat} {l : List Nat} (h0 : 0 < m) (h : m ∣ 420) : (Rd.rests m l).ok := ⟨h0, h, by show ((List.range m).map _).length = m; rw [List.length_map, List.length_range], _, filt_none.symm⟩
theorem Rd.one_mem {n k : Nat} : (Rd.one n).mem k = decide (k = n) := by
  show (([false] : List Bool).getD (k % 1) false != decide (k ∈ [n])) = _
  rw [Nat.mod_one]
  show (false != decide (k ∈ [n])) = _
  rw [show decide (k ∈ [n]) = decide (k = n) from decide_eq_decide.mpr List.mem_singleton]
  cases decide (k = n) <;> rfl
theorem Rd.nil_mem {k : Nat} : Rd.nil.mem k = false := by
  show (([false] : List Bool).getD (k % 1) false != decide (k ∈ [])) = _
  rw [Nat.mod_one]; rfl
theorem getD_range {m k : Nat} {f : Nat → Bool} (h : k < m) : ((List.range m).map f).getD k false = f k := by
  rw [List.getD_eq_getElem?_getD, List.getElem?_map, List.getElem?_range h]; rfl
theorem Rd.rests_mem {m k : Nat} {l : List Nat} (h : 0 < m) : (Rd.rests m l).mem k = decide (k % m ∈ l) := by
  show (((List.range m).map fun n => decide (n ∈ l)).getD (k % m) false != decide (k ∈ [])) = _
  rw [getD_range (Nat.mod_lt _ h), decide_eq_false List.not_mem_nil]
  cases decide (k % m ∈ l) <;> rfl
section
variable {c : Cs} {r a b : Rd}
theorem told_one {n : Nat} (h : n < 300) : starP 0 (F_Rounds_told c) [nD n] = some (.ok ((Rd.one n).d c)) := by
  have ca : F_check_ascending c [.tup [nD n], .int 1000000] = some (.ok .non) := check_asc_ev (l := [n]) (k := 1000000) (by show 1 < 1000; decide) (List.pairwise_singleton _ _) (fun x hx => by rw [List.mem_singleton.mp hx]; omega)
  have ln : lenD [.tup [nD n]] = some (.int 1) := rfl
  have c1 := cgt_t (i := 1) (j := 0) (by decide)
  have ng : negD (.int 1) = some (.int (-1)) := rfl
  have ix : ixD (.tup [nD n]) (.int (-1)) = some (nD n) := rfl
  have mk : mkD c.Rounds (F_Rounds___init__ c) ([.int 1, .int ((n : Int) + 1), .tup [nD n], .tup []] ++ []) = some (.ok ((Rd.one n).d c)) :=
    init_ev (m := 1) (hf := fun _ => false) (o := [n]) (by decide) (fun k _ => inA_nt (l := [])) (ob_no (l := [nD n]) rfl)
  show F_Rounds_told c [.tup [nD n]] = _
  apply x_P (n := 1) rfl
  exact (show stE ["members", "begin"] [.tup [nD n]] = [.val (.tup [nD n]), .no] from rfl)
  unfold m_Rounds_told
  exists ca, ln, c1, ng, ix, addA_int, mk
theorem told_nil : starP 0 (F_Rounds_told c) [] = some (.ok (Rd.nil.d c)) := by
  have ca : F_check_ascending c [.tup [], .int 1000000] = some (.ok .non) := check_asc_ev (l := []) (k := 1000000) (by decide) List.Pairwise.nil (fun x hx => by cases hx)
  have ln : lenD [.tup []] = some (.int 0) := rfl
  have c1 := cgt_f (i := 0) (j := 0) (by decide)
  have mk : mkD c.Rounds (F_Rounds___init__ c) ([.int 1, .int 0, .tup [], .tup []] ++ []) = some (.ok (Rd.nil.d c)) :=
    init_ev (m := 1) (hf := fun _ => false) (o := []) (by decide) (fun k _ => inA_nt (l := [])) (ob_no (l := []) rfl)
  show F_Rounds_told c [.tup []] = _
  apply x_P (n := 1) rfl
  exact (show stE ["members", "begin"] [.tup []] = [.val (.tup []), .no] from rfl)
  unfold m_Rounds_told
  exists ca, ln, c1, mk
theorem rests_ev {m : Nat} {l : List Nat} (h0 : 0 < m) (h1 : m < 5041) (hl : l.length < 1000) (ha : l.Pairwise (· < ·)) (hk : ∀ x ∈ l, x < m) : starP 1 (F_Rounds_rests c) (.int (m : Int) :: l.map nD) = some (.ok ((Rd.rests m l).d c)) := by
  have ca : F_check_ascending c [.tup (l.map nD), .int ((m : Int) - 1)] = some (.ok .non) := by
    have := check_asc_ev (c := c) (l := l) (k := m - 1) hl ha (fun x hx => by have := hk x hx; omega)
    rwa [show ((m - 1 : Nat) : Int) = (m : Int) - 1 by omega] at this
  have c1 := cleb_t (i := 1) (j := (m : Int)) (by omega)
  have c2 := cle_t (i := (m : Int)) (j := 5040) (by omega)
  have mk : mkD c.Rounds (F_Rounds___init__ c) ([.int (m : Int), .int 0, .tup [], .tup (l.map nD)] ++ []) = some (.ok ((Rd.rests m l).d c)) :=
    init_ev (hf := fun n => decide (n ∈ l)) (o := []) (by omega) (fun k _ => inA_nt) ob_0
  have e : F_Rounds_rests c [.int (m : Int), .tup (l.map nD)] = some (.ok ((Rd.rests m l).d c)) := by
    apply x_P (n := 2) rfl
    exact (show stE ["modulus", "rests"] [.int (m : Int), .tup (l.map nD)] = [.val (.int (m : Int)), .val (.tup (l.map nD))] from rfl)
    unfold m_Rounds_rests
    exists is_integer_ev, c1, c2, subD_int, ca, mk
  unfold starP
  rw [if_pos ⟨by simp, by simp only [List.drop_succ_cons, List.drop_zero, List.length_map]; exact Nat.le_trans (Nat.le_of_lt hl) (by decide)⟩]
  exact e
end
def Rd.join (f : Bool → Bool → Bool) (a b : Rd) : Rd := ⟨Nat.lcm a.m b.m, (List.range (Nat.lcm a.m b.m)).map fun n => f (a.hit n) (b.hit n), (List.range 300).filter fun n => f (a.mem n) (b.mem n) != f (a.hit n) (b.hit n)⟩
section
variable {c : Cs} {a b : Rd} {f : Bool → Bool → Bool}
theorem Rd.join_o : (Rd.join f a b).o = (List.range 300).filter fun n => f (a.mem n) (b.mem n) != f (a.hit n) (b.hit n) := rfl
theorem Rd.join_ok (ha : a.ok) (hb : b.ok) : (Rd.join f a b).ok :=
  ⟨Nat.lcm_pos ha.m0 hb.m0, Nat.lcm_dvd ha.dv hb.dv, by show ((List.range _).map _).length = _; rw [List.length_map, List.length_range]; rfl, _, Rd.join_o⟩
theorem hit_mod (ha : a.ok) {m n : Nat} (h : a.m ∣ m) : a.hit (n % m) = a.hit n := by
  show a.h.getD (n % m % a.m) false = a.h.getD (n % a.m) false
  rw [Nat.mod_mod_of_dvd _ h]
theorem Rd.join_hit (ha : a.ok) (hb : b.ok) {n : Nat} : (Rd.join f a b).hit n = f (a.hit n) (b.hit n) := by
  show ((List.range (Nat.lcm a.m b.m)).map fun n => f (a.hit n) (b.hit n)).getD (n % Nat.lcm a.m b.m) false = _
  rw [getD_range (Nat.mod_lt _ (Nat.lcm_pos ha.m0 hb.m0)), hit_mod ha (Nat.dvd_lcm_left _ _), hit_mod hb (Nat.dvd_lcm_right _ _)]
theorem mem_far (ha : a.ok) {n : Nat} (h : ¬ n ∈ a.o) : a.mem n = a.hit n := by
  show (a.hit n != decide (n ∈ a.o)) = _
  rw [decide_eq_false h]
  cases a.hit n <;> rfl
theorem mem_300 (ha : a.ok) {n : Nat} (h : 300 ≤ n) : a.mem n = a.hit n := mem_far ha fun z => by have := ha.lt z; omega
theorem Rd.join_mem (ha : a.ok) (hb : b.ok) {n : Nat} : (Rd.join f a b).mem n = f (a.mem n) (b.mem n) := by
  show ((Rd.join f a b).hit n != decide (n ∈ (List.range 300).filter fun n => f (a.mem n) (b.mem n) != f (a.hit n) (b.hit n))) = _
  rw [Rd.join_hit ha hb]
  by_cases h : n < 300
  · rw [show decide (n ∈ (List.range 300).filter fun n => f (a.mem n) (b.mem n) != f (a.hit n) (b.hit n)) = (f (a.mem n) (b.mem n) != f (a.hit n) (b.hit n)) by
      rw [Bool.eq_iff_iff, decide_eq_true_eq, List.mem_filter]
      exact ⟨fun z => z.2, fun z => ⟨List.mem_range.mpr h, z⟩⟩]
    cases f (a.mem n) (b.mem n) <;> cases f (a.hit n) (b.hit n) <;> rfl
  · rw [decide_eq_false (by rw [List.mem_filter, List.mem_range]; exact fun z => h z.1), mem_300 ha (by omega), mem_300 hb (by omega)]
    cases f (a.hit n) (b.hit n) <;> rfl
def nums (a b : Rd) : List Nat := a.o ++ b.o.filter fun n => !decide (n ∈ a.o)
def turned (f : Bool → Bool → Bool) (a b : Rd) : List Nat := (nums a b).filter fun n => f (a.mem n) (b.mem n) != f (a.hit n) (b.hit n)
theorem nums_nd (ha : a.ok) (hb : b.ok) : (nums a b).Nodup := by
  refine List.nodup_append.mpr ⟨ha.nd, hb.nd.sublist List.filter_sublist, fun x hx y hy e => ?_⟩
  subst e
  have := (List.mem_filter.mp hy).2
  rw [decide_eq_true hx] at this
  cases this
theorem nums_len (ha : a.ok) (hb : b.ok) : (nums a b).length ≤ 600 := by
  unfold nums
  rw [List.length_append]
  have := ha.ol
  have := Nat.le_trans (List.length_filter_le (fun n => !decide (n ∈ a.o)) b.o) hb.ol
  omega
theorem turned_perm (ha : a.ok) (hb : b.ok) : ((Rd.join f a b).o).Perm (turned f a b) := by
  refine (List.perm_ext_iff_of_nodup (Rd.join_ok ha hb).nd ((nums_nd ha hb).sublist List.filter_sublist)).mpr fun n => ?_
  rw [Rd.join_o, List.mem_filter]
  rw [List.mem_filter]
  refine ⟨fun ⟨h1, h2⟩ => ⟨?_, h2⟩, fun ⟨h1, h2⟩ => ⟨?_, h2⟩⟩
  · unfold nums
    by_cases q : n ∈ a.o
    · exact List.mem_append_left _ q
    · by_cases q2 : n ∈ b.o
      · exact List.mem_append_right _ (List.mem_filter.mpr ⟨q2, by rw [decide_eq_false q]; rfl⟩)
      · rw [mem_far ha q, mem_far hb q2] at h2
        cases hh : f (a.hit n) (b.hit n) <;> (rw [hh] at h2; cases h2)
  · unfold nums at h1
    rcases List.mem_append.mp h1 with z | z
    · exact List.mem_range.mpr (ha.lt z)
    · exact List.mem_range.mpr (hb.lt (List.mem_filter.mp z).1)
theorem turned_sort (ha : a.ok) (hb : b.ok) : sortI ((turned f a b).map fun n : Nat => (n : Int)) = (Rd.join f a b).o.map fun n : Nat => (n : Int) := by
  refine (sortI_uniq ((turned_perm ha hb).map _) ?_).symm
  rw [List.pairwise_map]
  exact (List.Pairwise.filter _ List.pairwise_lt_range).imp fun h => by omega
end
end LX
namespace LX
open PySem PySem.Spec PyProof.Rows PySem.Calls L2 PD
local macro_rules
  | `(tactic| exists $fs,*) => do
    let mut t ← `(tactic| fail)
    for f in fs.getElems.reverse do
      t ← `(tactic| first | exact $f | $t:tactic)
    `(tactic| repeat' (first | (with_reducible first | exact x_ret | apply x_bind | apply x_bok | exact x_berr | apply x_lift | apply x_liftR | apply x_seq | apply x_snx | exact x_srt | exact x_sex | exact x_srf | exact x_sbk | exact x_sct | exact x_nx | apply x_of | apply x_ook | exact x_oerr | apply x_asg | apply x_if | apply x_callM | apply x_ixN | apply x_par | apply x_par3 | apply x_own | apply x_parO | apply x_mut | apply x_fld | apply x_for | apply x_lc | exact x_jsnil | apply x_jscons | exact x_isFn) | ((with_reducible first | apply x_get | apply x_ixV | apply x_fldV | apply x_unpO | apply x_peekV); exact rfl) | ((with_reducible first | apply x_getO | apply x_ixO | apply x_fldO | apply x_unpV | apply x_peekO); exact rfl) | ((with_reducible first | apply x_tup | apply x_lst | apply x_ln); exact Nat.le_of_ble_eq_true rfl) | ((with_reducible first | apply x_len | apply x_ins); exact rfl) | ((with_reducible first | apply x_ifT | apply x_mifT); with_reducible exact rfl) | ((with_reducible first | apply x_ifF | apply x_mifF); with_reducible exact rfl) | ((with_reducible first | apply x_ifT | apply x_mifT); with_reducible first | exact rfl | exact bnot_t | exact bnot_f | assumption | $t:tactic | exact decide_eq_true (by first | assumption | omega)) | ((with_reducible first | apply x_ifF | apply x_mifF); with_reducible first | exact rfl | exact bnot_t | exact bnot_f | assumption | $t:tactic | exact decide_eq_false (by first | assumption | omega)) | (with_reducible $t:tactic) | ((simp only [List.set_cons_zero, List.set_cons_succ, List.cons_append, List.nil_append, wipeE, restE, OV_d_lst, List.getD_cons_succ, List.getD_cons_zero]); exact rfl) | exact rfl | ((with_reducible show (_ = _)); assumption)))
section
variable {c : Cs} {a b : Rd} {f : Bool → Bool → Bool}
theorem joined_ev (ha : a.ok) (hb : b.ok) : F_joined c [a.d c, b.d c, opT f] = some (.ok ((Rd.join f a b).d c)) := by
  have J := Rd.join_ok (f := f) ha hb
  obtain ⟨N, hN⟩ : ∃ N, N = Nat.lcm a.m b.m := ⟨_, rfl⟩
  have N24 : N ≤ 420 := by rw [hN]; exact J.m1
  have N0 : 0 < N := by rw [hN]; exact J.m0
  have cm : F_common_multiple c [.int (a.m : Int), .int (b.m : Int)] = some (.ok (.int (N : Int))) := by
    rw [hN]; exact common_multiple_ev ha.m0 hb.m0 (by have := ha.m1; omega) (by have := hb.m1; omega)
  have c1 := cgt_f (i := (N : Int)) (j := 5040) (by omega)
  have rg : rng1D [.int (N : Int)] = some ((List.range N).map nD) := rng1_natB (by omega)
  let hf : Nat → Bool := fun n => f (a.hit n) (b.hit n)
  let rs : List Nat := (List.range N).filter hf
  have fa : fldD c.Rounds "modulus" (a.d c) = some (.int (a.m : Int)) := fl_m
  have fb : fldD c.Rounds "modulus" (b.d c) = some (.int (b.m : Int)) := fl_m
  have ga : fldD c.Rounds "others" (a.d c) = some (.tup (a.o.map nD)) := fl_o
  have gb : fldD c.Rounds "others" (b.d c) = some (.tup (b.o.map nD)) := fl_o
  have inr : ∀ n, n < N → inA (nD n) (.lst (rs.map nD)) = some (.bl (hf n)) := fun n hn => by
    rw [inA_nl, show decide (n ∈ rs) = hf n by
      rw [Bool.eq_iff_iff, decide_eq_true_eq, List.mem_filter]
      exact ⟨fun z => z.2, fun z => ⟨List.mem_range.mpr hn, z⟩⟩]
  have mkF : mkD c.Rounds (F_Rounds___init__ c) ([.int (N : Int), .int 0, .tup [], .lst (rs.map nD)] ++ []) = some (.ok (rdD c N ((List.range N).map hf) [])) :=
    init_ev (hf := hf) (o := []) (by omega) inr ob_0
  have hitF : ∀ n, F_hits_at c [rdD c N ((List.range N).map hf) [], nD n] = some (.ok (.bl (hf n))) := fun n => by
    rw [hits_at_ev0 N0 (by rw [List.length_map, List.length_range]), getD_range (Nat.mod_lt _ N0)]
    show some (Except.ok (D.bl (f (a.hit (n % N)) (b.hit (n % N))))) = _
    rw [hit_mod ha (by rw [hN]; exact Nat.dvd_lcm_left _ _), hit_mod hb (by rw [hN]; exact Nat.dvd_lcm_right _ _)]
  have lA : listD [.tup (a.o.map nD)] = some (.lst (a.o.map nD)) := rfl
  have nl := nums_len ha hb
  have cat : catL (.lst (a.o.map nD)) (.lst ((b.o.filter fun n => !decide (n ∈ a.o)).map nD)) = some ((nums a b).map nD) := by
    show (if (a.o.map nD).length + ((b.o.filter fun n => !decide (n ∈ a.o)).map nD).length ≤ ssz then some (a.o.map nD ++ (b.o.filter fun n => !decide (n ∈ a.o)).map nD) else none) = _
    rw [if_pos (by rw [List.length_map, List.length_map]; unfold nums at nl; rw [List.length_append] at nl; exact Nat.le_trans nl (by decide)), ← List.map_append]
    rfl
  have tl : (turned f a b).length ≤ 600 := Nat.le_trans (List.length_filter_le _ _) nl
  have so : sortID [.lst ((turned f a b).map nD)] = some (.lst ((Rd.join f a b).o.map nD)) := by
    have e : (turned f a b).map nD = ((turned f a b).map fun n : Nat => (n : Int)).map D.int := by rw [List.map_map]; rfl
    have e2 : intsOf (((turned f a b).map fun n : Nat => (n : Int)).map D.int) = some ((turned f a b).map fun n : Nat => (n : Int)) := by
      generalize (turned f a b).map (fun n : Nat => (n : Int)) = l
      induction l with
      | nil => rfl
      | cons x l ih => rw [List.map_cons]; show (intsOf (l.map D.int)).map _ = _; rw [ih]; rfl
    show (intsOf ((turned f a b).map nD)).map _ = _
    rw [e, e2, Option.map_some, turned_sort ha hb, List.map_map]
    rfl
  have mkJ : mkD c.Rounds (F_Rounds___init__ c) ([.int (N : Int), .non, .lst ((Rd.join f a b).o.map nD), .lst (rs.map nD)] ++ []) = some (.ok ((Rd.join f a b).d c)) := by
    have := init_ev (c := c) (m := N) (beg := .non) (sing := .lst ((Rd.join f a b).o.map nD)) (ends := .lst (rs.map nD)) (hf := hf) (o := (Rd.join f a b).o) (by omega) inr ob_non
    rw [List.append_nil, this, hN]
    rfl
  have ii : ∀ n : Nat, intD [nD n] = some (nD n) := fun n => rfl
  let E : SD → SD → SD → SD → En := fun s4 s5 s6 s7 => [.val (a.d c), .val (b.d c), .val (opT f), .val (.int (N : Int)), s4, s5, s6, s7, .no]
  apply x_P (n := 3) rfl
  exact (show stE ["one", "other", "told", "many", "rests", "found", "numbers", "turned", "number"] [a.d c, b.d c, opT f] = [.val (a.d c), .val (b.d c), .val (opT f), .no, .no, .no, .no, .no, .no] from rfl)
  unfold m_joined
  apply x_seq (o := .nx) (e1 := E .no .no .no .no)
  · exists fa, fb, cm
  apply x_snx
  apply x_seq (o := .nx) (e1 := E .no .no .no .no)
  · exists c1
  apply x_snx
  apply x_seq (o := .nx) (e1 := E (.val (.lst (rs.map nD))) .no .no .no)
  · apply x_asg (d := .lst (rs.map nD)) (e1 := E .no .no .no .no)
    · apply x_lcFV (e' := E .no .no .no .no) nD nD hf (List.range N)
      · exists rg
      · rfl
      · rfl
      · intro n _
        have h1 := hits_at_ev (c := c) (n := n) ha
        have h2 := hits_at_ev (c := c) (n := n) hb
        apply turn_f
        · rfl
        · exists h1, h2, intD_b, mul2, sel, addA_int
        · exists rfl
        · rfl
        · rfl
      · rw [List.length_range]; omega
      · rfl
    · rfl
    · rfl
  apply x_snx
  apply x_seq (o := .nx) (e1 := E (.val (.lst (rs.map nD))) (.val (rdD c N ((List.range N).map hf) [])) .no .no)
  · exists mkF
  apply x_snx
  apply x_seq (o := .nx) (e1 := E (.val (.lst (rs.map nD))) (.val (rdD c N ((List.range N).map hf) [])) (.val (.lst ((nums a b).map nD))) .no)
  · apply x_asg (d := .lst ((nums a b).map nD)) (e1 := E (.val (.lst (rs.map nD))) (.val (rdD c N ((List.range N).map hf) [])) .no .no)
    · apply x_bind
      · apply x_bind
        · exists ga, lA
        apply x_bok
        apply x_bind
        · apply x_lcFV (e' := E (.val (.lst (rs.map nD))) (.val (rdD c N ((List.range N).map hf) [])) .no .no) nD nD (fun n => !decide (n ∈ a.o)) b.o
          · exists gb, iterD_tup
          · rfl
          · rfl
          · intro n _
            apply turn_f
            · rfl
            · exists ga, ninA_nt
            · exists rfl
            · rfl
            · rfl
          · exact Nat.le_trans hb.ol (by decide)
          · rfl
        · exists cat
      · exists rfl
    · rfl
    · rfl
  apply x_snx
  apply x_seq (o := .nx) (e1 := E (.val (.lst (rs.map nD))) (.val (rdD c N ((List.range N).map hf) [])) (.val (.lst ((nums a b).map nD))) (.val (.lst ((turned f a b).map nD))))
  · apply x_asg (d := .lst ((turned f a b).map nD)) (e1 := E (.val (.lst (rs.map nD))) (.val (rdD c N ((List.range N).map hf) [])) (.val (.lst ((nums a b).map nD))) .no)
    · apply x_lcFV (e' := E (.val (.lst (rs.map nD))) (.val (rdD c N ((List.range N).map hf) [])) (.val (.lst ((nums a b).map nD))) .no) nD nD (fun n => f (a.mem n) (b.mem n) != f (a.hit n) (b.hit n)) (nums a b)
      · exists iterD_lst
      · rfl
      · rfl
      · intro n _
        have h1 := told_of_ev (c := c) (f := f) (n := n) ha hb
        have h2 := hitF n
        apply turn_f
        · rfl
        · exists h1, h2, neD_b
        · exists rfl
        · rfl
        · rfl
      · omega
      · rfl
    · rfl
    · rfl
  apply x_snx
  apply x_of
  · apply x_bind
    · apply x_bind
      · exists rfl
      apply x_bok
      apply x_bind
      · apply x_bind
        · exists rfl
        apply x_bok
        apply x_bind
        · apply x_bind
          · apply x_bind
            · apply x_bind
              · apply x_lcVB (e' := E (.val (.lst (rs.map nD))) (.val (rdD c N ((List.range N).map hf) [])) (.val (.lst ((nums a b).map nD))) (.val (.lst ((turned f a b).map nD)))) nD nD (turned f a b)
                · exists iterD_lst
                · rfl
                · rfl
                · intro n _
                  apply turn_mk
                  · rfl
                  · rfl
                  · exists ii
                  · rfl
                · omega
                · rfl
              · exists rfl
            · exists so
          · exists rfl
        · exists rfl
      · exists rfl
    · exists mkJ
  · exists rfl
  rfl
end
end LX
namespace LX
open PySem PySem.Spec PyProof.Rows PySem.Calls L2 PD
local macro_rules
  | `(tactic| exists $fs,*) => do
    let mut t ← `(tactic| fail)
    for f in fs.getElems.reverse do
      t ← `(tactic| first | exact $f | $t:tactic)
    `(tactic| repeat' (first | (with_reducible first | exact x_ret | apply x_bind | apply x_bok | exact x_berr | apply x_lift | apply x_liftR | apply x_seq | apply x_snx | exact x_srt | exact x_sex | exact x_srf | exact x_sbk | exact x_sct | exact x_nx | apply x_of | apply x_ook | exact x_oerr | apply x_asg | apply x_if | apply x_callM | apply x_ixN | apply x_par | apply x_par3 | apply x_own | apply x_parO | apply x_mut | apply x_fld | apply x_for | apply x_lc | exact x_jsnil | apply x_jscons | exact x_isFn) | ((with_reducible first | apply x_get | apply x_ixV | apply x_fldV | apply x_unpO | apply x_peekV); exact rfl) | ((with_reducible first | apply x_getO | apply x_ixO | apply x_fldO | apply x_unpV | apply x_peekO); exact rfl) | ((with_reducible first | apply x_tup | apply x_lst | apply x_ln); exact Nat.le_of_ble_eq_true rfl) | ((with_reducible first | apply x_len | apply x_ins); exact rfl) | ((with_reducible first | apply x_ifT | apply x_mifT); with_reducible exact rfl) | ((with_reducible first | apply x_ifF | apply x_mifF); with_reducible exact rfl) | ((with_reducible first | apply x_ifT | apply x_mifT); with_reducible first | exact rfl | exact bnot_t | exact bnot_f | assumption | $t:tactic | exact decide_eq_true (by first | assumption | omega)) | ((with_reducible first | apply x_ifF | apply x_mifF); with_reducible first | exact rfl | exact bnot_t | exact bnot_f | assumption | $t:tactic | exact decide_eq_false (by first | assumption | omega)) | (with_reducible $t:tactic) | ((simp only [List.set_cons_zero, List.set_cons_succ, List.cons_append, List.nil_append, wipeE, restE, OV_d_lst, List.getD_cons_succ, List.getD_cons_zero]); exact rfl) | exact rfl | ((with_reducible show (_ = _)); assumption)))
section
variable {a b r : Rd}
theorem hit_far (ha : a.ok) {n k : Nat} : a.hit (n + a.m * k) = a.hit n := by
  show a.h.getD ((n + a.m * k) % a.m) false = _
  rw [Nat.add_mul_mod_self_left]; rfl
theorem mem_far2 (ha : a.ok) {n k : Nat} (h : 300 ≤ n + a.m * k) : a.mem (n + a.m * k) = a.hit n := by rw [mem_300 ha h, hit_far ha]
theorem o_eq (ha : a.ok) : a.o = (List.range 300).filter fun n => decide (n ∈ a.o) := by
  obtain ⟨p, e⟩ := ha.os
  conv => lhs; rw [e]
  refine List.filter_congr fun n hn => ?_
  rw [Bool.eq_iff_iff, decide_eq_true_eq, e, List.mem_filter]
  exact ⟨fun z => ⟨hn, z⟩, fun z => z.2⟩
theorem in_o {n : Nat} : decide (n ∈ a.o) = (a.mem n != a.hit n) := by
  show _ = ((a.hit n != decide (n ∈ a.o)) != a.hit n)
  cases a.hit n <;> cases decide (n ∈ a.o) <;> rfl
def someR (r : Rd) : Bool := r.h.any id || decide (0 < r.o.length)
def fOr (x y : Bool) : Bool := x || y
def fXor (x y : Bool) : Bool := x != y
end
theorem eqSL_nat : ∀ {a b : List Nat}, eqSL (a.map nD) (b.map nD) = decide (a = b)
  | [], [] => rfl
  | [], _ :: _ => by rw [List.map_cons]; exact eqSL_nc.trans (by simp)
  | _ :: _, [] => by rw [List.map_cons]; exact eqSL_cn.trans (by simp)
  | x :: a, y :: b => by
    rw [List.map_cons, List.map_cons, eqSL_cons, eqS_int, eqSL_nat, ← Bool.decide_and]
    exact decide_eq_decide.mpr (by rw [List.cons.injEq, Int.ofNat_inj])
theorem plT_nat {n : Nat} {a : List Nat} : plD (n + 1) (.tup (a.map nD)) = true := by
  show (a.map nD).all (plD n) = true
  rw [List.all_map]
  exact List.all_eq_true.mpr fun x _ => by cases n <;> rfl
section
variable {c : Cs} {a b r : Rd}
theorem isR (hk : c.Rounds ∈ c.known) : isiC c c.Rounds [r.d c, .fn c.Rounds] = some (.bl true) := by
  show isiC c c.Rounds [rdD c r.m r.h r.o, .fn c.Rounds] = _
  rw [isiC_ev (t := .ins c.Rounds) rfl hk, tgI_ins]
theorem own_ev {F : List D → Option (Except Ex D)} {d : D} (h : F [a.d c, b.d c] = some (.ok d)) : ownL c.Rounds F (a.d c) (b.d c) = some d := by
  show (if c.Rounds = c.Rounds ∧ c.Rounds = c.Rounds then okD (F [a.d c, b.d c]) else none) = _
  rw [if_pos ⟨rfl, rfl⟩, h]; rfl
theorem or_f (hk : c.Rounds ∈ c.known) (ha : a.ok) (hb : b.ok) : F_Rounds___or__ c [a.d c, b.d c] = some (.ok ((Rd.join fOr a b).d c)) := by
  have i1 := isR (r := b) hk
  have j : F_joined c [a.d c, b.d c, .tup [.bl false, .bl true, .bl true, .bl true]] = some (.ok ((Rd.join fOr a b).d c)) := joined_ev (f := fOr) ha hb
  apply x_P (n := 2) rfl
  exact (show stE ["self", "other"] [a.d c, b.d c] = [.val (a.d c), .val (b.d c)] from rfl)
  unfold m_Rounds___or__
  exists i1, j
theorem xor_f (hk : c.Rounds ∈ c.known) (ha : a.ok) (hb : b.ok) : F_Rounds___xor__ c [a.d c, b.d c] = some (.ok ((Rd.join fXor a b).d c)) := by
  have i1 := isR (r := b) hk
  have j : F_joined c [a.d c, b.d c, .tup [.bl false, .bl true, .bl true, .bl false]] = some (.ok ((Rd.join fXor a b).d c)) := joined_ev (f := fXor) ha hb
  apply x_P (n := 2) rfl
  exact (show stE ["self", "other"] [a.d c, b.d c] = [.val (a.d c), .val (b.d c)] from rfl)
  unfold m_Rounds___xor__
  exists i1, j
theorem or_ev (hk : c.Rounds ∈ c.known) (ha : a.ok) (hb : b.ok) : ownL c.Rounds (F_Rounds___or__ c) (a.d c) (b.d c) = some ((Rd.join fOr a b).d c) := own_ev (or_f hk ha hb)
theorem xor_ev (hk : c.Rounds ∈ c.known) (ha : a.ok) (hb : b.ok) : ownL c.Rounds (F_Rounds___xor__ c) (a.d c) (b.d c) = some ((Rd.join fXor a b).d c) := own_ev (xor_f hk ha hb)
theorem bool_f (hr : r.ok) : F_Rounds___bool__ c [r.d c] = some (.ok (.bl (someR r))) := by
  have fh : fldD c.Rounds "hits" (r.d c) = some (.tup (r.h.map .bl)) := fl_h
  have fo : fldD c.Rounds "others" (r.d c) = some (.tup (r.o.map nD)) := fl_o
  have ln : lenD [.tup (r.o.map nD)] = some (.int (r.o.length : Int)) := len_mapT
  have bb : ∀ z : Bool, boolD [.bl z] = some (.bl z) := fun z => rfl
  have an : anyA [.tup (r.h.map .bl)] = some (.bl (r.h.any id)) := bls_any
  unfold someR
  cases q : r.h.any id with
  | true =>
    rw [q] at an
    rw [Bool.true_or]
    apply x_P (n := 1) rfl
    exact (show stE ["self"] [r.d c] = [.val (r.d c)] from rfl)
    unfold m_Rounds___bool__
    exists fh, an, truD_bl
  | false =>
    rw [q] at an
    rw [Bool.false_or]
    have e : (cmpI fun i j => decide (j < i)) (.int (r.o.length : Int)) (.int 0) = some (.bl (decide (0 < r.o.length))) := by
      show some (D.bl (decide ((0 : Int) < (r.o.length : Int)))) = _
      rw [decide_eq_decide.mpr (show (0 : Int) < (r.o.length : Int) ↔ 0 < r.o.length by omega)]
    apply x_P (n := 1) rfl
    exact (show stE ["self"] [r.d c] = [.val (r.d c)] from rfl)
    unfold m_Rounds___bool__
    exists fh, fo, an, truD_bl, ln, e, bb _
theorem tru_ev (hr : r.ok) : oTruR c (r.d c) = some (someR r) := by
  show (none : Option Bool).or (own1B c.Rounds (F_Rounds___bool__ c) (rdD c r.m r.h r.o)) = _
  have e : own1 c.Rounds (F_Rounds___bool__ c) (rdD c r.m r.h r.o) = some (.bl (someR r)) := by
    show (if c.Rounds = c.Rounds then okD (F_Rounds___bool__ c [r.d c]) else none) = _
    rw [if_pos rfl, bool_f hr]; rfl
  unfold own1B
  rw [e]; rfl
theorem in_ev (ha : a.ok) {n : Nat} : oInR c (nD n) (a.d c) = some (.bl (a.mem n)) := by
  have c1 := cge_t (i := (n : Int)) (j := 0) (by omega)
  have m := is_member_ev (c := c) (n := n) ha
  have e : F_Rounds___contains__ c [a.d c, nD n] = some (.ok (.bl (a.mem n))) := by
    apply x_P (n := 2) rfl
    exact (show stE ["self", "value"] [a.d c, nD n] = [.val (a.d c), .val (nD n)] from rfl)
    unfold m_Rounds___contains__
    exists is_integer_ev, truD_bl, c1, m
  show (none : Option D).or (if c.Rounds = c.Rounds then (match okD (F_Rounds___contains__ c [a.d c, nD n]) with | some (.bl b) => some (.bl b) | _ => none) else none) = _
  rw [if_pos rfl, e]; rfl
end
end LX
namespace LX
open PySem PySem.Spec PyProof.Rows PySem.Calls L2 PD
local macro_rules
  | `(tactic| exists $fs,*) => do
    let mut t ← `(tactic| fail)
    for f in fs.getElems.reverse do
      t ← `(tactic| first | exact $f | $t:tactic)
    `(tactic| repeat' (first | (with_reducible first | exact x_ret | apply x_bind | apply x_bok | exact x_berr | apply x_lift | apply x_liftR | apply x_seq | apply x_snx | exact x_srt | exact x_sex | exact x_srf | exact x_sbk | exact x_sct | exact x_nx | apply x_of | apply x_ook | exact x_oerr | apply x_asg | apply x_if | apply x_callM | apply x_ixN | apply x_par | apply x_par3 | apply x_own | apply x_parO | apply x_mut | apply x_fld | apply x_for | apply x_lc | exact x_jsnil | apply x_jscons | exact x_isFn) | ((with_reducible first | apply x_get | apply x_ixV | apply x_fldV | apply x_unpO | apply x_peekV); exact rfl) | ((with_reducible first | apply x_getO | apply x_ixO | apply x_fldO | apply x_unpV | apply x_peekO); exact rfl) | ((with_reducible first | apply x_tup | apply x_lst | apply x_ln); exact Nat.le_of_ble_eq_true rfl) | ((with_reducible first | apply x_len | apply x_ins); exact rfl) | ((with_reducible first | apply x_ifT | apply x_mifT); with_reducible exact rfl) | ((with_reducible first | apply x_ifF | apply x_mifF); with_reducible exact rfl) | ((with_reducible first | apply x_ifT | apply x_mifT); with_reducible first | exact rfl | exact bnot_t | exact bnot_f | assumption | $t:tactic | exact decide_eq_true (by first | assumption | omega)) | ((with_reducible first | apply x_ifF | apply x_mifF); with_reducible first | exact rfl | exact bnot_t | exact bnot_f | assumption | $t:tactic | exact decide_eq_false (by first | assumption | omega)) | (with_reducible $t:tactic) | ((simp only [List.set_cons_zero, List.set_cons_succ, List.cons_append, List.nil_append, wipeE, restE, OV_d_lst, List.getD_cons_succ, List.getD_cons_zero]); exact rfl) | exact rfl | ((with_reducible show (_ = _)); assumption)))
theorem lcL_exF {σ α : Type} {f : D → En → Option En} {mt : Mo Bool} {me : Mo D} {vs : List Nat} (gd : α → D) (E : σ → En) (Inv : σ → List α → Prop)
    (h : ∀ s x xs, Inv s (x :: xs) → ∃ e1 e2 k s', f (gd x) (E s) = some e1 ∧ mt e1 = some (.ok k, e2) ∧ (k = true → ∃ e3, me e2 = some (.ok (gd x), e3) ∧ wipeE e3 vs = E s') ∧ (k = false → wipeE e2 vs = E s') ∧ Inv s' xs) :
    ∀ (xs : List α) (s : σ) (acc : List D), Inv s xs → acc.length + xs.length ≤ 1000 → ∃ (ys : List α) (s' : σ), ys.Sublist xs ∧ lcL f mt me vs acc (xs.map gd) (E s) = some (.ok (acc ++ ys.map gd), E s') ∧ Inv s' []
  | [], s, acc, hs, _ => ⟨[], s, List.Sublist.refl _, by rw [List.map_nil, lcL_nil]; exact congrArg (fun z => some ((Except.ok z : Except Ex (List D)), E s)) (List.append_nil acc).symm, hs⟩
  | x :: xs, s, acc, hs, hl => by
    obtain ⟨e1, e2, k, s1, h1, h2, h3, h4, h5⟩ := h s x xs hs
    rw [List.length_cons] at hl
    rw [List.map_cons]
    cases k with
    | true =>
      obtain ⟨e3, q1, q2⟩ := h3 rfl
      obtain ⟨ys, s2, r1, r2, r3⟩ := lcL_exF gd E Inv h xs s1 (acc ++ [gd x]) h5 (by rw [List.length_append, List.length_singleton]; omega)
      refine ⟨x :: ys, s2, r1.cons₂ x, ?_, r3⟩
      refine x_lcc h1 rfl h2 (x_lckT rfl q1 (by omega) rfl q2 ?_)
      rw [r2, List.map_cons, List.append_assoc]; rfl
    | false =>
      obtain ⟨ys, s2, r1, r2, r3⟩ := lcL_exF gd E Inv h xs s1 acc h5 (by omega)
      exact ⟨ys, s2, r1.cons x, x_lcc h1 rfl h2 (x_lckF rfl (h4 rfl) r2), r3⟩
theorem xe_lcF {σ α : Type} {mi : Mo (List D)} {f : D → En → Option En} {mt : Mo Bool} {me : Mo D} {vs : List Nat} {ds : List D} {e e1 : En} {P : List D → En → Prop} (gd : α → D) (E : σ → En) (Inv : σ → List α → Prop) (xs : List α) (s0 : σ) (h1 : mi e = some (.ok ds, e1)) (hd : ds = xs.map gd) (hn : noOwn e1 vs = true) (he : wipeE e1 vs = E s0) (h0 : Inv s0 xs) (hl : xs.length ≤ 1000)
    (h : ∀ s x xs, Inv s (x :: xs) → ∃ a1 a2 k s', f (gd x) (E s) = some a1 ∧ mt a1 = some (.ok k, a2) ∧ (k = true → ∃ a3, me a2 = some (.ok (gd x), a3) ∧ wipeE a3 vs = E s') ∧ (k = false → wipeE a2 vs = E s') ∧ Inv s' xs)
    (k : ∀ (ys : List α) (s' : σ), Inv s' [] → ys.Sublist xs → P (ys.map gd) (restE e1 (E s') vs)) : XE (lcM mi f mt me vs) e P := by
  subst hd
  obtain ⟨ys, s', r1, r2, r3⟩ := lcL_exF (f := f) (mt := mt) (me := me) (vs := vs) gd E Inv h xs s0 [] h0 (by rw [List.length_nil]; omega)
  rw [List.nil_append] at r2
  exact ⟨_, _, x_lc h1 rfl hn he r2 rfl, k ys s' r3 r1⟩
theorem turn_exF {σ : Type} {f : D → En → Option En} {mt : Mo Bool} {me : Mo D} {vs : List Nat} {x : D} {e a b d : En} {k : Bool} {E : σ → En} {s' : σ} {Q : σ → Prop} (h1 : f x e = some a) (h2 : mt a = some (.ok k, b)) (h3 : me b = some (.ok x, d)) (h4 : wipeE d vs = E s') (h5 : wipeE b vs = E s') (h6 : Q s') :
    ∃ a1 a2 k s', f x e = some a1 ∧ mt a1 = some (.ok k, a2) ∧ (k = true → ∃ a3, me a2 = some (.ok x, a3) ∧ wipeE a3 vs = E s') ∧ (k = false → wipeE a2 vs = E s') ∧ Q s' := ⟨a, b, k, s', h1, h2, fun _ => ⟨d, h3, h4⟩, fun _ => h5, h6⟩
structure Md where
  m : Nat
  rs : List Nat
  ns : List Nat
structure Md.ok (x : Md) : Prop where
  m0 : 0 < x.m
  dv : x.m ∣ 420
  rl : x.rs.length ≤ 48
  rk : ∀ n ∈ x.rs, n < x.m
  nl : x.ns.length ≤ 300
  nk : ∀ n ∈ x.ns, n < 300
  rd : x.rs.Nodup
  na : ∃ p : Nat → Bool, x.ns = (List.range 300).filter p
def Md.d (x : Md) : D := .tup [.int (x.m : Int), .lst (x.rs.map nD), .lst (x.ns.map nD)]
def Md.has (x : Md) (n : Nat) : Bool := decide (n % x.m ∈ x.rs) != decide (n ∈ x.ns)
theorem Md.ok.m1 {x : Md} (h : x.ok) : x.m ≤ 420 := Nat.le_of_dvd (by decide) h.dv
theorem nats_of : ∀ {α : Type} {xs : List α} {ys : List D} {b : Nat}, All2 (fun _ d => ∃ k : Nat, k < b ∧ d = nD k) xs ys → ∃ ks : List Nat, ys = ks.map nD ∧ (∀ k ∈ ks, k < b) ∧ ks.length = xs.length
  | _, [], _, _, .nil => ⟨[], rfl, fun k hk => (nomatch hk), rfl⟩
  | _, _ :: _, _, _, .cons ⟨k, h1, h2⟩ h => by
    obtain ⟨ks, q1, q2, q3⟩ := nats_of h
    exact ⟨k :: ks, by rw [h2, q1]; rfl, fun z hz => (List.mem_cons.mp hz).elim (fun e => e ▸ h1) (q2 z), by rw [List.length_cons, List.length_cons, q3]⟩
theorem eqD_i {i j : Int} : eqD (.int i) (.int j) = some (.bl (decide (i = j))) := rfl
section
variable {c : Cs}
def mods : List D := [.int 1, .int 2, .int 3, .int 4, .int 5, .int 6, .int 7, .int 12]
theorem mods_at {t : Int} (h0 : 0 ≤ t) (h1 : t < 8) : ∃ m : Nat, 0 < m ∧ m ∣ 420 ∧ m ≤ 12 ∧ ixD (.lst mods) (.int t) = some (.int (m : Int)) := by
  obtain rfl | rfl | rfl | rfl | rfl | rfl | rfl | rfl : t = 0 ∨ t = 1 ∨ t = 2 ∨ t = 3 ∨ t = 4 ∨ t = 5 ∨ t = 6 ∨ t = 7 := by omega
  · exact ⟨1, by decide, by decide, by decide, rfl⟩
  · exact ⟨2, by decide, by decide, by decide, rfl⟩
  · exact ⟨3, by decide, by decide, by decide, rfl⟩
  · exact ⟨4, by decide, by decide, by decide, rfl⟩
  · exact ⟨5, by decide, by decide, by decide, rfl⟩
  · exact ⟨6, by decide, by decide, by decide, rfl⟩
  · exact ⟨7, by decide, by decide, by decide, rfl⟩
  · exact ⟨12, by decide, by decide, by decide, rfl⟩
theorem tops_at {t : Int} (h0 : 0 ≤ t) (h1 : t < 3) : ∃ m : Int, 0 < m ∧ m ≤ 300 ∧ ixD (.lst [.int 9, .int 40, .int 300]) (.int t) = some (.int m) := by
  obtain rfl | rfl | rfl : t = 0 ∨ t = 1 ∨ t = 2 := by omega
  · exact ⟨9, by decide, by decide, rfl⟩
  · exact ⟨40, by decide, by decide, rfl⟩
  · exact ⟨300, by decide, by decide, rfl⟩
theorem set_ev {p : Pv} {k : Int} (h : p.ok k) (hk : k ≤ 900000) : ∃ r l, F__law_set c ⟨.lst, p.l⟩ [.lst mods] = some (r, l) ∧ ∃ (x : Md) (p' : Pv), x.ok ∧ x.m ≤ 12 ∧ x.rs.length ≤ 24 ∧ r = .ok x.d ∧ l = ⟨.lst, p'.l⟩ ∧ p'.ok (k + 100) := by
  have lm : lenD [.lst mods] = some (.int 8) := rfl
  have t1 := take2_ev (c := c) (m := 8) h (by omega) (by decide) (by decide)
  obtain ⟨g1, g2⟩ := tk2_rng (p := p) (m := 8) (by decide)
  obtain ⟨m, m0, md, m12, im⟩ := mods_at g1 g2
  have h1 := tk2_ok (m := 8) h (by decide)
  obtain ⟨p1, hp1⟩ : ∃ q, q = (tk2 p 8).2 := ⟨_, rfl⟩
  obtain ⟨v1, hv1⟩ : ∃ q, q = (tk2 p 8).1 := ⟨_, rfl⟩
  rw [← hp1] at h1 t1
  rw [← hv1] at t1 im
  let E : Pv → SD → SD → En := fun q s3 s4 => [.own false ⟨.lst, q.l⟩, .val (.lst mods), .val (.int (m : Int)), s3, s4, .no, .no, .no]
  have mn : min2D [.int (m : Int), .int 30] = some (.int (m : Int)) := by
    show some (D.int (if (30 : Int) < (m : Int) then 30 else (m : Int))) = _
    rw [if_neg (by omega)]
  have rg : rng1D [.int (m : Int)] = some ((List.range m).map nD) := rng1_nat (by omega)
  apply x_ME (n := 2) rfl
  exact (show stO ["_law_draws", "_law_moduli", "_law_many", "_law_rests", "_law_some", "_law_rest", "_law_turn", "_law_number"] ⟨.lst, p.l⟩ [.lst mods] = [.own false ⟨.lst, p.l⟩, .val (.lst mods), .no, .no, .no, .no, .no, .no] from rfl)
  unfold m__law_set
  apply en_seq (e1 := E p1 .no .no)
  · exists lm, t1, im
  -- the rests
  apply en_seqE
  apply en_asgX
  apply xe_bind
  apply xe_lcF (σ := Pv) nD (fun q => E q .no .no) (fun q xs => q.ok (k + 1 + 12 - xs.length)) (List.range m) p1 (ds := (List.range m).map nD) (e1 := E p1 .no .no)
  · exists mn, rg
  · rfl
  · rfl
  · rfl
  · exact h1.mono (by rw [List.length_range]; omega)
  · rw [List.length_range]; omega
  · intro q n xs hq
    rw [List.length_cons] at hq
    have t2 := take2_ev (c := c) (m := 2) hq (by omega) (by decide) (by decide)
    have h2 := tk2_ok (m := 2) hq (by decide)
    apply turn_exF (a := [.own false ⟨.lst, q.l⟩, .val (.lst mods), .val (.int (m : Int)), .no, .no, .val (nD n), .no, .no]) (k := decide ((tk2 q 2).1 = 0)) (s' := (tk2 q 2).2)
    · rfl
    · exists t2, eqD_i
    · exists rfl
    · rfl
    · rfl
    · exact h2.mono (by omega)
  intro rs p2 h2 hs
  have h2 : p2.ok (k + 13) := h2.mono (by simp; omega)
  refine xe_of rfl ⟨_, rfl, rfl, ?_⟩
  show EnR _ (E p2 (.val (.lst (rs.map nD))) .no) _
  -- all rests
  have t3 := take2_ev (c := c) (m := 5) h2 (by omega) (by decide) (by decide)
  have h3 := tk2_ok (m := 5) h2 (by decide)
  obtain ⟨p3, hp3⟩ : ∃ q, q = (tk2 p2 5).2 := ⟨_, rfl⟩
  obtain ⟨v3, hv3⟩ : ∃ q, q = (tk2 p2 5).1 := ⟨_, rfl⟩
  rw [← hp3] at h3 t3
  rw [← hv3] at t3
  have lr : lrgD (.int (m : Int)) = some (.lst ((List.range m).map nD)) := by
    show (if -(2 ^ 62) ≤ (m : Int) ∧ (m : Int) ≤ 2 ^ 24 then _ else none) = _
    rw [if_pos ⟨by omega, by omega⟩, Int.toNat_natCast]
  obtain ⟨us, hus, hul, huk, if3⟩ : ∃ us : List Nat, us.length ≤ 12 ∧ us.Nodup ∧ (∀ n ∈ us, n < m) ∧ (ifS (((callM 0 (F__law_take c) ((Mo.ret (.int 5)).bind fun x21 => (Mo.ret []).bind fun x22 => Mo.ret (x21 :: x22))).bind fun x23 => (Mo.ret (.int 0)).bind fun x24 => Mo.lift (eqD x23 x24)).bind fun x20 => Mo.lift (blD x20)) (asgS ((getM 2).bind fun x25 => Mo.lift (lrgD x25)) (setE 3)) nxS) (E p2 (.val (.lst (rs.map nD))) .no) = some (.nx, E p3 (.val (.lst (us.map nD))) .no) := by
    by_cases z : v3 = 0
    · refine ⟨List.range m, by rw [List.length_range]; exact m12, List.nodup_range, fun n hn => List.mem_range.mp hn, ?_⟩
      have e : eqD (.int v3) (.int 0) = some (.bl true) := by rw [eqD_i, decide_eq_true z]
      exists t3, e, lr
    · refine ⟨rs, Nat.le_trans hs.length_le (by rw [List.length_range]; exact m12), List.nodup_range.sublist hs, fun n hn => List.mem_range.mp (hs.mem hn), ?_⟩
      have e : eqD (.int v3) (.int 0) = some (.bl false) := by rw [eqD_i, decide_eq_false z]
      exists t3, e
  apply en_seq if3
  -- the single ones
  have t4 := take2_ev (c := c) (m := 5) h3 (by omega) (by decide) (by decide)
  have h4 := tk2_ok (m := 5) h3 (by decide)
  obtain ⟨g3, g4⟩ := tk2_rng (p := p3) (m := 5) (by decide)
  obtain ⟨p4, hp4⟩ : ∃ q, q = (tk2 p3 5).2 := ⟨_, rfl⟩
  rw [← hp4] at h4 t4
  obtain ⟨j, hj⟩ : ∃ j : Nat, (tk2 p3 5).1 = (j : Int) := ⟨(tk2 p3 5).1.toNat, by omega⟩
  rw [hj] at t4 g4
  have rj : rng1D [.int (j : Int)] = some ((List.range j).map nD) := rng1_nat (by omega)
  apply en_seqE
  apply en_asgX
  apply xe_bind
  apply xe_lc (σ := Pv) nD (fun q => E q (.val (.lst (us.map nD))) .no) (fun q xs => q.ok (k + 15 + 2 * 5 - 2 * xs.length)) (fun _ d => ∃ z : Nat, z < 300 ∧ d = nD z) (List.range j) p4 (ds := (List.range j).map nD) (e1 := E p4 (.val (.lst (us.map nD))) .no)
  · apply x_bind
    · apply x_bind
      · refine x_callM (e1 := E p3 (SD.val (D.lst (List.map nD us))) SD.no) (b := false) (l := ⟨.lst, p3.l⟩) (l' := ⟨.lst, p4.l⟩) (ds := [.int 5]) rfl ?_ rfl t4 rfl
        exact rfl
      apply x_bok
      exact rfl
    apply x_bok
    apply x_lift
    exact rj
  · rfl
  · rfl
  · rfl
  · exact h4.mono (by rw [List.length_range]; omega)
  · rw [List.length_range]; omega
  · intro q n xs hq
    rw [List.length_cons] at hq
    have t5 := take2_ev (c := c) (m := 3) hq (by omega) (by decide) (by decide)
    have h5 := tk2_ok (m := 3) hq (by decide)
    obtain ⟨a1, a2⟩ := tk2_rng (p := q) (m := 3) (by decide)
    obtain ⟨w, w0, w1, iw⟩ := tops_at a1 a2
    have t6 := take2_ev (c := c) (m := w) h5 (by omega) w0 (by omega)
    have h6 := tk2_ok (m := w) h5 w0
    obtain ⟨b1, b2⟩ := tk2_rng (p := (tk2 q 3).2) (m := w) w0
    apply turn_ex (a := [.own false ⟨.lst, q.l⟩, .val (.lst mods), .val (.int (m : Int)), .val (.lst (us.map nD)), .no, .no, .val (nD n), .no]) (s' := (tk2 (tk2 q 3).2 w).2) (y := .int (tk2 (tk2 q 3).2 w).1)
    · rfl
    · rfl
    · exists t5, iw, t6
    · rfl
    · exact ⟨⟨(tk2 (tk2 q 3).2 w).1.toNat, by omega, congrArg D.int (Int.toNat_of_nonneg b1).symm⟩, h6.mono (by omega)⟩
  intro ys p5 h5 hy
  obtain ⟨ks, rfl, kk, kl⟩ := nats_of hy
  have h5 : p5.ok (k + 25) := h5.mono (by simp; omega)
  refine xe_of rfl ⟨_, rfl, rfl, ?_⟩
  show EnR _ (E p5 (.val (.lst (us.map nD))) (.val (.lst (ks.map nD)))) _
  have r3 : rng1D [.int 300] = some ((List.range 300).map nD) := rng1_nat (n := 300) (by decide)
  refine ⟨.rt (Md.d ⟨m, us, (List.range 300).filter fun n => decide (n ∈ ks)⟩), E p5 (.val (.lst (us.map nD))) (.val (.lst (ks.map nD))), ?_, .ok (Md.d ⟨m, us, (List.range 300).filter fun n => decide (n ∈ ks)⟩), ⟨.lst, p5.l⟩, rfl, rfl, ⟨m, us, (List.range 300).filter fun n => decide (n ∈ ks)⟩, p5, ⟨m0, md, by show us.length ≤ 48; omega, huk, Nat.le_trans (List.length_filter_le _ _) (by rw [List.length_range]; exact Nat.le_refl _), fun n hn => List.mem_range.mp (List.mem_filter.mp hn).1, hul, (fun n => decide (n ∈ ks)), rfl⟩, m12, by show us.length ≤ 24; omega, rfl, rfl, h5.mono (by omega)⟩
  apply x_of
  · apply x_bind
    · apply x_bind
      · exists rfl
      apply x_bok
      apply x_bind
      · apply x_bind
        · exists rfl
        apply x_bok
        apply x_bind
        · apply x_bind
          · apply x_lcFV (e' := E p5 (.val (.lst (us.map nD))) (.val (.lst (ks.map nD)))) nD nD (fun n => decide (n ∈ ks)) (List.range 300)
            · exists r3
            · rfl
            · rfl
            · intro n _
              apply turn_f
              · rfl
              · exists inA_nl
              · exists rfl
              · rfl
              · rfl
            · rw [List.length_range]; omega
            · rfl
          · exists rfl
        · exists rfl
      · exists rfl
    · exists rfl
  · exists rfl
end
end LX
namespace LX
open PySem PySem.Spec PyProof.Rows PySem.Calls L2 PD
local macro_rules
  | `(tactic| exists $fs,*) => do
    let mut t ← `(tactic| fail)
    for f in fs.getElems.reverse do
      t ← `(tactic| first | exact $f | $t:tactic)
    `(tactic| repeat' (first | (with_reducible first | exact x_ret | apply x_bind | apply x_bok | exact x_berr | apply x_lift | apply x_liftR | apply x_seq | apply x_snx | exact x_srt | exact x_sex | exact x_srf | exact x_sbk | exact x_sct | exact x_nx | apply x_of | apply x_ook | exact x_oerr | apply x_asg | apply x_if | apply x_callM | apply x_ixN | apply x_par | apply x_par3 | apply x_own | apply x_parO | apply x_mut | apply x_fld | apply x_for | apply x_lc | exact x_jsnil | apply x_jscons | exact x_isFn) | ((with_reducible first | apply x_get | apply x_ixV | apply x_fldV | apply x_unpO | apply x_peekV); exact rfl) | ((with_reducible first | apply x_getO | apply x_ixO | apply x_fldO | apply x_unpV | apply x_peekO); exact rfl) | ((with_reducible first | apply x_tup | apply x_lst | apply x_ln); exact Nat.le_of_ble_eq_true rfl) | ((with_reducible first | apply x_len | apply x_ins); exact rfl) | ((with_reducible first | apply x_ifT | apply x_mifT); with_reducible exact rfl) | ((with_reducible first | apply x_ifF | apply x_mifF); with_reducible exact rfl) | ((with_reducible first | apply x_ifT | apply x_mifT); with_reducible first | exact rfl | exact bnot_t | exact bnot_f | assumption | $t:tactic | exact decide_eq_true (by first | assumption | omega)) | ((with_reducible first | apply x_ifF | apply x_mifF); with_reducible first | exact rfl | exact bnot_t | exact bnot_f | assumption | $t:tactic | exact decide_eq_false (by first | assumption | omega)) | (with_reducible $t:tactic) | ((simp only [List.set_cons_zero, List.set_cons_succ, List.cons_append, List.nil_append, wipeE, restE, OV_d_lst, List.getD_cons_succ, List.getD_cons_zero]); exact rfl) | exact rfl | ((with_reducible show (_ = _)); assumption)))
section
variable {c : Cs} {x y : Md} {a b r : Rd}
theorem md_0 : ixD x.d (.int 0) = some (.int (x.m : Int)) := rfl
theorem md_1 : ixD x.d (.int 1) = some (.lst (x.rs.map nD)) := rfl
theorem md_2 : ixD x.d (.int 2) = some (.lst (x.ns.map nD)) := rfl
theorem holds_ev {n : Nat} (h : x.ok) : F__law_holds c [x.d, nD n] = some (.ok (.bl (x.has n))) := by
  have ii : intD [nD n] = some (nD n) := rfl
  have md : modD (nD n) (.int (x.m : Int)) = some (nD (n % x.m)) := by
    show modD (.int (n : Int)) (.int (x.m : Int)) = _
    rw [modD_int (by have := h.m0; omega), fmod_nat]
  apply x_P (n := 2) rfl
  exact (show stE ["_law_model", "_law_number"] [x.d, nD n] = [.val (x.d), .val (nD n)] from rfl)
  unfold m__law_holds
  exists ii, md_0, md_1, md_2, md, inA_nl, neD_b
theorem formed_ev (hk : c.Rounds ∈ c.known) (h : x.ok) : ∃ r : Rd, r.ok ∧ r.m = x.m ∧ (∀ n, r.mem n = x.has n) ∧ F__law_formed c [x.d] = some (.ok (r.d c)) := by
  have r0 : starP 1 (F_Rounds_rests c) [.int (x.m : Int)] = some (.ok ((Rd.rests x.m []).d c)) := rests_ev (l := []) h.m0 (by have := h.m1; omega) (by show 0 < 1000; decide) List.Pairwise.nil (fun _ hx => nomatch hx)
  have t0 := told_nil (c := c)
  have main : ∃ r : Rd, (r.ok ∧ r.m = x.m ∧ ∀ n, r.mem n = x.has n) ∧ ∃ e1, m__law_formed c [.val x.d, .no, .no, .no, .no] = some (.rt (r.d c), e1) := by
    have go : EnR (m__law_formed c) [.val x.d, .no, .no, .no, .no] fun o _ => ∃ r : Rd, (r.ok ∧ r.m = x.m ∧ ∀ n, r.mem n = x.has n) ∧ o = .rt (r.d c) := by
      unfold m__law_formed
      apply en_seq (e1 := [.val x.d, .val ((Rd.rests x.m []).d c), .val (Rd.nil.d c), .no, .no])
      · exists md_0, r0, t0
      apply en_seqE
      apply en_for (σ := Rd × SD) nD (fun s => [.val x.d, .val (s.1.d c), .val (Rd.nil.d c), s.2, .no]) (fun s xs => s.1.ok ∧ s.1.m = x.m ∧ ∃ done, x.rs = done ++ xs ∧ ∀ n, s.1.mem n = decide (n % x.m ∈ done)) x.rs (Rd.rests x.m [], .no) (ds := x.rs.map nD) (e1 := [.val x.d, .val ((Rd.rests x.m []).d c), .val (Rd.nil.d c), .no, .no])
      · exists md_1, iterD_lst
      · rfl
      · rfl
      · exact ⟨Rd.rests_ok h.m0 h.dv, rfl, [], rfl, fun n => Rd.rests_mem h.m0⟩
      · rintro ⟨s, sd⟩ r xs ⟨h1, h2, done, h3, h4⟩
        dsimp only at h1 h2 h4
        have hr : r < x.m := h.rk r (by rw [h3]; exact List.mem_append_right _ List.mem_cons_self)
        have r1 : starP 1 (F_Rounds_rests c) [.int (x.m : Int), nD r] = some (.ok ((Rd.rests x.m [r]).d c)) := rests_ev (l := [r]) h.m0 (by have := h.m1; omega) (by show 1 < 1000; decide) (List.pairwise_singleton _ _) (fun z hz => by rw [List.mem_singleton.mp hz]; exact hr)
        have ro := Rd.rests_ok (l := [r]) h.m0 h.dv
        have o1 := or_ev hk h1 ro
        apply lp_mk (e2 := [.val x.d, .val (s.d c), .val (Rd.nil.d c), .val (nD r), .no])
        · rfl
        refine ⟨.nx, [.val x.d, .val ((Rd.join fOr s (Rd.rests x.m [r])).d c), .val (Rd.nil.d c), .val (nD r), .no], ?_, rfl, (Rd.join fOr s (Rd.rests x.m [r]), .val (nD r)), rfl, Rd.join_ok h1 ro, ?_, done ++ [r], by rw [h3, List.append_assoc]; rfl, fun n => ?_⟩
        · exists md_0, r1, o1
        · show Nat.lcm s.m x.m = x.m
          rw [h2, Nat.lcm_self]
        · rw [Rd.join_mem h1 ro, h4, Rd.rests_mem h.m0]
          show (decide (n % x.m ∈ done) || decide (n % x.m ∈ [r])) = _
          rw [← Bool.decide_or]
          exact decide_eq_decide.mpr List.mem_append.symm
      rintro ⟨s, sd⟩ ⟨h1, h2, done, h3, h4⟩
      dsimp only at h1 h2 h4 ⊢
      rw [List.append_nil] at h3
      subst h3
      refine ⟨rfl, ?_⟩
      apply en_seqE
      apply en_for (σ := Rd × SD) nD (fun s2 => [.val x.d, .val (s.d c), .val (s2.1.d c), sd, s2.2]) (fun s2 xs => s2.1.ok ∧ s2.1.m = 1 ∧ ∃ done, x.ns = done ++ xs ∧ ∀ n, s2.1.mem n = decide (n ∈ done)) x.ns (Rd.nil, .no) (ds := x.ns.map nD) (e1 := [.val x.d, .val (s.d c), .val (Rd.nil.d c), sd, .no])
      · exists md_2, iterD_lst
      · rfl
      · rfl
      · exact ⟨Rd.nil_ok, rfl, [], rfl, fun n => Rd.nil_mem⟩
      · rintro ⟨s2, sd2⟩ r xs ⟨k1, k2, done, k3, k4⟩
        dsimp only at k1 k2 k4
        have hr : r < 300 := h.nk r (by rw [k3]; exact List.mem_append_right _ List.mem_cons_self)
        have r1 := told_one (c := c) hr
        have ro := Rd.one_ok hr
        have o1 := or_ev hk k1 ro
        apply lp_mk (e2 := [.val x.d, .val (s.d c), .val (s2.d c), sd, .val (nD r)])
        · rfl
        refine ⟨.nx, [.val x.d, .val (s.d c), .val ((Rd.join fOr s2 (Rd.one r)).d c), sd, .val (nD r)], ?_, rfl, (Rd.join fOr s2 (Rd.one r), .val (nD r)), rfl, Rd.join_ok k1 ro, ?_, done ++ [r], by rw [k3, List.append_assoc]; rfl, fun n => ?_⟩
        · exists r1, o1
        · show Nat.lcm s2.m 1 = 1
          rw [k2, Nat.lcm_self]
        · rw [Rd.join_mem k1 ro, k4, Rd.one_mem]
          show (decide (n ∈ done) || decide (n = r)) = _
          rw [← Bool.decide_or]
          exact decide_eq_decide.mpr (by rw [List.mem_append, List.mem_singleton])
      rintro ⟨s2, sd2⟩ ⟨k1, k2, done, k3, k4⟩
      dsimp only at k1 k2 k4 ⊢
      rw [List.append_nil] at k3
      refine ⟨rfl, ?_⟩
      have xo := xor_ev hk h1 k1
      refine ⟨.rt ((Rd.join fXor s s2).d c), [.val x.d, .val (s.d c), .val (s2.d c), sd, sd2], ?_, Rd.join fXor s s2, ⟨Rd.join_ok h1 k1, ?_, fun n => ?_⟩, rfl⟩
      · exists xo
      · show Nat.lcm s.m s2.m = x.m
        rw [k2, Nat.lcm_one_right, h2]
      · rw [Rd.join_mem h1 k1, h4, k4, ← k3]; rfl
    obtain ⟨o, e1, q1, r, q2, rfl⟩ := go
    exact ⟨r, q2, e1, q1⟩
  obtain ⟨r, ⟨q1, q2, q3⟩, e1, q4⟩ := main
  refine ⟨r, q1, q2, q3, ?_⟩
  exact x_P (n := 1) rfl (show stE ["_law_model", "_law_rests", "_law_others", "_law_rest", "_law_number"] [x.d] = [.val x.d, .no, .no, .no, .no] from rfl) q4 rfl
end
end LX
namespace LX
open PySem PySem.Spec PyProof.Rows PySem.Calls L2 PD
local macro_rules
  | `(tactic| exists $fs,*) => do
    let mut t ← `(tactic| fail)
    for f in fs.getElems.reverse do
      t ← `(tactic| first | exact $f | $t:tactic)
    `(tactic| repeat' (first | (with_reducible first | exact x_ret | apply x_bind | apply x_bok | exact x_berr | apply x_lift | apply x_liftR | apply x_seq | apply x_snx | exact x_srt | exact x_sex | exact x_srf | exact x_sbk | exact x_sct | exact x_nx | apply x_of | apply x_ook | exact x_oerr | apply x_asg | apply x_if | apply x_callM | apply x_ixN | apply x_par | apply x_par3 | apply x_own | apply x_parO | apply x_mut | apply x_fld | apply x_for | apply x_lc | exact x_jsnil | apply x_jscons | exact x_isFn) | ((with_reducible first | apply x_get | apply x_ixV | apply x_fldV | apply x_unpO | apply x_peekV); exact rfl) | ((with_reducible first | apply x_getO | apply x_ixO | apply x_fldO | apply x_unpV | apply x_peekO); exact rfl) | ((with_reducible first | apply x_tup | apply x_lst | apply x_ln); exact Nat.le_of_ble_eq_true rfl) | ((with_reducible first | apply x_len | apply x_ins); exact rfl) | ((with_reducible first | apply x_ifT | apply x_mifT); with_reducible exact rfl) | ((with_reducible first | apply x_ifF | apply x_mifF); with_reducible exact rfl) | ((with_reducible first | apply x_ifT | apply x_mifT); with_reducible first | exact rfl | exact bnot_t | exact bnot_f | assumption | $t:tactic | exact decide_eq_true (by first | assumption | omega)) | ((with_reducible first | apply x_ifF | apply x_mifF); with_reducible first | exact rfl | exact bnot_t | exact bnot_f | assumption | $t:tactic | exact decide_eq_false (by first | assumption | omega)) | (with_reducible $t:tactic) | ((simp only [List.set_cons_zero, List.set_cons_succ, List.cons_append, List.nil_append, wipeE, restE, OV_d_lst, List.getD_cons_succ, List.getD_cons_zero]); exact rfl) | exact rfl | ((with_reducible show (_ = _)); assumption)))
structure Rd.wk (r : Rd) : Prop where
  m0 : 0 < r.m
  hl : r.h.length = r.m
  so : r.o.Pairwise (· < ·)
theorem Rd.ok.wk {r : Rd} (h : r.ok) : r.wk := ⟨h.m0, h.hl, by
  obtain ⟨p, e⟩ := h.os
  rw [e]; exact List.pairwise_lt_range.sublist List.filter_sublist⟩
/-- the least member from f on, if there is one -/
def NxOk (r : Rd) (f : Nat) : Option Nat → Prop
  | some n => f ≤ n ∧ r.mem n = true ∧ ∀ k, f ≤ k → k < n → r.mem k = false
  | none => ∀ k, f ≤ k → r.mem k = false
def oD : Option Nat → D
  | none => .non
  | some n => nD n
theorem NxOk.eq {r : Rd} {f : Nat} {x y : Option Nat} (hx : NxOk r f x) (hy : NxOk r f y) : x = y := by
  cases x with
  | none =>
    cases y with
    | none => rfl
    | some m => have := hx m hy.1; rw [hy.2.1] at this; cases this
  | some n =>
    cases y with
    | none => have := hy n hx.1; rw [hx.2.1] at this; cases this
    | some m =>
      rcases Nat.lt_trichotomy n m with z | z | z
      · have := hy.2.2 n hx.1 z; rw [hx.2.1] at this; cases this
      · rw [z]
      · have := hx.2.2 m hy.1 z; rw [hy.2.1] at this; cases this
theorem least_of (p : Nat → Bool) : ∀ n, p n = true → ∃ k, k ≤ n ∧ p k = true ∧ ∀ j, j < k → p j = false := by
  intro n
  induction n using Nat.strongRecOn with
  | ind n ih =>
    intro hn
    by_cases z : ∃ j, j < n ∧ p j = true
    · obtain ⟨j, h1, h2⟩ := z
      obtain ⟨k, q1, q2, q3⟩ := ih j h1 h2
      exact ⟨k, by omega, q2, q3⟩
    · refine ⟨n, Nat.le_refl _, hn, fun j hj => ?_⟩
      cases q : p j with
      | false => rfl
      | true => exact absurd ⟨j, hj, q⟩ z
theorem above : ∀ l : List Nat, ∃ B, ∀ n ∈ l, n < B
  | [] => ⟨0, fun n hn => nomatch hn⟩
  | a :: l => by
    obtain ⟨B, h⟩ := above l
    refine ⟨B + a + 1, fun n hn => ?_⟩
    rcases List.mem_cons.mp hn with e | z
    · omega
    · have := h n z; omega
theorem cgeF {i j : Int} (h : i < j) : (cmpI fun i j => decide (j ≤ i)) (.int i) (.int j) = some (.bl false) := by show some (D.bl (decide (j ≤ i))) = _; rw [decide_eq_false (Int.not_le.mpr h)]
section
variable {c : Cs} {r : Rd}
theorem Rd.wk.member {n : Nat} (h : r.wk) : F_is_member c [r.d c, nD n] = some (.ok (.bl (r.mem n))) := by
  have e := hits_at_ev0 (c := c) (o := r.o) (n := n) h.m0 h.hl
  unfold Rd.d
  apply x_P (n := 2) rfl
  exact (show stE ["rounds", "number"] [rdD c r.m r.h r.o, nD n] = [.val (rdD c r.m r.h r.o), .val (nD n)] from rfl)
  unfold m_is_member
  exists e, fl_o, inA_nt, neD_b
theorem find_ev {R : D} {f : Nat} {B : Sm} (hB : ∀ n : Nat, B [.val R, .val (nD f), .val (nD n), .no] = if f ≤ n then some (.rt (nD n), [.val R, .val (nD f), .val (nD n), .no]) else some (.nx, [.val R, .val (nD f), .val (nD n), .no])) :
    ∀ (l : List Nat) (s : SD), ∃ s', forL (setE 2) B (l.map nD) [.val R, .val (nD f), s, .no] = match l.find? (fun n => decide (f ≤ n)) with
      | some n => some (.rt (nD n), [.val R, .val (nD f), .val (nD n), .no])
      | none => some (.nx, [.val R, .val (nD f), s', .no])
  | [], s => ⟨s, rfl⟩
  | n :: l, s => by
    by_cases z : f ≤ n
    · refine ⟨s, ?_⟩
      rw [List.find?_cons_of_pos (by simpa using z)]
      have hb := hB n
      rw [if_pos z] at hb
      exact x_fcons rfl rfl hb rfl
    · obtain ⟨s', h⟩ := find_ev hB l (.val (nD n))
      refine ⟨s', ?_⟩
      rw [List.find?_cons_of_neg (by simpa using z)]
      have hb := hB n
      rw [if_neg z] at hb
      exact x_fcons rfl rfl hb h
theorem nohit (h : r.wk) (hn : r.h.any id = false) (n : Nat) : r.hit n = false := by
  unfold Rd.hit
  have hk : n % r.m < r.h.length := by rw [h.hl]; exact Nat.mod_lt _ h.m0
  rw [List.getD_eq_getElem?_getD, List.getElem?_eq_getElem hk]
  show r.h[n % r.m] = false
  cases q : r.h[n % r.m] with
  | false => rfl
  | true => rw [List.any_eq_false] at hn; exact absurd q (hn _ (List.getElem_mem hk))
theorem next_ev (h : r.wk) (f : Nat) : ∃ x, NxOk r f x ∧ F_next_member c [r.d c, nD f] = some (.ok (oD x)) := by
  have fh : fldD c.Rounds "hits" (r.d c) = some (.tup (r.h.map .bl)) := fl_h
  have fo : fldD c.Rounds "others" (r.d c) = some (.tup (r.o.map nD)) := fl_o
  have an : anyA [.tup (r.h.map .bl)] = some (.bl (r.h.any id)) := bls_any
  cases q : r.h.any id with
  | false =>
    rw [q] at an
    have mm : ∀ n, r.mem n = decide (n ∈ r.o) := fun n => by
      unfold Rd.mem; rw [nohit h q]; cases decide (n ∈ r.o) <;> rfl
    have hx : NxOk r f (r.o.find? fun n => decide (f ≤ n)) := by
      cases q2 : r.o.find? (fun n => decide (f ≤ n)) with
      | none =>
        intro k hk
        rw [mm]
        refine decide_eq_false fun z => ?_
        have := List.find?_eq_none.mp q2 k z
        exact this (by simpa using hk)
      | some n =>
        obtain ⟨h1, as, bs, h2, h3⟩ := List.find?_eq_some_iff_append.mp q2
        refine ⟨by simpa using h1, by rw [mm, h2]; simp, fun k hk hn => ?_⟩
        rw [mm]
        refine decide_eq_false fun z => ?_
        have so := h.so
        rw [h2] at z so
        rcases List.mem_append.mp z with z | z
        · have := h3 k z
          simp at this; omega
        · rcases List.mem_cons.mp z with z | z
          · omega
          · have := (List.pairwise_cons.mp (List.pairwise_append.mp so).2.1).1 k z
            omega
    refine ⟨_, hx, ?_⟩
    have iter : iterD (.tup (r.o.map nD)) = some (r.o.map nD) := iterD_tup
    let B : Sm := ifS (((getM 2).bind fun x8 => (getM 1).bind fun x9 => Mo.lift ((cmpI fun i j => decide (j ≤ i)) x8 x9)).bind fun x7 => Mo.lift (blD x7)) (ofM (getM 2) fun x10 e => some (.rt x10, e)) nxS
    have hB : ∀ n : Nat, B [.val (r.d c), .val (nD f), .val (nD n), .no] = if f ≤ n then some (.rt (nD n), [.val (r.d c), .val (nD f), .val (nD n), .no]) else some (.nx, [.val (r.d c), .val (nD f), .val (nD n), .no]) := fun n => by
      by_cases z : f ≤ n
      · rw [if_pos z]
        have e : (cmpI fun i j => decide (j ≤ i)) (nD n) (nD f) = some (.bl true) := cge_t (by omega)
        show ifS _ _ _ _ = _
        exists e
      · rw [if_neg z]
        have e : (cmpI fun i j => decide (j ≤ i)) (nD n) (nD f) = some (.bl false) := cgeF (by omega)
        show ifS _ _ _ _ = _
        exists e
    obtain ⟨s', hf⟩ := find_ev (R := r.d c) (f := f) hB r.o .no
    cases q2 : r.o.find? (fun n => decide (f ≤ n)) with
    | none =>
      rw [q2] at hf
      dsimp only at hf
      apply x_P (n := 2) rfl
      exact (show stE ["rounds", "first", "number", "place"] [r.d c, nD f] = [.val (r.d c), .val (nD f), .no, .no] from rfl)
      unfold m_next_member
      exists fh, an, fo, iter, hf
    | some n =>
      rw [q2] at hf
      dsimp only at hf
      apply x_P (n := 2) rfl
      exact (show stE ["rounds", "first", "number", "place"] [r.d c, nD f] = [.val (r.d c), .val (nD f), .no, .no] from rfl)
      unfold m_next_member
      exists fh, an, fo, iter, hf
  | true =>
    rw [q] at an
    -- there is one
    obtain ⟨b, hb1, hb2⟩ := List.any_eq_true.mp q
    obtain ⟨t, ht, hb⟩ := List.getElem_of_mem hb1
    obtain ⟨B, hB⟩ := above r.o
    have htm : t < r.m := by rw [← h.hl]; exact ht
    have m1 := h.m0
    have big : f + B ≤ r.m * (f + B) := Nat.le_mul_of_pos_left _ h.m0
    have hN : (decide (f ≤ t + r.m * (f + B)) && r.mem (t + r.m * (f + B))) = true := by
      rw [decide_eq_true (by omega), Bool.true_and]
      unfold Rd.mem Rd.hit
      rw [Nat.add_mul_mod_self_left, Nat.mod_eq_of_lt htm, List.getD_eq_getElem?_getD, List.getElem?_eq_getElem ht, decide_eq_false (fun z => by have := hB _ z; omega)]
      show (r.h[t] != false) = true
      rw [hb]; simpa using hb2
    obtain ⟨n, _, n2, n3⟩ := least_of (fun n => decide (f ≤ n) && r.mem n) _ hN
    have n2 := Bool.and_eq_true_iff.mp n2
    have n1 : f ≤ n := of_decide_eq_true n2.1
    have n4 : ∀ k, f ≤ k → k < n → r.mem k = false := fun k hk hn => by
      have := n3 k hn
      rwa [decide_eq_true hk, Bool.true_and] at this
    refine ⟨some n, ⟨n1, n2.2, n4⟩, ?_⟩
    apply x_PE (n := 2) rfl
    exact (show stE ["rounds", "first", "number", "place"] [r.d c, nD f] = [.val (r.d c), .val (nD f), .no, .no] from rfl)
    unfold m_next_member
    apply en_seq (e1 := [.val (r.d c), .val (nD f), .no, .no])
    · exists fh, an
    apply en_seq (e1 := [.val (r.d c), .val (nD f), .no, .val (nD f)])
    · exists rfl
    apply en_seqE
    apply en_while (fun p : Nat => ([.val (r.d c), .val (nD f), .no, .val (nD p)] : En)) (fun p => f ≤ p ∧ p ≤ n) (fun p => n - p) f rfl ⟨Nat.le_refl _, n1⟩
    · intro p hp
      have me := h.member (c := c) (n := p)
      refine ⟨!r.mem p, ?_, fun hk => ?_, fun _ => trivial⟩
      · exists me
      · have hk : r.mem p = false := by simpa using hk
        have : p ≠ n := fun e => by rw [e, n2.2] at hk; cases hk
        refine ⟨p + 1, ?_, ⟨by omega, by omega⟩, by omega⟩
        have ad : addA (nD p) (.int 1) = some (nD (p + 1)) := addA_int
        exists ad
    · intro p hp hc
      have me := h.member (c := c) (n := p)
      have hp2 : r.mem p = true := by
        have e : ((((((getM 0).bind fun x14 => ((getM 3).bind fun x12 => (Mo.ret []).bind fun x13 => Mo.ret (x12 :: x13)).bind fun x15 => Mo.ret (x14 :: x15)).bind fun x16 => Mo.liftR (F_is_member c x16)).bind fun x17 => Mo.lift (blD x17)).bind fun x18 => Mo.ret (!x18)) : Mo Bool) [.val (r.d c), .val (nD f), .no, .val (nD p)] = some (.ok (!r.mem p), [.val (r.d c), .val (nD f), .no, .val (nD p)]) := by
          exists me
        rw [e] at hc
        cases z : r.mem p with
        | true => rfl
        | false => rw [z] at hc; cases hc
      have e : p = n := by
        rcases Nat.lt_or_ge p n with z | z
        · have := n4 p hp.1 z; rw [hp2] at this; cases this
        · omega
      subst e
      exact ⟨rfl, .rt (nD p), [.val (r.d c), .val (nD f), .no, .val (nD p)], by (exists rfl), rfl⟩
end
end LX
namespace LX
open PySem PySem.Spec PyProof.Rows PySem.Calls L2 PD
local macro_rules
  | `(tactic| exists $fs,*) => do
    let mut t ← `(tactic| fail)
    for f in fs.getElems.reverse do
      t ← `(tactic| first | exact $f | $t:tactic)
    `(tactic| repeat' (first | (with_reducible first | exact x_ret | apply x_bind | apply x_bok | exact x_berr | apply x_lift | apply x_liftR | apply x_seq | apply x_snx | exact x_srt | exact x_sex | exact x_srf | exact x_sbk | exact x_sct | exact x_nx | apply x_of | apply x_ook | exact x_oerr | apply x_asg | apply x_if | apply x_callM | apply x_ixN | apply x_par | apply x_par3 | apply x_own | apply x_parO | apply x_mut | apply x_fld | apply x_for | apply x_lc | exact x_jsnil | apply x_jscons | exact x_isFn) | ((with_reducible first | apply x_get | apply x_ixV | apply x_fldV | apply x_unpO | apply x_peekV); exact rfl) | ((with_reducible first | apply x_getO | apply x_ixO | apply x_fldO | apply x_unpV | apply x_peekO); exact rfl) | ((with_reducible first | apply x_tup | apply x_lst | apply x_ln); exact Nat.le_of_ble_eq_true rfl) | ((with_reducible first | apply x_len | apply x_ins); exact rfl) | ((with_reducible first | apply x_ifT | apply x_mifT); with_reducible exact rfl) | ((with_reducible first | apply x_ifF | apply x_mifF); with_reducible exact rfl) | ((with_reducible first | apply x_ifT | apply x_mifT); with_reducible first | exact rfl | exact bnot_t | exact bnot_f | assumption | $t:tactic | exact decide_eq_true (by first | assumption | omega)) | ((with_reducible first | apply x_ifF | apply x_mifF); with_reducible first | exact rfl | exact bnot_t | exact bnot_f | assumption | $t:tactic | exact decide_eq_false (by first | assumption | omega)) | (with_reducible $t:tactic) | ((simp only [List.set_cons_zero, List.set_cons_succ, List.cons_append, List.nil_append, wipeE, restE, OV_d_lst, List.getD_cons_succ, List.getD_cons_zero]); exact rfl) | exact rfl | ((with_reducible show (_ = _)); assumption)))
theorem x_seqG {m n : GSm} {e e1 : En} {l l1 : List D} {r : Option (Out × En × List D)} (h : m e l = some (.nx, e1, l1)) (h2 : n e1 l1 = r) : seqG m n e l = r := by
  unfold seqG; rw [h]; exact h2
theorem x_seqGr {m n : GSm} {e e1 : En} {d : D} {l l1 : List D} (h : m e l = some (.rt d, e1, l1)) : seqG m n e l = some (.rt d, e1, l1) := by
  unfold seqG; rw [h]
theorem x_plG {m : Sm} {e e1 : En} {o : Out} {l : List D} (h : m e = some (o, e1)) : plG m e l = some (o, e1, l) := by
  unfold plG; rw [h]; rfl
theorem x_yldG {me : Mo D} {e e1 : En} {d : D} {l : List D} (h : me e = some (.ok d, e1)) (hl : l.length ≤ 1000) : yldG me e l = some (.nx, e1, l ++ [d]) := by
  unfold yldG; rw [if_pos (Nat.lt_of_le_of_lt hl (by decide)), h]
theorem x_forG {mi : Mo (List D)} {f : D → En → Option En} {b : GSm} {ds : List D} {e e1 : En} {l : List D} {r : Option (Out × En × List D)} (h : mi e = some (.ok ds, e1)) (h2 : forGL f b ds e1 l = r) : forG mi f b e l = r := by
  unfold forG; rw [h]; exact h2
/-- the first members from f on, k at most -/
def MbOk (r : Rd) : Nat → Nat → List Nat → Prop
  | _, 0, l => l = []
  | f, k + 1, l => (NxOk r f none ∧ l = []) ∨ ∃ n l', NxOk r f (some n) ∧ MbOk r (n + 1) k l' ∧ l = n :: l'
theorem MbOk.eq {r : Rd} : ∀ {k f : Nat} {x y : List Nat}, MbOk r f k x → MbOk r f k y → x = y
  | 0, f, x, y, hx, hy => by
    have hx : x = [] := hx
    have hy : y = [] := hy
    rw [hx, hy]
  | k + 1, f, x, y, hx, hy => by
    rcases hx with ⟨h1, h2⟩ | ⟨n, l, h1, h2, h3⟩
    · rcases hy with ⟨g1, g2⟩ | ⟨n', l', g1, g2, g3⟩
      · rw [h2, g2]
      · cases h1.eq g1
    · rcases hy with ⟨g1, g2⟩ | ⟨n', l', g1, g2, g3⟩
      · cases h1.eq g1
      · cases h1.eq g1
        rw [h3, g3, h2.eq g2]
section
variable {c : Cs} {r : Rd}
theorem check_number_ev {n k : Int} (h0 : 0 ≤ n) (h1 : n ≤ k) : F_check_number c [.int n, .int k] = some (.ok .non) := by
  have c1 := cleb_t (i := 0) (j := n) h0
  have c2 := cle_t (i := n) (j := k) h1
  apply x_P (n := 2) rfl
  exact (show stE ["value", "most"] [.int n, .int k] = [.val (.int n), .val (.int k)] from rfl)
  unfold m_check_number
  exists is_integer_ev, c1, c2
theorem after_ev (h : r.wk) {f : Nat} (hf : f ≤ 1000000000) : ∃ x, NxOk r f x ∧ F_Rounds_after c [r.d c, nD f] = some (.ok (oD x)) := by
  obtain ⟨x, hx, e⟩ := next_ev (c := c) h f
  have ck : F_check_number c [nD f, .int 1000000000] = some (.ok .non) := check_number_ev (by omega) (by omega)
  refine ⟨x, hx, ?_⟩
  apply x_P (n := 2) rfl
  exact (show stE ["self", "first"] [r.d c, nD f] = [.val (r.d c), .val (nD f)] from rfl)
  unfold m_Rounds_after
  exists ck, e
def mbE (R : D) (f k : Nat) (place : Nat) (s4 s5 : SD) : En := [.val R, .val (nD f), .val (nD k), .val (nD place), s4, s5]
noncomputable def mbB (c : Cs) : GSm := (seqG (plG (asgS (((getM 0).bind fun x16 => ((getM 3).bind fun x14 => (Mo.ret []).bind fun x15 => Mo.ret (x14 :: x15)).bind fun x17 => Mo.ret (x16 :: x17)).bind fun x18 => Mo.liftR (F_next_member c x18)) (setE 5))) (seqG (plG (ifS (((getM 5).bind fun x20 => (Mo.ret .non).bind fun x21 => Mo.lift (isA x20 x21)).bind fun x19 => Mo.lift (blD x19)) (fun e => some (.rt .non, e)) nxS)) (seqG (yldG (getM 5)) (plG (asgS ((getM 5).bind fun x22 => (Mo.ret (.int 1)).bind fun x23 => Mo.lift (addA x22 x23)) (setE 3))))))
theorem mb_loop (h : r.wk) {f k : Nat} : ∀ (xs : List Nat) (place : Nat) (out : List D) (s4 s5 : SD), out.length + xs.length ≤ 1000 →
    ∃ l, MbOk r place xs.length l ∧ ∃ o e', forGL (setE 4) (mbB c) (xs.map nD) (mbE (r.d c) f k place s4 s5) out = some (o, e', out ++ l.map nD) ∧ (o = .nx ∨ o = .rt .non)
  | [], place, out, s4, s5, _ => ⟨[], rfl, .nx, mbE (r.d c) f k place s4 s5, by rw [List.map_nil, List.append_nil]; rfl, .inl rfl⟩
  | t :: xs, place, out, s4, s5, hl => by
    rw [List.length_cons] at hl
    obtain ⟨x, hx, e⟩ := next_ev (c := c) h place
    have q1 : setE 4 (nD t) (mbE (r.d c) f k place s4 s5) = some (mbE (r.d c) f k place (.val (nD t)) s5) := rfl
    have s1 : plG (asgS (((getM 0).bind fun x16 => ((getM 3).bind fun x14 => (Mo.ret []).bind fun x15 => Mo.ret (x14 :: x15)).bind fun x17 => Mo.ret (x16 :: x17)).bind fun x18 => Mo.liftR (F_next_member c x18)) (setE 5)) (mbE (r.d c) f k place (.val (nD t)) s5) out = some (.nx, mbE (r.d c) f k place (.val (nD t)) (.val (oD x)), out) := by
      apply x_plG
      unfold mbE
      exists e
    cases x with
    | none =>
      refine ⟨[], .inl ⟨hx, rfl⟩, .rt .non, mbE (r.d c) f k place (.val (nD t)) (.val .non), ?_, .inr rfl⟩
      have hb : mbB c (mbE (r.d c) f k place (.val (nD t)) s5) out = some (.rt .non, mbE (r.d c) f k place (.val (nD t)) (.val .non), out) := by
        unfold mbB
        refine x_seqG s1 (x_seqGr (x_plG ?_))
        have e2 : isA (oD none) .non = some (.bl true) := rfl
        unfold mbE
        exists e2
      rw [List.map_cons]
      unfold forGL
      rw [q1]
      dsimp only
      rw [hb]
      dsimp only
      rw [List.map_nil, List.append_nil]
    | some n =>
      obtain ⟨l, hm, o, e', hr, ho⟩ := mb_loop h xs (n + 1) (out ++ [nD n]) (.val (nD t)) (.val (nD n)) (by rw [List.length_append, List.length_singleton]; omega)
      refine ⟨n :: l, .inr ⟨n, l, hx, hm, rfl⟩, o, e', ?_, ho⟩
      have hb : mbB c (mbE (r.d c) f k place (.val (nD t)) s5) out = some (.nx, mbE (r.d c) f k (n + 1) (.val (nD t)) (.val (nD n)), out ++ [nD n]) := by
        unfold mbB
        refine x_seqG s1 (x_seqG (x_plG (o := .nx) (e1 := mbE (r.d c) f k place (.val (nD t)) (.val (nD n))) ?_) (x_seqG (x_yldG (d := nD n) (e1 := mbE (r.d c) f k place (.val (nD t)) (.val (nD n))) ?_ (by omega)) (x_plG ?_)))
        · have e2 : isA (oD (some n)) .non = some (.bl false) := rfl
          unfold mbE
          exists e2
        · rfl
        · have ad : addA (nD n) (.int 1) = some (nD (n + 1)) := addA_int
          unfold mbE
          exists ad
      rw [List.map_cons]
      unfold forGL
      rw [q1]
      dsimp only
      rw [hb]
      dsimp only
      rw [hr, List.map_cons, List.append_assoc]
      rfl
theorem members_ev (h : r.wk) {f k : Nat} (hf : f ≤ 1000000000) (hk : k < 1000) : ∃ l, MbOk r f k l ∧ F_Rounds_members c [r.d c, nD f, nD k] = some (l.map nD) := by
  have ck : F_check_number c [nD f, .int 1000000000] = some (.ok .non) := check_number_ev (by omega) (by omega)
  have ck2 : F_check_number c [nD k, .int 1000] = some (.ok .non) := check_number_ev (by omega) (by omega)
  have rg : rng1D [nD k] = some ((List.range k).map nD) := rng1_nat hk
  obtain ⟨l, hm, o, e', hr, ho⟩ := mb_loop (c := c) h (f := f) (k := k) (List.range k) f [] .no .no (by rw [List.length_range, List.length_nil]; omega)
  rw [List.length_range] at hm
  rw [List.nil_append] at hr
  refine ⟨l, hm, ?_⟩
  have e : m_Rounds_members c [.val (r.d c), .val (nD f), .val (nD k), .no, .no, .no] [] = some (o, e', l.map nD) := by
    unfold m_Rounds_members
    refine x_seqG (x_plG (o := .nx) (e1 := [.val (r.d c), .val (nD f), .val (nD k), .no, .no, .no]) ?_) (x_seqG (x_plG (o := .nx) (e1 := [.val (r.d c), .val (nD f), .val (nD k), .no, .no, .no]) ?_) (x_seqG (x_plG (o := .nx) (e1 := mbE (r.d c) f k f .no .no) ?_) ?_))
    · exists ck
    · exists ck2
    · unfold mbE
      exists rfl
    have hg : forG (((getM 2).bind fun x11 => (Mo.ret []).bind fun x12 => Mo.ret (x11 :: x12)).bind fun x13 => Mo.lift (rng1D x13)) (setE 4) (mbB c) (mbE (r.d c) f k f .no .no) [] = some (o, e', l.map nD) := by
      refine x_forG (e1 := mbE (r.d c) f k f .no .no) (ds := (List.range k).map nD) ?_ hr
      unfold mbE
      exists rg
    rcases ho with rfl | rfl
    · exact x_seqG hg rfl
    · exact x_seqGr hg
  unfold F_Rounds_members runG
  refine (if_pos rfl).trans ?_
  show (m_Rounds_members c [.val (r.d c), .val (nD f), .val (nD k), .no, .no, .no] []).bind outG = _
  rw [e]
  rcases ho with rfl | rfl <;> rfl
end
end LX
namespace LX
open PySem PySem.Spec PyProof.Rows PySem.Calls L2 PD
section
variable {c : Cs} {r : Rd} {x : Md}
theorem NxOk.skip {f : Nat} (h0 : r.mem f = false) : ∀ {z : Option Nat}, NxOk r (f + 1) z → NxOk r f z
  | none, h => fun k hk => by
    rcases Nat.lt_or_ge f k with q | q
    · exact h k q
    · rw [show k = f by omega]; exact h0
  | some n, ⟨h1, h2, h3⟩ => ⟨by omega, h2, fun k hk hn => by
    rcases Nat.lt_or_ge f k with q | q
    · exact h3 k q hn
    · rw [show k = f by omega]; exact h0⟩
theorem MbOk.skip {f : Nat} (h0 : r.mem f = false) : ∀ {k : Nat} {l : List Nat}, MbOk r (f + 1) k l → MbOk r f k l
  | 0, l, h => h
  | k + 1, l, .inl ⟨h1, h2⟩ => .inl ⟨h1.skip h0, h2⟩
  | k + 1, l, .inr ⟨n, l', h1, h2, h3⟩ => .inr ⟨n, l', h1.skip h0, h2, h3⟩
theorem mb_take : ∀ (N f k : Nat), (k ≤ ((List.range' f N).filter r.mem).length ∨ ∀ j, f + N ≤ j → r.mem j = false) → MbOk r f k (((List.range' f N).filter r.mem).take k)
  | _, _, 0, _ => by rw [List.take_zero]; rfl
  | 0, f, k + 1, h => by
    rcases h with h | h
    · have h : k + 1 ≤ 0 := h
      omega
    · exact .inl ⟨fun j hj => h j hj, rfl⟩
  | N + 1, f, k + 1, h => by
    rw [List.range'_succ] at h ⊢
    cases q : r.mem f with
    | true =>
      rw [List.filter_cons_of_pos q] at h ⊢
      rw [List.take_succ_cons]
      refine .inr ⟨f, _, ⟨Nat.le_refl _, q, fun j h1 h2 => by omega⟩, mb_take N (f + 1) k ?_, rfl⟩
      rcases h with h | h
      · rw [List.length_cons] at h; exact .inl (by omega)
      · exact .inr fun j hj => h j (by omega)
    | false =>
      rw [List.filter_cons_of_neg (by rw [q]; exact Bool.false_ne_true)] at h ⊢
      refine MbOk.skip q (mb_take N (f + 1) (k + 1) ?_)
      rcases h with h | h
      · exact .inl h
      · exact .inr fun j hj => h j (by omega)
theorem mb_list : ∀ (l : List Nat) (f k : Nat), l.Pairwise (· < ·) → (∀ n ∈ l, f ≤ n) → (∀ n, f ≤ n → r.mem n = decide (n ∈ l)) → MbOk r f k (l.take k)
  | _, _, 0, _, _, _ => by rw [List.take_zero]; rfl
  | [], f, k + 1, _, _, h => .inl ⟨fun j hj => by rw [h j hj]; rfl, rfl⟩
  | a :: l, f, k + 1, hp, hf, h => by
    obtain ⟨p1, p2⟩ := List.pairwise_cons.mp hp
    rw [List.take_succ_cons]
    refine .inr ⟨a, _, ⟨hf a List.mem_cons_self, by rw [h a (hf a List.mem_cons_self)]; simp, fun j h1 h2 => ?_⟩, mb_list l (a + 1) k p2 (fun n hn => p1 n hn) (fun n hn => ?_), rfl⟩
    · rw [h j h1]
      refine decide_eq_false fun z => ?_
      rcases List.mem_cons.mp z with z | z
      · omega
      · have := p1 j z; omega
    · have := hf a List.mem_cons_self
      rw [h n (by omega)]
      refine decide_eq_decide.mpr ⟨fun z => ?_, List.mem_cons_of_mem _⟩
      rcases List.mem_cons.mp z with z | z
      · omega
      · exact z
structure Same (r : Rd) (x : Md) : Prop where
  rk : r.ok
  xk : x.ok
  m : r.m = x.m
  he : ∀ n, r.mem n = x.has n
theorem Same.hit (s : Same r x) (n : Nat) : r.hit n = decide (n % x.m ∈ x.rs) := by
  have m0 := s.rk.m0
  have big : 300 ≤ r.m * 300 := Nat.le_mul_of_pos_left _ m0
  have e1 := mem_far2 s.rk (n := n) (k := 300) (by omega)
  rw [← e1, s.he]
  unfold Md.has
  rw [decide_eq_false (fun z => by have := s.xk.nk _ z; omega : ¬ (n + r.m * 300) ∈ x.ns), s.m, Nat.add_mul_mod_self_left]
  cases decide (n % x.m ∈ x.rs) <;> rfl
theorem Same.o (s : Same r x) : r.o = x.ns := by
  obtain ⟨p, hp⟩ := s.xk.na
  rw [o_eq s.rk, hp]
  refine List.filter_congr fun n hn => ?_
  rw [in_o, s.hit, s.he]
  unfold Md.has
  have e : decide (n ∈ x.ns) = p n := by
    rw [hp, Bool.eq_iff_iff, decide_eq_true_iff, List.mem_filter]
    exact ⟨fun z => z.2, fun z => ⟨hn, z⟩⟩
  rw [e]
  cases decide (n % x.m ∈ x.rs) <;> cases p n <;> rfl
theorem Same.some_iff (s : Same r x) : r.h.any id = true ↔ x.rs ≠ [] := by
  constructor
  · intro h e
    obtain ⟨b, hb1, hb2⟩ := List.any_eq_true.mp h
    obtain ⟨t, ht, hb⟩ := List.getElem_of_mem hb1
    have q := s.hit t
    have tm : t < r.m := by rw [← s.rk.hl]; exact ht
    unfold Rd.hit at q
    rw [Nat.mod_eq_of_lt tm, List.getD_eq_getElem?_getD, List.getElem?_eq_getElem ht, e] at q
    have q : r.h[t] = false := q
    rw [hb] at q
    rw [q] at hb2
    cases hb2
  · intro h
    obtain ⟨t, ht⟩ := List.exists_mem_of_ne_nil _ h
    have tm := s.xk.rk t ht
    have q := s.hit t
    rw [Nat.mod_eq_of_lt tm, decide_eq_true ht] at q
    unfold Rd.hit at q
    rw [s.m, Nat.mod_eq_of_lt tm, List.getD_eq_getElem?_getD, List.getElem?_eq_getElem (by rw [s.rk.hl, s.m]; exact tm)] at q
    exact List.any_eq_true.mpr ⟨_, List.getElem_mem (by rw [s.rk.hl, s.m]; exact tm), q⟩
theorem sub_len : ∀ (l l2 : List Nat), l.Nodup → (∀ n ∈ l, n ∈ l2) → l.length ≤ l2.length
  | [], _, _, _ => Nat.zero_le _
  | a :: l, l2, h, hs => by
    obtain ⟨h1, h2⟩ := List.nodup_cons.mp h
    have ha := hs a List.mem_cons_self
    have := sub_len l (l2.erase a) h2 fun n hn => (List.mem_erase_of_ne (fun e : n = a => h1 (by rw [← e]; exact hn))).mpr (hs n (List.mem_cons_of_mem _ hn))
    rw [List.length_erase_of_mem ha] at this
    have := List.length_pos_of_mem ha
    rw [List.length_cons]
    omega
/-- all rests of 0 to m-1 without repeats: m of them -/
theorem full_of (m : Nat) (l : List Nat) (hn : l.Nodup) (hl : ∀ n ∈ l, n < m) : l.length ≤ m ∧ (l.length = m → ∀ k, k < m → k ∈ l) := by
  have le : ∀ z : List Nat, z.Nodup → (∀ n ∈ z, n < m) → z.length ≤ m := fun z h1 h2 => by
    have := sub_len z (List.range m) h1 fun n h => List.mem_range.mpr (h2 n h)
    rwa [List.length_range] at this
  refine ⟨le l hn hl, fun e k hk => Classical.byContradiction fun z => ?_⟩
  have := le (k :: l) (List.nodup_cons.mpr ⟨z, hn⟩) fun n h => (List.mem_cons.mp h).elim (fun q => q ▸ hk) (hl n)
  rw [List.length_cons] at this
  omega
theorem Same.at_ (s : Same r x) {t : Nat} (ht : t < x.m) : r.h[t]? = some (decide (t ∈ x.rs)) := by
  obtain ⟨b, hb⟩ : ∃ b, r.h[t]? = some b := ⟨_, List.getElem?_eq_getElem (by rw [s.rk.hl, s.m]; exact ht)⟩
  have q := s.hit t
  rw [Nat.mod_eq_of_lt ht] at q
  unfold Rd.hit at q
  rw [s.m, Nat.mod_eq_of_lt ht, List.getD_eq_getElem?_getD, hb] at q
  exact hb.trans (congrArg some q)
theorem Same.all_iff (s : Same r x) : r.h.all id = true ↔ ¬ x.rs.length < x.m := by
  obtain ⟨f1, f2⟩ := full_of x.m x.rs s.xk.rd s.xk.rk
  constructor
  · intro h hlt
    have h := List.all_eq_true.mp h
    have al : ∀ t, t < x.m → t ∈ x.rs := fun t ht => by
      have q := h _ (List.mem_of_getElem? (s.at_ ht))
      exact of_decide_eq_true q
    have := sub_len (List.range x.m) x.rs List.nodup_range fun n hn => al n (List.mem_range.mp hn)
    rw [List.length_range] at this
    omega
  · intro h
    refine List.all_eq_true.mpr fun b hb => ?_
    obtain ⟨t, hb⟩ := List.getElem?_of_mem hb
    have tm : t < x.m := by rw [← s.m, ← s.rk.hl]; exact (List.getElem?_eq_some_iff.mp hb).1
    rw [s.at_ tm] at hb
    cases hb
    exact decide_eq_true (f2 (by omega) t tm)
/-- in each window of m integers beyond the single ones a member stands -/
theorem Same.win (s : Same r x) (hr : x.rs ≠ []) {a : Nat} (ha : ∀ n ∈ x.ns, n < a) : 1 ≤ ((List.range' a x.m).filter r.mem).length := by
  obtain ⟨t, ht⟩ := List.exists_mem_of_ne_nil _ hr
  have tm := s.xk.rk t ht
  have m0 := s.xk.m0
  have am := Nat.mod_lt a m0
  have dv := Nat.div_add_mod a x.m
  refine List.length_pos_of_mem (a := a + (t + x.m - a % x.m) % x.m) (List.mem_filter.mpr ⟨List.mem_range'_1.mpr ⟨by omega, by have := Nat.mod_lt (t + x.m - a % x.m) m0; omega⟩, ?_⟩)
  rw [s.he]
  unfold Md.has
  rw [decide_eq_false (fun z => by have := ha _ z; omega : ¬ (a + (t + x.m - a % x.m) % x.m) ∈ x.ns)]
  have e : (a + (t + x.m - a % x.m) % x.m) % x.m = t := by
    rw [Nat.add_mod, Nat.mod_mod, ← Nat.add_mod]
    rw [show a + (t + x.m - a % x.m) = t + x.m * (a / x.m + 1) by rw [Nat.mul_add, Nat.mul_one]; omega]
    rw [Nat.add_mul_mod_self_left, Nat.mod_eq_of_lt tm]
  rw [e, decide_eq_true ht]; rfl
theorem Same.wins (s : Same r x) (hr : x.rs ≠ []) : ∀ (k a : Nat), (∀ n ∈ x.ns, n < a) → k ≤ ((List.range' a (x.m * k)).filter r.mem).length
  | 0, a, _ => Nat.zero_le _
  | k + 1, a, ha => by
    have h1 := s.win hr ha
    have h2 := Same.wins s hr k (a + x.m) (fun n hn => by have := ha n hn; omega)
    have e : List.range' a (x.m * (k + 1)) = List.range' a x.m ++ List.range' (a + x.m) (x.m * k) := by
      rw [show x.m * (k + 1) = x.m + x.m * k by rw [Nat.mul_add, Nat.mul_one, Nat.add_comm], List.range'_append_1]
    rw [e, List.filter_append, List.length_append]
    omega
end
end LX
namespace LX
open PySem PySem.Spec PyProof.Rows PySem.Calls L2 PD
local macro_rules
  | `(tactic| exists $fs,*) => do
    let mut t ← `(tactic| fail)
    for f in fs.getElems.reverse do
      t ← `(tactic| first | exact $f | $t:tactic)
    `(tactic| repeat' (first | (with_reducible first | exact x_ret | apply x_bind | apply x_bok | exact x_berr | apply x_lift | apply x_liftR | apply x_seq | apply x_snx | exact x_srt | exact x_sex | exact x_srf | exact x_sbk | exact x_sct | exact x_nx | apply x_of | apply x_ook | exact x_oerr | apply x_asg | apply x_if | apply x_callM | apply x_ixN | apply x_par | apply x_par3 | apply x_own | apply x_parO | apply x_mut | apply x_fld | apply x_for | apply x_lc | exact x_jsnil | apply x_jscons | exact x_isFn) | ((with_reducible first | apply x_get | apply x_ixV | apply x_fldV | apply x_unpO | apply x_peekV); exact rfl) | ((with_reducible first | apply x_getO | apply x_ixO | apply x_fldO | apply x_unpV | apply x_peekO); exact rfl) | ((with_reducible first | apply x_tup | apply x_lst | apply x_ln); exact Nat.le_of_ble_eq_true rfl) | ((with_reducible first | apply x_len | apply x_ins); exact rfl) | ((with_reducible first | apply x_ifT | apply x_mifT); with_reducible exact rfl) | ((with_reducible first | apply x_ifF | apply x_mifF); with_reducible exact rfl) | ((with_reducible first | apply x_ifT | apply x_mifT); with_reducible first | exact rfl | exact bnot_t | exact bnot_f | assumption | $t:tactic | exact decide_eq_true (by first | assumption | omega)) | ((with_reducible first | apply x_ifF | apply x_mifF); with_reducible first | exact rfl | exact bnot_t | exact bnot_f | assumption | $t:tactic | exact decide_eq_false (by first | assumption | omega)) | (with_reducible $t:tactic) | ((simp only [List.set_cons_zero, List.set_cons_succ, List.cons_append, List.nil_append, wipeE, restE, OV_d_lst, List.getD_cons_succ, List.getD_cons_zero]); exact rfl) | exact rfl | ((with_reducible show (_ = _)); assumption)))
theorem ix_lastL {z : List Nat} {n : Nat} : ixD (.lst ((z ++ [n]).map nD)) (.int (-1)) = some (nD n) := by
  show atI ((z ++ [n]).map nD) (-1) = _
  unfold atI ixN
  rw [if_neg (by decide), if_pos (by rw [List.length_map, List.length_append, List.length_singleton]; omega)]
  show ((z ++ [n]).map nD)[_]? = _
  rw [show ((-1 : Int) + (((z ++ [n]).map nD).length : Int)).toNat = z.length by rw [List.length_map, List.length_append, List.length_singleton]; omega, List.map_append, List.getElem?_append_right (by rw [List.length_map]; exact Nat.le_refl _), List.length_map, Nat.sub_self]
  rfl
theorem ix_lastT {z : List Nat} {n : Nat} : ixD (.tup ((z ++ [n]).map nD)) (.int (-1)) = some (nD n) := ix_lastL
def wf (x : Md) : Option Nat := if x.rs.length < x.m then none else some (match x.ns.getLast? with | some n => n + 1 | none => 0)
section
variable {c : Cs} {r : Rd} {x : Md}
theorem last_cases (l : List Nat) : l = [] ∨ ∃ z n, l = z ++ [n] := by
  rcases List.eq_nil_or_concat l with h | ⟨z, n, h⟩
  · exact .inl h
  · exact .inr ⟨z, n, by rw [h, List.concat_eq_append]⟩
theorem bls_allT {l : List Bool} : allA [.tup (l.map .bl)] = some (.bl (l.all id)) := by
  have := blsD_map l
  show (none : Option D).or ((blsD (l.map D.bl)).map _) = _
  rw [this]; rfl
theorem cgt0 {k : Nat} : (cmpI fun i j => decide (j < i)) (.int (k : Int)) (.int 0) = some (.bl (decide (0 < k))) := by
  show some (D.bl (decide ((0 : Int) < (k : Int)))) = _
  rw [decide_eq_decide.mpr (show (0 : Int) < (k : Int) ↔ 0 < k by omega)]
theorem whole_from_ev (s : Same r x) : F_Rounds_whole_from c [r.d c] = some (.ok (oD (wf x))) := by
  have fh : fldD c.Rounds "hits" (r.d c) = some (.tup (r.h.map .bl)) := fl_h
  have fo : fldD c.Rounds "others" (r.d c) = some (.tup (x.ns.map nD)) := by rw [← s.o]; exact fl_o
  have al : allA [.tup (r.h.map .bl)] = some (.bl (r.h.all id)) := bls_allT
  have ln : lenD [.tup (x.ns.map nD)] = some (.int (x.ns.length : Int)) := len_mapT
  have ng : negD (.int 1) = some (.int (-1)) := rfl
  have cg := cgt0 (k := x.ns.length)
  unfold wf
  cases q : r.h.all id with
  | false =>
    rw [q] at al
    have hlt : x.rs.length < x.m := Classical.byContradiction fun z => by have := s.all_iff.mpr z; rw [q] at this; cases this
    rw [if_pos hlt]
    apply x_P (n := 1) rfl
    exact (show stE ["self"] [r.d c] = [.val (r.d c)] from rfl)
    unfold m_Rounds_whole_from
    exists fh, al
  | true =>
    rw [q] at al
    rw [if_neg (s.all_iff.mp q)]
    rcases last_cases x.ns with e | ⟨z, n, e⟩
    · rw [e] at fo ln cg ⊢
      have cg : (cmpI fun i j => decide (j < i)) (.int (([] : List Nat).length : Int)) (.int 0) = some (.bl false) := cg
      apply x_P (n := 1) rfl
      exact (show stE ["self"] [r.d c] = [.val (r.d c)] from rfl)
      unfold m_Rounds_whole_from
      exists fh, al, fo, ln, cg
    · rw [e] at fo ln cg ⊢
      have cg : (cmpI fun i j => decide (j < i)) (.int ((z ++ [n]).length : Int)) (.int 0) = some (.bl true) := by rw [cg, decide_eq_true (by simp)]
      have il := ix_lastT (z := z) (n := n)
      have ad : addA (nD n) (.int 1) = some (nD (n + 1)) := addA_int
      rw [show (z ++ [n]).getLast? = some n by simp]
      apply x_P (n := 1) rfl
      exact (show stE ["self"] [r.d c] = [.val (r.d c)] from rfl)
      unfold m_Rounds_whole_from
      exists fh, al, fo, ln, cg, ng, il, ad
theorem plL_nat {n : Nat} {a : List Nat} : plD (n + 1) (.lst (a.map nD)) = true := plT_nat (n := n) (a := a)
theorem neD_ntL {a b : List Nat} : neD (.lst (a.map nD)) (.lst (b.map nD)) = some (.bl (!decide (a = b))) := by rw [neD_pl plL_nat plL_nat, eqS_lst, eqSL_nat]
theorem law_whole_ev (h : x.ok) : F__law_whole c [x.d] = some (.ok (oD (wf x))) := by
  have lr : lenD [.lst (x.rs.map nD)] = some (.int (x.rs.length : Int)) := by rw [len_lst, List.length_map]
  have ng : negD (.int 1) = some (.int (-1)) := rfl
  have lt : ltA (.int (x.rs.length : Int)) (.int (x.m : Int)) = some (.bl (decide (x.rs.length < x.m))) := by
    show some (D.bl (decide ((x.rs.length : Int) < (x.m : Int)))) = _
    rw [decide_eq_decide.mpr (show (x.rs.length : Int) < (x.m : Int) ↔ x.rs.length < x.m by omega)]
  unfold wf
  by_cases hlt : x.rs.length < x.m
  · rw [decide_eq_true hlt] at lt
    rw [if_pos hlt]
    apply x_P (n := 1) rfl
    exact (show stE ["_law_model"] [x.d] = [.val (x.d)] from rfl)
    unfold m__law_whole
    exists md_0, md_1, lr, lt
  · rw [decide_eq_false hlt] at lt
    rw [if_neg hlt]
    have i2 : ixD x.d (.int 2) = some (.lst (x.ns.map nD)) := md_2
    rcases last_cases x.ns with e | ⟨z, n, e⟩
    · rw [e] at i2 ⊢
      have ne : neD (.lst (([] : List Nat).map nD)) (.lst []) = some (.bl false) := rfl
      apply x_P (n := 1) rfl
      exact (show stE ["_law_model"] [x.d] = [.val (x.d)] from rfl)
      unfold m__law_whole
      exists md_0, md_1, lr, lt, i2, ne
    · rw [e] at i2 ⊢
      have ne : neD (.lst ((z ++ [n]).map nD)) (.lst []) = some (.bl true) := by
        have := neD_ntL (a := z ++ [n]) (b := [])
        rw [List.map_nil] at this
        rw [this, decide_eq_false (by simp)]; rfl
      have il := ix_lastL (z := z) (n := n)
      have ad : addA (nD n) (.int 1) = some (nD (n + 1)) := addA_int
      rw [show (z ++ [n]).getLast? = some n by simp]
      apply x_P (n := 1) rfl
      exact (show stE ["_law_model"] [x.d] = [.val (x.d)] from rfl)
      unfold m__law_whole
      exists md_0, md_1, lr, lt, i2, ne, ng, il, ad
end
end LX
namespace LX
open PySem PySem.Spec PyProof.Rows PySem.Calls L2 PD
local macro_rules
  | `(tactic| exists $fs,*) => do
    let mut t ← `(tactic| fail)
    for f in fs.getElems.reverse do
      t ← `(tactic| first | exact $f | $t:tactic)
    `(tactic| repeat' (first | (with_reducible first | exact x_ret | apply x_bind | apply x_bok | exact x_berr | apply x_lift | apply x_liftR | apply x_seq | apply x_snx | exact x_srt | exact x_sex | exact x_srf | exact x_sbk | exact x_sct | exact x_nx | apply x_of | apply x_ook | exact x_oerr | apply x_asg | apply x_if | apply x_callM | apply x_ixN | apply x_par | apply x_par3 | apply x_own | apply x_parO | apply x_mut | apply x_fld | apply x_for | exact x_jsnil | apply x_jscons | exact x_isFn) | ((with_reducible first | apply x_get | apply x_ixV | apply x_fldV | apply x_unpO | apply x_peekV); exact rfl) | ((with_reducible first | apply x_getO | apply x_ixO | apply x_fldO | apply x_unpV | apply x_peekO); exact rfl) | ((with_reducible first | apply x_tup | apply x_lst | apply x_ln); exact Nat.le_of_ble_eq_true rfl) | ((with_reducible first | apply x_len | apply x_ins); exact rfl) | ((with_reducible first | apply x_ifT | apply x_mifT); with_reducible exact rfl) | ((with_reducible first | apply x_ifF | apply x_mifF); with_reducible exact rfl) | ((with_reducible first | apply x_ifT | apply x_mifT); with_reducible first | exact rfl | exact bnot_t | exact bnot_f | assumption | $t:tactic | exact decide_eq_true (by first | assumption | omega)) | ((with_reducible first | apply x_ifF | apply x_mifF); with_reducible first | exact rfl | exact bnot_t | exact bnot_f | assumption | $t:tactic | exact decide_eq_false (by first | assumption | omega)) | (with_reducible $t:tactic) | ((simp only [List.set_cons_zero, List.set_cons_succ, List.cons_append, List.nil_append, wipeE, restE, OV_d_lst, List.getD_cons_succ, List.getD_cons_zero]); exact rfl) | exact rfl | ((with_reducible show (_ = _)); assumption)))
theorem maxF_ev (f : Nat) (l : List Nat) : ∃ M : Nat, f ≤ M ∧ (∀ n ∈ l, n ≤ M) ∧ (M = f ∨ M ∈ l) ∧ maxLD [.lst ((f :: l).map nD)] = some (nD M) := by
  obtain ⟨h1, h2⟩ := foldl_max_mem (l.map fun n : Nat => (n : Int)) (f : Int)
  have e : intsD ((f :: l).map nD) = some ((f :: l).map fun n : Nat => (n : Int)) := by
    generalize (f :: l) = k
    induction k with
    | nil => rfl
    | cons x k ih => rw [List.map_cons]; show (intsD (k.map nD)).map _ = _; rw [ih]; rfl
  have hM : ∃ M : Nat, (l.map fun n : Nat => (n : Int)).foldl max (f : Int) = (M : Int) ∧ (M = f ∨ M ∈ l) := by
    rcases List.mem_cons.mp h1 with z | z
    · exact ⟨f, z, .inl rfl⟩
    · obtain ⟨k, hk, z⟩ := List.mem_map.mp z
      exact ⟨k, z.symm, .inr hk⟩
  obtain ⟨M, q1, q2⟩ := hM
  rw [q1] at h2
  refine ⟨M, by have := h2 (f : Int) List.mem_cons_self; omega, fun n hn => by have := h2 (n : Int) (List.mem_cons_of_mem _ (List.mem_map.mpr ⟨n, hn, rfl⟩)); omega, q2, ?_⟩
  show (intsD ((f :: l).map nD)).bind _ = _
  rw [e]
  show some (D.int ((l.map fun n : Nat => (n : Int)).foldl max (f : Int))) = _
  rw [q1]
theorem rngD2 {i j : Int} (h0 : 0 ≤ i) (h1 : i < 2000000001) (h2 : 0 ≤ j) (h3 : j < 2000000001) : rngD [.int i, .int j] = some (rngL i j) := by
  show (if -(2 ^ 62) ≤ i ∧ i < 2 ^ 62 ∧ -(2 ^ 62) ≤ j ∧ j < 2 ^ 62 then some (rngL i j) else none) = _
  rw [if_pos ⟨by omega, by omega, by omega, by omega⟩]
theorem rngL_nat {a b : Nat} : rngL (a : Int) (b : Int) = (List.range' a (b - a)).map nD := by
  unfold rngL
  rw [show ((b : Int) - (a : Int)).toNat = b - a by omega, List.range'_eq_map_range, List.map_map]
  exact List.map_congr_left fun i _ => by show D.int _ = D.int _; rw [Int.natCast_add]
theorem rng2_nat {a b : Nat} (ha : a ≤ 2000000000) (hb : b ≤ 2000000000) : rng2D [nD a, nD b] = some ((List.range' a (b - a)).map nD) := by
  rw [← rngL_nat]
  show rngD [.int (a : Int), .int (b : Int)] = _
  exact rngD2 (i := (a : Int)) (j := (b : Int)) (by omega) (by omega) (by omega) (by omega)
theorem app_nat {l : List Nat} {n : Nat} (h : l.length < 1000) : appD (l.map nD) [nD n] = some ((l ++ [n]).map nD) := by
  rw [List.map_append]
  exact if_pos (by rw [List.length_map]; exact Nat.lt_trans h (by decide))
theorem take_app {l : List Nat} {n k : Nat} : (l ++ [n]).take k = if (l.take k).length < k then l.take k ++ [n] else l.take k := by
  rw [List.length_take]
  by_cases h : l.length < k
  · rw [if_pos (by omega), List.take_of_length_le (show (l ++ [n]).length ≤ k by rw [List.length_append, List.length_singleton]; omega), List.take_of_length_le (show l.length ≤ k by omega)]
  · rw [if_neg (by omega), List.take_append_of_le_length (by omega)]
section
variable {c : Cs} {r : Rd} {x : Md}
theorem law_members_ev (s : Same r x) (hm : x.m ≤ 12) {f k : Nat} (hf : f ≤ 1000000000) (hk : k ≤ 10) : ∃ l, MbOk r f k l ∧ F__law_members c [x.d, nD f, nD k] = some (.ok (.lst (l.map nD))) := by
  obtain ⟨M, m1, m2, m3, mx⟩ := maxF_ev f x.ns
  have ml : M ≤ 1000000300 := by
    rcases m3 with e | e
    · omega
    · have := s.xk.nk M e; omega
  have nl := s.xk.nl
  have ca : addA (.lst [nD f]) (.lst (x.ns.map nD)) = some (.lst ((f :: x.ns).map nD)) := addA_lst (a := [nD f]) (b := x.ns.map nD) (by rw [List.length_map]; show 1 + x.ns.length ≤ 1000; omega)
  have ii : ∀ n : Nat, intD [nD n] = some (nD n) := fun n => rfl
  have a1 : addA (nD k) (.int 1) = some (nD (k + 1)) := addA_int
  have mu : mulA (.int (x.m : Int)) (nD (k + 1)) = some (nD (x.m * (k + 1))) := by
    rw [show nD (k + 1) = .int ((k + 1 : Nat) : Int) from rfl, mulA_int (by omega), ← Int.natCast_mul]
  have bd : x.m * (k + 1) ≤ 12 * 11 := Nat.mul_le_mul hm (by omega)
  have a2 : addA (nD M) (nD (x.m * (k + 1))) = some (nD (M + x.m * (k + 1))) := addA_int
  have start : (lcM (((((getM 1).bind fun x3 => (Mo.ret []).bind fun x4 => Mo.ret (x3 :: x4)).bind lstM).bind fun x5 => (ixNM 0 (Mo.ret (.int 2))).bind fun x6 => Mo.lift (addA x5 x6)).bind fun x7 => Mo.lift (iterD x7)) (setE 6) (Mo.ret true) (((getM 6).bind fun x8 => (Mo.ret []).bind fun x9 => Mo.ret (x8 :: x9)).bind fun x10 => Mo.lift (intD x10)) [6]) [.val x.d, .val (nD f), .val (nD k), .no, .no, .no, .no] = some (.ok ((f :: x.ns).map nD), [.val x.d, .val (nD f), .val (nD k), .no, .no, .no, .no]) := by
    apply x_lcA nD nD (f :: x.ns) (e1 := [.val x.d, .val (nD f), .val (nD k), .no, .no, .no, .no])
    · exists md_2, ca, iterD_lst
    · rfl
    · rfl
    · intro n _
      apply turn_mk
      · rfl
      · rfl
      · exists ii n
      · rfl
    · rw [List.length_cons]; omega
    · rfl
  by_cases hr : x.rs = []
  · have eq : eqD (.lst (x.rs.map nD)) (.lst []) = some (.bl true) := by rw [hr]; rfl
    have an : r.h.any id = false := by
      cases q : r.h.any id with
      | false => rfl
      | true => exact absurd hr (s.some_iff.mp q)
    have mm : ∀ n, r.mem n = decide (n ∈ x.ns) := fun n => by
      unfold Rd.mem
      rw [nohit s.rk.wk an, s.o]; cases decide (n ∈ x.ns) <;> rfl
    have so : x.ns.Pairwise (· < ·) := by rw [← s.o]; exact s.rk.wk.so
    refine ⟨(x.ns.filter fun n => decide (f ≤ n)).take k, mb_list _ f k (so.sublist List.filter_sublist) (fun n hn => of_decide_eq_true (List.mem_filter.mp hn).2) (fun n hn => ?_), ?_⟩
    · rw [mm]
      exact decide_eq_decide.mpr ⟨fun z => List.mem_filter.mpr ⟨z, decide_eq_true hn⟩, fun z => (List.mem_filter.mp z).1⟩
    have sl : slD2 (.lst ((x.ns.filter fun n => decide (f ≤ n)).map nD)) none (some (k : Int)) = some (.lst (((x.ns.filter fun n => decide (f ≤ n)).take k).map nD)) := by rw [slD2_lst, cutG_to, List.map_take]
    have it : intOf (nD k) = some (k : Int) := rfl
    apply x_PE (n := 3) rfl
    exact (show stE ["_law_model", "_law_first", "_law_many", "_law_found", "_law_last", "_law_number", "_law_k"] [x.d, nD f, nD k] = [.val (x.d), .val (nD f), .val (nD k), .no, .no, .no, .no] from rfl)
    unfold m__law_members
    apply en_seq (e1 := [.val x.d, .val (nD f), .val (nD k), .own true ⟨.lst, []⟩, .val (nD (M + x.m * (k + 1))), .no, .no])
    · exists start, mx, md_0, a1, mu, a2
    have fl : (lcM ((ixNM 0 (Mo.ret (.int 2))).bind fun x26 => Mo.lift (iterD x26)) (setE 5) (((getM 5).bind fun x28 => (getM 1).bind fun x29 => Mo.lift ((cmpI fun i j => decide (j ≤ i)) x28 x29)).bind fun x27 => Mo.lift (blD x27)) (getM 5) [5]) [.val x.d, .val (nD f), .val (nD k), .own true ⟨.lst, []⟩, .val (nD (M + x.m * (k + 1))), .no, .no] = some (.ok ((x.ns.filter fun n => decide (f ≤ n)).map nD), [.val x.d, .val (nD f), .val (nD k), .own true ⟨.lst, []⟩, .val (nD (M + x.m * (k + 1))), .no, .no]) := by
      apply x_lcF nD nD (fun n => decide (f ≤ n)) x.ns (e1 := [.val x.d, .val (nD f), .val (nD k), .own true ⟨.lst, []⟩, .val (nD (M + x.m * (k + 1))), .no, .no])
      · exists md_2, iterD_lst
      · rfl
      · rfl
      · intro n _
        have ce : (cmpI fun i j => decide (j ≤ i)) (nD n) (nD f) = some (.bl (decide (f ≤ n))) := by
          show some (D.bl (decide ((f : Int) ≤ (n : Int)))) = _
          rw [decide_eq_decide.mpr (show (f : Int) ≤ (n : Int) ↔ f ≤ n by omega)]
        apply turn_f
        · rfl
        · exists ce
        · exists rfl
        · rfl
        · rfl
      · omega
      · rfl
    exact ⟨.rt (.lst (((x.ns.filter fun n => decide (f ≤ n)).take k).map nD)), [.val x.d, .val (nD f), .val (nD k), .own true ⟨.lst, []⟩, .val (nD (M + x.m * (k + 1))), .no, .no], by (exists md_1, eq, fl, it, sl), rfl⟩
  · have eq : eqD (.lst (x.rs.map nD)) (.lst []) = some (.bl false) := by
      obtain ⟨a, l, e⟩ := List.exists_cons_of_ne_nil hr
      have := eqD_pl (plL_nat (n := 59) (a := x.rs)) (plL_nat (n := 59) (a := ([] : List Nat)))
      rw [List.map_nil, eqS_lst, show ([] : List D) = ([] : List Nat).map nD from rfl, eqSL_nat, decide_eq_false hr] at this
      exact this
    have cnt : k ≤ ((List.range' f (M + x.m * (k + 1) + 1 - f)).filter r.mem).length := by
      have w := s.wins hr (k + 1) (M + 1) (fun n hn => by have := m2 n hn; omega)
      have e : List.range' f (M + x.m * (k + 1) + 1 - f) = List.range' f (M + 1 - f) ++ List.range' (M + 1) (x.m * (k + 1)) := by
        have := List.range'_append_1 (s := f) (m := M + 1 - f) (n := x.m * (k + 1))
        rw [show f + (M + 1 - f) = M + 1 by omega, show M + 1 - f + x.m * (k + 1) = M + x.m * (k + 1) + 1 - f by omega] at this
        exact this.symm
      rw [e, List.filter_append, List.length_append]
      omega
    refine ⟨_, mb_take _ f k (.inl cnt), ?_⟩
    have a3 : addA (nD (M + x.m * (k + 1))) (.int 1) = some (nD (M + x.m * (k + 1) + 1)) := addA_int
    have rg := rng2_nat (a := f) (b := M + x.m * (k + 1) + 1) (by omega) (by omega)
    apply x_PE (n := 3) rfl
    exact (show stE ["_law_model", "_law_first", "_law_many", "_law_found", "_law_last", "_law_number", "_law_k"] [x.d, nD f, nD k] = [.val (x.d), .val (nD f), .val (nD k), .no, .no, .no, .no] from rfl)
    unfold m__law_members
    apply en_seq (e1 := [.val x.d, .val (nD f), .val (nD k), .own true ⟨.lst, []⟩, .val (nD (M + x.m * (k + 1))), .no, .no])
    · exists start, mx, md_0, a1, mu, a2
    apply en_seq (e1 := [.val x.d, .val (nD f), .val (nD k), .own true ⟨.lst, []⟩, .val (nD (M + x.m * (k + 1))), .no, .no])
    · exists md_1, eq
    apply en_seqE
    apply en_for (σ := List Nat × SD) nD (fun s => [.val x.d, .val (nD f), .val (nD k), .own true ⟨.lst, s.1.map nD⟩, .val (nD (M + x.m * (k + 1))), s.2, .no]) (fun s xs => ∃ done, List.range' f (M + x.m * (k + 1) + 1 - f) = done ++ xs ∧ s.1 = (done.filter r.mem).take k) (List.range' f (M + x.m * (k + 1) + 1 - f)) ([], .no)
    · exists a3, rg
    · rfl
    · rfl
    · exact ⟨[], rfl, by rw [List.filter_nil, List.take_nil]⟩
    · rintro ⟨fd, sd⟩ n xs ⟨done, q1, q2⟩
      dsimp only at q2
      have fk : fd.length ≤ k := by rw [q2, List.length_take]; omega
      have ho := holds_ev (c := c) (n := n) s.xk
      rw [← s.he] at ho
      have ln : lenD [OV.d ⟨.lst, fd.map nD⟩] = some (.int (fd.length : Int)) := by rw [OV_d_lst, len_lst, List.length_map]
      have lt : ltA (.int (fd.length : Int)) (nD k) = some (.bl (decide (fd.length < k))) := by
        show some (D.bl (decide ((fd.length : Int) < (k : Int)))) = _
        rw [decide_eq_decide.mpr (show (fd.length : Int) < (k : Int) ↔ fd.length < k by omega)]
      have ap := app_nat (l := fd) (n := n) (by omega)
      apply lp_mk (e2 := [.val x.d, .val (nD f), .val (nD k), .own true ⟨.lst, fd.map nD⟩, .val (nD (M + x.m * (k + 1))), .val (nD n), .no])
      · rfl
      by_cases hlt : fd.length < k
      · rw [decide_eq_true hlt] at lt
        cases hmem : r.mem n with
        | true =>
          rw [hmem] at ho
          refine ⟨.nx, [.val x.d, .val (nD f), .val (nD k), .own true ⟨.lst, (fd ++ [n]).map nD⟩, .val (nD (M + x.m * (k + 1))), .val (nD n), .no], ?_, rfl, (fd ++ [n], .val (nD n)), rfl, done ++ [n], by rw [q1, List.append_assoc]; rfl, ?_⟩
          · exists ln, lt, ho, ap
          · show fd ++ [n] = _
            rw [List.filter_append, List.filter_cons_of_pos hmem, List.filter_nil, take_app, ← q2, if_pos hlt]
        | false =>
          rw [hmem] at ho
          refine ⟨.nx, [.val x.d, .val (nD f), .val (nD k), .own true ⟨.lst, fd.map nD⟩, .val (nD (M + x.m * (k + 1))), .val (nD n), .no], ?_, rfl, (fd, .val (nD n)), rfl, done ++ [n], by rw [q1, List.append_assoc]; rfl, ?_⟩
          · exists ln, lt, ho
          · show fd = _
            rw [List.filter_append, List.filter_cons_of_neg (by rw [hmem]; exact Bool.false_ne_true), List.filter_nil, List.append_nil, ← q2]
      · rw [decide_eq_false hlt] at lt
        refine ⟨.nx, [.val x.d, .val (nD f), .val (nD k), .own true ⟨.lst, fd.map nD⟩, .val (nD (M + x.m * (k + 1))), .val (nD n), .no], ?_, rfl, (fd, .val (nD n)), rfl, done ++ [n], by rw [q1, List.append_assoc]; rfl, ?_⟩
        · exists ln, lt
        · show fd = _
          rw [List.filter_append]
          cases hmem : r.mem n with
          | true => rw [List.filter_cons_of_pos hmem, List.filter_nil, take_app, ← q2, if_neg hlt]
          | false => rw [List.filter_cons_of_neg (by rw [hmem]; exact Bool.false_ne_true), List.filter_nil, List.append_nil, ← q2]
    rintro ⟨fd, sd⟩ ⟨done, q1, q2⟩
    dsimp only at q2 ⊢
    rw [List.append_nil] at q1
    subst q1
    subst q2
    refine ⟨rfl, .rt (.lst ((((List.range' f (M + x.m * (k + 1) + 1 - f)).filter r.mem).take k).map nD)), [.val x.d, .val (nD f), .val (nD k), .val (.lst ((((List.range' f (M + x.m * (k + 1) + 1 - f)).filter r.mem).take k).map nD)), .val (nD (M + x.m * (k + 1))), sd, .no], ?_, rfl⟩
    exists rfl
end
end LX
namespace LX
open PySem PySem.Spec PyProof.Rows PySem.Calls L2 PD
local macro_rules
  | `(tactic| exists $fs,*) => do
    let mut t ← `(tactic| fail)
    for f in fs.getElems.reverse do
      t ← `(tactic| first | exact $f | $t:tactic)
    `(tactic| repeat' (first | (with_reducible first | exact x_ret | apply x_bind | apply x_bok | exact x_berr | apply x_lift | apply x_liftR | apply x_seq | apply x_snx | exact x_srt | exact x_sex | exact x_srf | exact x_sbk | exact x_sct | exact x_nx | apply x_of | apply x_ook | exact x_oerr | apply x_asg | apply x_if | apply x_callM | apply x_ixN | apply x_par | apply x_par3 | apply x_own | apply x_parO | apply x_mut | apply x_fld | apply x_for | apply x_lc | exact x_jsnil | apply x_jscons | exact x_isFn) | ((with_reducible first | apply x_get | apply x_ixV | apply x_fldV | apply x_unpO | apply x_peekV); exact rfl) | ((with_reducible first | apply x_getO | apply x_ixO | apply x_fldO | apply x_unpV | apply x_peekO); exact rfl) | ((with_reducible first | apply x_tup | apply x_lst | apply x_ln); exact Nat.le_of_ble_eq_true rfl) | ((with_reducible first | apply x_len | apply x_ins); exact rfl) | ((with_reducible first | apply x_ifT | apply x_mifT); with_reducible exact rfl) | ((with_reducible first | apply x_ifF | apply x_mifF); with_reducible exact rfl) | ((with_reducible first | apply x_ifT | apply x_mifT); with_reducible first | exact rfl | exact bnot_t | exact bnot_f | assumption | $t:tactic | exact decide_eq_true (by first | assumption | omega)) | ((with_reducible first | apply x_ifF | apply x_mifF); with_reducible first | exact rfl | exact bnot_t | exact bnot_f | assumption | $t:tactic | exact decide_eq_false (by first | assumption | omega)) | (with_reducible $t:tactic) | ((simp only [List.set_cons_zero, List.set_cons_succ, List.cons_append, List.nil_append, wipeE, restE, OV_d_lst, List.getD_cons_succ, List.getD_cons_zero]); exact rfl) | exact rfl | ((with_reducible show (_ = _)); assumption)))
section
variable {c : Cs} {r : Rd} {x : Md}
/-- what is no integer -/
theorem not_integer {d : D} {t : Tg} (ht : d.tg = some t) (ok : okTg c t) (h : tyP "int" t = false ∨ (tyP "int" t = true ∧ tyP "bool" t = true)) : F_is_integer c [d] = some (.ok (.bl false)) := by
  have e1 : isiT c "int" [d, .ty "int"] = some (.bl (tyP "int" t)) := isiT_ev ht ok
  have e2 : isiT c "bool" [d, .ty "bool"] = some (.bl (tyP "bool" t)) := isiT_ev ht ok
  rcases h with h | ⟨h1, h2⟩
  · rw [h] at e1
    apply x_P (n := 1) rfl
    exact (show stE ["value"] [d] = [.val (d)] from rfl)
    unfold m_is_integer
    exists e1, e2, truD_bl
  · rw [h1] at e1
    rw [h2] at e2
    apply x_P (n := 1) rfl
    exact (show stE ["value"] [d] = [.val (d)] from rfl)
    unfold m_is_integer
    exists e1, e2, truD_bl
theorem contains_no {d : D} (h : F_is_integer c [d] = some (.ok (.bl false))) : F_Rounds___contains__ c [r.d c, d] = some (.ok (.bl false)) := by
  apply x_P (n := 2) rfl
  exact (show stE ["self", "value"] [r.d c, d] = [.val (r.d c), .val (d)] from rfl)
  unfold m_Rounds___contains__
  exists h, truD_bl
theorem contains_neg {i : Int} (h : i < 0) : F_Rounds___contains__ c [r.d c, .int i] = some (.ok (.bl false)) := by
  have c1 := cgeF (i := i) (j := 0) h
  apply x_P (n := 2) rfl
  exact (show stE ["self", "value"] [r.d c, .int i] = [.val (r.d c), .val (.int i)] from rfl)
  unfold m_Rounds___contains__
  exists is_integer_ev, truD_bl, c1
theorem in_no {d : D} (ha : inA d (r.d c) = none) (h : F_Rounds___contains__ c [r.d c, d] = some (.ok (.bl false))) : oInR c d (r.d c) = some (.bl false) := by
  show (inA d (r.d c)).or (if c.Rounds = c.Rounds then (match okD (F_Rounds___contains__ c [r.d c, d]) with | some (.bl b) => some (.bl b) | _ => none) else none) = _
  rw [ha, if_pos rfl, h]; rfl
def ratio3 (c : Cs) : D := .ins c.Ratio ["top", "bottom"] [.int 3, .int 1]
def odds (c : Cs) : List D := [.bl true, .bl false, .int (-1), .int (-7), .non, .str ("3" : Str), ratio3 c, .tup [.int 1], .lst [], .int (1 - 10 ^ 20)]
theorem odd_no (hR : c.Ratio ∈ c.known) : ∀ d ∈ odds c, oInR c d (r.d c) = some (.bl false) := by
  intro d hd
  unfold odds at hd
  simp only [List.mem_cons, List.not_mem_nil, or_false] at hd
  rcases hd with rfl | rfl | rfl | rfl | rfl | rfl | rfl | rfl | rfl | rfl
  · exact in_no rfl (contains_no (not_integer (t := .bl) rfl trivial (.inr ⟨tyP_int_bl, tyP_bool_bl⟩)))
  · exact in_no rfl (contains_no (not_integer (t := .bl) rfl trivial (.inr ⟨tyP_int_bl, tyP_bool_bl⟩)))
  · exact in_no rfl (contains_neg (by decide))
  · exact in_no rfl (contains_neg (by decide))
  · exact in_no rfl (contains_no (not_integer (t := .non) rfl trivial (.inl tyP_int_non)))
  · exact in_no rfl (contains_no (not_integer (t := .str) rfl trivial (.inl tyP_int_str)))
  · exact in_no rfl (contains_no (not_integer (t := .ins c.Ratio) rfl hR (.inl tyP_int_ins)))
  · exact in_no rfl (contains_no (not_integer (t := .tup) rfl trivial (.inl (by decide))))
  · exact in_no rfl (contains_no (not_integer (t := .lst) rfl trivial (.inl (by decide))))
  · exact in_no rfl (contains_neg (by decide))
theorem gcd31 : F_greatest_common c [.int 3, .int 1] = some (.ok (.int 1)) := by
  have a3 : absD [.int 3] = some (.int 3) := rfl
  have a1 : absD [.int 1] = some (.int 1) := rfl
  apply x_P (n := 2) rfl
  exact (show stE ["one", "two"] [.int 3, .int 1] = [.val (.int 3), .val (.int 1)] from rfl)
  unfold m_greatest_common
  apply x_seq
  · exists a3, a1
  apply x_snx
  apply x_seq
  · refine gcd_loop (fun m n : Nat => ([SD.val (D.int m), SD.val (D.int n)] : En)) ?hc ?hb 1 3
    case hc =>
      intro m n
      have e : neD (.int (n : Int)) (.int 0) = some (.bl (!decide ((n : Int) = 0))) := rfl
      exists e
    case hb =>
      intro m n hn
      have e : modD (.int m) (.int n) = some (.int ((m % n : Nat) : Int)) := by rw [modD_int (by omega), fmod_nat]
      exists e
  apply x_snx
  exists rfl
theorem ratio3_ev : mkD c.Ratio (F_Ratio___init__ c) ([.int 3] ++ [D.int 1]) = some (.ok (ratio3 c)) := by
  have lt : ltA (.int 1) (.int 1) = some (.bl false) := rfl
  have d3 : fdivD (.int 3) (.int 1) = some (.int 3) := by rw [fdivD_int (by decide) (by decide)]; rfl
  have d1 : fdivD (.int 1) (.int 1) = some (.int 1) := by rw [fdivD_int (by decide) (by decide)]; rfl
  have e : F_Ratio___init__ c ⟨.ins c.Ratio [], []⟩ [.int 3, .int 1] = some (.ok .non, ⟨.ins c.Ratio ["top", "bottom"], [.int 3, .int 1]⟩) := by
    apply x_M (n := 3) rfl
    exact (show stO ["self", "top", "bottom", "common"] ⟨.ins c.Ratio [], []⟩ [.int 3, .int 1] = [.own false ⟨.ins c.Ratio [], []⟩, .val (.int 3), .val (.int 1), .no] from rfl)
    unfold m_Ratio___init__
    exists is_integer_ev, lt, gcd31, d3, d1
  unfold mkD
  rw [show [D.int 3] ++ [D.int 1] = [D.int 3, D.int 1] from rfl, e]
  rfl
theorem rep_o {z : Option Nat} (h : ∀ n, z = some n → n < 2 ^ 62) : ∃ t, (one1 reprPD) [oD z] = some (.str t) := by
  cases z with
  | none => exact ⟨_, rfl⟩
  | some n =>
    refine ⟨toString (n : Int), ?_⟩
    show (if (n : Int).natAbs.log2 < 1920 then some (D.str (toString (n : Int))) else none) = _
    rw [if_pos]
    have h1 : n < 2 ^ 62 := h n rfl
    have h2 : Nat.log2 n < 62 := by
      by_cases z : n = 0
      · rw [z]; decide
      · exact (Nat.log2_lt z).mpr h1
    rw [Int.natAbs_natCast]; omega
theorem neR_str {t : Str} : oNeR c (.str t) (.str t) = some (.bl false) := by
  have e : neD (.str t) (.str t) = some (.bl false) := by
    show some (D.bl _) = _
    simp
  show (neD (.str t) (.str t)).or _ = _
  rw [e]; rfl
end
end LX
namespace LX
open PySem PySem.Spec PyProof.Rows PySem.Calls L2 PD
section
variable {c : Cs} {r : Rd} {x : Md}
theorem eqSL_bools {f g : Nat → Bool} : ∀ l : List Nat, eqSL (l.map fun n => D.bl (f n)) (l.map fun n => D.bl (g n)) = l.all fun n => f n == g n
  | [] => rfl
  | n :: l => by
    rw [List.map_cons, List.map_cons, eqSL_cons, eqS_bl, eqSL_bools l, List.all_cons]
    cases f n <;> cases g n <;> rfl
theorem pl_bools {f : Nat → Bool} {l : List Nat} : plD 60 (.lst (l.map fun n => D.bl (f n))) = true := by
  show (l.map fun n => D.bl (f n)).all (plD 59) = true
  rw [List.all_map]
  exact List.all_eq_true.mpr fun x _ => rfl
theorem neR_of {a b d : D} (h : neD a b = some d) : oNeR c a b = some d := by
  show (neD a b).or _ = _
  rw [h]; rfl
theorem eqR_of {a b d : D} (h : eqD a b = some d) : oEqR c a b = some d := by
  show (eqD a b).or _ = _
  rw [h]; rfl
theorem neR_int {i : Int} : oNeR c (.int i) (.int i) = some (.bl false) := neR_of (by show some (D.bl (!decide (i = i))) = _; simp)
theorem neR_bools {f : Nat → Bool} {l : List Nat} : oNeR c (.lst (l.map fun n => D.bl (f n))) (.lst (l.map fun n => D.bl (f n))) = some (.bl false) := neR_of (by
  rw [neD_pl pl_bools pl_bools, eqS_lst, eqSL_bools, List.all_eq_true.mpr fun n _ => beq_self_eq_true _]; rfl)
theorem neR_nats {l : List Nat} : oNeR c (.lst (l.map nD)) (.lst (l.map nD)) = some (.bl false) := neR_of (by rw [neD_ntL]; simp)
theorem eqR_nats {l : List Nat} : oEqR c (.lst (l.map nD)) (.lst (l.map nD)) = some (.bl true) := eqR_of (by
  rw [eqD_pl (plL_nat (n := 59)) (plL_nat (n := 59)), eqS_lst, eqSL_nat]; simp)
theorem neR_nil {l : List Nat} : oNeR c (.lst (l.map nD)) (.lst []) = some (.bl (!decide (l = []))) := neR_of (neD_ntL (a := l) (b := []))
theorem own1_ev {F : List D → Option (Except Ex D)} {d : D} (h : F [r.d c] = some (.ok d)) : own1 c.Rounds F (r.d c) = some d := by
  show (if c.Rounds = c.Rounds then okD (F [r.d c]) else none) = _
  rw [if_pos rfl, h]; rfl
theorem bool_ev (hr : r.ok) : oBoolR c [r.d c] = some (.bl (someR r)) := by
  have e := tru_ev (c := c) hr
  have e : (none : Option Bool).or (own1B c.Rounds (F_Rounds___bool__ c) (r.d c)) = some (someR r) := e
  have e : own1B c.Rounds (F_Rounds___bool__ c) (r.d c) = some (someR r) := by simpa using e
  have b : boolD [r.d c] = none := rfl
  show (boolD [r.d c]).or ((own1B c.Rounds (F_Rounds___bool__ c) (r.d c)).map D.bl) = _
  rw [b, e]; rfl
theorem Same.some (s : Same r x) : someR r = (!decide (x.rs = []) || !decide (x.ns = [])) := by
  unfold someR
  have e2 : decide (0 < r.o.length) = !decide (x.ns = []) := by
    rw [s.o]
    cases x.ns <;> simp
  have e1 : r.h.any id = !decide (x.rs = []) := by
    cases q : r.h.any id with
    | true => rw [decide_eq_false (s.some_iff.mp q)]; rfl
    | false =>
      have : x.rs = [] := Classical.byContradiction fun z => by have := s.some_iff.mpr z; rw [q] at this; cases this
      rw [decide_eq_true this]; rfl
  rw [e1, e2]
theorem nx_bd (s : Same r x) (hm : x.m ≤ 12) {f n : Nat} (hf : f ≤ 1000000000) (h : NxOk r f (some n)) : n < 2 ^ 62 := by
  obtain ⟨h1, h2, h3⟩ := h
  by_cases hr : x.rs = []
  · have an : r.h.any id = false := by
      cases q : r.h.any id with
      | false => rfl
      | true => exact absurd hr (s.some_iff.mp q)
    unfold Rd.mem at h2
    rw [nohit s.rk.wk an] at h2
    have : n ∈ r.o := by
      cases q : decide (n ∈ r.o) with
      | true => exact of_decide_eq_true q
      | false => rw [q] at h2; cases h2
    have := s.rk.lt this
    omega
  · have w := s.win hr (a := f + 300) (fun k hk => by have := s.xk.nk k hk; omega)
    obtain ⟨y, hy⟩ := List.exists_mem_of_length_pos w
    obtain ⟨y1, y2⟩ := List.mem_filter.mp hy
    have y3 := List.mem_range'_1.mp y1
    rcases Nat.lt_or_ge y n with z | z
    · have := h3 y (by omega) z
      rw [y2] at this; cases this
    · omega
/-- the first of the law's own members, or None -/
theorem first_ev {f k : Nat} {z : Option Nat} {l : List Nat} (hz : NxOk r f z) (hl : MbOk r f (k + 1) l) : ixD (.lst (l.map nD ++ [.non])) (.int 0) = some (oD z) := by
  rcases hl with ⟨h1, rfl⟩ | ⟨n, l', h1, _, rfl⟩
  · rw [hz.eq h1]; rfl
  · rw [hz.eq h1]
    exact ix_lst (l := nD n :: (l'.map nD ++ [.non])) (k := 0) rfl
theorem mb_len : ∀ {k f : Nat} {l : List Nat}, MbOk r f k l → l.length ≤ k
  | 0, f, l, h => by rw [show l = [] from h]; exact Nat.le_refl _
  | k + 1, f, l, h => by
    rcases h with ⟨_, rfl⟩ | ⟨n, l', _, h2, rfl⟩
    · exact Nat.zero_le _
    · have := mb_len h2; rw [List.length_cons]; omega
end
end LX
namespace LX
open PySem PySem.Spec PyProof.Rows PySem.Calls L2 PD
local macro_rules
  | `(tactic| exists $fs,*) => do
    let mut t ← `(tactic| fail)
    for f in fs.getElems.reverse do
      t ← `(tactic| first | exact $f | $t:tactic)
    `(tactic| repeat' (first | (with_reducible first | exact x_ret | apply x_bind | apply x_bok | exact x_berr | apply x_lift | apply x_liftR | apply x_seq | apply x_snx | exact x_srt | exact x_sex | exact x_srf | exact x_sbk | exact x_sct | exact x_nx | apply x_of | apply x_ook | exact x_oerr | apply x_asg | apply x_if | apply x_callM | apply x_ixN | apply x_par | apply x_par3 | apply x_own | apply x_parO | apply x_mut | apply x_fld | apply x_for | exact x_jsnil | apply x_jscons | exact x_isFn) | ((with_reducible first | apply x_get | apply x_ixV | apply x_fldV | apply x_unpO | apply x_peekV); exact rfl) | ((with_reducible first | apply x_getO | apply x_ixO | apply x_fldO | apply x_unpV | apply x_peekO); exact rfl) | ((with_reducible first | apply x_tup | apply x_lst | apply x_ln); exact Nat.le_of_ble_eq_true rfl) | ((with_reducible first | apply x_len | apply x_ins); exact rfl) | ((with_reducible first | apply x_ifT | apply x_mifT); with_reducible exact rfl) | ((with_reducible first | apply x_ifF | apply x_mifF); with_reducible exact rfl) | ((with_reducible first | apply x_ifT | apply x_mifT); with_reducible first | exact rfl | exact bnot_t | exact bnot_f | assumption | $t:tactic | exact decide_eq_true (by first | assumption | omega)) | ((with_reducible first | apply x_ifF | apply x_mifF); with_reducible first | exact rfl | exact bnot_t | exact bnot_f | assumption | $t:tactic | exact decide_eq_false (by first | assumption | omega)) | (with_reducible $t:tactic) | ((simp only [List.set_cons_zero, List.set_cons_succ, List.cons_append, List.nil_append, wipeE, restE, OV_d_lst, List.getD_cons_succ, List.getD_cons_zero]); exact rfl) | exact rfl | ((with_reducible show (_ = _)); assumption)))
section
variable {c : Cs} {r : Rd} {x : Md}
theorem lc_in (hr : r.ok) {e0 : OV} {s1 s3 s4 s5 s6 : SD} : lcM (((Mo.ret (.int 60)).bind fun x85 => (Mo.ret []).bind fun x86 => Mo.ret (x85 :: x86)).bind fun x87 => Mo.lift (rng1D x87)) (setE 7) (Mo.ret true) ((getM 7).bind fun x88 => (getM 2).bind fun x89 => Mo.lift ((oInR c) x88 x89)) [7] [.own false e0, s1, .val (r.d c), s3, s4, s5, s6, .no, .no] = some (.ok ((List.range 60).map fun n => D.bl (r.mem n)), [.own false e0, s1, .val (r.d c), s3, s4, s5, s6, .no, .no]) := by
  have rg : rng1D [.int 60] = some ((List.range 60).map nD) := rng1_nat (n := 60) (by decide)
  apply x_lcA nD (fun n => D.bl (r.mem n)) (List.range 60) (e1 := [.own false e0, s1, .val (r.d c), s3, s4, s5, s6, .no, .no])
  · exists rg
  · rfl
  · rfl
  · intro n _
    have e := in_ev (c := c) hr (n := n)
    apply turn_mk
    · rfl
    · rfl
    · exists e
    · rfl
  · rw [List.length_range]; decide
  · rfl
theorem lc_holds (hx : x.ok) {e0 : OV} {s2 s3 s4 s5 s6 : SD} : lcM (((Mo.ret (.int 60)).bind fun x91 => (Mo.ret []).bind fun x92 => Mo.ret (x91 :: x92)).bind fun x93 => Mo.lift (rng1D x93)) (setE 7) (Mo.ret true) (((getM 1).bind fun x96 => ((getM 7).bind fun x94 => (Mo.ret []).bind fun x95 => Mo.ret (x94 :: x95)).bind fun x97 => Mo.ret (x96 :: x97)).bind fun x98 => Mo.liftR (F__law_holds c x98)) [7] [.own false e0, .val x.d, s2, s3, s4, s5, s6, .no, .no] = some (.ok ((List.range 60).map fun n => D.bl (x.has n)), [.own false e0, .val x.d, s2, s3, s4, s5, s6, .no, .no]) := by
  have rg : rng1D [.int 60] = some ((List.range 60).map nD) := rng1_nat (n := 60) (by decide)
  apply x_lcA nD (fun n => D.bl (x.has n)) (List.range 60) (e1 := [.own false e0, .val x.d, s2, s3, s4, s5, s6, .no, .no])
  · exists rg
  · rfl
  · rfl
  · intro n _
    have e := holds_ev (c := c) (n := n) hx
    apply turn_mk
    · rfl
    · rfl
    · exists e
    · rfl
  · rw [List.length_range]; decide
  · rfl
theorem lc_odd (hR : c.Ratio ∈ c.known) {e0 : OV} {s1 s4 s5 s6 : SD} : lcM ((getM 3).bind fun x103 => Mo.lift (iterD x103)) (setE 8) (Mo.ret true) ((getM 8).bind fun x104 => (getM 2).bind fun x105 => Mo.lift ((oInR c) x104 x105)) [8] [.own false e0, s1, .val (r.d c), .val (.lst (odds c)), s4, s5, s6, .no, .no] = some (.ok ((odds c).map fun _ => D.bl false), [.own false e0, s1, .val (r.d c), .val (.lst (odds c)), s4, s5, s6, .no, .no]) := by
  have it : iterD (.lst (odds c)) = some ((odds c).map fun d => d) := by rw [List.map_id']; rfl
  apply x_lcA (fun d => d) (fun _ => D.bl false) (odds c) (e1 := [.own false e0, s1, .val (r.d c), .val (.lst (odds c)), s4, s5, s6, .no, .no])
  · exists it
  · rfl
  · rfl
  · intro d hd
    have e := odd_no (r := r) hR d hd
    apply turn_mk
    · rfl
    · rfl
    · exists e
    · rfl
  · show 10 ≤ 1000; decide
  · rfl
theorem any_odd : anyA [.lst ((odds c).map fun _ => D.bl false)] = some (.bl false) := by
  have := bls_anyL (l := (odds c).map fun _ => false)
  rw [List.map_map] at this
  exact this
/-- one number asked -/
theorem asked (s : Same r x) (hm : x.m ≤ 12) {f : Nat} (hf : f ≤ 1000000000) : ∃ (l : List Nat) (z : Option Nat) (t : Str), l.length ≤ 3 ∧ F__law_members c [x.d, nD f, .int 3] = some (.ok (.lst (l.map nD))) ∧ F_Rounds_members c [r.d c, nD f, .int 3] = some (l.map nD) ∧ F_Rounds_after c [r.d c, nD f] = some (.ok (oD z)) ∧
    ixD (.lst (l.map nD ++ [.non])) (.int 0) = some (oD z) ∧ (one1 reprPD) [oD z] = some (.str t) := by
  obtain ⟨l, h1, h2⟩ := law_members_ev (c := c) s hm hf (k := 3) (by decide)
  obtain ⟨l', g1, g2⟩ := members_ev (c := c) s.rk.wk hf (k := 3) (by decide)
  cases h1.eq g1
  obtain ⟨z, q1, q2⟩ := after_ev (c := c) s.rk.wk hf
  obtain ⟨t, ht⟩ := rep_o (z := z) fun n e => nx_bd s hm hf (e ▸ q1)
  exact ⟨l, z, t, mb_len h1, h2, g2, q2, first_ev q1 h1, ht⟩
end
end LX
namespace LX
open PySem PySem.Spec PyProof.Rows PySem.Calls L2 PD
local macro_rules
  | `(tactic| exists $fs,*) => do
    let mut t ← `(tactic| fail)
    for f in fs.getElems.reverse do
      t ← `(tactic| first | exact $f | $t:tactic)
    `(tactic| repeat' (first | (with_reducible first | exact x_ret | apply x_bind | apply x_bok | exact x_berr | apply x_lift | apply x_liftR | apply x_seq | apply x_snx | exact x_srt | exact x_sex | exact x_srf | exact x_sbk | exact x_sct | exact x_nx | apply x_of | apply x_ook | exact x_oerr | apply x_asg | apply x_if | apply x_callM | apply x_ixN | apply x_par | apply x_par3 | apply x_own | apply x_parO | apply x_mut | apply x_fld | apply x_for | exact x_jsnil | apply x_jscons | exact x_isFn) | ((with_reducible first | apply x_get | apply x_ixV | apply x_fldV | apply x_unpO | apply x_peekV); exact rfl) | ((with_reducible first | apply x_getO | apply x_ixO | apply x_fldO | apply x_unpV | apply x_peekO); exact rfl) | ((with_reducible first | apply x_tup | apply x_lst | apply x_ln); exact Nat.le_of_ble_eq_true rfl) | ((with_reducible first | apply x_len | apply x_ins); exact rfl) | ((with_reducible first | apply x_ifT | apply x_mifT); with_reducible exact rfl) | ((with_reducible first | apply x_ifF | apply x_mifF); with_reducible exact rfl) | ((with_reducible first | apply x_ifT | apply x_mifT); with_reducible first | exact rfl | exact bnot_t | exact bnot_f | assumption | $t:tactic | exact decide_eq_true (by first | assumption | omega)) | ((with_reducible first | apply x_ifF | apply x_mifF); with_reducible first | exact rfl | exact bnot_t | exact bnot_f | assumption | $t:tactic | exact decide_eq_false (by first | assumption | omega)) | (with_reducible $t:tactic) | ((simp only [List.set_cons_zero, List.set_cons_succ, List.cons_append, List.nil_append, wipeE, restE, OV_d_lst, List.getD_cons_succ, List.getD_cons_zero]); exact rfl) | exact rfl | ((with_reducible show (_ = _)); assumption)))
section
variable {c : Cs} {r : Rd} {x : Md}
theorem right_ev (hk : c.Rounds ∈ c.known) (hR : c.Ratio ∈ c.known) {p : Pv} {k : Int} (h : p.ok k) (hkk : k ≤ 800000) : ∃ rr l, F__law_right c ⟨.lst, p.l⟩ [] = some (rr, l) ∧ rr = .ok (.bl true) ∧ ∃ p' : Pv, l = ⟨.lst, p'.l⟩ ∧ p'.ok (k + 200) := by
  obtain ⟨_, _, t1, x, p1, hx, hm, _, rfl, rfl, o1⟩ := set_ev (c := c) h (by omega)
  obtain ⟨r, rk, rm, he, t2⟩ := formed_ev hk hx
  have s : Same r x := ⟨rk, hx, rm, he⟩
  have fm : fldD c.Rounds "modulus" (r.d c) = some (.int (x.m : Int)) := by rw [← rm]; exact fl_m
  have w1 := own1_ev (r := r) (whole_from_ev (c := c) s)
  have w2 := law_whole_ev (c := c) hx
  obtain ⟨t, w3⟩ := rep_o (z := wf x) (fun n hn => by
    unfold wf at hn
    split at hn
    · cases hn
    · cases hn
      split
      · rename_i n e
        have := hx.nk n (List.mem_of_getLast? e)
        omega
      · decide)
  have b1 := bool_ev (c := c) rk
  rw [s.some] at b1
  have n1 := neR_nil (c := c) (l := x.rs)
  have n2 := neR_nil (c := c) (l := x.ns)
  have nb : ∀ b : Bool, oNeR c (.bl b) (.bl b) = some (.bl false) := fun b => neR_of (by cases b <;> rfl)
  apply x_ME (n := 1) rfl
  exact (show stO ["_law_draws", "_law_model", "_law_mine", "_law_odd", "_law_first", "_law_due", "_law_many", "_law_number", "_law_value"] ⟨.lst, p.l⟩ [] = [.own false ⟨.lst, p.l⟩, .no, .no, .no, .no, .no, .no, .no, .no] from rfl)
  unfold m__law_right
  apply en_seq (e1 := [.own false ⟨.lst, p1.l⟩, .val x.d, .no, .no, .no, .no, .no, .no, .no])
  · exists t1
  apply en_seq (e1 := [.own false ⟨.lst, p1.l⟩, .val x.d, .val (r.d c), .no, .no, .no, .no, .no, .no])
  · exists t2
  apply en_seq (e1 := [.own false ⟨.lst, p1.l⟩, .val x.d, .val (r.d c), .no, .no, .no, .no, .no, .no])
  · exists fm, md_0, neR_int, w1, w2, w3, neR_str
  apply en_seq (e1 := [.own false ⟨.lst, p1.l⟩, .val x.d, .val (r.d c), .no, .no, .no, .no, .no, .no])
  · by_cases z : x.rs = []
    · rw [decide_eq_true z] at b1 n1
      have b1 : oBoolR c [r.d c] = some (.bl (!decide (x.ns = []))) := b1
      have n1 : oNeR c (.lst (x.rs.map nD)) (.lst []) = some (.bl false) := n1
      exists b1, md_1, md_2, n1, n2, truD_bl, nb _
    · rw [decide_eq_false z] at b1 n1
      have b1 : oBoolR c [r.d c] = some (.bl true) := b1
      have n1 : oNeR c (.lst (x.rs.map nD)) (.lst []) = some (.bl true) := n1
      exists b1, md_1, n1, truD_bl, nb _
  have g1 : negD (.int 1) = some (.int (-1)) := rfl
  have g7 : negD (.int 7) = some (.int (-7)) := rfl
  have pw : powD (.int 10) (.int 20) = some (.int (10 ^ 20)) := powD_ev (i := 10) (n := 20) (k := 4) (by unfold bdi; decide) (by decide) (by decide)
  have sb : ∀ i j : Int, (fun x y => ((subD x y).or ((ownL c.Rounds (F_Rounds___sub__ c)) x y))) (.int i) (.int j) = some (.int (i - j)) := fun i j => rfl
  apply en_seq (e1 := [.own false ⟨.lst, p1.l⟩, .val x.d, .val (r.d c), .val (.lst (odds c)), .no, .no, .no, .no, .no])
  · exists g1, g7, pw, sb 1 (10 ^ 20), ratio3_ev
  have l1 := lc_in (c := c) rk (e0 := ⟨.lst, p1.l⟩) (s1 := .val x.d) (s3 := .val (.lst (odds c))) (s4 := .no) (s5 := .no) (s6 := .no)
  have l2 := lc_holds (c := c) hx (e0 := ⟨.lst, p1.l⟩) (s2 := .val (r.d c)) (s3 := .val (.lst (odds c))) (s4 := .no) (s5 := .no) (s6 := .no)
  rw [show (fun n => D.bl (x.has n)) = fun n => D.bl (r.mem n) from funext fun n => by rw [he]] at l2
  have n3 := neR_bools (c := c) (f := r.mem) (l := List.range 60)
  apply en_seq (e1 := [.own false ⟨.lst, p1.l⟩, .val x.d, .val (r.d c), .val (.lst (odds c)), .no, .no, .no, .no, .no])
  · exists l1, l2, n3
  have l3 := lc_odd (r := r) hR (e0 := ⟨.lst, p1.l⟩) (s1 := .val x.d) (s4 := .no) (s5 := .no) (s6 := .no)
  apply en_seq (e1 := [.own false ⟨.lst, p1.l⟩, .val x.d, .val (r.d c), .val (.lst (odds c)), .no, .no, .no, .no, .no])
  · exists l3, any_odd
  -- the four numbers that are asked
  have tA := take2_ev (c := c) (m := 60) o1 (by omega) (by decide) (by decide)
  have oA := tk2_ok (m := 60) o1 (by decide)
  obtain ⟨a0, a1⟩ := tk2_rng (p := p1) (m := 60) (by decide)
  obtain ⟨A, hA⟩ : ∃ A : Nat, (tk2 p1 60).1 = (A : Int) := ⟨(tk2 p1 60).1.toNat, by omega⟩
  obtain ⟨pA, hpA⟩ : ∃ q, q = (tk2 p1 60).2 := ⟨_, rfl⟩
  rw [hA] at tA a1
  rw [← hpA] at tA oA
  have tB := take2_ev (c := c) (m := 400) oA (by omega) (by decide) (by decide)
  have oB := tk2_ok (m := 400) oA (by decide)
  obtain ⟨b0, b3⟩ := tk2_rng (p := pA) (m := 400) (by decide)
  obtain ⟨B, hB⟩ : ∃ B : Nat, (tk2 pA 400).1 = (B : Int) := ⟨(tk2 pA 400).1.toNat, by omega⟩
  obtain ⟨pB, hpB⟩ : ∃ q, q = (tk2 pA 400).2 := ⟨_, rfl⟩
  rw [hB] at tB b3
  rw [← hpB] at tB oB
  have tC := take2_ev (c := c) (m := 5) oB (by omega) (by decide) (by decide)
  have oC := tk2_ok (m := 5) oB (by decide)
  obtain ⟨c0, c3⟩ := tk2_rng (p := pB) (m := 5) (by decide)
  obtain ⟨C, hC⟩ : ∃ C : Nat, (tk2 pB 5).1 = (C : Int) := ⟨(tk2 pB 5).1.toNat, by omega⟩
  obtain ⟨pC, hpC⟩ : ∃ q, q = (tk2 pB 5).2 := ⟨_, rfl⟩
  rw [hC] at tC c3
  rw [← hpC] at tC oC
  have pw9 : powD (.int 10) (.int 9) = some (.int 1000000000) := (powD_ev (i := 10) (n := 9) (k := 4) (by unfold bdi; decide) (by decide) (by decide)).trans (by rfl)
  have sbC : (fun x y => ((subD x y).or ((ownL c.Rounds (F_Rounds___sub__ c)) x y))) (.int 1000000000) (.int (C : Int)) = some (nD (1000000000 - C)) := by
    rw [sb]
    show some (D.int _) = some (D.int _)
    rw [show (1000000000 : Int) - (C : Int) = ((1000000000 - C : Nat) : Int) by omega]
  have iA : ∀ e, insM c.Rounds "after" (r.d c) e = some (.ok (), e) := fun e => by
    show Mo.lift (if c.Rounds = c.Rounds ∧ _ then some () else none) e = _
    rw [if_pos ⟨rfl, rfl⟩]; rfl
  have iM : ∀ e, insM c.Rounds "members" (r.d c) e = some (.ok (), e) := fun e => by
    show Mo.lift (if c.Rounds = c.Rounds ∧ _ then some () else none) e = _
    rw [if_pos ⟨rfl, rfl⟩]; rfl
  apply en_seqE
  apply en_for (σ := SD × SD) nD (fun q => [.own false ⟨.lst, pC.l⟩, .val x.d, .val (r.d c), .val (.lst (odds c)), q.1, q.2, .no, .no, .no]) (fun _ xs => ∀ n ∈ xs, n ≤ 1000000000) [0, A, B, 1000000000 - C] (.no, .no) (ds := [nD 0, nD A, nD B, nD (1000000000 - C)]) (e1 := [.own false ⟨.lst, pC.l⟩, .val x.d, .val (r.d c), .val (.lst (odds c)), .no, .no, .no, .no, .no])
  · have it : iterD (.lst [D.int 0, nD A, nD B, nD (1000000000 - C)]) = some [nD 0, nD A, nD B, nD (1000000000 - C)] := rfl
    exists tA, tB, pw9, tC, sbC, it
  · rfl
  · rfl
  · intro n hn
    simp only [List.mem_cons, List.not_mem_nil, or_false] at hn
    omega
  · rintro ⟨q1, q2⟩ f xs hq
    have hf := hq f List.mem_cons_self
    obtain ⟨l, z, t, e0, e1, e2, e3, e4, e5⟩ := asked (c := c) s hm hf
    have e2 : (F_Rounds_members c [r.d c, nD f, .int 3]).map D.lst = some (.lst (l.map nD)) := by rw [e2]; rfl
    have ad : addA (.lst (l.map nD)) (.lst [.non]) = some (.lst (l.map nD ++ [.non])) := addA_lst (by rw [List.length_map]; show l.length + 1 ≤ 1000; omega)
    have nn := neR_nats (c := c) (l := l)
    apply lp_mk (e2 := [.own false ⟨.lst, pC.l⟩, .val x.d, .val (r.d c), .val (.lst (odds c)), .val (nD f), q2, .no, .no, .no])
    · rfl
    refine ⟨.nx, [.own false ⟨.lst, pC.l⟩, .val x.d, .val (r.d c), .val (.lst (odds c)), .val (nD f), .val (.lst (l.map nD)), .no, .no, .no], ?_, rfl, (.val (nD f), .val (.lst (l.map nD))), rfl, fun n hn => hq n (List.mem_cons_of_mem _ hn)⟩
    exists e1, e2, e3, e4, e5, iA _, iM _, ad, neR_str, nn
  rintro ⟨q1, q2⟩ _
  refine ⟨rfl, ?_⟩
  -- how many
  have tD := take2_ev (c := c) (m := 9) oC (by omega) (by decide) (by decide)
  have oD := tk2_ok (m := 9) oC (by decide)
  obtain ⟨d0, d3⟩ := tk2_rng (p := pC) (m := 9) (by decide)
  obtain ⟨N, hN⟩ : ∃ N : Nat, (tk2 pC 9).1 = (N : Int) := ⟨(tk2 pC 9).1.toNat, by omega⟩
  obtain ⟨pD, hpD⟩ : ∃ q, q = (tk2 pC 9).2 := ⟨_, rfl⟩
  rw [hN] at tD d3
  rw [← hpD] at tD oD
  obtain ⟨l, h1, h2⟩ := law_members_ev (c := c) s hm (f := 5) (k := N) (by decide) (by omega)
  obtain ⟨l', g3, g4⟩ := members_ev (c := c) rk.wk (f := 5) (k := N) (by decide) (by omega)
  cases h1.eq g3
  have g4 : (F_Rounds_members c [r.d c, .int 5, nD N]).map D.lst = some (.lst (l.map nD)) := by
    have : F_Rounds_members c [r.d c, .int 5, nD N] = some (l.map nD) := g4
    rw [this]; rfl
  have h2 : F__law_members c [x.d, .int 5, nD N] = some (.ok (.lst (l.map nD))) := h2
  obtain ⟨l0, k3, k4⟩ := members_ev (c := c) rk.wk (f := 0) (k := 0) (by decide) (by decide)
  have k3 : l0 = [] := k3
  subst k3
  have k4 : (F_Rounds_members c [r.d c, .int 0, .int 0]).map D.lst = some (.lst []) := by
    have : F_Rounds_members c [r.d c, .int 0, .int 0] = some [] := k4
    rw [this]; rfl
  have en := eqR_nats (c := c) (l := l)
  have e0 : oEqR c (.lst []) (.lst []) = some (.bl true) := eqR_nats (c := c) (l := [])
  refine ⟨.rt (.bl true), [.own false ⟨.lst, pD.l⟩, .val x.d, .val (r.d c), .val (.lst (odds c)), q1, q2, .val (nD N), .no, .no], ?_, .ok (.bl true), ⟨.lst, pD.l⟩, rfl, rfl, rfl, pD, rfl, oD.mono (by omega)⟩
  exists tD, iM _, g4, h2, en, truD_bl, k4, e0
end
end LX
namespace LX
open PySem PySem.Spec PyProof.Rows PySem.Calls L2 PD
local macro_rules
  | `(tactic| exists $fs,*) => do
    let mut t ← `(tactic| fail)
    for f in fs.getElems.reverse do
      t ← `(tactic| first | exact $f | $t:tactic)
    `(tactic| repeat' (first | (with_reducible first | exact x_ret | apply x_bind | apply x_bok | exact x_berr | apply x_lift | apply x_liftR | apply x_seq | apply x_snx | exact x_srt | exact x_sex | exact x_srf | exact x_sbk | exact x_sct | exact x_nx | apply x_of | apply x_ook | exact x_oerr | apply x_asg | apply x_if | apply x_callM | apply x_ixN | apply x_par | apply x_par3 | apply x_own | apply x_parO | apply x_mut | apply x_fld | apply x_for | exact x_jsnil | apply x_jscons | exact x_isFn) | ((with_reducible first | apply x_get | apply x_ixV | apply x_fldV | apply x_unpO | apply x_peekV); exact rfl) | ((with_reducible first | apply x_getO | apply x_ixO | apply x_fldO | apply x_unpV | apply x_peekO); exact rfl) | ((with_reducible first | apply x_tup | apply x_lst | apply x_ln); exact Nat.le_of_ble_eq_true rfl) | ((with_reducible first | apply x_len | apply x_ins); exact rfl) | ((with_reducible first | apply x_ifT | apply x_mifT); with_reducible exact rfl) | ((with_reducible first | apply x_ifF | apply x_mifF); with_reducible exact rfl) | ((with_reducible first | apply x_ifT | apply x_mifT); with_reducible first | exact rfl | exact bnot_t | exact bnot_f | assumption | $t:tactic | exact decide_eq_true (by first | assumption | omega)) | ((with_reducible first | apply x_ifF | apply x_mifF); with_reducible first | exact rfl | exact bnot_t | exact bnot_f | assumption | $t:tactic | exact decide_eq_false (by first | assumption | omega)) | (with_reducible $t:tactic) | ((simp only [List.set_cons_zero, List.set_cons_succ, List.cons_append, List.nil_append, wipeE, restE, OV_d_lst, List.getD_cons_succ, List.getD_cons_zero]); exact rfl) | exact rfl | ((with_reducible show (_ = _)); assumption)))
section
variable {c : Cs} {r : Rd} {x : Md}
def Rd.list (l : List Nat) : Rd := ⟨1, [false], l⟩
theorem told_list {l : List Nat} {z : List Nat} {n : Nat} (e : l = z ++ [n]) (hl : l.length < 1000) (so : l.Pairwise (· < ·)) (hk : ∀ x ∈ l, x ≤ 1000000) : starP 0 (F_Rounds_told c) (l.map nD) = some (.ok ((Rd.list l).d c)) := by
  have ca : F_check_ascending c [.tup (l.map nD), .int 1000000] = some (.ok .non) := check_asc_ev (l := l) (k := 1000000) hl so hk
  have ln : lenD [.tup (l.map nD)] = some (.int (l.length : Int)) := len_mapT
  have c1 : (cmpI fun i j => decide (j < i)) (.int (l.length : Int)) (.int 0) = some (.bl true) := cgt_t (i := (l.length : Int)) (j := 0) (by rw [e]; simp)
  have ng : negD (.int 1) = some (.int (-1)) := rfl
  have ix : ixD (.tup (l.map nD)) (.int (-1)) = some (nD n) := by rw [e]; exact ix_lastT
  have mk : mkD c.Rounds (F_Rounds___init__ c) ([.int 1, .int ((n : Int) + 1), .tup (l.map nD), .tup []] ++ []) = some (.ok ((Rd.list l).d c)) :=
    init_ev (m := 1) (hf := fun _ => false) (o := l) (by decide) (fun k _ => inA_nt (l := [])) (ob_no (l := l.map nD) rfl)
  have go : F_Rounds_told c [.tup (l.map nD)] = some (.ok ((Rd.list l).d c)) := by
    apply x_P (n := 1) rfl
    exact (show stE ["members", "begin"] [.tup (l.map nD)] = [.val (.tup (l.map nD)), .no] from rfl)
    unfold m_Rounds_told
    exists ca, ln, c1, ng, ix, addA_int, mk
  unfold starP
  rw [if_pos ⟨Nat.zero_le _, by rw [List.drop_zero, List.length_map]; exact Nat.le_trans (Nat.le_of_lt hl) (by decide)⟩]
  exact go
theorem list_wk {l : List Nat} (so : l.Pairwise (· < ·)) : (Rd.list l).wk := ⟨Nat.zero_lt_one, rfl, so⟩
theorem list_mem {l : List Nat} (n : Nat) : (Rd.list l).mem n = decide (n ∈ l) := by
  show (([false].getD (n % 1) false) != decide (n ∈ l)) = _
  rw [Nat.mod_one]
  cases decide (n ∈ l) <;> rfl
theorem rests_wk {m : Nat} {l : List Nat} (h0 : 0 < m) : (Rd.rests m l).wk := ⟨h0, by show ((List.range m).map _).length = m; rw [List.length_map, List.length_range], List.Pairwise.nil⟩
theorem after_of (h : r.wk) {f : Nat} {z : Option Nat} (hf : f ≤ 1000000000) (hz : NxOk r f z) : F_Rounds_after c [r.d c, nD f] = some (.ok (oD z)) := by
  obtain ⟨y, h1, h2⟩ := after_ev (c := c) h hf
  rw [h1.eq hz] at h2
  exact h2
theorem members_of (h : r.wk) {f k : Nat} {l : List Nat} (hf : f ≤ 1000000000) (hk : k < 1000) (hl : MbOk r f k l) : (F_Rounds_members c [r.d c, nD f, nD k]).map D.lst = some (.lst (l.map nD)) := by
  obtain ⟨y, h1, h2⟩ := members_ev (c := c) h hf hk
  rw [h1.eq hl] at h2
  rw [h2]; rfl
theorem whole_no (h : r.h.all id = false) : F_Rounds_whole_from c [r.d c] = some (.ok .non) := by
  have fh : fldD c.Rounds "hits" (r.d c) = some (.tup (r.h.map .bl)) := fl_h
  have al : allA [.tup (r.h.map .bl)] = some (.bl false) := by rw [bls_allT, h]
  apply x_P (n := 1) rfl
  exact (show stE ["self"] [r.d c] = [.val (r.d c)] from rfl)
  unfold m_Rounds_whole_from
  exists fh, al
theorem whole_0 (h : r.h.all id = true) (ho : r.o = []) : F_Rounds_whole_from c [r.d c] = some (.ok (.int 0)) := by
  have fh : fldD c.Rounds "hits" (r.d c) = some (.tup (r.h.map .bl)) := fl_h
  have al : allA [.tup (r.h.map .bl)] = some (.bl true) := by rw [bls_allT, h]
  have fo : fldD c.Rounds "others" (r.d c) = some (.tup []) := by
    have : fldD c.Rounds "others" (r.d c) = some (.tup (r.o.map nD)) := fl_o
    rw [ho] at this; exact this
  have ln : lenD [.tup []] = some (.int 0) := rfl
  have cg : (cmpI fun i j => decide (j < i)) (.int 0) (.int 0) = some (.bl false) := rfl
  apply x_P (n := 1) rfl
  exact (show stE ["self"] [r.d c] = [.val (r.d c)] from rfl)
  unfold m_Rounds_whole_from
  exists fh, al, fo, ln, cg
section
variable {a b : Nat} (ha : a < 1000) (hb0 : 0 < b) (hb : b < 1000)
include ha hb0 hb
theorem so3 : [a, a + b, 1000000].Pairwise (· < ·) := by
  simp only [List.pairwise_cons, List.mem_cons, List.not_mem_nil, or_false, List.Pairwise.nil, and_true, forall_eq_or_imp, forall_eq]
  refine ⟨⟨by omega, by omega⟩, by omega, fun _ h => h.elim⟩
theorem some_told : starP 0 (F_Rounds_told c) ([a, a + b, 1000000].map nD) = some (.ok ((Rd.list [a, a + b, 1000000]).d c)) :=
  told_list (z := [a, a + b]) (n := 1000000) rfl (by show 3 < 1000; decide) (so3 ha hb0 hb) fun x hx => by
    simp only [List.mem_cons, List.not_mem_nil, or_false] at hx; omega
theorem some_members : (F_Rounds_members c [(Rd.list [a, a + b, 1000000]).d c, nD 0, nD 9]).map D.lst = some (.lst ([a, a + b, 1000000].map nD)) :=
  members_of (list_wk (so3 ha hb0 hb)) (by decide) (by decide) (mb_list [a, a + b, 1000000] 0 9 (so3 ha hb0 hb) (fun n _ => Nat.zero_le n) fun n _ => list_mem n)
theorem some_after : F_Rounds_after c [(Rd.list [a, a + b, 1000000]).d c, nD (a + 1)] = some (.ok (nD (a + b))) :=
  after_of (list_wk (so3 ha hb0 hb)) (z := some (a + b)) (by omega) ⟨by omega, by rw [list_mem]; simp, fun k h1 h2 => by
    rw [list_mem]
    exact decide_eq_false fun z => by simp only [List.mem_cons, List.not_mem_nil, or_false] at z; omega⟩
theorem some_after2 : F_Rounds_after c [(Rd.list [a, a + b, 1000000]).d c, nD 1000001] = some (.ok .non) :=
  after_of (list_wk (so3 ha hb0 hb)) (z := none) (by decide) fun k h1 => by
    rw [list_mem]
    exact decide_eq_false fun z => by simp only [List.mem_cons, List.not_mem_nil, or_false] at z; omega
theorem big_rests : starP 1 (F_Rounds_rests c) (.int 5040 :: [0, b, 5039].map nD) = some (.ok ((Rd.rests 5040 [0, b, 5039]).d c)) :=
  rests_ev (m := 5040) (l := [0, b, 5039]) (by decide) (by decide) (by show 3 < 1000; decide) (by
    simp only [List.pairwise_cons, List.mem_cons, List.not_mem_nil, or_false, List.Pairwise.nil, and_true, forall_eq_or_imp, forall_eq]
    refine ⟨⟨by omega, by omega⟩, by omega, fun _ h => h.elim⟩) fun x hx => by
      simp only [List.mem_cons, List.not_mem_nil, or_false] at hx; omega
theorem big_mem (k : Nat) : (Rd.rests 5040 [0, b, 5039]).mem k = decide (k % 5040 = 0 ∨ k % 5040 = b ∨ k % 5040 = 5039) := by
  rw [Rd.rests_mem (by decide)]
  exact decide_eq_decide.mpr (by simp only [List.mem_cons, List.not_mem_nil, or_false])
theorem big_members : (F_Rounds_members c [(Rd.rests 5040 [0, b, 5039]).d c, nD 5000, nD 4]).map D.lst = some (.lst ([5039, 5040, 5040 + b, 10079].map nD)) := by
  have mm := fun k => big_mem ha hb0 hb k
  refine members_of (rests_wk (by decide)) (by decide) (by decide) (.inr ⟨5039, _, ⟨by omega, ?_, fun k h1 h2 => ?_⟩, .inr ⟨5040, _, ⟨by omega, ?_, fun k h1 h2 => ?_⟩, .inr ⟨5040 + b, _, ⟨by omega, ?_, fun k h1 h2 => ?_⟩, .inr ⟨10079, _, ⟨by omega, ?_, fun k h1 h2 => ?_⟩, rfl, rfl⟩, rfl⟩, rfl⟩, rfl⟩)
  all_goals rw [mm]
  all_goals first
    | exact decide_eq_true (by omega)
    | exact decide_eq_false (by omega)
end
theorem nil_after : F_Rounds_after c [Rd.nil.d c, nD 0] = some (.ok .non) := after_of Rd.nil_ok.wk (z := none) (by decide) fun k _ => Rd.nil_mem
theorem one_after : F_Rounds_after c [(Rd.rests 1 [0]).d c, nD 1000000000] = some (.ok (nD 1000000000)) :=
  after_of (rests_wk (by decide)) (z := some 1000000000) (Nat.le_refl _) ⟨Nat.le_refl _, by rw [Rd.rests_mem (by decide)]; decide, fun k h1 h2 => by omega⟩
end
end LX
namespace LX
open PySem PySem.Spec PyProof.Rows PySem.Calls L2 PD
local macro_rules
  | `(tactic| exists $fs,*) => do
    let mut t ← `(tactic| fail)
    for f in fs.getElems.reverse do
      t ← `(tactic| first | exact $f | $t:tactic)
    `(tactic| repeat' (first | (with_reducible first | exact x_ret | apply x_bind | apply x_bok | exact x_berr | apply x_lift | apply x_liftR | apply x_seq | apply x_snx | exact x_srt | exact x_sex | exact x_srf | exact x_sbk | exact x_sct | exact x_nx | apply x_of | apply x_ook | exact x_oerr | apply x_asg | apply x_if | apply x_callM | apply x_ixN | apply x_par | apply x_par3 | apply x_own | apply x_parO | apply x_mut | apply x_fld | apply x_for | exact x_jsnil | apply x_jscons | exact x_isFn) | ((with_reducible first | apply x_get | apply x_ixV | apply x_fldV | apply x_unpO | apply x_peekV); exact rfl) | ((with_reducible first | apply x_getO | apply x_ixO | apply x_fldO | apply x_unpV | apply x_peekO); exact rfl) | ((with_reducible first | apply x_tup | apply x_lst | apply x_ln); exact Nat.le_of_ble_eq_true rfl) | ((with_reducible first | apply x_len | apply x_ins); exact rfl) | ((with_reducible first | apply x_ifT | apply x_mifT); with_reducible exact rfl) | ((with_reducible first | apply x_ifF | apply x_mifF); with_reducible exact rfl) | ((with_reducible first | apply x_ifT | apply x_mifT); with_reducible first | exact rfl | exact bnot_t | exact bnot_f | assumption | $t:tactic | exact decide_eq_true (by first | assumption | omega)) | ((with_reducible first | apply x_ifF | apply x_mifF); with_reducible first | exact rfl | exact bnot_t | exact bnot_f | assumption | $t:tactic | exact decide_eq_false (by first | assumption | omega)) | (with_reducible $t:tactic) | ((simp only [List.set_cons_zero, List.set_cons_succ, List.cons_append, List.nil_append, wipeE, restE, OV_d_lst, List.getD_cons_succ, List.getD_cons_zero]); exact rfl) | exact rfl | ((with_reducible show (_ = _)); assumption)))
section
variable {c : Cs} {r : Rd}
theorem eqS_refl0 : eqSL [] [] = true := rfl
theorem eqS_non0 : eqS .non .non = true := rfl
theorem fnR : isFnM c.Rounds (.fn c.Rounds) = fun e => some (.ok (), e) := by
  unfold isFnM fnOf?
  show Mo.lift (if c.Rounds = c.Rounds then some () else none) = _
  rw [if_pos rfl]; rfl
theorem isF {e : En} : isFnM c.Rounds (.fn c.Rounds) e = some (.ok (), e) := by rw [fnR]
theorem several_ev (hk : c.Rounds ∈ c.known) {p : Pv} {k : Int} (h : p.ok k) (hkk : k ≤ 800000) : ∃ rr l, F__law_several_right c ⟨.lst, p.l⟩ [] = some (rr, l) ∧ rr = .ok (.bl true) := by
  have tA := take2_ev (c := c) (m := 1000) h (by omega) (by decide) (by decide)
  have oA := tk2_ok (m := 1000) h (by decide)
  obtain ⟨a0, a1⟩ := tk2_rng (p := p) (m := 1000) (by decide)
  obtain ⟨a, hA⟩ : ∃ A : Nat, (tk2 p 1000).1 = (A : Int) := ⟨(tk2 p 1000).1.toNat, by omega⟩
  obtain ⟨pA, hpA⟩ : ∃ q, q = (tk2 p 1000).2 := ⟨_, rfl⟩
  rw [hA] at tA a1
  rw [← hpA] at tA oA
  have tB := take2_ev (c := c) (m := 999) oA (by omega) (by decide) (by decide)
  obtain ⟨b0, b1⟩ := tk2_rng (p := pA) (m := 999) (by decide)
  obtain ⟨v, hB⟩ : ∃ A : Nat, (tk2 pA 999).1 = (A : Int) := ⟨(tk2 pA 999).1.toNat, by omega⟩
  obtain ⟨pB, hpB⟩ : ∃ q, q = (tk2 pA 999).2 := ⟨_, rfl⟩
  rw [hB] at tB b1
  rw [← hpB] at tB
  obtain ⟨b, hb⟩ : ∃ b : Nat, b = v + 1 := ⟨_, rfl⟩
  have ad1 : addA (.int 1) (.int (v : Int)) = some (nD b) := by
    rw [addA_int, hb]
    show some (D.int _) = some (D.int _)
    rw [show (1 : Int) + (v : Int) = ((v + 1 : Nat) : Int) by omega]
  have ha : a < 1000 := by omega
  have hb0 : 0 < b := by omega
  have hb1 : b < 1000 := by omega
  have adB : addA (nD a) (nD b) = some (nD (a + b)) := addA_int
  have ad1a : addA (nD a) (.int 1) = some (nD (a + 1)) := addA_int
  have pw6 : powD (.int 10) (.int 6) = some (nD 1000000) := (powD_ev (i := 10) (n := 6) (k := 4) (by unfold bdi; decide) (by decide) (by decide)).trans (by rfl)
  have pw9 : powD (.int 10) (.int 9) = some (nD 1000000000) := (powD_ev (i := 10) (n := 9) (k := 4) (by unfold bdi; decide) (by decide) (by decide)).trans (by rfl)
  have ad6 : addA (nD 1000000) (.int 1) = some (nD 1000001) := addA_int
  have adb : addA (.int 5040) (nD b) = some (nD (5040 + b)) := addA_int
  have adc : addA (.int 5040) (.int 5039) = some (nD 10079) := addA_int
  have s1 : starP 0 (F_Rounds_told c) [nD a, nD (a + b), nD 1000000] = some (.ok ((Rd.list [a, a + b, 1000000]).d c)) := some_told ha hb0 hb1
  have s2 : starP 1 (F_Rounds_rests c) [.int 5040, .int 0, nD b, .int 5039] = some (.ok ((Rd.rests 5040 [0, b, 5039]).d c)) := big_rests ha hb0 hb1
  have s3 : (F_Rounds_members c [(Rd.list [a, a + b, 1000000]).d c, .int 0, .int 9]).map D.lst = some (.lst [nD a, nD (a + b), nD 1000000]) := some_members ha hb0 hb1
  have s4 : (F_Rounds_members c [(Rd.rests 5040 [0, b, 5039]).d c, .int 5000, .int 4]).map D.lst = some (.lst [.int 5039, .int 5040, nD (5040 + b), nD 10079]) := big_members ha hb0 hb1
  have s5 := some_after (c := c) ha hb0 hb1
  have s6 := some_after2 (c := c) ha hb0 hb1
  have s7 : F_Rounds_after c [Rd.nil.d c, .int 0] = some (.ok .non) := nil_after
  have s8 := one_after (c := c)
  have tn := told_nil (c := c)
  have r1 : starP 1 (F_Rounds_rests c) [.int 1, .int 0] = some (.ok ((Rd.rests 1 [0]).d c)) := rests_ev (m := 1) (l := [0]) (by decide) (by decide) (by decide) (List.pairwise_singleton _ _) (by decide)
  have r7 : starP 1 (F_Rounds_rests c) [.int 7] = some (.ok ((Rd.rests 7 []).d c)) := rests_ev (m := 7) (l := []) (by decide) (by decide) (by decide) List.Pairwise.nil (by decide)
  have r2 : starP 1 (F_Rounds_rests c) [.int 2, .int 0, .int 1] = some (.ok ((Rd.rests 2 [0, 1]).d c)) := rests_ev (m := 2) (l := [0, 1]) (by decide) (by decide) (by decide) (by decide) (by decide)
  have r3 : starP 1 (F_Rounds_rests c) [.int 3, .int 0, .int 1] = some (.ok ((Rd.rests 3 [0, 1]).d c)) := rests_ev (m := 3) (l := [0, 1]) (by decide) (by decide) (by decide) (by decide) (by decide)
  have w1 := own1_ev (r := Rd.rests 2 [0, 1]) (whole_0 (c := c) (by decide) rfl)
  have w2 := own1_ev (r := Rd.list [a, a + b, 1000000]) (whole_no (c := c) rfl)
  have w3 := own1_ev (r := Rd.rests 3 [0, 1]) (whole_no (c := c) (by decide))
  have m1 : fldD c.Rounds "modulus" ((Rd.list [a, a + b, 1000000]).d c) = some (.int 1) := fl_m
  have m2 : fldD c.Rounds "modulus" ((Rd.rests 5040 [0, b, 5039]).d c) = some (.int 5040) := fl_m
  have iA : ∀ (q : Rd) (e : En), insM c.Rounds "after" (q.d c) e = some (.ok (), e) := fun q e => by
    show Mo.lift (if c.Rounds = c.Rounds ∧ _ then some () else none) e = _
    rw [if_pos ⟨rfl, rfl⟩]; rfl
  have iM : ∀ (q : Rd) (e : En), insM c.Rounds "members" (q.d c) e = some (.ok (), e) := fun q e => by
    show Mo.lift (if c.Rounds = c.Rounds ∧ _ then some () else none) e = _
    rw [if_pos ⟨rfl, rfl⟩]; rfl
  have bn := bool_ev (c := c) Rd.nil_ok
  have bn : oBoolR c [Rd.nil.d c] = some (.bl false) := bn
  have b7 := bool_ev (c := c) (Rd.rests_ok (m := 7) (l := []) (by decide) (by decide))
  have b7 : oBoolR c [(Rd.rests 7 []).d c] = some (.bl false) := b7.trans (by rfl)
  have n1 : oNeR c (.lst [.lst [nD a, nD (a + b), nD 1000000], .lst [.int 5039, .int 5040, nD (5040 + b), nD 10079], .int 1, .int 5040]) (.lst [.lst [nD a, nD (a + b), nD 1000000], .lst [.int 5039, .int 5040, nD (5040 + b), nD 10079], .int 1, .int 5040]) = some (.bl false) := neR_of (by
    rw [neD_pl rfl rfl]
    simp [eqS_lst, eqSL_cons, eqS_int, eqS_refl0])
  have n2 : oNeR c (.lst [nD (a + b), .non, .non, nD 1000000000]) (.lst [nD (a + b), .non, .non, nD 1000000000]) = some (.bl false) := neR_of (by
    rw [neD_pl rfl rfl]
    simp [eqS_lst, eqSL_cons, eqS_int, eqS_refl0, eqS_non0])
  have n3 : oEqR c (.lst [.int 0, .non, .non]) (.lst [.int 0, .non, .non]) = some (.bl true) := eqR_of (by rw [eqD_pl rfl rfl]; rfl)
  apply x_ME (n := 1) rfl
  exact (show stO ["_law_draws", "_law_a", "_law_b", "_law_some", "_law_rests", "_law_found"] ⟨.lst, p.l⟩ [] = [.own false ⟨.lst, p.l⟩, .no, .no, .no, .no, .no] from rfl)
  unfold m__law_several_right
  apply en_seq (e1 := [.own false ⟨.lst, pB.l⟩, .val (nD a), .val (nD b), .no, .no, .no])
  · exists tA, tB, ad1
  apply en_seq (e1 := [.own false ⟨.lst, pB.l⟩, .val (nD a), .val (nD b), .val ((Rd.list [a, a + b, 1000000]).d c), .val ((Rd.rests 5040 [0, b, 5039]).d c), .no])
  · exists isF, adB, pw6, s1, s2
  apply en_seq (e1 := [.own false ⟨.lst, pB.l⟩, .val (nD a), .val (nD b), .val ((Rd.list [a, a + b, 1000000]).d c), .val ((Rd.rests 5040 [0, b, 5039]).d c), .val (.lst [.lst [nD a, nD (a + b), nD 1000000], .lst [.int 5039, .int 5040, nD (5040 + b), nD 10079], .int 1, .int 5040])])
  · exists iM _ _, s3, s4, m1, m2
  apply en_seq (e1 := [.own false ⟨.lst, pB.l⟩, .val (nD a), .val (nD b), .val ((Rd.list [a, a + b, 1000000]).d c), .val ((Rd.rests 5040 [0, b, 5039]).d c), .val (.lst [.lst [nD a, nD (a + b), nD 1000000], .lst [.int 5039, .int 5040, nD (5040 + b), nD 10079], .int 1, .int 5040])])
  · exists adB, pw6, adb, adc, n1
  apply en_seq (e1 := [.own false ⟨.lst, pB.l⟩, .val (nD a), .val (nD b), .val ((Rd.list [a, a + b, 1000000]).d c), .val ((Rd.rests 5040 [0, b, 5039]).d c), .val (.lst [nD (a + b), .non, .non, nD 1000000000])])
  · exists iA _ _, ad1a, s5, pw6, ad6, s6, isF, tn, s7, r1, pw9, s8
  apply en_seq (e1 := [.own false ⟨.lst, pB.l⟩, .val (nD a), .val (nD b), .val ((Rd.list [a, a + b, 1000000]).d c), .val ((Rd.rests 5040 [0, b, 5039]).d c), .val (.lst [nD (a + b), .non, .non, nD 1000000000])])
  · exists adB, pw9, n2, isF, tn, bn, r7, b7
  refine ⟨.rt (.bl true), [.own false ⟨.lst, pB.l⟩, .val (nD a), .val (nD b), .val ((Rd.list [a, a + b, 1000000]).d c), .val ((Rd.rests 5040 [0, b, 5039]).d c), .val (.lst [nD (a + b), .non, .non, nD 1000000000])], ?_, .ok (.bl true), ⟨.lst, pB.l⟩, rfl, rfl, rfl⟩
  exists isF, r2, w1, w2, r3, w3, n3
end
end LX
namespace LX
open PySem PySem.Spec PyProof.Rows PySem.Calls L2 PD
local macro_rules
  | `(tactic| exists $fs,*) => do
    let mut t ← `(tactic| fail)
    for f in fs.getElems.reverse do
      t ← `(tactic| first | exact $f | $t:tactic)
    `(tactic| repeat' (first | (with_reducible first | exact x_ret | apply x_bind | apply x_bok | exact x_berr | apply x_lift | apply x_liftR | apply x_seq | apply x_snx | exact x_srt | exact x_sex | exact x_srf | exact x_sbk | exact x_sct | exact x_nx | apply x_of | apply x_ook | exact x_oerr | apply x_asg | apply x_if | apply x_callM | apply x_ixN | apply x_par | apply x_par3 | apply x_own | apply x_parO | apply x_mut | apply x_fld | apply x_for | exact x_jsnil | apply x_jscons | exact x_isFn) | ((with_reducible first | apply x_get | apply x_ixV | apply x_fldV | apply x_unpO | apply x_peekV); exact rfl) | ((with_reducible first | apply x_getO | apply x_ixO | apply x_fldO | apply x_unpV | apply x_peekO); exact rfl) | ((with_reducible first | apply x_tup | apply x_lst | apply x_ln); exact Nat.le_of_ble_eq_true rfl) | ((with_reducible first | apply x_len | apply x_ins); exact rfl) | ((with_reducible first | apply x_ifT | apply x_mifT); with_reducible exact rfl) | ((with_reducible first | apply x_ifF | apply x_mifF); with_reducible exact rfl) | ((with_reducible first | apply x_ifT | apply x_mifT); with_reducible first | exact rfl | exact bnot_t | exact bnot_f | assumption | $t:tactic | exact decide_eq_true (by first | assumption | omega)) | ((with_reducible first | apply x_ifF | apply x_mifF); with_reducible first | exact rfl | exact bnot_t | exact bnot_f | assumption | $t:tactic | exact decide_eq_false (by first | assumption | omega)) | (with_reducible $t:tactic) | ((simp only [List.set_cons_zero, List.set_cons_succ, List.cons_append, List.nil_append, wipeE, restE, OV_d_lst, List.getD_cons_succ, List.getD_cons_zero]); exact rfl) | exact rfl | ((with_reducible show (_ = _)); assumption)))
section
variable {c : Cs}
theorem law_ev (hk : c.Rounds ∈ c.known) (hR : c.Ratio ∈ c.known) {ns : List Int} : F_law c [.scr ns] = some (.ok (.bl true)) := by
  have hl : lenD [.scr ns] = some (.int (ns.length : Nat)) := rfl
  obtain ⟨j, hj0, hj1, hj⟩ : ∃ j : Int, 0 ≤ j ∧ j ≤ 4 ∧ max2D [.int 1, .int (if (4 : Int) < (ns.length : Nat) then (4 : Int) else (ns.length : Nat))] = some (.int j) := by
    refine ⟨if (if (4 : Int) < (ns.length : Nat) then (4 : Int) else (ns.length : Nat)) > 1 then (if (4 : Int) < (ns.length : Nat) then (4 : Int) else (ns.length : Nat)) else 1, ?_, ?_, rfl⟩ <;> (split <;> split <;> omega)
  have hm : min2D [.int (ns.length : Nat), .int 4] = some (.int (if (4 : Int) < (ns.length : Nat) then (4 : Int) else (ns.length : Nat))) := rfl
  obtain ⟨J, rfl⟩ : ∃ J : Nat, j = (J : Int) := ⟨j.toNat, by omega⟩
  have hr : rng1D [.int (J : Int)] = some ((List.range J).map nD) := rng1_nat (by omega)
  apply x_PE (n := 1) rfl
  exact (show stE ["_law_cells", "_law_at", "_law_draws"] [.scr ns] = [.val (.scr ns), .no, .no] from rfl)
  unfold m_law
  apply en_seqE
  apply en_for (σ := SD × SD) nD (fun q => [.val (.scr ns), q.1, q.2]) (fun _ xs => ∀ n ∈ xs, n < 1000) (List.range J) (.no, .no) (ds := (List.range J).map nD) (e1 := [.val (.scr ns), .no, .no])
  · exists hl, hj, hm, hr
  · rfl
  · rfl
  · intro n hn
    have := List.mem_range.mp hn
    omega
  · rintro ⟨q1, q2⟩ n xs hq
    have hn := hq n List.mem_cons_self
    obtain ⟨p, h1, h2⟩ := purse2_ev (c := c) (ns := ns) (a := (n : Int)) (by omega) (by omega)
    obtain ⟨_, _, h3, rfl, p', rfl, h4⟩ := right_ev (c := c) hk hR h1 (by omega)
    obtain ⟨_, l, h5, rfl⟩ := several_ev (c := c) hk h4 (by omega)
    apply lp_mk (e2 := [.val (.scr ns), .val (nD n), q2])
    · rfl
    refine ⟨.nx, [.val (.scr ns), .val (nD n), .own true l], ?_, rfl, (.val (nD n), .own true l), rfl, fun z hz => hq z (List.mem_cons_of_mem _ hz)⟩
    apply x_seq (o := .nx) (e1 := [.val (.scr ns), .val (nD n), .own true ⟨.lst, p.l⟩])
    · exists h2
    apply x_snx
    exists h3, h5
  rintro ⟨q1, q2⟩ _
  exact ⟨rfl, .rt (.bl true), [.val (.scr ns), q1, q2], by (exists rfl), rfl⟩
end
end LX
namespace PD
open PySem PySem.Spec PyProof.Rows L2
theorem law_walk2 {l : PySem.W.OpenLaw} {q : Program} {loose : List Str} {XP : (Str → Option Value) → Heap → Prop} {YP : World → Heap → Prop} {d : DefRec} {x : Str} {k : Nat} (hr : RoomG k callerA) (hn : l.most = some 63) (hdf : d.params.defaults = [])
    (F : ∀ (w : World) (mg : Str → Option Value) (fa : Addr) (h : Heap), YP w h → h.Ns mainGlobals mg → mg d.name = some (.ref fa) →
      ∃ (K : PySem.W.Frag), K.In h ∧ ∃ fd : FuncData, (∀ (s : Shared) (u : Value), BindsTo s fd ⟨[u], []⟩ [(x, u)]) ∧ ∀ base : Heap, K.In base → base.Ns mainGlobals mg → FnG l.prog w K mg base (L2.CX l.prog w) k fa fd [x] (spP K lawF)) :
    PySem.W.WalkO q loose XP YP l.row.toRowW d [] (fun f vs => PySem.call f vs) := by
  refine Att.attach_call hn hdf fun w s0 s1 mg mb fa o pm cd doc a vs ns G Y ho hd hcd hmg hobj hints hlen hg => ?_
  obtain ⟨K, KX, fd, hb, run⟩ := F w mg fa _ Y G.T.g hmg
  exact law_true KX G.T.g G.T.b G.T.builtins G.T.nolimit hg hobj hints (Nat.le_trans hlen (by decide)) hr run hb (fun H hO hS => spP_law hlen hO hS) fun H e s' => cx_none l.prog w H s1 e s'
end PD
namespace LX
open PySem PySem.Spec PyProof.Rows PySem.Calls L2 PD
section
variable {P : Program} {w : World} {K : PySem.W.Frag} {mg : Str → Option Value} {base : Heap} {c : Cs}
theorem sc_is_integer : FnScope ["value"] ["value"] (defScope s_is_integer) := ⟨rfl, rfl, rfl, by decide +kernel, rfl, by decide +kernel, by decide +kernel⟩
theorem w_is_integer (isi_bool : ∀ p ∈ tbl c (tyP "bool"), PySem.W.kitOne K p.1.v (Cl.ty "bool").v = some p.2) (isiK : ∀ C ∈ c.known, ClsT K C) (b_isinstance : mg "isinstance" = none) (b_bool : mg "bool" = none) (isi_int : ∀ p ∈ tbl c (tyP "int"), PySem.W.kitOne K p.1.v (Cl.ty "int").v = some p.2) (b_int : mg "int" = none) (DD : DefIn K mg "is_integer" s_is_integer ["value"]) : Gd P w K mg base "is_integer" 1 (spP K (F_is_integer c)) :=
  gd_of DD fun f fd F => auto_P F sc_is_integer rfl fun cdv A outer s H E hr => ⟨_, _, (dss_one (ds_ret (de_and (de_callB (cd_isi isi_int (tbl_C isiK)) (by rfl) b_isinstance (by decide +kernel) (da_cons (dv 0) (da_cons (de_bltn (v := .ty "int") (d := .ty "int") (by rfl) b_int (by decide +kernel) rfl (fun _ _ => rfl)) da_nil))) (de_one (de_not (de_callB (cd_isi isi_bool (tbl_C isiK)) (by rfl) b_isinstance (by decide +kernel) (da_cons (dv 0) (da_cons (de_bltn (v := .ty "bool") (d := .ty "bool") (by rfl) b_bool (by decide +kernel) rfl (fun _ _ => rfl)) da_nil)))))))), rfl⟩
theorem sc_check_ascending : FnScope ["values", "most", "index", "value"] ["values", "most"] (defScope s_check_ascending) := ⟨rfl, rfl, rfl, by decide +kernel, rfl, by decide +kernel, by decide +kernel⟩
theorem w_check_ascending (b_len : mg "len" = none) (b_range : mg "range" = none) (G_is_integer : Gd P w K mg base "is_integer" 1 (spP K (F_is_integer c))) (DD : DefIn K mg "check_ascending" s_check_ascending ["values", "most"]) : Gd P w K mg base "check_ascending" 2 (spP K (F_check_ascending c)) :=
  gd_of DD fun f fd F => auto_P F sc_check_ascending rfl fun cdv A outer s H E hr => ⟨_, _, (dss_one (ds_for (passes_of rfl) rfl (di_range1 (by rfl) b_range (da_cons (de_callB cd_len (by rfl) b_len (by decide +kernel) (da_cons (dv 0) da_nil)) da_nil)) (dg_name (i := 2) sc_check_ascending.nd) (dss_cons (ds_set (i := 3) sc_check_ascending.nd (de_ixN 0 (dv 2))) (dss_one (ds_if (DW.dt (dw_or (dt_not (dt_val (de_call G_is_integer (hr.mono (by decide)) (takes_of rfl rfl rfl rfl) (by rfl) (da_cons (dv 3) da_nil)))) (dw_or (dt_not (dt_chain od_le od_le de_int (dv 3) (dv 1))) (dw_or1 (DW.dt (dw_and (dt_cmp od_gt (dv 2) de_int (nomark _)) (dw_and1 (dt_cmp od_le (dv 3) (de_ixN 0 (de_op od_sub (dv 2) de_int)) (nomark _))))))))) (dss_one ds_never) dss_nil))))), rfl⟩
theorem sc_others_before : FnScope ["hits", "begin", "singles", "known", "number"] ["hits", "begin", "singles"] (defScope s_others_before) := ⟨rfl, rfl, rfl, by decide +kernel, rfl, by decide +kernel, by decide +kernel⟩
theorem w_others_before (b_any : mg "any" = none) (b_tuple : mg "tuple" = none) (b_range : mg "range" = none) (b_len : mg "len" = none) (DD : DefIn K mg "others_before" s_others_before ["hits", "begin", "singles"]) : Gd P w K mg base "others_before" 1 (spP K (F_others_before c)) :=
  gd_of DD fun f fd F => auto_P F sc_others_before rfl fun cdv A outer s H E hr => ⟨_, _, (dss_cons (ds_if (DW.dt (dw_or (dt_cmp (od_isN.or od_isB) (dv 1) de_non (nomark _)) (dw_or1 (dt_not (dt_val (de_callB ((cd_any rfl).or (cd_anyT rfl)) (by rfl) b_any (by decide +kernel) (da_cons (dv 0) da_nil))))))) (dss_one (ds_ret (de_callTy cd_tuple (by rfl) b_tuple (by decide +kernel) (da_cons (dv 2) da_nil)))) dss_nil) (dss_cons (ds_set (i := 3) sc_others_before.nd (de_dc (own := [("number", 4)]) rfl sc_others_before.nd (di_any (dv 2)) (blkOk_by (N := ["hits", "begin", "singles", "known", "number"]) (sc := defScope s_others_before) (by decide +kernel)) (dg_name (i := 4) sc_others_before.nd) dts_nil (dv 4) de_bl (fun _ _ _ _ _ => (dg_name (i := 4) sc_others_before.nd)) gw_name (fun _ _ _ _ _ => dts_nil) (fun _ _ _ _ _ => (dv 4)) (fun _ _ _ _ _ => de_bl))) (dss_one (ds_ret (de_callTy cd_tuple (by rfl) b_tuple (by decide +kernel) (da_cons (DF.de (df_lc2 (own := [("number", 4)]) rfl sc_others_before.nd (di_range1 (by rfl) b_range (da_cons (dv 1) da_nil)) (blkOk_by (N := ["hits", "begin", "singles", "known", "number"]) (sc := defScope s_others_before) (by decide +kernel)) (dg_name (i := 4) sc_others_before.nd) (dts_one (dt_cmp (od_ne hr.units) (de_cmp (od_din hr.un1) (dv 4) (dv 3) (by with_unfolding_all rfl)) (de_ixN 0 (de_op od_mod (dv 4) (de_callB cd_len (by rfl) b_len (by decide +kernel) (da_cons (dv 0) da_nil)))) (nomark _))) (dv 4) (fun _ _ _ _ _ => (dg_name (i := 4) sc_others_before.nd)) gw_name (fun _ _ _ _ _ => (dts_one (dt_cmp (od_ne hr.units) (de_cmp (od_din hr.un1) (dv 4) (dv 3) (by with_unfolding_all rfl)) (de_ixN 0 (de_op od_mod (dv 4) (de_callB cd_len (by rfl) b_len (by decide +kernel) (da_cons (dv 0) da_nil)))) (nomark _)))) (fun _ _ _ _ _ => (dv 4)))) da_nil)))))), rfl⟩
theorem sc_Rounds___init__ : FnScope ["self", "modulus", "begin", "singles", "ends", "rest"] ["self", "modulus", "begin", "singles", "ends"] (defScope s_Rounds___init__) := ⟨rfl, rfl, rfl, by decide +kernel, rfl, by decide +kernel, by decide +kernel⟩
theorem w_Rounds___init__ (n_Rounds_modulus : NoAttr K c.Rounds "modulus") (t_Rounds : ClsT K c.Rounds) (n_Rounds_hits : NoAttr K c.Rounds "hits") (b_tuple : mg "tuple" = none) (b_range : mg "range" = none) (n_Rounds_others : NoAttr K c.Rounds "others") (G_others_before : Gd P w K mg base "others_before" 1 (spP K (F_others_before c))) {f : Addr} {fd : FuncData} (F : FunD K "__init__" "Rounds.__init__" (defArgs s_Rounds___init__) (defBody s_Rounds___init__) (defScope s_Rounds___init__) [] [] f fd) : FnG P w K mg base (L2.CX P w) 2 f fd ["self", "modulus", "begin", "singles", "ends"] (spM K (F_Rounds___init__ c)) :=
  auto_MD F sc_Rounds___init__ rfl fun cdv A outer s H E hr => ⟨_, _, (dss_cons (ds_fld 0 t_Rounds.cl n_Rounds_modulus (dv 1)) (dss_cons (ds_fld 0 t_Rounds.cl n_Rounds_hits (de_callTy cd_tuple (by rfl) b_tuple (by decide +kernel) (da_cons (DF.de (df_lc2 (own := [("rest", 5)]) rfl sc_Rounds___init__.nd (di_range1 (by rfl) b_range (da_cons (dv 1) da_nil)) (blkOk_by (N := ["self", "modulus", "begin", "singles", "ends", "rest"]) (sc := defScope s_Rounds___init__) (by decide +kernel)) (dg_name (i := 5) sc_Rounds___init__.nd) dts_nil (de_cmp (od_inA hr.un65) (dv 5) (dv 4) (by with_unfolding_all rfl)) (fun _ _ _ _ _ => (dg_name (i := 5) sc_Rounds___init__.nd)) gw_name (fun _ _ _ _ _ => dts_nil) (fun _ _ _ _ _ => (de_cmp (od_inA hr.un65) (dv 5) (dv 4) (by with_unfolding_all rfl))))) da_nil))) (dss_one (ds_fld 0 t_Rounds.cl n_Rounds_others (de_call G_others_before (hr.mono (by decide)) (takes_of rfl rfl rfl rfl) (by rfl) (da_cons (de_fldN 0 t_Rounds.cl n_Rounds_hits) (da_cons (dv 2) (da_cons (dv 3) da_nil)))))))), rfl⟩
theorem w_Rounds4 (n_Rounds_modulus : NoAttr K c.Rounds "modulus") (t_Rounds : ClsT K c.Rounds) (n_Rounds_hits : NoAttr K c.Rounds "hits") (b_tuple : mg "tuple" = none) (b_range : mg "range" = none) (n_Rounds_others : NoAttr K c.Rounds "others") (G_others_before : Gd P w K mg base "others_before" 1 (spP K (F_others_before c))) (DD : InitIn K mg "Rounds" c.Rounds "Rounds.__init__" s_Rounds___init__ []) : Gc P w K mg base "Rounds" c.Rounds 2 [] (spM K (F_Rounds___init__ c)) :=
  gc_of 0 DD (fun f fd F => w_Rounds___init__ n_Rounds_modulus t_Rounds n_Rounds_hits b_tuple b_range n_Rounds_others G_others_before F) fun f fd F => binds_nd (ps := ["self", "modulus", "begin", "singles", "ends"]) F fun kV doc pm an cdv ct us hl => match us, hl with | [_, _, _, _, _], _ => rfl
theorem sc_hits_at : FnScope ["rounds", "number"] ["rounds", "number"] (defScope s_hits_at) := ⟨rfl, rfl, rfl, by decide +kernel, rfl, by decide +kernel, by decide +kernel⟩
theorem w_hits_at (n_Rounds_hits : NoAttr K c.Rounds "hits") (t_Rounds : ClsT K c.Rounds) (b_len : mg "len" = none) (DD : DefIn K mg "hits_at" s_hits_at ["rounds", "number"]) : Gd P w K mg base "hits_at" 1 (spP K (F_hits_at c)) :=
  gd_of DD fun f fd F => auto_P F sc_hits_at rfl fun cdv A outer s H E hr => ⟨_, _, (dss_one (ds_ret (de_ix (de_fldN 0 t_Rounds.cl n_Rounds_hits) (de_op od_mod (dv 1) (de_callB cd_len (by rfl) b_len (by decide +kernel) (da_cons (de_fldN 0 t_Rounds.cl n_Rounds_hits) da_nil)))))), rfl⟩
theorem sc_is_member : FnScope ["rounds", "number"] ["rounds", "number"] (defScope s_is_member) := ⟨rfl, rfl, rfl, by decide +kernel, rfl, by decide +kernel, by decide +kernel⟩
theorem w_is_member (G_hits_at : Gd P w K mg base "hits_at" 1 (spP K (F_hits_at c))) (n_Rounds_others : NoAttr K c.Rounds "others") (t_Rounds : ClsT K c.Rounds) (DD : DefIn K mg "is_member" s_is_member ["rounds", "number"]) : Gd P w K mg base "is_member" 2 (spP K (F_is_member c)) :=
  gd_of DD fun f fd F => auto_P F sc_is_member rfl fun cdv A outer s H E hr => ⟨_, _, (dss_one (ds_ret (de_cmp (od_ne hr.units) (de_call G_hits_at (hr.mono (by decide)) (takes_of rfl rfl rfl rfl) (by rfl) (da_cons (dv 0) (da_cons (dv 1) da_nil))) (de_cmp (od_inA hr.un65) (dv 1) (de_fldN 0 t_Rounds.cl n_Rounds_others) (by with_unfolding_all rfl)) (nomark _)))), rfl⟩
theorem sc_common_multiple : FnScope ["one", "other", "high", "low"] ["one", "other"] (defScope s_common_multiple) := ⟨rfl, rfl, rfl, by decide +kernel, rfl, by decide +kernel, by decide +kernel⟩
theorem w_common_multiple  (DD : DefIn K mg "common_multiple" s_common_multiple ["one", "other"]) : Gd P w K mg base "common_multiple" 1 (spP K (F_common_multiple c)) :=
  gd_of DD fun f fd F => auto_P F sc_common_multiple rfl fun cdv A outer s H E hr => ⟨_, _, (dss_cons (ds_par (i := 2) (j := 3) rfl sc_common_multiple.nd (da_cons (dv 0) (da_cons (dv 1) da_nil))) (dss_cons (ds_while (passes_of rfl) (dt_cmp od_gt (dv 3) de_int (nomark _)) (dss_one (ds_par (i := 2) (j := 3) rfl sc_common_multiple.nd (da_cons (dv 3) (da_cons (de_op od_mod (dv 2) (dv 3)) da_nil))))) (dss_one (ds_ret (de_op od_fdiv (de_op (od_mul.or od_repT) (dv 0) (dv 1)) (dv 2)))))), rfl⟩
theorem sc_told_of : FnScope ["one", "other", "told", "number"] ["one", "other", "told", "number"] (defScope s_told_of) := ⟨rfl, rfl, rfl, by decide +kernel, rfl, by decide +kernel, by decide +kernel⟩
theorem w_told_of (b_int : mg "int" = none) (G_is_member : Gd P w K mg base "is_member" 2 (spP K (F_is_member c))) (DD : DefIn K mg "told_of" s_told_of ["one", "other", "told", "number"]) : Gd P w K mg base "told_of" 3 (spP K (F_told_of c)) :=
  gd_of DD fun f fd F => auto_P F sc_told_of rfl fun cdv A outer s H E hr => ⟨_, _, (dss_one (ds_ret (de_ixN 2 (de_op od_addA (de_op (od_mul.or od_repT) de_int (de_callTy cd_int (by rfl) b_int (by decide +kernel) (da_cons (de_call G_is_member (hr.mono (by decide)) (takes_of rfl rfl rfl rfl) (by rfl) (da_cons (dv 0) (da_cons (dv 3) da_nil))) da_nil))) (de_callTy cd_int (by rfl) b_int (by decide +kernel) (da_cons (de_call G_is_member (hr.mono (by decide)) (takes_of rfl rfl rfl rfl) (by rfl) (da_cons (dv 1) (da_cons (dv 3) da_nil))) da_nil)))))), rfl⟩
theorem sc_joined : FnScope ["one", "other", "told", "many", "rests", "found", "numbers", "turned", "number"] ["one", "other", "told"] (defScope s_joined) := ⟨rfl, rfl, rfl, by decide +kernel, rfl, by decide +kernel, by decide +kernel⟩
theorem w_joined (G_common_multiple : Gd P w K mg base "common_multiple" 1 (spP K (F_common_multiple c))) (n_Rounds_modulus : NoAttr K c.Rounds "modulus") (t_Rounds : ClsT K c.Rounds) (k_GREATEST_MODULUS : ∃ t, mg "GREATEST_MODULUS" = some (.int 5040 t)) (b_range : mg "range" = none) (b_int : mg "int" = none) (G_hits_at : Gd P w K mg base "hits_at" 1 (spP K (F_hits_at c))) (I_Rounds4 : Gc P w K mg base "Rounds" c.Rounds 2 [] (spM K (F_Rounds___init__ c))) (b_list : mg "list" = none) (n_Rounds_others : NoAttr K c.Rounds "others") (G_told_of : Gd P w K mg base "told_of" 3 (spP K (F_told_of c))) (b_sorted : mg "sorted" = none) (DD : DefIn K mg "joined" s_joined ["one", "other", "told"]) : Gd P w K mg base "joined" 4 (spP K (F_joined c)) :=
  gd_of DD fun f fd F => auto_P F sc_joined rfl fun cdv A outer s H E hr => ⟨_, _, (dss_cons (ds_set (i := 3) sc_joined.nd (de_call G_common_multiple (hr.mono (by decide)) (takes_of rfl rfl rfl rfl) (by rfl) (da_cons (de_fldN 0 t_Rounds.cl n_Rounds_modulus) (da_cons (de_fldN 1 t_Rounds.cl n_Rounds_modulus) da_nil)))) (dss_cons (ds_if (dt_cmp od_gt (dv 3) (de_constI k_GREATEST_MODULUS (by rfl)) (nomark _)) (dss_one ds_never) dss_nil) (dss_cons (ds_lcV2 (i := 4) (own := [("number", 8)]) rfl sc_joined.nd (di_range1 (by rfl) b_range (da_cons (dv 3) da_nil)) (blkOk_by (N := ["one", "other", "told", "many", "rests", "found", "numbers", "turned", "number"]) (sc := defScope s_joined) (by decide +kernel)) (dg_name (i := 8) sc_joined.nd) (dts_one (dt_val (de_ixN 2 (de_op od_addA (de_op (od_mul.or od_repT) de_int (de_callTy cd_int (by rfl) b_int (by decide +kernel) (da_cons (de_call G_hits_at (hr.mono (by decide)) PD.takes0 (by rfl) (da_cons (dv 0) (da_cons (dv 8) da_nil))) da_nil))) (de_callTy cd_int (by rfl) b_int (by decide +kernel) (da_cons (de_call G_hits_at (hr.mono (by decide)) PD.takes0 (by rfl) (da_cons (dv 1) (da_cons (dv 8) da_nil))) da_nil)))))) (dv 8) (fun _ _ _ _ _ => (dg_name (i := 8) sc_joined.nd)) gw_name (fun _ _ _ _ _ => (dts_one (dt_val (de_ixN 2 (de_op od_addA (de_op (od_mul.or od_repT) de_int (de_callTy cd_int (by rfl) b_int (by decide +kernel) (da_cons (de_call G_hits_at (hr.mono (by decide)) PD.takes0 (by rfl) (da_cons (dv 0) (da_cons (dv 8) da_nil))) da_nil))) (de_callTy cd_int (by rfl) b_int (by decide +kernel) (da_cons (de_call G_hits_at (hr.mono (by decide)) PD.takes0 (by rfl) (da_cons (dv 1) (da_cons (dv 8) da_nil))) da_nil))))))) (fun _ _ _ _ _ => (dv 8))) (dss_cons (ds_set (i := 5) sc_joined.nd (de_make [] I_Rounds4 (fun _ _ => rfl) (hr.mono (by decide)) (takes_of rfl rfl rfl rfl) (by rfl) (da_cons (dv 3) (da_cons de_int (da_cons (de_tup da_nil) (da_cons (dv 4) da_nil)))))) (dss_cons (ds_set (i := 6) sc_joined.nd (DF.de (df_cat (de_callTy cd_list (by rfl) b_list (by decide +kernel) (da_cons (de_fldN 0 t_Rounds.cl n_Rounds_others) da_nil)) (DF.de (df_lc2 (own := [("number", 8)]) rfl sc_joined.nd (di_any (de_fldN 1 t_Rounds.cl n_Rounds_others)) (blkOk_by (N := ["one", "other", "told", "many", "rests", "found", "numbers", "turned", "number"]) (sc := defScope s_joined) (by decide +kernel)) (dg_name (i := 8) sc_joined.nd) (dts_one (dt_cmp (od_ninA hr.un65) (dv 8) (de_fldN 0 t_Rounds.cl n_Rounds_others) (by with_unfolding_all rfl))) (dv 8) (fun _ _ _ _ _ => (dg_name (i := 8) sc_joined.nd)) gw_name (fun _ _ _ _ _ => (dts_one (dt_cmp (od_ninA hr.un65) (dv 8) (de_fldN 0 t_Rounds.cl n_Rounds_others) (by with_unfolding_all rfl)))) (fun _ _ _ _ _ => (dv 8))))))) (dss_cons (ds_lcV2 (i := 7) (own := [("number", 8)]) rfl sc_joined.nd (di_any (dv 6)) (blkOk_by (N := ["one", "other", "told", "many", "rests", "found", "numbers", "turned", "number"]) (sc := defScope s_joined) (by decide +kernel)) (dg_name (i := 8) sc_joined.nd) (dts_one (dt_cmp (od_ne hr.units) (de_call G_told_of (hr.mono (by decide)) PD.takes0 (by rfl) (da_cons (dv 0) (da_cons (dv 1) (da_cons (dv 2) (da_cons (dv 8) da_nil))))) (de_call G_hits_at (hr.mono (by decide)) PD.takes0 (by rfl) (da_cons (dv 5) (da_cons (dv 8) da_nil))) (nomark _))) (dv 8) (fun _ _ _ _ _ => (dg_name (i := 8) sc_joined.nd)) gw_name (fun _ _ _ _ _ => (dts_one (dt_cmp (od_ne hr.units) (de_call G_told_of (hr.mono (by decide)) PD.takes0 (by rfl) (da_cons (dv 0) (da_cons (dv 1) (da_cons (dv 2) (da_cons (dv 8) da_nil))))) (de_call G_hits_at (hr.mono (by decide)) PD.takes0 (by rfl) (da_cons (dv 5) (da_cons (dv 8) da_nil))) (nomark _)))) (fun _ _ _ _ _ => (dv 8))) (dss_one (ds_ret (de_make [] I_Rounds4 (fun _ _ => rfl) (hr.mono (by decide)) (takes_of rfl rfl rfl rfl) (by rfl) (da_cons (dv 3) (da_cons de_non (da_cons (de_callB cd_sortI (by rfl) b_sorted (by decide +kernel) (da_cons (DF.de (df_lc2 (own := [("number", 8)]) rfl sc_joined.nd (di_any (dv 7)) (blkOk_by (N := ["one", "other", "told", "many", "rests", "found", "numbers", "turned", "number"]) (sc := defScope s_joined) (by decide +kernel)) (dg_name (i := 8) sc_joined.nd) dts_nil (de_callTy cd_int (by rfl) b_int (by decide +kernel) (da_cons (dv 8) da_nil)) (fun _ _ _ _ _ => (dg_name (i := 8) sc_joined.nd)) gw_name (fun _ _ _ _ _ => dts_nil) (fun _ _ _ _ _ => (de_callTy cd_int (by rfl) b_int (by decide +kernel) (da_cons (dv 8) da_nil))))) da_nil)) (da_cons (dv 4) da_nil))))))))))))), rfl⟩
theorem sc_Rounds___or__ : FnScope ["self", "other"] ["self", "other"] (defScope s_Rounds___or__) := ⟨rfl, rfl, rfl, by decide +kernel, rfl, by decide +kernel, by decide +kernel⟩
theorem w_Rounds___or__ (isi_Rounds : ∀ p ∈ tbl c (fun t => decide (t = .ins c.Rounds)), PySem.W.kitOne K p.1.v (Cl.own c.Rounds).v = some p.2) (isiK : ∀ C ∈ c.known, ClsT K C) (b_isinstance : mg "isinstance" = none) (g_Rounds : mg "Rounds" = some (.ref c.Rounds)) (G_joined : Gd P w K mg base "joined" 4 (spP K (F_joined c))) (DD : MethIn K c.Rounds "__or__" "Rounds.__or__" s_Rounds___or__ ["self", "other"]) : Mth P w K mg base c.Rounds "__or__" 5 (spP K (F_Rounds___or__ c)) :=
  mth_of DD fun f fd F => auto_P F sc_Rounds___or__ rfl fun cdv A outer s H E hr => ⟨_, _, (dss_cons (ds_if (dt_not (dt_val (de_callB (cd_isi isi_Rounds (tbl_C isiK)) (by rfl) b_isinstance (by decide +kernel) (da_cons (dv 1) (da_cons (de_glob (v := .ref c.Rounds) (d := .fn c.Rounds) (by rfl) g_Rounds rfl (fun _ _ => rfl)) da_nil))))) (dss_one ds_never) dss_nil) (dss_one (ds_ret (de_call G_joined (hr.mono (by decide)) (takes_of rfl rfl rfl rfl) (by rfl) (da_cons (dv 0) (da_cons (dv 1) (da_cons (de_tup (da_cons de_bl (da_cons de_bl (da_cons de_bl (da_cons de_bl da_nil))))) da_nil))))))), rfl⟩
theorem sc_Rounds___sub__ : FnScope ["self", "other"] ["self", "other"] (defScope s_Rounds___sub__) := ⟨rfl, rfl, rfl, by decide +kernel, rfl, by decide +kernel, by decide +kernel⟩
theorem w_Rounds___sub__ (isi_Rounds : ∀ p ∈ tbl c (fun t => decide (t = .ins c.Rounds)), PySem.W.kitOne K p.1.v (Cl.own c.Rounds).v = some p.2) (isiK : ∀ C ∈ c.known, ClsT K C) (b_isinstance : mg "isinstance" = none) (g_Rounds : mg "Rounds" = some (.ref c.Rounds)) (G_joined : Gd P w K mg base "joined" 4 (spP K (F_joined c))) (DD : MethIn K c.Rounds "__sub__" "Rounds.__sub__" s_Rounds___sub__ ["self", "other"]) : Mth P w K mg base c.Rounds "__sub__" 5 (spP K (F_Rounds___sub__ c)) :=
  mth_of DD fun f fd F => auto_P F sc_Rounds___sub__ rfl fun cdv A outer s H E hr => ⟨_, _, (dss_cons (ds_if (dt_not (dt_val (de_callB (cd_isi isi_Rounds (tbl_C isiK)) (by rfl) b_isinstance (by decide +kernel) (da_cons (dv 1) (da_cons (de_glob (v := .ref c.Rounds) (d := .fn c.Rounds) (by rfl) g_Rounds rfl (fun _ _ => rfl)) da_nil))))) (dss_one ds_never) dss_nil) (dss_one (ds_ret (de_call G_joined (hr.mono (by decide)) (takes_of rfl rfl rfl rfl) (by rfl) (da_cons (dv 0) (da_cons (dv 1) (da_cons (de_tup (da_cons de_bl (da_cons de_bl (da_cons de_bl (da_cons de_bl da_nil))))) da_nil))))))), rfl⟩
theorem sc_Rounds___xor__ : FnScope ["self", "other"] ["self", "other"] (defScope s_Rounds___xor__) := ⟨rfl, rfl, rfl, by decide +kernel, rfl, by decide +kernel, by decide +kernel⟩
theorem w_Rounds___xor__ (isi_Rounds : ∀ p ∈ tbl c (fun t => decide (t = .ins c.Rounds)), PySem.W.kitOne K p.1.v (Cl.own c.Rounds).v = some p.2) (isiK : ∀ C ∈ c.known, ClsT K C) (b_isinstance : mg "isinstance" = none) (g_Rounds : mg "Rounds" = some (.ref c.Rounds)) (G_joined : Gd P w K mg base "joined" 4 (spP K (F_joined c))) (DD : MethIn K c.Rounds "__xor__" "Rounds.__xor__" s_Rounds___xor__ ["self", "other"]) : Mth P w K mg base c.Rounds "__xor__" 5 (spP K (F_Rounds___xor__ c)) :=
  mth_of DD fun f fd F => auto_P F sc_Rounds___xor__ rfl fun cdv A outer s H E hr => ⟨_, _, (dss_cons (ds_if (dt_not (dt_val (de_callB (cd_isi isi_Rounds (tbl_C isiK)) (by rfl) b_isinstance (by decide +kernel) (da_cons (dv 1) (da_cons (de_glob (v := .ref c.Rounds) (d := .fn c.Rounds) (by rfl) g_Rounds rfl (fun _ _ => rfl)) da_nil))))) (dss_one ds_never) dss_nil) (dss_one (ds_ret (de_call G_joined (hr.mono (by decide)) (takes_of rfl rfl rfl rfl) (by rfl) (da_cons (dv 0) (da_cons (dv 1) (da_cons (de_tup (da_cons de_bl (da_cons de_bl (da_cons de_bl (da_cons de_bl da_nil))))) da_nil))))))), rfl⟩
theorem sc_Rounds___eq__ : FnScope ["self", "other", "many", "number"] ["self", "other"] (defScope s_Rounds___eq__) := ⟨rfl, rfl, rfl, by decide +kernel, rfl, by decide +kernel, by decide +kernel⟩
theorem w_Rounds___eq__ (n_Rounds_others : NoAttr K c.Rounds "others") (t_Rounds : ClsT K c.Rounds) (isi_Rounds : ∀ p ∈ tbl c (fun t => decide (t = .ins c.Rounds)), PySem.W.kitOne K p.1.v (Cl.own c.Rounds).v = some p.2) (isiK : ∀ C ∈ c.known, ClsT K C) (b_isinstance : mg "isinstance" = none) (g_Rounds : mg "Rounds" = some (.ref c.Rounds)) (G_common_multiple : Gd P w K mg base "common_multiple" 1 (spP K (F_common_multiple c))) (n_Rounds_modulus : NoAttr K c.Rounds "modulus") (b_all : mg "all" = none) (b_range : mg "range" = none) (G_hits_at : Gd P w K mg base "hits_at" 1 (spP K (F_hits_at c))) (DD : MethIn K c.Rounds "__eq__" "Rounds.__eq__" s_Rounds___eq__ ["self", "other"]) : Mth P w K mg base c.Rounds "__eq__" 2 (spP K (F_Rounds___eq__ c)) :=
  mth_of DD fun f fd F => auto_P F sc_Rounds___eq__ rfl fun cdv A outer s H E hr => ⟨_, _, (dss_cons (ds_if (DW.dt (dw_or (dt_not (dt_val (de_callB (cd_isi isi_Rounds (tbl_C isiK)) (by rfl) b_isinstance (by decide +kernel) (da_cons (dv 1) (da_cons (de_glob (v := .ref c.Rounds) (d := .fn c.Rounds) (by rfl) g_Rounds rfl (fun _ _ => rfl)) da_nil))))) (dw_or1 (dt_cmp (od_ne hr.units) (de_fldN 0 t_Rounds.cl n_Rounds_others) (de_fldN 1 t_Rounds.cl n_Rounds_others) (nomark _))))) (dss_one (ds_ret de_bl)) dss_nil) (dss_cons (ds_set (i := 2) sc_Rounds___eq__.nd (de_call G_common_multiple (hr.mono (by decide)) (takes_of rfl rfl rfl rfl) (by rfl) (da_cons (de_fldN 0 t_Rounds.cl n_Rounds_modulus) (da_cons (de_fldN 1 t_Rounds.cl n_Rounds_modulus) da_nil)))) (dss_one (ds_ret (de_callB ((cd_all rfl).or (cd_allT rfl)) (by rfl) b_all (by decide +kernel) (da_cons (DF.de (df_lc2 (own := [("number", 3)]) rfl sc_Rounds___eq__.nd (di_range1 (by rfl) b_range (da_cons (dv 2) da_nil)) (blkOk_by (N := ["self", "other", "many", "number"]) (sc := defScope s_Rounds___eq__) (by decide +kernel)) (dg_name (i := 3) sc_Rounds___eq__.nd) dts_nil (de_cmp (od_eq hr.units) (de_call G_hits_at (hr.mono (by decide)) PD.takes0 (by rfl) (da_cons (dv 0) (da_cons (dv 3) da_nil))) (de_call G_hits_at (hr.mono (by decide)) PD.takes0 (by rfl) (da_cons (dv 1) (da_cons (dv 3) da_nil))) (nomark _)) (fun _ _ _ _ _ => (dg_name (i := 3) sc_Rounds___eq__.nd)) gw_name (fun _ _ _ _ _ => dts_nil) (fun _ _ _ _ _ => (de_cmp (od_eq hr.units) (de_call G_hits_at (hr.mono (by decide)) PD.takes0 (by rfl) (da_cons (dv 0) (da_cons (dv 3) da_nil))) (de_call G_hits_at (hr.mono (by decide)) PD.takes0 (by rfl) (da_cons (dv 1) (da_cons (dv 3) da_nil))) (nomark _))))) da_nil)))))), rfl⟩
theorem sc_Rounds___bool__ : FnScope ["self"] ["self"] (defScope s_Rounds___bool__) := ⟨rfl, rfl, rfl, by decide +kernel, rfl, by decide +kernel, by decide +kernel⟩
theorem w_Rounds___bool__ (b_bool : mg "bool" = none) (b_len : mg "len" = none) (n_Rounds_others : NoAttr K c.Rounds "others") (t_Rounds : ClsT K c.Rounds) (b_any : mg "any" = none) (n_Rounds_hits : NoAttr K c.Rounds "hits") (DD : MethIn K c.Rounds "__bool__" "Rounds.__bool__" s_Rounds___bool__ ["self"]) : Mth P w K mg base c.Rounds "__bool__" 1 (spP K (F_Rounds___bool__ c)) :=
  mth_of DD fun f fd F => auto_P F sc_Rounds___bool__ rfl fun cdv A outer s H E hr => ⟨_, _, (dss_one (ds_ret (de_or (de_callB ((cd_any rfl).or (cd_anyT rfl)) (by rfl) b_any (by decide +kernel) (da_cons (de_fldN 0 t_Rounds.cl n_Rounds_hits) da_nil)) (de_one (de_callTy cd_bool (by rfl) b_bool (by decide +kernel) (da_cons (de_cmp od_gt (de_callB cd_len (by rfl) b_len (by decide +kernel) (da_cons (de_fldN 0 t_Rounds.cl n_Rounds_others) da_nil)) de_int (nomark _)) da_nil)))))), rfl⟩
theorem sc_Rounds___contains__ : FnScope ["self", "value"] ["self", "value"] (defScope s_Rounds___contains__) := ⟨rfl, rfl, rfl, by decide +kernel, rfl, by decide +kernel, by decide +kernel⟩
theorem w_Rounds___contains__ (G_is_member : Gd P w K mg base "is_member" 2 (spP K (F_is_member c))) (G_is_integer : Gd P w K mg base "is_integer" 1 (spP K (F_is_integer c))) (DD : MethIn K c.Rounds "__contains__" "Rounds.__contains__" s_Rounds___contains__ ["self", "value"]) : Mth P w K mg base c.Rounds "__contains__" 3 (spP K (F_Rounds___contains__ c)) :=
  mth_of DD fun f fd F => auto_P F sc_Rounds___contains__ rfl fun cdv A outer s H E hr => ⟨_, _, (dss_one (ds_ret (de_and (de_call G_is_integer (hr.mono (by decide)) (takes_of rfl rfl rfl rfl) (by rfl) (da_cons (dv 1) da_nil)) (de_and (de_cmp od_ge (dv 1) de_int (nomark _)) (de_one (de_call G_is_member (hr.mono (by decide)) (takes_of rfl rfl rfl rfl) (by rfl) (da_cons (dv 0) (da_cons (dv 1) da_nil)))))))), rfl⟩
theorem sc_Rounds_told : FnScope ["members", "begin"] ["members"] (defScope s_Rounds_told) := ⟨rfl, rfl, rfl, by decide +kernel, rfl, by decide +kernel, by decide +kernel⟩
theorem w_Rounds_told (G_check_ascending : Gd P w K mg base "check_ascending" 2 (spP K (F_check_ascending c))) (k_GREATEST_MEMBER : ∃ t, mg "GREATEST_MEMBER" = some (.int 1000000 t)) (b_len : mg "len" = none) (I_Rounds4 : Gc P w K mg base "Rounds" c.Rounds 2 [] (spM K (F_Rounds___init__ c))) (DD : SmIn K c.Rounds "told" "Rounds.told" s_Rounds_told) : SmS P w K mg base c.Rounds "told" 4 (spStP K 0 (F_Rounds_told c)) :=
  sm_of DD fun f fd F => auto_PS (ps := []) F sc_Rounds_told rfl (star_s0 F (fun _ _ _ _ _ _ => rfl) (fun _ _ _ _ _ _ _ _ => rfl)) fun cdv A outer s H E hr => ⟨_, _, (dss_cons (ds_expr (de_call G_check_ascending (hr.mono (by decide)) (takes_of rfl rfl rfl rfl) (by rfl) (da_cons (dv 0) (da_cons (de_constI k_GREATEST_MEMBER (by rfl)) da_nil)))) (dss_cons (ds_set (i := 1) sc_Rounds_told.nd (de_ifExp (dt_cmp od_gt (de_callB cd_len (by rfl) b_len (by decide +kernel) (da_cons (dv 0) da_nil)) de_int (nomark _)) (de_op od_addA (de_ixN 0 (de_un ud_neg de_int)) de_int) de_int)) (dss_one (ds_ret (de_make [] I_Rounds4 (fun _ _ => rfl) (hr.mono (by decide)) (takes_of rfl rfl rfl rfl) (by rfl) (da_cons de_int (da_cons (dv 1) (da_cons (dv 0) (da_cons (de_tup da_nil) da_nil))))))))), rfl⟩
theorem sc_Rounds_rests : FnScope ["modulus", "rests"] ["modulus", "rests"] (defScope s_Rounds_rests) := ⟨rfl, rfl, rfl, by decide +kernel, rfl, by decide +kernel, by decide +kernel⟩
theorem w_Rounds_rests (k_GREATEST_MODULUS : ∃ t, mg "GREATEST_MODULUS" = some (.int 5040 t)) (G_is_integer : Gd P w K mg base "is_integer" 1 (spP K (F_is_integer c))) (G_check_ascending : Gd P w K mg base "check_ascending" 2 (spP K (F_check_ascending c))) (I_Rounds4 : Gc P w K mg base "Rounds" c.Rounds 2 [] (spM K (F_Rounds___init__ c))) (DD : SmIn K c.Rounds "rests" "Rounds.rests" s_Rounds_rests) : SmS P w K mg base c.Rounds "rests" 4 (spStP K 1 (F_Rounds_rests c)) :=
  sm_of DD fun f fd F => auto_PS (ps := ["modulus"]) F sc_Rounds_rests rfl (star_s1 F (fun _ _ _ _ _ _ _ => rfl) (fun _ _ _ _ _ _ _ _ _ => rfl)) fun cdv A outer s H E hr => ⟨_, _, (dss_cons (ds_if (DW.dt (dw_or (dt_not (dt_val (de_call G_is_integer (hr.mono (by decide)) (takes_of rfl rfl rfl rfl) (by rfl) (da_cons (dv 0) da_nil)))) (dw_or1 (dt_not (dt_chain od_le od_le de_int (dv 0) (de_constI k_GREATEST_MODULUS (by rfl))))))) (dss_one ds_never) dss_nil) (dss_cons (ds_expr (de_call G_check_ascending (hr.mono (by decide)) (takes_of rfl rfl rfl rfl) (by rfl) (da_cons (dv 1) (da_cons (de_op od_sub (dv 0) de_int) da_nil)))) (dss_one (ds_ret (de_make [] I_Rounds4 (fun _ _ => rfl) (hr.mono (by decide)) (takes_of rfl rfl rfl rfl) (by rfl) (da_cons (dv 0) (da_cons de_int (da_cons (de_tup da_nil) (da_cons (dv 1) da_nil))))))))), rfl⟩
theorem sc_check_number : FnScope ["value", "most"] ["value", "most"] (defScope s_check_number) := ⟨rfl, rfl, rfl, by decide +kernel, rfl, by decide +kernel, by decide +kernel⟩
theorem w_check_number (G_is_integer : Gd P w K mg base "is_integer" 1 (spP K (F_is_integer c))) (DD : DefIn K mg "check_number" s_check_number ["value", "most"]) : Gd P w K mg base "check_number" 2 (spP K (F_check_number c)) :=
  gd_of DD fun f fd F => auto_P F sc_check_number rfl fun cdv A outer s H E hr => ⟨_, _, (dss_one (ds_if (DW.dt (dw_or (dt_not (dt_val (de_call G_is_integer (hr.mono (by decide)) (takes_of rfl rfl rfl rfl) (by rfl) (da_cons (dv 0) da_nil)))) (dw_or1 (dt_not (dt_chain od_le od_le de_int (dv 0) (dv 1)))))) (dss_one ds_never) dss_nil)), rfl⟩
theorem sc_next_member : FnScope ["rounds", "first", "number", "place"] ["rounds", "first"] (defScope s_next_member) := ⟨rfl, rfl, rfl, by decide +kernel, rfl, by decide +kernel, by decide +kernel⟩
theorem w_next_member (b_any : mg "any" = none) (n_Rounds_hits : NoAttr K c.Rounds "hits") (t_Rounds : ClsT K c.Rounds) (n_Rounds_others : NoAttr K c.Rounds "others") (G_is_member : Gd P w K mg base "is_member" 2 (spP K (F_is_member c))) (DD : DefIn K mg "next_member" s_next_member ["rounds", "first"]) : Gd P w K mg base "next_member" 3 (spP K (F_next_member c)) :=
  gd_of DD fun f fd F => auto_P F sc_next_member rfl fun cdv A outer s H E hr => ⟨_, _, (dss_cons (ds_if (dt_not (dt_val (de_callB ((cd_any rfl).or (cd_anyT rfl)) (by rfl) b_any (by decide +kernel) (da_cons (de_fldN 0 t_Rounds.cl n_Rounds_hits) da_nil)))) (dss_cons (ds_for (passes_of rfl) rfl (di_any (de_fldN 0 t_Rounds.cl n_Rounds_others)) (dg_name (i := 2) sc_next_member.nd) (dss_one (ds_if (dt_cmp od_ge (dv 2) (dv 1) (nomark _)) (dss_one (ds_ret (dv 2))) dss_nil))) (dss_one (ds_ret de_non))) dss_nil) (dss_cons (ds_set (i := 3) sc_next_member.nd (dv 1)) (dss_cons (ds_while (passes_of rfl) (dt_not (dt_val (de_call G_is_member (hr.mono (by decide)) (takes_of rfl rfl rfl rfl) (by rfl) (da_cons (dv 0) (da_cons (dv 3) da_nil))))) (dss_one (ds_set (i := 3) sc_next_member.nd (de_op od_addA (dv 3) de_int)))) (dss_one (ds_ret (dv 3)))))), rfl⟩
theorem sc_Rounds_whole_from : FnScope ["self"] ["self"] (defScope s_Rounds_whole_from) := ⟨rfl, rfl, rfl, by decide +kernel, rfl, by decide +kernel, by decide +kernel⟩
theorem w_Rounds_whole_from (b_all : mg "all" = none) (n_Rounds_hits : NoAttr K c.Rounds "hits") (t_Rounds : ClsT K c.Rounds) (b_len : mg "len" = none) (n_Rounds_others : NoAttr K c.Rounds "others") (DD : PrIn K c.Rounds "whole_from" "Rounds.whole_from" s_Rounds_whole_from ["self"]) : PrY P w K mg base c.Rounds "whole_from" 1 (F_Rounds_whole_from c) :=
  prY_of DD fun f fd F => auto_P F sc_Rounds_whole_from rfl fun cdv A outer s H E hr => ⟨_, _, (dss_cons (ds_if (dt_not (dt_val (de_callB ((cd_all rfl).or (cd_allT rfl)) (by rfl) b_all (by decide +kernel) (da_cons (de_fldN 0 t_Rounds.cl n_Rounds_hits) da_nil)))) (dss_one (ds_ret de_non)) dss_nil) (dss_one (ds_ret (de_ifExp (dt_cmp od_gt (de_callB cd_len (by rfl) b_len (by decide +kernel) (da_cons (de_fldN 0 t_Rounds.cl n_Rounds_others) da_nil)) de_int (nomark _)) (de_op od_addA (de_ix (de_fldN 0 t_Rounds.cl n_Rounds_others) (de_un ud_neg de_int)) de_int) de_int)))), rfl⟩
theorem sc_Rounds_after : FnScope ["self", "first"] ["self", "first"] (defScope s_Rounds_after) := ⟨rfl, rfl, rfl, by decide +kernel, rfl, by decide +kernel, by decide +kernel⟩
theorem w_Rounds_after (G_check_number : Gd P w K mg base "check_number" 2 (spP K (F_check_number c))) (k_GREATEST_FIRST : ∃ t, mg "GREATEST_FIRST" = some (.int 1000000000 t)) (G_next_member : Gd P w K mg base "next_member" 3 (spP K (F_next_member c))) (DD : MethIn K c.Rounds "after" "Rounds.after" s_Rounds_after ["self", "first"]) : Mth P w K mg base c.Rounds "after" 4 (spP K (F_Rounds_after c)) :=
  mth_of DD fun f fd F => auto_P F sc_Rounds_after rfl fun cdv A outer s H E hr => ⟨_, _, (dss_cons (ds_expr (de_call G_check_number (hr.mono (by decide)) (takes_of rfl rfl rfl rfl) (by rfl) (da_cons (dv 1) (da_cons (de_constI k_GREATEST_FIRST (by rfl)) da_nil)))) (dss_one (ds_ret (de_call G_next_member (hr.mono (by decide)) (takes_of rfl rfl rfl rfl) (by rfl) (da_cons (dv 0) (da_cons (dv 1) da_nil)))))), rfl⟩
theorem sc_Rounds_members : GScope ["self", "first", "many", "place", "turn", "found"] ["self", "first", "many"] (defScope s_Rounds_members) := ⟨rfl, rfl, rfl, by decide +kernel, rfl, by decide +kernel, by decide +kernel⟩
theorem w_Rounds_members (G_check_number : Gd P w K mg base "check_number" 2 (spP K (F_check_number c))) (k_GREATEST_FIRST : ∃ t, mg "GREATEST_FIRST" = some (.int 1000000000 t)) (k_MOST_MEMBERS : ∃ t, mg "MOST_MEMBERS" = some (.int 1000 t)) (b_range : mg "range" = none) (G_next_member : Gd P w K mg base "next_member" 3 (spP K (F_next_member c))) (DD : MethIn K c.Rounds "members" "Rounds.members" s_Rounds_members ["self", "first", "many"]) : MthY P w K mg base c.Rounds "members" 4 (F_Rounds_members c) :=
  mthY_of DD fun f fd F => auto_G F sc_Rounds_members rfl fun cdv A outer s H E pn hr => ⟨_, _, (dgss_cons (dgs_pl (ds_expr (de_call G_check_number (hr.mono (by decide)) takes_gcx (by rfl) (da_cons (dv 1) (da_cons (de_constI k_GREATEST_FIRST (by rfl)) da_nil))))) (dgss_cons (dgs_pl (ds_expr (de_call G_check_number (hr.mono (by decide)) takes_gcx (by rfl) (da_cons (dv 2) (da_cons (de_constI k_MOST_MEMBERS (by rfl)) da_nil))))) (dgss_cons (dgs_pl (ds_set (i := 3) sc_Rounds_members.nd (dv 1))) (dgss_cons (dgs_for owns_gcx rfl (di_range1 (by rfl) b_range (da_cons (dv 2) da_nil)) (dg_name (i := 4) sc_Rounds_members.nd) (dgss_cons (dgs_pl (ds_set (i := 5) sc_Rounds_members.nd (de_call G_next_member (hr.mono (by decide)) takes_gcx (by rfl) (da_cons (dv 0) (da_cons (dv 3) da_nil))))) (dgss_cons (dgs_pl (ds_if (dt_cmp (od_isN.or od_isB) (dv 5) de_non (nomark _)) (dss_one ds_retN) dss_nil)) (dgss_cons (dgs_yld (dv 5)) (dgss_pl (dss_one (ds_set (i := 3) sc_Rounds_members.nd (de_op od_addA (dv 5) de_int)))))))) dgss_nil)))), rfl⟩
theorem sc_greatest_common : FnScope ["one", "two"] ["one", "two"] (defScope s_greatest_common) := ⟨rfl, rfl, rfl, by decide +kernel, rfl, by decide +kernel, by decide +kernel⟩
theorem w_greatest_common (b_abs : mg "abs" = none) (DD : DefIn K mg "greatest_common" s_greatest_common ["one", "two"]) : Gd P w K mg base "greatest_common" 1 (spP K (F_greatest_common c)) :=
  gd_of DD fun f fd F => auto_P F sc_greatest_common rfl fun cdv A outer s H E hr => ⟨_, _, (dss_cons (ds_par (i := 0) (j := 1) rfl sc_greatest_common.nd (da_cons (de_callB cd_abs (by rfl) b_abs (by decide +kernel) (da_cons (dv 0) da_nil)) (da_cons (de_callB cd_abs (by rfl) b_abs (by decide +kernel) (da_cons (dv 1) da_nil)) da_nil))) (dss_cons (ds_while (passes_of rfl) (dt_cmp (od_ne hr.units) (dv 1) de_int (nomark _)) (dss_one (ds_par (i := 0) (j := 1) rfl sc_greatest_common.nd (da_cons (dv 1) (da_cons (de_op od_mod (dv 0) (dv 1)) da_nil))))) (dss_one (ds_ret (dv 0))))), rfl⟩
theorem sc_Ratio___init__ : FnScope ["self", "top", "bottom", "common"] ["self", "top", "bottom"] (defScope s_Ratio___init__) := ⟨rfl, rfl, rfl, by decide +kernel, rfl, by decide +kernel, by decide +kernel⟩
theorem w_Ratio___init__ (G_is_integer : Gd P w K mg base "is_integer" 1 (spP K (F_is_integer c))) (G_greatest_common : Gd P w K mg base "greatest_common" 1 (spP K (F_greatest_common c))) (n_Ratio_top : NoAttr K c.Ratio "top") (t_Ratio : ClsT K c.Ratio) (n_Ratio_bottom : NoAttr K c.Ratio "bottom") {f : Addr} {fd : FuncData} (F : FunD K "__init__" "Ratio.__init__" (defArgs s_Ratio___init__) (defBody s_Ratio___init__) (defScope s_Ratio___init__) [.int 1] [] f fd) : FnG P w K mg base (L2.CX P w) 2 f fd ["self", "top", "bottom"] (spM K (F_Ratio___init__ c)) :=
  auto_MD F sc_Ratio___init__ rfl fun cdv A outer s H E hr => ⟨_, _, (dss_cons (ds_if (dt_not (dt_val (de_call G_is_integer (hr.mono (by decide)) (takes_of rfl rfl rfl rfl) (by rfl) (da_cons (dv 1) da_nil)))) (dss_one ds_never) dss_nil) (dss_cons (ds_if (DW.dt (dw_or (dt_not (dt_val (de_call G_is_integer (hr.mono (by decide)) (takes_of rfl rfl rfl rfl) (by rfl) (da_cons (dv 2) da_nil)))) (dw_or1 (dt_cmp (od_lt.or od_ltS) (dv 2) de_int (nomark _))))) (dss_one ds_never) dss_nil) (dss_cons (ds_set (i := 3) sc_Ratio___init__.nd (de_call G_greatest_common (hr.mono (by decide)) (takes_of rfl rfl rfl rfl) (by rfl) (da_cons (dv 1) (da_cons (dv 2) da_nil)))) (dss_cons (ds_fld 0 t_Ratio.cl n_Ratio_top (de_op od_fdiv (dv 1) (dv 3))) (dss_one (ds_fld 0 t_Ratio.cl n_Ratio_bottom (de_op od_fdiv (dv 2) (dv 3)))))))), rfl⟩
theorem w_Ratio1 (G_is_integer : Gd P w K mg base "is_integer" 1 (spP K (F_is_integer c))) (G_greatest_common : Gd P w K mg base "greatest_common" 1 (spP K (F_greatest_common c))) (n_Ratio_top : NoAttr K c.Ratio "top") (t_Ratio : ClsT K c.Ratio) (n_Ratio_bottom : NoAttr K c.Ratio "bottom") (DD : InitIn K mg "Ratio" c.Ratio "Ratio.__init__" s_Ratio___init__ [.int 1]) : Gc P w K mg base "Ratio" c.Ratio 2 [.int 1] (spM K (F_Ratio___init__ c)) :=
  gc_of 0 DD (fun f fd F => w_Ratio___init__ G_is_integer G_greatest_common n_Ratio_top t_Ratio n_Ratio_bottom F) fun f fd F => F.binds1 (ps := ["self", "top", "bottom"]) 2 0 (by simp) rfl fun T kV doc pm an cdv ct us its l1 l2 => match us, its, l1, l2 with | [_, _], [_], _, _ => ⟨_, rfl, rfl⟩
theorem sc__law_purse : FnScope ["_law_cells", "_law_at", "_law_cell", "_law_seed", "_law_other"] ["_law_cells", "_law_at"] (defScope s__law_purse) := ⟨rfl, rfl, rfl, by decide +kernel, rfl, by decide +kernel, by decide +kernel⟩
theorem w__law_purse (b_len : mg "len" = none) (b_int : mg "int" = none) (b_abs : mg "abs" = none) (DD : DefIn K mg "_law_purse" s__law_purse ["_law_cells", "_law_at"]) : Gd P w K mg base "_law_purse" 1 (spF K (F__law_purse c)) :=
  gd_of DD fun f fd F => auto_F F sc__law_purse rfl fun cdv A outer s H E hr => ⟨_, _, (dss_cons (ds_set (i := 2) sc__law_purse.nd (de_ifExp (dt_cmp od_lt (dv 1) (de_callB cd_len (by rfl) b_len (by decide +kernel) (da_cons (dv 0) da_nil)) (nomark _)) (de_ixN 0 (dv 1)) de_int)) (dss_cons (ds_set (i := 3) sc__law_purse.nd (de_op od_mod (de_callTy cd_int (by rfl) b_int (by decide +kernel) (da_cons (de_op od_add (de_op od_add (de_op od_mul (dv 2) de_int) (de_op od_mul (dv 1) de_int)) de_int) da_nil)) de_int)) (dss_cons (ds_for (passes_of rfl) rfl (di_any (de_ifExp (dt_cmp od_ge (dv 1) (de_callB cd_len (by rfl) b_len (by decide +kernel) (da_cons (dv 0) da_nil)) (nomark _)) (de_slice (dv 0) do_none (do_some de_int)) (de_lst da_nil))) (dg_name (i := 4) sc__law_purse.nd) (dss_one (ds_set (i := 3) sc__law_purse.nd (de_op od_mod (de_callTy cd_int (by rfl) b_int (by decide +kernel) (da_cons (de_op od_add (de_op od_mul (dv 3) de_int) (dv 4)) da_nil)) de_int)))) (dss_one (ds_retF (df_lst (da_cons (de_ifExp (dt_cmp od_ge (de_callB cd_abs (by rfl) b_abs (by decide +kernel) (da_cons (dv 2) da_nil)) (de_op od_pow de_int de_int) (nomark _)) (de_callB cd_abs (by rfl) b_abs (by decide +kernel) (da_cons (dv 2) da_nil)) de_int) (da_cons (dv 3) (da_cons de_int da_nil))))))))), rfl⟩
theorem sc__law_take : FnScope ["_law_draws", "_law_many", "_law_figures", "_law_seed", "_law_turn"] ["_law_draws", "_law_many"] (defScope s__law_take) := ⟨rfl, rfl, rfl, by decide +kernel, rfl, by decide +kernel, by decide +kernel⟩
theorem w__law_take (b_int : mg "int" = none) (DD : DefIn K mg "_law_take" s__law_take ["_law_draws", "_law_many"]) : Gd P w K mg base "_law_take" 1 (spM K (F__law_take c)) :=
  gd_of DD fun f fd F => auto_M F sc__law_take rfl fun cdv A outer s H E hr => ⟨_, _, (dss_cons (ds_unp (n := 3) 0 rfl (dgs_cons (dg_name (i := 2) sc__law_take.nd) (dgs_cons (dg_name (i := 3) sc__law_take.nd) (dgs_cons (dg_name (i := 4) sc__law_take.nd) dgs_nil)))) (dss_cons (ds_asg (de_op od_mod (de_callTy cd_int (by rfl) b_int (by decide +kernel) (da_cons (de_op od_add (de_op od_add (de_op od_mul (dv 3) (de_op od_add de_int (de_op od_mul de_int (dv 4)))) (de_op od_mul de_int (dv 4))) de_int) da_nil)) de_int) (dg_sub (W := W0) 0 de_int)) (dss_cons (ds_asg (de_op od_add (dv 4) de_int) (dg_sub (W := W0) 0 de_int)) (dss_cons (ds_if (dt_cmp od_gt (dv 2) de_int (nomark _)) (dss_cons (ds_asg (de_op od_fdiv (de_callTy cd_int (by rfl) b_int (by decide +kernel) (da_cons (dv 2) da_nil)) (dv 1)) (dg_sub (W := W0) 0 de_int)) (dss_one (ds_ret (de_op od_mod (de_callTy cd_int (by rfl) b_int (by decide +kernel) (da_cons (dv 2) da_nil)) (dv 1))))) dss_nil) (dss_one (ds_ret (de_op od_mod (de_callTy cd_int (by rfl) b_int (by decide +kernel) (da_cons (de_op od_fdiv (de_ixN 0 de_int) de_int) da_nil)) (dv 1)))))))), rfl⟩
theorem sc__law_set : FnScope ["_law_draws", "_law_moduli", "_law_many", "_law_rests", "_law_some", "_law_rest", "_law_turn", "_law_number"] ["_law_draws", "_law_moduli"] (defScope s__law_set) := ⟨rfl, rfl, rfl, by decide +kernel, rfl, by decide +kernel, by decide +kernel⟩
theorem w__law_set (G__law_take : Gd P w K mg base "_law_take" 1 (spM K (F__law_take c))) (b_len : mg "len" = none) (b_min : mg "min" = none) (b_range : mg "range" = none) (b_list : mg "list" = none) (DD : DefIn K mg "_law_set" s__law_set ["_law_draws", "_law_moduli"]) : Gd P w K mg base "_law_set" 2 (spM K (F__law_set c)) :=
  gd_of DD fun f fd F => auto_M F sc__law_set rfl fun cdv A outer s H E hr => ⟨_, _, (dss_cons (ds_set (i := 2) sc__law_set.nd (de_ixN 1 (de_callM 0 G__law_take (hr.mono (by decide)) (takes_of rfl rfl rfl rfl) (by rfl) (da_cons (de_callB cd_len (by rfl) b_len (by decide +kernel) (da_cons (dv 1) da_nil)) da_nil)))) (dss_cons (ds_lcV2 (i := 3) (own := [("_law_rest", 5)]) rfl sc__law_set.nd (di_range1 (by rfl) b_range (da_cons (de_callB (cd_min2 rfl) (by rfl) b_min (by decide +kernel) (da_cons (dv 2) (da_cons de_int da_nil))) da_nil)) (blkOk_by (N := ["_law_draws", "_law_moduli", "_law_many", "_law_rests", "_law_some", "_law_rest", "_law_turn", "_law_number"]) (sc := defScope s__law_set) (by decide +kernel)) (dg_name (i := 5) sc__law_set.nd) (dts_one (dt_cmp (od_eq hr.units) (de_callM 0 G__law_take (hr.mono (by decide)) PD.takes0 (by rfl) (da_cons de_int da_nil)) de_int (nomark _))) (dv 5) (fun _ _ _ _ _ => (dg_name (i := 5) sc__law_set.nd)) gw_name (fun _ _ _ _ _ => (dts_one (dt_cmp (od_eq hr.units) (de_callM 0 G__law_take (hr.mono (by decide)) PD.takes0 (by rfl) (da_cons de_int da_nil)) de_int (nomark _)))) (fun _ _ _ _ _ => (dv 5))) (dss_cons (ds_if (dt_cmp (od_eq hr.units) (de_callM 0 G__law_take (hr.mono (by decide)) (takes_of rfl rfl rfl rfl) (by rfl) (da_cons de_int da_nil)) de_int (nomark _)) (dss_one (ds_set (i := 3) sc__law_set.nd (de_listRg rfl (by rfl) b_list (by rfl) b_range (dv 2)))) dss_nil) (dss_cons (ds_set (i := 4) sc__law_set.nd (DF.de (df_lc2 (own := [("_law_turn", 6)]) rfl sc__law_set.nd (di_range1 (by rfl) b_range (da_cons (de_callM 0 G__law_take (hr.mono (by decide)) (takes_of rfl rfl rfl rfl) (by rfl) (da_cons de_int da_nil)) da_nil)) (blkOk_by (N := ["_law_draws", "_law_moduli", "_law_many", "_law_rests", "_law_some", "_law_rest", "_law_turn", "_law_number"]) (sc := defScope s__law_set) (by decide +kernel)) (dg_name (i := 6) sc__law_set.nd) dts_nil (de_callM 0 G__law_take (hr.mono (by decide)) PD.takes0 (by rfl) (da_cons (de_ix (de_lst (da_cons de_int (da_cons de_int (da_cons de_int da_nil)))) (de_callM 0 G__law_take (hr.mono (by decide)) PD.takes0 (by rfl) (da_cons de_int da_nil))) da_nil)) (fun _ _ _ _ _ => (dg_name (i := 6) sc__law_set.nd)) gw_name (fun _ _ _ _ _ => dts_nil) (fun _ _ _ _ _ => (de_callM 0 G__law_take (hr.mono (by decide)) PD.takes0 (by rfl) (da_cons (de_ix (de_lst (da_cons de_int (da_cons de_int (da_cons de_int da_nil)))) (de_callM 0 G__law_take (hr.mono (by decide)) PD.takes0 (by rfl) (da_cons de_int da_nil))) da_nil)))))) (dss_one (ds_ret (de_tup (da_cons (dv 2) (da_cons (dv 3) (da_cons (DF.de (df_lc2 (own := [("_law_number", 7)]) rfl sc__law_set.nd (di_range1 (by rfl) b_range (da_cons de_int da_nil)) (blkOk_by (N := ["_law_draws", "_law_moduli", "_law_many", "_law_rests", "_law_some", "_law_rest", "_law_turn", "_law_number"]) (sc := defScope s__law_set) (by decide +kernel)) (dg_name (i := 7) sc__law_set.nd) (dts_one (dt_cmp (od_inA hr.un65) (dv 7) (dv 4) (by with_unfolding_all rfl))) (dv 7) (fun _ _ _ _ _ => (dg_name (i := 7) sc__law_set.nd)) gw_name (fun _ _ _ _ _ => (dts_one (dt_cmp (od_inA hr.un65) (dv 7) (dv 4) (by with_unfolding_all rfl)))) (fun _ _ _ _ _ => (dv 7)))) da_nil)))))))))), rfl⟩
theorem sc__law_holds : FnScope ["_law_model", "_law_number"] ["_law_model", "_law_number"] (defScope s__law_holds) := ⟨rfl, rfl, rfl, by decide +kernel, rfl, by decide +kernel, by decide +kernel⟩
theorem w__law_holds (b_int : mg "int" = none) (DD : DefIn K mg "_law_holds" s__law_holds ["_law_model", "_law_number"]) : Gd P w K mg base "_law_holds" 1 (spP K (F__law_holds c)) :=
  gd_of DD fun f fd F => auto_P F sc__law_holds rfl fun cdv A outer s H E hr => ⟨_, _, (dss_one (ds_ret (de_cmp (od_ne hr.units) (de_cmp (od_inA hr.un65) (de_op od_mod (de_callTy cd_int (by rfl) b_int (by decide +kernel) (da_cons (dv 1) da_nil)) (de_ixN 0 de_int)) (de_ixN 0 de_int) (by with_unfolding_all rfl)) (de_cmp (od_inA hr.un65) (dv 1) (de_ixN 0 de_int) (by with_unfolding_all rfl)) (nomark _)))), rfl⟩
theorem sc__law_formed : FnScope ["_law_model", "_law_rests", "_law_others", "_law_rest", "_law_number"] ["_law_model"] (defScope s__law_formed) := ⟨rfl, rfl, rfl, by decide +kernel, rfl, by decide +kernel, by decide +kernel⟩
theorem w__law_formed (SM_Rounds_told : SmS P w K mg base c.Rounds "told" 4 (spStP K 0 (F_Rounds_told c))) (g_Rounds : mg "Rounds" = some (.ref c.Rounds)) (SM_Rounds_rests : SmS P w K mg base c.Rounds "rests" 4 (spStP K 1 (F_Rounds_rests c))) (M_Rounds___or__ : Mth P w K mg base c.Rounds "__or__" 5 (spP K (F_Rounds___or__ c))) (o_Rounds_BitOr : OpC K c.Rounds .BitOr) (M_Rounds___xor__ : Mth P w K mg base c.Rounds "__xor__" 5 (spP K (F_Rounds___xor__ c))) (o_Rounds_BitXor : OpC K c.Rounds .BitXor) (DD : DefIn K mg "_law_formed" s__law_formed ["_law_model"]) : Gd P w K mg base "_law_formed" 6 (spP K (F__law_formed c)) :=
  gd_of DD fun f fd F => auto_P F sc__law_formed rfl fun cdv A outer s H E hr => ⟨_, _, (dss_cons (ds_par (i := 1) (j := 2) rfl sc__law_formed.nd (da_cons (de_smeth SM_Rounds_rests (hr.mono (by decide)) (takes_of rfl rfl rfl rfl) (de_glob (v := .ref c.Rounds) (d := .fn c.Rounds) (by rfl) g_Rounds rfl (fun _ _ => rfl)) (da_cons (de_ixN 0 de_int) da_nil)) (da_cons (de_smeth0 SM_Rounds_told (hr.mono (by decide)) (takes_of rfl rfl rfl rfl) (de_glob (v := .ref c.Rounds) (d := .fn c.Rounds) (by rfl) g_Rounds rfl (fun _ _ => rfl))) da_nil))) (dss_cons (ds_for (passes_of rfl) rfl (di_any (de_ixN 0 de_int)) (dg_name (i := 3) sc__law_formed.nd) (dss_one (ds_set (i := 1) sc__law_formed.nd (de_op (od_ownL o_Rounds_BitOr M_Rounds___or__ (hr.mono (by decide))) (dv 1) (de_smeth SM_Rounds_rests (hr.mono (by decide)) (takes_of rfl rfl rfl rfl) (de_glob (v := .ref c.Rounds) (d := .fn c.Rounds) (by rfl) g_Rounds rfl (fun _ _ => rfl)) (da_cons (de_ixN 0 de_int) (da_cons (dv 3) da_nil))))))) (dss_cons (ds_for (passes_of rfl) rfl (di_any (de_ixN 0 de_int)) (dg_name (i := 4) sc__law_formed.nd) (dss_one (ds_set (i := 2) sc__law_formed.nd (de_op (od_ownL o_Rounds_BitOr M_Rounds___or__ (hr.mono (by decide))) (dv 2) (de_smeth SM_Rounds_told (hr.mono (by decide)) (takes_of rfl rfl rfl rfl) (de_glob (v := .ref c.Rounds) (d := .fn c.Rounds) (by rfl) g_Rounds rfl (fun _ _ => rfl)) (da_cons (dv 4) da_nil)))))) (dss_one (ds_ret (de_op (od_ownL o_Rounds_BitXor M_Rounds___xor__ (hr.mono (by decide))) (dv 1) (dv 2))))))), rfl⟩
theorem sc__law_members : FnScope ["_law_model", "_law_first", "_law_many", "_law_found", "_law_last", "_law_number", "_law_k"] ["_law_model", "_law_first", "_law_many"] (defScope s__law_members) := ⟨rfl, rfl, rfl, by decide +kernel, rfl, by decide +kernel, by decide +kernel⟩
theorem w__law_members (b_max : mg "max" = none) (b_int : mg "int" = none) (b_range : mg "range" = none) (G__law_holds : Gd P w K mg base "_law_holds" 1 (spP K (F__law_holds c))) (b_len : mg "len" = none) (DD : DefIn K mg "_law_members" s__law_members ["_law_model", "_law_first", "_law_many"]) : Gd P w K mg base "_law_members" 2 (spP K (F__law_members c)) :=
  gd_of DD fun f fd F => auto_P F sc__law_members rfl fun cdv A outer s H E hr => ⟨_, _, (dss_cons (ds_parO2 (i := 3) (j := 4) rfl sc__law_members.nd (daf_o (df_lst da_nil) (daf_v (de_op od_addA (de_callB (cd_maxL rfl) (by rfl) b_max (by decide +kernel) (da_cons (DF.de (df_lc2 (own := [("_law_k", 6)]) rfl sc__law_members.nd (di_any (de_op od_addA (de_lst (da_cons (dv 1) da_nil)) (de_ixN 0 de_int))) (blkOk_by (N := ["_law_model", "_law_first", "_law_many", "_law_found", "_law_last", "_law_number", "_law_k"]) (sc := defScope s__law_members) (by decide +kernel)) (dg_name (i := 6) sc__law_members.nd) dts_nil (de_callTy cd_int (by rfl) b_int (by decide +kernel) (da_cons (dv 6) da_nil)) (fun _ _ _ _ _ => (dg_name (i := 6) sc__law_members.nd)) gw_name (fun _ _ _ _ _ => dts_nil) (fun _ _ _ _ _ => (de_callTy cd_int (by rfl) b_int (by decide +kernel) (da_cons (dv 6) da_nil))))) da_nil)) (de_op (od_mul.or od_repT) (de_ixN 0 de_int) (de_op od_addA (dv 2) de_int))) daf_nil))) (dss_cons (ds_if (dt_cmp (od_eq hr.units) (de_ixN 0 de_int) (de_lst da_nil) (nomark _)) (dss_one (ds_ret (de_slice2 (DF.de (df_lc2 (own := [("_law_number", 5)]) rfl sc__law_members.nd (di_any (de_ixN 0 de_int)) (blkOk_by (N := ["_law_model", "_law_first", "_law_many", "_law_found", "_law_last", "_law_number", "_law_k"]) (sc := defScope s__law_members) (by decide +kernel)) (dg_name (i := 5) sc__law_members.nd) (dts_one (dt_cmp od_ge (dv 5) (dv 1) (nomark _))) (dv 5) (fun _ _ _ _ _ => (dg_name (i := 5) sc__law_members.nd)) gw_name (fun _ _ _ _ _ => (dts_one (dt_cmp od_ge (dv 5) (dv 1) (nomark _)))) (fun _ _ _ _ _ => (dv 5)))) do_none (do_some (dv 2))))) dss_nil) (dss_cons (ds_for (passes_of rfl) rfl (di_range2 (by rfl) b_range (da_cons (dv 1) (da_cons (de_op od_addA (dv 4) de_int) da_nil))) (dg_name (i := 5) sc__law_members.nd) (dss_one (ds_if (DW.dt (dw_and (dt_cmp (od_lt.or od_ltS) (de_callBN 3 cd_len (by rfl) b_len (by decide +kernel)) (dv 2) (nomark _)) (dw_and1 (dt_val (de_call G__law_holds (hr.mono (by decide)) (takes_of rfl rfl rfl rfl) (by rfl) (da_cons (dv 0) (da_cons (dv 5) da_nil))))))) (dss_one (ds_expr (de_append 3 (dv 5)))) dss_nil))) (dss_one (ds_ret (dv 3)))))), rfl⟩
theorem sc__law_whole : FnScope ["_law_model"] ["_law_model"] (defScope s__law_whole) := ⟨rfl, rfl, rfl, by decide +kernel, rfl, by decide +kernel, by decide +kernel⟩
theorem w__law_whole (b_len : mg "len" = none) (DD : DefIn K mg "_law_whole" s__law_whole ["_law_model"]) : Gd P w K mg base "_law_whole" 1 (spP K (F__law_whole c)) :=
  gd_of DD fun f fd F => auto_P F sc__law_whole rfl fun cdv A outer s H E hr => ⟨_, _, (dss_cons (ds_if (dt_cmp (od_lt.or od_ltS) (de_callB cd_len (by rfl) b_len (by decide +kernel) (da_cons (de_ixN 0 de_int) da_nil)) (de_ixN 0 de_int) (nomark _)) (dss_one (ds_ret de_non)) dss_nil) (dss_one (ds_ret (de_ifExp (dt_cmp (od_ne hr.units) (de_ixN 0 de_int) (de_lst da_nil) (nomark _)) (de_op od_addA (de_ix (de_ixN 0 de_int) (de_un ud_neg de_int)) de_int) de_int)))), rfl⟩
theorem sc__law_right : FnScope ["_law_draws", "_law_model", "_law_mine", "_law_odd", "_law_first", "_law_due", "_law_many", "_law_number", "_law_value"] ["_law_draws"] (defScope s__law_right) := ⟨rfl, rfl, rfl, by decide +kernel, rfl, by decide +kernel, by decide +kernel⟩
theorem w__law_right (G__law_set : Gd P w K mg base "_law_set" 2 (spM K (F__law_set c))) (G__law_formed : Gd P w K mg base "_law_formed" 6 (spP K (F__law_formed c))) (M_Rounds___eq__ : Mth P w K mg base c.Rounds "__eq__" 2 (spP K (F_Rounds___eq__ c))) (ne_Rounds : NeC K c.Rounds) (b_repr : mg "repr" = none) (PR_Rounds_whole_from : PrY P w K mg base c.Rounds "whole_from" 1 (F_Rounds_whole_from c)) (t_Rounds : ClsT K c.Rounds) (G__law_whole : Gd P w K mg base "_law_whole" 1 (spP K (F__law_whole c))) (n_Rounds_modulus : NoAttr K c.Rounds "modulus") (M_Rounds___bool__ : Mth P w K mg base c.Rounds "__bool__" 1 (spP K (F_Rounds___bool__ c))) (b_bool : mg "bool" = none) (M_Rounds___sub__ : Mth P w K mg base c.Rounds "__sub__" 5 (spP K (F_Rounds___sub__ c))) (o_Rounds_Sub : OpC K c.Rounds .Sub) (I_Ratio1 : Gc P w K mg base "Ratio" c.Ratio 2 [.int 1] (spM K (F_Ratio___init__ c))) (b_range : mg "range" = none) (M_Rounds___contains__ : Mth P w K mg base c.Rounds "__contains__" 3 (spP K (F_Rounds___contains__ c))) (G__law_holds : Gd P w K mg base "_law_holds" 1 (spP K (F__law_holds c))) (b_any : mg "any" = none) (G__law_take : Gd P w K mg base "_law_take" 1 (spM K (F__law_take c))) (G__law_members : Gd P w K mg base "_law_members" 2 (spP K (F__law_members c))) (MY_Rounds_members : MthY P w K mg base c.Rounds "members" 4 (F_Rounds_members c)) (b_list : mg "list" = none) (M_Rounds_after : Mth P w K mg base c.Rounds "after" 4 (spP K (F_Rounds_after c))) (cmp_Rounds : CmpC K c.Rounds) (DD : DefIn K mg "_law_right" s__law_right ["_law_draws"]) : Gd P w K mg base "_law_right" 8 (spM K (F__law_right c)) :=
  gd_of DD fun f fd F => auto_M F sc__law_right rfl fun cdv A outer s H E hr => ⟨_, _, (dss_cons (ds_set (i := 1) sc__law_right.nd (de_callM 0 G__law_set (hr.mono (by decide)) (takes_of rfl rfl rfl rfl) (by rfl) (da_cons (de_lst (da_cons de_int (da_cons de_int (da_cons de_int (da_cons de_int (da_cons de_int (da_cons de_int (da_cons de_int (da_cons de_int da_nil))))))))) da_nil))) (dss_cons (ds_set (i := 2) sc__law_right.nd (de_call G__law_formed (hr.mono (by decide)) (takes_of rfl rfl rfl rfl) (by rfl) (da_cons (dv 1) da_nil))) (dss_cons (ds_if (DW.dt (dw_or (dt_cmp ((od_ne hr.units).or (od_neL ne_Rounds M_Rounds___eq__ (hr.mono (by decide)))) (de_fldN 2 t_Rounds.cl n_Rounds_modulus) (de_ixN 1 de_int) (nomark _)) (dw_or1 (dt_cmp ((od_ne hr.units).or (od_neL ne_Rounds M_Rounds___eq__ (hr.mono (by decide)))) (de_callB (cd_reprD (hr.mono (Nat.zero_le _))) (by rfl) b_repr (by decide +kernel) (da_cons (de_prop t_Rounds.cl PR_Rounds_whole_from (hr.mono (by decide)) (dv 2)) da_nil)) (de_callB (cd_reprD (hr.mono (Nat.zero_le _))) (by rfl) b_repr (by decide +kernel) (da_cons (de_call G__law_whole (hr.mono (by decide)) (takes_of rfl rfl rfl rfl) (by rfl) (da_cons (dv 1) da_nil)) da_nil)) (nomark _))))) (dss_one (ds_ret de_bl)) dss_nil) (dss_cons (ds_if (dt_cmp ((od_ne hr.units).or (od_neL ne_Rounds M_Rounds___eq__ (hr.mono (by decide)))) (de_callTy (cd_bool.or (cd_boolO M_Rounds___bool__ (hr.mono (by decide)))) (by rfl) b_bool (by decide +kernel) (da_cons (dv 2) da_nil)) (de_or (de_cmp ((od_ne hr.units).or (od_neL ne_Rounds M_Rounds___eq__ (hr.mono (by decide)))) (de_ixN 1 de_int) (de_lst da_nil) (nomark _)) (de_one (de_cmp ((od_ne hr.units).or (od_neL ne_Rounds M_Rounds___eq__ (hr.mono (by decide)))) (de_ixN 1 de_int) (de_lst da_nil) (nomark _)))) (nomark _)) (dss_one (ds_ret de_bl)) dss_nil) (dss_cons (ds_set (i := 3) sc__law_right.nd (de_lst (da_cons de_bl (da_cons de_bl (da_cons (de_un ud_neg de_int) (da_cons (de_un ud_neg de_int) (da_cons de_non (da_cons de_str (da_cons (de_make [D.int 1] I_Ratio1 (fun _ _ => .one rfl) (hr.mono (by decide)) (takes_of rfl rfl rfl rfl) (by rfl) (da_cons de_int da_nil)) (da_cons (de_tup (da_cons de_int da_nil)) (da_cons (de_lst da_nil) (da_cons (de_op (od_sub.or (od_ownL o_Rounds_Sub M_Rounds___sub__ (hr.mono (by decide)))) de_int (de_op od_pow de_int de_int)) da_nil)))))))))))) (dss_cons (ds_if (dt_cmp ((od_ne hr.units).or (od_neL ne_Rounds M_Rounds___eq__ (hr.mono (by decide)))) (DF.de (df_lc2 (own := [("_law_number", 7)]) rfl sc__law_right.nd (di_range1 (by rfl) b_range (da_cons de_int da_nil)) (blkOk_by (N := ["_law_draws", "_law_model", "_law_mine", "_law_odd", "_law_first", "_law_due", "_law_many", "_law_number", "_law_value"]) (sc := defScope s__law_right) (by decide +kernel)) (dg_name (i := 7) sc__law_right.nd) dts_nil (de_cmp ((od_inA hr.un65).or (od_inOwn M_Rounds___contains__ (hr.mono (by decide)))) (dv 7) (dv 2) (by with_unfolding_all rfl)) (fun _ _ _ _ _ => (dg_name (i := 7) sc__law_right.nd)) gw_name (fun _ _ _ _ _ => dts_nil) (fun _ _ _ _ _ => (de_cmp ((od_inA hr.un65).or (od_inOwn M_Rounds___contains__ (hr.mono (by decide)))) (dv 7) (dv 2) (by with_unfolding_all rfl))))) (DF.de (df_lc2 (own := [("_law_number", 7)]) rfl sc__law_right.nd (di_range1 (by rfl) b_range (da_cons de_int da_nil)) (blkOk_by (N := ["_law_draws", "_law_model", "_law_mine", "_law_odd", "_law_first", "_law_due", "_law_many", "_law_number", "_law_value"]) (sc := defScope s__law_right) (by decide +kernel)) (dg_name (i := 7) sc__law_right.nd) dts_nil (de_call G__law_holds (hr.mono (by decide)) PD.takes0 (by rfl) (da_cons (dv 1) (da_cons (dv 7) da_nil))) (fun _ _ _ _ _ => (dg_name (i := 7) sc__law_right.nd)) gw_name (fun _ _ _ _ _ => dts_nil) (fun _ _ _ _ _ => (de_call G__law_holds (hr.mono (by decide)) PD.takes0 (by rfl) (da_cons (dv 1) (da_cons (dv 7) da_nil)))))) (nomark _)) (dss_one (ds_ret de_bl)) dss_nil) (dss_cons (ds_if (dt_val (de_callB ((cd_any rfl).or (cd_anyT rfl)) (by rfl) b_any (by decide +kernel) (da_cons (DF.de (df_lc2 (own := [("_law_value", 8)]) rfl sc__law_right.nd (di_any (dv 3)) (blkOk_by (N := ["_law_draws", "_law_model", "_law_mine", "_law_odd", "_law_first", "_law_due", "_law_many", "_law_number", "_law_value"]) (sc := defScope s__law_right) (by decide +kernel)) (dg_name (i := 8) sc__law_right.nd) dts_nil (de_cmp ((od_inA hr.un65).or (od_inOwn M_Rounds___contains__ (hr.mono (by decide)))) (dv 8) (dv 2) (by with_unfolding_all rfl)) (fun _ _ _ _ _ => (dg_name (i := 8) sc__law_right.nd)) gw_name (fun _ _ _ _ _ => dts_nil) (fun _ _ _ _ _ => (de_cmp ((od_inA hr.un65).or (od_inOwn M_Rounds___contains__ (hr.mono (by decide)))) (dv 8) (dv 2) (by with_unfolding_all rfl))))) da_nil))) (dss_one (ds_ret de_bl)) dss_nil) (dss_cons (ds_for (passes_of rfl) rfl (di_any (de_lst (da_cons de_int (da_cons (de_callM 0 G__law_take (hr.mono (by decide)) (takes_of rfl rfl rfl rfl) (by rfl) (da_cons de_int da_nil)) (da_cons (de_callM 0 G__law_take (hr.mono (by decide)) (takes_of rfl rfl rfl rfl) (by rfl) (da_cons de_int da_nil)) (da_cons (de_op (od_sub.or (od_ownL o_Rounds_Sub M_Rounds___sub__ (hr.mono (by decide)))) (de_op od_pow de_int de_int) (de_callM 0 G__law_take (hr.mono (by decide)) (takes_of rfl rfl rfl rfl) (by rfl) (da_cons de_int da_nil))) da_nil)))))) (dg_name (i := 4) sc__law_right.nd) (dss_cons (ds_set (i := 5) sc__law_right.nd (de_call G__law_members (hr.mono (by decide)) (takes_of rfl rfl rfl rfl) (by rfl) (da_cons (dv 1) (da_cons (dv 4) (da_cons de_int da_nil))))) (dss_one (ds_if (DW.dt (dw_or (dt_cmp ((od_ne hr.units).or (od_neL ne_Rounds M_Rounds___eq__ (hr.mono (by decide)))) (de_callB (cd_reprD (hr.mono (Nat.zero_le _))) (by rfl) b_repr (by decide +kernel) (da_cons (de_meth t_Rounds.cl M_Rounds_after (hr.mono (by decide)) (takes_of rfl rfl rfl rfl) (dv 2) (da_cons (dv 4) da_nil)) da_nil)) (de_callB (cd_reprD (hr.mono (Nat.zero_le _))) (by rfl) b_repr (by decide +kernel) (da_cons (de_ix (de_op od_addA (dv 5) (de_lst (da_cons de_non da_nil))) de_int) da_nil)) (nomark _)) (dw_or1 (dt_cmp ((od_ne hr.units).or (od_neL ne_Rounds M_Rounds___eq__ (hr.mono (by decide)))) (de_listM t_Rounds.cl MY_Rounds_members (hr.mono (by decide)) (dv 2) (da_cons (dv 4) (da_cons de_int da_nil)) (by rfl) b_list (by decide +kernel)) (dv 5) (nomark _))))) (dss_one (ds_ret de_bl)) dss_nil)))) (dss_cons (ds_set (i := 6) sc__law_right.nd (de_callM 0 G__law_take (hr.mono (by decide)) (takes_of rfl rfl rfl rfl) (by rfl) (da_cons de_int da_nil))) (dss_one (ds_ret (de_and (de_cmp ((od_eq hr.units).or ((cmpD_left rfl cmp_Rounds M_Rounds___eq__ (hr.mono (by decide))).or (od_eqLstT (eqO_ownT cmp_Rounds M_Rounds___eq__) (hr.mono (by decide))))) (de_listM t_Rounds.cl MY_Rounds_members (hr.mono (by decide)) (dv 2) (da_cons de_int (da_cons (dv 6) da_nil)) (by rfl) b_list (by decide +kernel)) (de_call G__law_members (hr.mono (by decide)) (takes_of rfl rfl rfl rfl) (by rfl) (da_cons (dv 1) (da_cons de_int (da_cons (dv 6) da_nil)))) (nomark _)) (de_one (de_cmp ((od_eq hr.units).or ((cmpD_left rfl cmp_Rounds M_Rounds___eq__ (hr.mono (by decide))).or (od_eqLstT (eqO_ownT cmp_Rounds M_Rounds___eq__) (hr.mono (by decide))))) (de_listM t_Rounds.cl MY_Rounds_members (hr.mono (by decide)) (dv 2) (da_cons de_int (da_cons de_int da_nil)) (by rfl) b_list (by decide +kernel)) (de_lst da_nil) (nomark _))))))))))))))), rfl⟩
theorem sc__law_several_right : FnScope ["_law_draws", "_law_a", "_law_b", "_law_some", "_law_rests", "_law_found"] ["_law_draws"] (defScope s__law_several_right) := ⟨rfl, rfl, rfl, by decide +kernel, rfl, by decide +kernel, by decide +kernel⟩
theorem w__law_several_right (G__law_take : Gd P w K mg base "_law_take" 1 (spM K (F__law_take c))) (SM_Rounds_rests : SmS P w K mg base c.Rounds "rests" 4 (spStP K 1 (F_Rounds_rests c))) (g_Rounds : mg "Rounds" = some (.ref c.Rounds)) (SM_Rounds_told : SmS P w K mg base c.Rounds "told" 4 (spStP K 0 (F_Rounds_told c))) (n_Rounds_modulus : NoAttr K c.Rounds "modulus") (t_Rounds : ClsT K c.Rounds) (MY_Rounds_members : MthY P w K mg base c.Rounds "members" 4 (F_Rounds_members c)) (b_list : mg "list" = none) (M_Rounds___eq__ : Mth P w K mg base c.Rounds "__eq__" 2 (spP K (F_Rounds___eq__ c))) (ne_Rounds : NeC K c.Rounds) (M_Rounds_after : Mth P w K mg base c.Rounds "after" 4 (spP K (F_Rounds_after c))) (M_Rounds___bool__ : Mth P w K mg base c.Rounds "__bool__" 1 (spP K (F_Rounds___bool__ c))) (b_bool : mg "bool" = none) (cmp_Rounds : CmpC K c.Rounds) (PR_Rounds_whole_from : PrY P w K mg base c.Rounds "whole_from" 1 (F_Rounds_whole_from c)) (DD : DefIn K mg "_law_several_right" s__law_several_right ["_law_draws"]) : Gd P w K mg base "_law_several_right" 8 (spM K (F__law_several_right c)) :=
  gd_of DD fun f fd F => auto_M F sc__law_several_right rfl fun cdv A outer s H E hr => ⟨_, _, (dss_cons (ds_par (i := 1) (j := 2) rfl sc__law_several_right.nd (da_cons (de_callM 0 G__law_take (hr.mono (by decide)) (takes_of rfl rfl rfl rfl) (by rfl) (da_cons de_int da_nil)) (da_cons (de_op od_addA de_int (de_callM 0 G__law_take (hr.mono (by decide)) (takes_of rfl rfl rfl rfl) (by rfl) (da_cons de_int da_nil))) da_nil))) (dss_cons (ds_par (i := 3) (j := 4) rfl sc__law_several_right.nd (da_cons (de_smeth SM_Rounds_told (hr.mono (by decide)) (takes_of rfl rfl rfl rfl) (de_glob (v := .ref c.Rounds) (d := .fn c.Rounds) (by rfl) g_Rounds rfl (fun _ _ => rfl)) (da_cons (dv 1) (da_cons (de_op od_addA (dv 1) (dv 2)) (da_cons (de_op od_pow de_int de_int) da_nil)))) (da_cons (de_smeth SM_Rounds_rests (hr.mono (by decide)) (takes_of rfl rfl rfl rfl) (de_glob (v := .ref c.Rounds) (d := .fn c.Rounds) (by rfl) g_Rounds rfl (fun _ _ => rfl)) (da_cons de_int (da_cons de_int (da_cons (dv 2) (da_cons de_int da_nil))))) da_nil))) (dss_cons (ds_set (i := 5) sc__law_several_right.nd (de_lst (da_cons (de_listM t_Rounds.cl MY_Rounds_members (hr.mono (by decide)) (dv 3) (da_cons de_int (da_cons de_int da_nil)) (by rfl) b_list (by decide +kernel)) (da_cons (de_listM t_Rounds.cl MY_Rounds_members (hr.mono (by decide)) (dv 4) (da_cons de_int (da_cons de_int da_nil)) (by rfl) b_list (by decide +kernel)) (da_cons (de_fldN 3 t_Rounds.cl n_Rounds_modulus) (da_cons (de_fldN 4 t_Rounds.cl n_Rounds_modulus) da_nil)))))) (dss_cons (ds_if (dt_cmp ((od_ne hr.units).or (od_neL ne_Rounds M_Rounds___eq__ (hr.mono (by decide)))) (dv 5) (de_lst (da_cons (de_lst (da_cons (dv 1) (da_cons (de_op od_addA (dv 1) (dv 2)) (da_cons (de_op od_pow de_int de_int) da_nil)))) (da_cons (de_lst (da_cons de_int (da_cons de_int (da_cons (de_op od_addA de_int (dv 2)) (da_cons (de_op od_addA de_int de_int) da_nil))))) (da_cons de_int (da_cons de_int da_nil))))) (nomark _)) (dss_one (ds_ret de_bl)) dss_nil) (dss_cons (ds_set (i := 5) sc__law_several_right.nd (de_lst (da_cons (de_meth t_Rounds.cl M_Rounds_after (hr.mono (by decide)) (takes_of rfl rfl rfl rfl) (dv 3) (da_cons (de_op od_addA (dv 1) de_int) da_nil)) (da_cons (de_meth t_Rounds.cl M_Rounds_after (hr.mono (by decide)) (takes_of rfl rfl rfl rfl) (dv 3) (da_cons (de_op od_addA (de_op od_pow de_int de_int) de_int) da_nil)) (da_cons (de_meth t_Rounds.cl M_Rounds_after (hr.mono (by decide)) (takes_of rfl rfl rfl rfl) (de_smeth0 SM_Rounds_told (hr.mono (by decide)) (takes_of rfl rfl rfl rfl) (de_glob (v := .ref c.Rounds) (d := .fn c.Rounds) (by rfl) g_Rounds rfl (fun _ _ => rfl))) (da_cons de_int da_nil)) (da_cons (de_meth t_Rounds.cl M_Rounds_after (hr.mono (by decide)) (takes_of rfl rfl rfl rfl) (de_smeth SM_Rounds_rests (hr.mono (by decide)) (takes_of rfl rfl rfl rfl) (de_glob (v := .ref c.Rounds) (d := .fn c.Rounds) (by rfl) g_Rounds rfl (fun _ _ => rfl)) (da_cons de_int (da_cons de_int da_nil))) (da_cons (de_op od_pow de_int de_int) da_nil)) da_nil)))))) (dss_cons (ds_if (DW.dt (dw_or (dt_cmp ((od_ne hr.units).or (od_neL ne_Rounds M_Rounds___eq__ (hr.mono (by decide)))) (dv 5) (de_lst (da_cons (de_op od_addA (dv 1) (dv 2)) (da_cons de_non (da_cons de_non (da_cons (de_op od_pow de_int de_int) da_nil))))) (nomark _)) (dw_or (dt_val (de_callTy (cd_bool.or (cd_boolO M_Rounds___bool__ (hr.mono (by decide)))) (by rfl) b_bool (by decide +kernel) (da_cons (de_smeth0 SM_Rounds_told (hr.mono (by decide)) (takes_of rfl rfl rfl rfl) (de_glob (v := .ref c.Rounds) (d := .fn c.Rounds) (by rfl) g_Rounds rfl (fun _ _ => rfl))) da_nil))) (dw_or1 (dt_val (de_callTy (cd_bool.or (cd_boolO M_Rounds___bool__ (hr.mono (by decide)))) (by rfl) b_bool (by decide +kernel) (da_cons (de_smeth SM_Rounds_rests (hr.mono (by decide)) (takes_of rfl rfl rfl rfl) (de_glob (v := .ref c.Rounds) (d := .fn c.Rounds) (by rfl) g_Rounds rfl (fun _ _ => rfl)) (da_cons de_int da_nil)) da_nil))))))) (dss_one (ds_ret de_bl)) dss_nil) (dss_one (ds_ret (de_cmp ((od_eq hr.units).or ((cmpD_left rfl cmp_Rounds M_Rounds___eq__ (hr.mono (by decide))).or (od_eqLstT (eqO_ownT cmp_Rounds M_Rounds___eq__) (hr.mono (by decide))))) (de_lst (da_cons (de_prop t_Rounds.cl PR_Rounds_whole_from (hr.mono (by decide)) (de_smeth SM_Rounds_rests (hr.mono (by decide)) (takes_of rfl rfl rfl rfl) (de_glob (v := .ref c.Rounds) (d := .fn c.Rounds) (by rfl) g_Rounds rfl (fun _ _ => rfl)) (da_cons de_int (da_cons de_int (da_cons de_int da_nil))))) (da_cons (de_prop t_Rounds.cl PR_Rounds_whole_from (hr.mono (by decide)) (dv 3)) (da_cons (de_prop t_Rounds.cl PR_Rounds_whole_from (hr.mono (by decide)) (de_smeth SM_Rounds_rests (hr.mono (by decide)) (takes_of rfl rfl rfl rfl) (de_glob (v := .ref c.Rounds) (d := .fn c.Rounds) (by rfl) g_Rounds rfl (fun _ _ => rfl)) (da_cons de_int (da_cons de_int (da_cons de_int da_nil))))) da_nil)))) (de_lst (da_cons de_int (da_cons de_non (da_cons de_non da_nil)))) (nomark _)))))))))), rfl⟩
theorem sc_law : FnScope ["_law_cells", "_law_at", "_law_draws"] ["_law_cells"] (defScope s_law) := ⟨rfl, rfl, rfl, by decide +kernel, rfl, by decide +kernel, by decide +kernel⟩
theorem w_law (hk_Rounds : c.Rounds ∈ c.known) (hk_Ratio : c.Ratio ∈ c.known)  (b_max : mg "max" = none) (b_min : mg "min" = none) (b_len : mg "len" = none) (b_range : mg "range" = none) (G__law_purse : Gd P w K mg base "_law_purse" 1 (spF K (F__law_purse c))) (G__law_several_right : Gd P w K mg base "_law_several_right" 8 (spM K (F__law_several_right c))) (G__law_right : Gd P w K mg base "_law_right" 8 (spM K (F__law_right c))) {f : Addr} {fd : FuncData} (F : Fun K "law" "law" s_law f fd) : FnG P w K mg base (L2.CX P w) 9 f fd ["_law_cells"] (spP K lawF) :=
  auto_PW (fun ds r h => by
    obtain ⟨ns, rfl, hn, rfl⟩ := lawF_inv h
    exact law_ev hk_Rounds hk_Ratio) F sc_law rfl fun cdv A outer s H E hr => ⟨_, _, (dss_cons (ds_for (passes_of rfl) rfl (di_range1 (by rfl) b_range (da_cons (de_callB (cd_max2 rfl) (by rfl) b_max (by decide +kernel) (da_cons de_int (da_cons (de_callB (cd_min2 rfl) (by rfl) b_min (by decide +kernel) (da_cons (de_callB cd_len (by rfl) b_len (by decide +kernel) (da_cons (dv 0) da_nil)) (da_cons de_int da_nil))) da_nil))) da_nil)) (dg_name (i := 1) sc_law.nd) (dss_cons (ds_setO (i := 2) sc_law.nd (df_callF G__law_purse (hr.mono (by decide)) (takes_of rfl rfl rfl rfl) (by rfl) (da_cons (dv 0) (da_cons (dv 1) da_nil)))) (dss_one (ds_if (DW.dt (dw_or (dt_not (dt_val (de_callM 2 G__law_right (hr.mono (by decide)) (takes_of rfl rfl rfl rfl) (by rfl) da_nil))) (dw_or1 (dt_not (dt_val (de_callM 2 G__law_several_right (hr.mono (by decide)) (takes_of rfl rfl rfl rfl) (by rfl) da_nil)))))) (dss_one (ds_ret de_bl)) dss_nil)))) (dss_one (ds_ret de_bl))), rfl⟩
end
theorem all_mk {l : PySem.W.OpenLaw} {w : World} {K : PySem.W.Frag} {h : Heap} {mg : Str → Option Value} {fa : Addr} (X : K.In h) (G : h.Ns mainGlobals mg) (hfa : mg "law" = some (.ref fa)) (sk : SayK fbs fns dks w K) :
    ∃ fd : FuncData, (∀ (s : Shared) (v : Value), BindsTo s fd ⟨[v], []⟩ [("_law_cells", v)]) ∧ ∀ base : Heap, K.In base → base.Ns mainGlobals mg → FnG l.prog w K mg base (L2.CX l.prog w) 9 fa fd ["_law_cells"] (spP K lawF) := by
  have aC_Rounds : PySem.W.nsIn K mainGlobals "Rounds" = some (some (.ref (He.ga K "Rounds"))) := of_decide_eq_true (sk.at_ 0 rfl)
  have aC_Ratio : PySem.W.nsIn K mainGlobals "Ratio" = some (some (.ref (He.ga K "Ratio"))) := of_decide_eq_true (sk.at_ 1 rfl)
  have a__law_purse : PySem.W.nsIn K mainGlobals "_law_purse" = some (some (.ref (He.ga K "_law_purse"))) := of_decide_eq_true (sk.at_ 2 rfl)
  obtain ⟨fd__law_purse, E__law_purse⟩ := sk.df 0 rfl
  have F__law_purse : Fun K "_law_purse" "_law_purse" s__law_purse (He.ga K "_law_purse") fd__law_purse := fun_ofD E__law_purse
  have a__law_take : PySem.W.nsIn K mainGlobals "_law_take" = some (some (.ref (He.ga K "_law_take"))) := of_decide_eq_true (sk.at_ 3 rfl)
  obtain ⟨fd__law_take, E__law_take⟩ := sk.df 1 rfl
  have F__law_take : Fun K "_law_take" "_law_take" s__law_take (He.ga K "_law_take") fd__law_take := fun_ofD E__law_take
  have a_is_integer : PySem.W.nsIn K mainGlobals "is_integer" = some (some (.ref (He.ga K "is_integer"))) := of_decide_eq_true (sk.at_ 4 rfl)
  obtain ⟨fd_is_integer, E_is_integer⟩ := sk.df 2 rfl
  have F_is_integer : Fun K "is_integer" "is_integer" s_is_integer (He.ga K "is_integer") fd_is_integer := fun_ofD E_is_integer
  have a_check_ascending : PySem.W.nsIn K mainGlobals "check_ascending" = some (some (.ref (He.ga K "check_ascending"))) := of_decide_eq_true (sk.at_ 5 rfl)
  obtain ⟨fd_check_ascending, E_check_ascending⟩ := sk.df 3 rfl
  have F_check_ascending : Fun K "check_ascending" "check_ascending" s_check_ascending (He.ga K "check_ascending") fd_check_ascending := fun_ofD E_check_ascending
  have a_others_before : PySem.W.nsIn K mainGlobals "others_before" = some (some (.ref (He.ga K "others_before"))) := of_decide_eq_true (sk.at_ 6 rfl)
  obtain ⟨fd_others_before, E_others_before⟩ := sk.df 4 rfl
  have F_others_before : Fun K "others_before" "others_before" s_others_before (He.ga K "others_before") fd_others_before := fun_ofD E_others_before
  have a_Rounds___init__ : PySem.W.findIn K (.ref (He.ga K "Rounds")) "__init__" = some (some (.ref (He.ma K (He.ga K "Rounds") "__init__"))) := of_decide_eq_true (sk.at_ 7 rfl)
  have i_Rounds___init__ : PySem.W.isFn K (.ref (He.ma K (He.ga K "Rounds") "__init__")) = true := sk.at_ 8 rfl
  have mk_Rounds : PySem.W.makesIn K (He.ga K "Rounds") = true := sk.at_ 9 rfl
  have kc_Rounds : PySem.W.keepIn K (.ref (He.ga K "Rounds")) = true := sk.at_ 10 rfl
  obtain ⟨fd_Rounds___init__, E_Rounds___init__⟩ := sk.df 5 rfl
  have F_Rounds___init__ : Fun K "__init__" "Rounds.__init__" s_Rounds___init__ (He.ma K (He.ga K "Rounds") "__init__") fd_Rounds___init__ := fun_ofD E_Rounds___init__
  have rd_Rounds : PySem.W.readsIn K (He.ga K "Rounds") (.type "type") = true := sk.at_ 11 rfl
  have ga_Rounds : PySem.W.specialIn K (.ref (He.ga K "Rounds")) "__getattribute__" = some (some (.builtin "type.__getattribute__")) := of_decide_eq_true (sk.at_ 12 rfl)
  obtain ⟨fd_Rounds_rests, E_Rounds_rests⟩ := sk.df 6 rfl
  have F_Rounds_rests : Fun K "rests" "Rounds.rests" s_Rounds_rests (smF K (He.ga K "Rounds") "rests") fd_Rounds_rests := fun_ofD E_Rounds_rests
  obtain ⟨fd_Rounds_told, E_Rounds_told⟩ := sk.df 7 rfl
  have F_Rounds_told : Fun K "told" "Rounds.told" s_Rounds_told (smF K (He.ga K "Rounds") "told") fd_Rounds_told := fun_ofD E_Rounds_told
  have a_check_number : PySem.W.nsIn K mainGlobals "check_number" = some (some (.ref (He.ga K "check_number"))) := of_decide_eq_true (sk.at_ 15 rfl)
  obtain ⟨fd_check_number, E_check_number⟩ := sk.df 8 rfl
  have F_check_number : Fun K "check_number" "check_number" s_check_number (He.ga K "check_number") fd_check_number := fun_ofD E_check_number
  have a_hits_at : PySem.W.nsIn K mainGlobals "hits_at" = some (some (.ref (He.ga K "hits_at"))) := of_decide_eq_true (sk.at_ 16 rfl)
  obtain ⟨fd_hits_at, E_hits_at⟩ := sk.df 9 rfl
  have F_hits_at : Fun K "hits_at" "hits_at" s_hits_at (He.ga K "hits_at") fd_hits_at := fun_ofD E_hits_at
  have a_is_member : PySem.W.nsIn K mainGlobals "is_member" = some (some (.ref (He.ga K "is_member"))) := of_decide_eq_true (sk.at_ 17 rfl)
  obtain ⟨fd_is_member, E_is_member⟩ := sk.df 10 rfl
  have F_is_member : Fun K "is_member" "is_member" s_is_member (He.ga K "is_member") fd_is_member := fun_ofD E_is_member
  have a_next_member : PySem.W.nsIn K mainGlobals "next_member" = some (some (.ref (He.ga K "next_member"))) := of_decide_eq_true (sk.at_ 18 rfl)
  obtain ⟨fd_next_member, E_next_member⟩ := sk.df 11 rfl
  have F_next_member : Fun K "next_member" "next_member" s_next_member (He.ga K "next_member") fd_next_member := fun_ofD E_next_member
  have a_Rounds_members : PySem.W.findIn K (.ref (He.ga K "Rounds")) "members" = some (some (.ref (He.ma K (He.ga K "Rounds") "members"))) := of_decide_eq_true (sk.at_ 19 rfl)
  have i_Rounds_members : PySem.W.isFn K (.ref (He.ma K (He.ga K "Rounds") "members")) = true := sk.at_ 20 rfl
  obtain ⟨fd_Rounds_members, E_Rounds_members⟩ := sk.df 12 rfl
  have F_Rounds_members : Fun K "members" "Rounds.members" s_Rounds_members (He.ma K (He.ga K "Rounds") "members") fd_Rounds_members := fun_ofD E_Rounds_members
  have a_common_multiple : PySem.W.nsIn K mainGlobals "common_multiple" = some (some (.ref (He.ga K "common_multiple"))) := of_decide_eq_true (sk.at_ 21 rfl)
  obtain ⟨fd_common_multiple, E_common_multiple⟩ := sk.df 13 rfl
  have F_common_multiple : Fun K "common_multiple" "common_multiple" s_common_multiple (He.ga K "common_multiple") fd_common_multiple := fun_ofD E_common_multiple
  have a_Rounds___eq__ : PySem.W.findIn K (.ref (He.ga K "Rounds")) "__eq__" = some (some (.ref (He.ma K (He.ga K "Rounds") "__eq__"))) := of_decide_eq_true (sk.at_ 22 rfl)
  have i_Rounds___eq__ : PySem.W.isFn K (.ref (He.ma K (He.ga K "Rounds") "__eq__")) = true := sk.at_ 23 rfl
  obtain ⟨fd_Rounds___eq__, E_Rounds___eq__⟩ := sk.df 14 rfl
  have F_Rounds___eq__ : Fun K "__eq__" "Rounds.__eq__" s_Rounds___eq__ (He.ma K (He.ga K "Rounds") "__eq__") fd_Rounds___eq__ := fun_ofD E_Rounds___eq__
  have a_Rounds_after : PySem.W.findIn K (.ref (He.ga K "Rounds")) "after" = some (some (.ref (He.ma K (He.ga K "Rounds") "after"))) := of_decide_eq_true (sk.at_ 24 rfl)
  have i_Rounds_after : PySem.W.isFn K (.ref (He.ma K (He.ga K "Rounds") "after")) = true := sk.at_ 25 rfl
  obtain ⟨fd_Rounds_after, E_Rounds_after⟩ := sk.df 15 rfl
  have F_Rounds_after : Fun K "after" "Rounds.after" s_Rounds_after (He.ma K (He.ga K "Rounds") "after") fd_Rounds_after := fun_ofD E_Rounds_after
  have a_Rounds___bool__ : PySem.W.findIn K (.ref (He.ga K "Rounds")) "__bool__" = some (some (.ref (He.ma K (He.ga K "Rounds") "__bool__"))) := of_decide_eq_true (sk.at_ 26 rfl)
  have i_Rounds___bool__ : PySem.W.isFn K (.ref (He.ma K (He.ga K "Rounds") "__bool__")) = true := sk.at_ 27 rfl
  obtain ⟨fd_Rounds___bool__, E_Rounds___bool__⟩ := sk.df 16 rfl
  have F_Rounds___bool__ : Fun K "__bool__" "Rounds.__bool__" s_Rounds___bool__ (He.ma K (He.ga K "Rounds") "__bool__") fd_Rounds___bool__ := fun_ofD E_Rounds___bool__
  obtain ⟨fd_Rounds_whole_from, E_Rounds_whole_from⟩ := sk.df 17 rfl
  have F_Rounds_whole_from : Fun K "whole_from" "Rounds.whole_from" s_Rounds_whole_from (prF K (He.ga K "Rounds") "whole_from") fd_Rounds_whole_from := fun_ofD E_Rounds_whole_from
  have a__law_several_right : PySem.W.nsIn K mainGlobals "_law_several_right" = some (some (.ref (He.ga K "_law_several_right"))) := of_decide_eq_true (sk.at_ 29 rfl)
  obtain ⟨fd__law_several_right, E__law_several_right⟩ := sk.df 18 rfl
  have F__law_several_right : Fun K "_law_several_right" "_law_several_right" s__law_several_right (He.ga K "_law_several_right") fd__law_several_right := fun_ofD E__law_several_right
  have a__law_set : PySem.W.nsIn K mainGlobals "_law_set" = some (some (.ref (He.ga K "_law_set"))) := of_decide_eq_true (sk.at_ 30 rfl)
  obtain ⟨fd__law_set, E__law_set⟩ := sk.df 19 rfl
  have F__law_set : Fun K "_law_set" "_law_set" s__law_set (He.ga K "_law_set") fd__law_set := fun_ofD E__law_set
  have a_told_of : PySem.W.nsIn K mainGlobals "told_of" = some (some (.ref (He.ga K "told_of"))) := of_decide_eq_true (sk.at_ 31 rfl)
  obtain ⟨fd_told_of, E_told_of⟩ := sk.df 20 rfl
  have F_told_of : Fun K "told_of" "told_of" s_told_of (He.ga K "told_of") fd_told_of := fun_ofD E_told_of
  have a_joined : PySem.W.nsIn K mainGlobals "joined" = some (some (.ref (He.ga K "joined"))) := of_decide_eq_true (sk.at_ 32 rfl)
  obtain ⟨fd_joined, E_joined⟩ := sk.df 21 rfl
  have F_joined : Fun K "joined" "joined" s_joined (He.ga K "joined") fd_joined := fun_ofD E_joined
  have a_Rounds___or__ : PySem.W.findIn K (.ref (He.ga K "Rounds")) "__or__" = some (some (.ref (He.ma K (He.ga K "Rounds") "__or__"))) := of_decide_eq_true (sk.at_ 33 rfl)
  have i_Rounds___or__ : PySem.W.isFn K (.ref (He.ma K (He.ga K "Rounds") "__or__")) = true := sk.at_ 34 rfl
  obtain ⟨fd_Rounds___or__, E_Rounds___or__⟩ := sk.df 22 rfl
  have F_Rounds___or__ : Fun K "__or__" "Rounds.__or__" s_Rounds___or__ (He.ma K (He.ga K "Rounds") "__or__") fd_Rounds___or__ := fun_ofD E_Rounds___or__
  have a_Rounds___xor__ : PySem.W.findIn K (.ref (He.ga K "Rounds")) "__xor__" = some (some (.ref (He.ma K (He.ga K "Rounds") "__xor__"))) := of_decide_eq_true (sk.at_ 35 rfl)
  have i_Rounds___xor__ : PySem.W.isFn K (.ref (He.ma K (He.ga K "Rounds") "__xor__")) = true := sk.at_ 36 rfl
  obtain ⟨fd_Rounds___xor__, E_Rounds___xor__⟩ := sk.df 23 rfl
  have F_Rounds___xor__ : Fun K "__xor__" "Rounds.__xor__" s_Rounds___xor__ (He.ma K (He.ga K "Rounds") "__xor__") fd_Rounds___xor__ := fun_ofD E_Rounds___xor__
  have a__law_formed : PySem.W.nsIn K mainGlobals "_law_formed" = some (some (.ref (He.ga K "_law_formed"))) := of_decide_eq_true (sk.at_ 37 rfl)
  obtain ⟨fd__law_formed, E__law_formed⟩ := sk.df 24 rfl
  have F__law_formed : Fun K "_law_formed" "_law_formed" s__law_formed (He.ga K "_law_formed") fd__law_formed := fun_ofD E__law_formed
  have a__law_whole : PySem.W.nsIn K mainGlobals "_law_whole" = some (some (.ref (He.ga K "_law_whole"))) := of_decide_eq_true (sk.at_ 38 rfl)
  obtain ⟨fd__law_whole, E__law_whole⟩ := sk.df 25 rfl
  have F__law_whole : Fun K "_law_whole" "_law_whole" s__law_whole (He.ga K "_law_whole") fd__law_whole := fun_ofD E__law_whole
  have a_Rounds___sub__ : PySem.W.findIn K (.ref (He.ga K "Rounds")) "__sub__" = some (some (.ref (He.ma K (He.ga K "Rounds") "__sub__"))) := of_decide_eq_true (sk.at_ 39 rfl)
  have i_Rounds___sub__ : PySem.W.isFn K (.ref (He.ma K (He.ga K "Rounds") "__sub__")) = true := sk.at_ 40 rfl
  obtain ⟨fd_Rounds___sub__, E_Rounds___sub__⟩ := sk.df 26 rfl
  have F_Rounds___sub__ : Fun K "__sub__" "Rounds.__sub__" s_Rounds___sub__ (He.ma K (He.ga K "Rounds") "__sub__") fd_Rounds___sub__ := fun_ofD E_Rounds___sub__
  have a_greatest_common : PySem.W.nsIn K mainGlobals "greatest_common" = some (some (.ref (He.ga K "greatest_common"))) := of_decide_eq_true (sk.at_ 41 rfl)
  obtain ⟨fd_greatest_common, E_greatest_common⟩ := sk.df 27 rfl
  have F_greatest_common : Fun K "greatest_common" "greatest_common" s_greatest_common (He.ga K "greatest_common") fd_greatest_common := fun_ofD E_greatest_common
  have a_Ratio___init__ : PySem.W.findIn K (.ref (He.ga K "Ratio")) "__init__" = some (some (.ref (He.ma K (He.ga K "Ratio") "__init__"))) := of_decide_eq_true (sk.at_ 42 rfl)
  have i_Ratio___init__ : PySem.W.isFn K (.ref (He.ma K (He.ga K "Ratio") "__init__")) = true := sk.at_ 43 rfl
  have mk_Ratio : PySem.W.makesIn K (He.ga K "Ratio") = true := sk.at_ 44 rfl
  have kc_Ratio : PySem.W.keepIn K (.ref (He.ga K "Ratio")) = true := sk.at_ 45 rfl
  obtain ⟨fd_Ratio___init__, E_Ratio___init__⟩ := sk.df 28 rfl
  have F_Ratio___init__ : FunD K "__init__" "Ratio.__init__" (defArgs s_Ratio___init__) (defBody s_Ratio___init__) (defScope s_Ratio___init__) [.int 1] [] (He.ma K (He.ga K "Ratio") "__init__") fd_Ratio___init__ := E_Ratio___init__
  have a_Rounds___contains__ : PySem.W.findIn K (.ref (He.ga K "Rounds")) "__contains__" = some (some (.ref (He.ma K (He.ga K "Rounds") "__contains__"))) := of_decide_eq_true (sk.at_ 46 rfl)
  have i_Rounds___contains__ : PySem.W.isFn K (.ref (He.ma K (He.ga K "Rounds") "__contains__")) = true := sk.at_ 47 rfl
  obtain ⟨fd_Rounds___contains__, E_Rounds___contains__⟩ := sk.df 29 rfl
  have F_Rounds___contains__ : Fun K "__contains__" "Rounds.__contains__" s_Rounds___contains__ (He.ma K (He.ga K "Rounds") "__contains__") fd_Rounds___contains__ := fun_ofD E_Rounds___contains__
  have a__law_holds : PySem.W.nsIn K mainGlobals "_law_holds" = some (some (.ref (He.ga K "_law_holds"))) := of_decide_eq_true (sk.at_ 48 rfl)
  obtain ⟨fd__law_holds, E__law_holds⟩ := sk.df 30 rfl
  have F__law_holds : Fun K "_law_holds" "_law_holds" s__law_holds (He.ga K "_law_holds") fd__law_holds := fun_ofD E__law_holds
  have a__law_members : PySem.W.nsIn K mainGlobals "_law_members" = some (some (.ref (He.ga K "_law_members"))) := of_decide_eq_true (sk.at_ 49 rfl)
  obtain ⟨fd__law_members, E__law_members⟩ := sk.df 31 rfl
  have F__law_members : Fun K "_law_members" "_law_members" s__law_members (He.ga K "_law_members") fd__law_members := fun_ofD E__law_members
  have a__law_right : PySem.W.nsIn K mainGlobals "_law_right" = some (some (.ref (He.ga K "_law_right"))) := of_decide_eq_true (sk.at_ 50 rfl)
  obtain ⟨fd__law_right, E__law_right⟩ := sk.df 32 rfl
  have F__law_right : Fun K "_law_right" "_law_right" s__law_right (He.ga K "_law_right") fd__law_right := fun_ofD E__law_right
  have a_law : PySem.W.nsIn K mainGlobals "law" = some (some (.ref (He.ga K "law"))) := of_decide_eq_true (sk.at_ 51 rfl)
  obtain ⟨fd_law, E_law⟩ := sk.df 33 rfl
  have F_law : Fun K "law" "law" s_law (He.ga K "law") fd_law := fun_ofD E_law
  have z_max : PySem.W.nsIn K mainGlobals "max" = some none := of_decide_eq_true (sk.at_ 52 rfl)
  have z_min : PySem.W.nsIn K mainGlobals "min" = some none := of_decide_eq_true (sk.at_ 53 rfl)
  have z_len : PySem.W.nsIn K mainGlobals "len" = some none := of_decide_eq_true (sk.at_ 54 rfl)
  have z_range : PySem.W.nsIn K mainGlobals "range" = some none := of_decide_eq_true (sk.at_ 55 rfl)
  have z_int : PySem.W.nsIn K mainGlobals "int" = some none := of_decide_eq_true (sk.at_ 56 rfl)
  have z_abs : PySem.W.nsIn K mainGlobals "abs" = some none := of_decide_eq_true (sk.at_ 57 rfl)
  have e_bool_int : PySem.W.kitOne K (.type "int") (.type "bool") = some false := of_decide_eq_true (sk.at_ 59 rfl)
  have e_bool_bl : PySem.W.kitOne K (.type "bool") (.type "bool") = some true := of_decide_eq_true (sk.at_ 60 rfl)
  have e_bool_non : PySem.W.kitOne K (.type "NoneType") (.type "bool") = some false := of_decide_eq_true (sk.at_ 61 rfl)
  have e_bool_str : PySem.W.kitOne K (.type "str") (.type "bool") = some false := of_decide_eq_true (sk.at_ 62 rfl)
  have e_bool_tup : PySem.W.kitOne K (.type "tuple") (.type "bool") = some false := of_decide_eq_true (sk.at_ 63 rfl)
  have e_bool_lst : PySem.W.kitOne K (.type "list") (.type "bool") = some false := of_decide_eq_true (sk.at_ 64 rfl)
  have e_bool_dct : PySem.W.kitOne K (.type "dict") (.type "bool") = some false := of_decide_eq_true (sk.at_ 65 rfl)
  have e_bool_IRounds : PySem.W.kitOne K (.ref (He.ga K "Rounds")) (.type "bool") = some false := of_decide_eq_true (sk.at_ 66 rfl)
  have e_bool_IRatio : PySem.W.kitOne K (.ref (He.ga K "Ratio")) (.type "bool") = some false := of_decide_eq_true (sk.at_ 67 rfl)
  have pg_Rounds : PySem.W.plainGet K (He.ga K "Rounds") Str.empty = true := sk.at_ 68 rfl
  have hd_Rounds : PySem.W.hasDictIn K (He.ga K "Rounds") = true := sk.at_ 69 rfl
  have po_Rounds : PySem.W.plainOver K (He.ga K "Rounds") = true := sk.at_ 70 rfl
  have sa_Rounds : PySem.W.findIn K (.ref (He.ga K "Rounds")) "__setattr__" = some (some (.builtin "object.__setattr__")) := of_decide_eq_true (sk.at_ 71 rfl)
  have ha_Rounds : PySem.W.findIn K (.ref (He.ga K "Rounds")) "__class__" = some (some (.builtin "object.__class__")) := of_decide_eq_true (sk.at_ 72 rfl)
  have hm_Rounds : PySem.W.mroIn K (He.ga K "Rounds") (.type "object") = some true := of_decide_eq_true (sk.at_ 73 rfl)
  have hn : PySem.W.specialIn K (.builtin "object.__class__") "__get__" = some (some (.builtin "getset_descriptor.__get__")) := of_decide_eq_true (sk.at_ 74 rfl)
  have htk : PySem.W.takesIn K (.builtin "object.__class__") = some true := of_decide_eq_true (sk.at_ 75 rfl)
  have pg_Ratio : PySem.W.plainGet K (He.ga K "Ratio") Str.empty = true := sk.at_ 76 rfl
  have hd_Ratio : PySem.W.hasDictIn K (He.ga K "Ratio") = true := sk.at_ 77 rfl
  have po_Ratio : PySem.W.plainOver K (He.ga K "Ratio") = true := sk.at_ 78 rfl
  have sa_Ratio : PySem.W.findIn K (.ref (He.ga K "Ratio")) "__setattr__" = some (some (.builtin "object.__setattr__")) := of_decide_eq_true (sk.at_ 79 rfl)
  have ha_Ratio : PySem.W.findIn K (.ref (He.ga K "Ratio")) "__class__" = some (some (.builtin "object.__class__")) := of_decide_eq_true (sk.at_ 80 rfl)
  have hm_Ratio : PySem.W.mroIn K (He.ga K "Ratio") (.type "object") = some true := of_decide_eq_true (sk.at_ 81 rfl)
  have z_isinstance : PySem.W.nsIn K mainGlobals "isinstance" = some none := of_decide_eq_true (sk.at_ 82 rfl)
  have z_bool : PySem.W.nsIn K mainGlobals "bool" = some none := of_decide_eq_true (sk.at_ 83 rfl)
  have e_int_int : PySem.W.kitOne K (.type "int") (.type "int") = some true := of_decide_eq_true (sk.at_ 84 rfl)
  have e_int_bl : PySem.W.kitOne K (.type "bool") (.type "int") = some true := of_decide_eq_true (sk.at_ 85 rfl)
  have e_int_non : PySem.W.kitOne K (.type "NoneType") (.type "int") = some false := of_decide_eq_true (sk.at_ 86 rfl)
  have e_int_str : PySem.W.kitOne K (.type "str") (.type "int") = some false := of_decide_eq_true (sk.at_ 87 rfl)
  have e_int_tup : PySem.W.kitOne K (.type "tuple") (.type "int") = some false := of_decide_eq_true (sk.at_ 88 rfl)
  have e_int_lst : PySem.W.kitOne K (.type "list") (.type "int") = some false := of_decide_eq_true (sk.at_ 89 rfl)
  have e_int_dct : PySem.W.kitOne K (.type "dict") (.type "int") = some false := of_decide_eq_true (sk.at_ 90 rfl)
  have e_int_IRounds : PySem.W.kitOne K (.ref (He.ga K "Rounds")) (.type "int") = some false := of_decide_eq_true (sk.at_ 91 rfl)
  have e_int_IRatio : PySem.W.kitOne K (.ref (He.ga K "Ratio")) (.type "int") = some false := of_decide_eq_true (sk.at_ 92 rfl)
  have wn_Rounds_modulus : PySem.W.findIn K (.ref (He.ga K "Rounds")) "modulus" = some none := of_decide_eq_true (sk.at_ 93 rfl)
  have wn_Rounds_hits : PySem.W.findIn K (.ref (He.ga K "Rounds")) "hits" = some none := of_decide_eq_true (sk.at_ 94 rfl)
  have z_tuple : PySem.W.nsIn K mainGlobals "tuple" = some none := of_decide_eq_true (sk.at_ 95 rfl)
  have wn_Rounds_others : PySem.W.findIn K (.ref (He.ga K "Rounds")) "others" = some none := of_decide_eq_true (sk.at_ 96 rfl)
  have z_any : PySem.W.nsIn K mainGlobals "any" = some none := of_decide_eq_true (sk.at_ 97 rfl)
  have z_list : PySem.W.nsIn K mainGlobals "list" = some none := of_decide_eq_true (sk.at_ 101 rfl)
  have e_Rounds_int : PySem.W.kitOne K (.type "int") (.ref (He.ga K "Rounds")) = some false := of_decide_eq_true (sk.at_ 102 rfl)
  have e_Rounds_bl : PySem.W.kitOne K (.type "bool") (.ref (He.ga K "Rounds")) = some false := of_decide_eq_true (sk.at_ 103 rfl)
  have e_Rounds_non : PySem.W.kitOne K (.type "NoneType") (.ref (He.ga K "Rounds")) = some false := of_decide_eq_true (sk.at_ 104 rfl)
  have e_Rounds_str : PySem.W.kitOne K (.type "str") (.ref (He.ga K "Rounds")) = some false := of_decide_eq_true (sk.at_ 105 rfl)
  have e_Rounds_tup : PySem.W.kitOne K (.type "tuple") (.ref (He.ga K "Rounds")) = some false := of_decide_eq_true (sk.at_ 106 rfl)
  have e_Rounds_lst : PySem.W.kitOne K (.type "list") (.ref (He.ga K "Rounds")) = some false := of_decide_eq_true (sk.at_ 107 rfl)
  have e_Rounds_dct : PySem.W.kitOne K (.type "dict") (.ref (He.ga K "Rounds")) = some false := of_decide_eq_true (sk.at_ 108 rfl)
  have e_Rounds_IRounds : PySem.W.kitOne K (.ref (He.ga K "Rounds")) (.ref (He.ga K "Rounds")) = some true := of_decide_eq_true (sk.at_ 109 rfl)
  have e_Rounds_IRatio : PySem.W.kitOne K (.ref (He.ga K "Ratio")) (.ref (He.ga K "Rounds")) = some false := of_decide_eq_true (sk.at_ 110 rfl)
  have ne_Ratio_Rounds : (He.ga K "Ratio") ≠ (He.ga K "Rounds") := of_decide_eq_true (sk.at_ 111 rfl)
  have z_all : PySem.W.nsIn K mainGlobals "all" = some none := of_decide_eq_true (sk.at_ 112 rfl)
  have nf_Rounds : PySem.W.notFirst K (He.ga K "Rounds") (.type "int") = true := sk.at_ 113 rfl
  have s2_Rounds : PySem.W.subIn K (.ref (He.ga K "Rounds")) (.type "int") = some false := of_decide_eq_true (sk.at_ 114 rfl)
  have nx_Rounds : PySem.W.findIn K (.ref (He.ga K "Rounds")) "__ne__" = some (some (.builtin "object.__ne__")) := of_decide_eq_true (sk.at_ 115 rfl)
  have z_sorted : PySem.W.nsIn K mainGlobals "sorted" = some none := of_decide_eq_true (sk.at_ 116 rfl)
  have sf_Rounds : PySem.W.selfFirst K (He.ga K "Rounds") = true := sk.at_ 117 rfl
  have s1_Rounds : PySem.W.subIn K (.type "int") (.ref (He.ga K "Rounds")) = some false := of_decide_eq_true (sk.at_ 118 rfl)
  have h1_BitOr : (PySem.W.findIn K (.type "int") "__or__").isSome = true := sk.at_ 119 rfl
  have h2_BitOr : (PySem.W.findIn K (.type "int") "__ror__").isSome = true := sk.at_ 120 rfl
  have rn_Rounds_BitOr : PySem.W.findIn K (.ref (He.ga K "Rounds")) "__ror__" = some none := of_decide_eq_true (sk.at_ 121 rfl)
  have h1_BitXor : (PySem.W.findIn K (.type "int") "__xor__").isSome = true := sk.at_ 122 rfl
  have h2_BitXor : (PySem.W.findIn K (.type "int") "__rxor__").isSome = true := sk.at_ 123 rfl
  have rn_Rounds_BitXor : PySem.W.findIn K (.ref (He.ga K "Rounds")) "__rxor__" = some none := of_decide_eq_true (sk.at_ 124 rfl)
  have z_repr : PySem.W.nsIn K mainGlobals "repr" = some none := of_decide_eq_true (sk.at_ 125 rfl)
  have h1_Sub : (PySem.W.findIn K (.type "int") "__sub__").isSome = true := sk.at_ 126 rfl
  have h2_Sub : (PySem.W.findIn K (.type "int") "__rsub__").isSome = true := sk.at_ 127 rfl
  have rn_Rounds_Sub : PySem.W.findIn K (.ref (He.ga K "Rounds")) "__rsub__" = some none := of_decide_eq_true (sk.at_ 128 rfl)
  have wn_Ratio_top : PySem.W.findIn K (.ref (He.ga K "Ratio")) "top" = some none := of_decide_eq_true (sk.at_ 129 rfl)
  have wn_Ratio_bottom : PySem.W.findIn K (.ref (He.ga K "Ratio")) "bottom" = some none := of_decide_eq_true (sk.at_ 130 rfl)
  have eL := hfa.symm.trans (PySem.W.mg_of X G a_law)
  cases eL
  let c : Cs := { cs0 ⟨l.prog, w, mg, h, 0⟩ with known := [(He.ga K "Rounds"), (He.ga K "Ratio")], Rounds := (He.ga K "Rounds"), Ratio := (He.ga K "Ratio") }
  have D__law_purse : DefIn K mg "_law_purse" s__law_purse ["_law_cells", "_law_at"] := ⟨_, _, F__law_purse, PySem.W.mg_of X G a__law_purse, F__law_purse.binds (ps := ["_law_cells", "_law_at"]) fun _ _ _ _ _ _ us hl => match us, hl with | [_, _], _ => rfl⟩
  have D__law_take : DefIn K mg "_law_take" s__law_take ["_law_draws", "_law_many"] := ⟨_, _, F__law_take, PySem.W.mg_of X G a__law_take, F__law_take.binds (ps := ["_law_draws", "_law_many"]) fun _ _ _ _ _ _ us hl => match us, hl with | [_, _], _ => rfl⟩
  have D_is_integer : DefIn K mg "is_integer" s_is_integer ["value"] := ⟨_, _, F_is_integer, PySem.W.mg_of X G a_is_integer, F_is_integer.binds (ps := ["value"]) fun _ _ _ _ _ _ us hl => match us, hl with | [_], _ => rfl⟩
  have D_check_ascending : DefIn K mg "check_ascending" s_check_ascending ["values", "most"] := ⟨_, _, F_check_ascending, PySem.W.mg_of X G a_check_ascending, F_check_ascending.binds (ps := ["values", "most"]) fun _ _ _ _ _ _ us hl => match us, hl with | [_, _], _ => rfl⟩
  have D_others_before : DefIn K mg "others_before" s_others_before ["hits", "begin", "singles"] := ⟨_, _, F_others_before, PySem.W.mg_of X G a_others_before, F_others_before.binds (ps := ["hits", "begin", "singles"]) fun _ _ _ _ _ _ us hl => match us, hl with | [_, _, _], _ => rfl⟩
  have D_Rounds___init__ : InitIn K mg "Rounds" (He.ga K "Rounds") "Rounds.__init__" s_Rounds___init__ [] := ⟨_, _, fund_of F_Rounds___init__, ⟨mk_Rounds, a_Rounds___init__, i_Rounds___init__, kc_Rounds⟩, PySem.W.mg_of X G aC_Rounds⟩
  have aR_Rounds_rests := smB_ok (sk.at_ 13 rfl)
  have D_Rounds_rests : SmIn K (He.ga K "Rounds") "rests" "Rounds.rests" s_Rounds_rests := ⟨.type "type", _, _, ⟨rd_Rounds, ga_Rounds⟩, ⟨aR_Rounds_rests, F_Rounds_rests.kp⟩, F_Rounds_rests⟩
  have aR_Rounds_told := smB_ok (sk.at_ 14 rfl)
  have D_Rounds_told : SmIn K (He.ga K "Rounds") "told" "Rounds.told" s_Rounds_told := ⟨.type "type", _, _, ⟨rd_Rounds, ga_Rounds⟩, ⟨aR_Rounds_told, F_Rounds_told.kp⟩, F_Rounds_told⟩
  have D_check_number : DefIn K mg "check_number" s_check_number ["value", "most"] := ⟨_, _, F_check_number, PySem.W.mg_of X G a_check_number, F_check_number.binds (ps := ["value", "most"]) fun _ _ _ _ _ _ us hl => match us, hl with | [_, _], _ => rfl⟩
  have D_hits_at : DefIn K mg "hits_at" s_hits_at ["rounds", "number"] := ⟨_, _, F_hits_at, PySem.W.mg_of X G a_hits_at, F_hits_at.binds (ps := ["rounds", "number"]) fun _ _ _ _ _ _ us hl => match us, hl with | [_, _], _ => rfl⟩
  have D_is_member : DefIn K mg "is_member" s_is_member ["rounds", "number"] := ⟨_, _, F_is_member, PySem.W.mg_of X G a_is_member, F_is_member.binds (ps := ["rounds", "number"]) fun _ _ _ _ _ _ us hl => match us, hl with | [_, _], _ => rfl⟩
  have D_next_member : DefIn K mg "next_member" s_next_member ["rounds", "first"] := ⟨_, _, F_next_member, PySem.W.mg_of X G a_next_member, F_next_member.binds (ps := ["rounds", "first"]) fun _ _ _ _ _ _ us hl => match us, hl with | [_, _], _ => rfl⟩
  have D_Rounds_members : MethIn K (He.ga K "Rounds") "members" "Rounds.members" s_Rounds_members ["self", "first", "many"] := ⟨_, _, F_Rounds_members, ⟨a_Rounds_members, i_Rounds_members, F_Rounds_members.kp⟩, F_Rounds_members.binds (ps := ["self", "first", "many"]) fun _ _ _ _ _ _ us hl => match us, hl with | [_, _, _], _ => rfl⟩
  have D_common_multiple : DefIn K mg "common_multiple" s_common_multiple ["one", "other"] := ⟨_, _, F_common_multiple, PySem.W.mg_of X G a_common_multiple, F_common_multiple.binds (ps := ["one", "other"]) fun _ _ _ _ _ _ us hl => match us, hl with | [_, _], _ => rfl⟩
  have D_Rounds___eq__ : MethIn K (He.ga K "Rounds") "__eq__" "Rounds.__eq__" s_Rounds___eq__ ["self", "other"] := ⟨_, _, F_Rounds___eq__, ⟨a_Rounds___eq__, i_Rounds___eq__, F_Rounds___eq__.kp⟩, F_Rounds___eq__.binds (ps := ["self", "other"]) fun _ _ _ _ _ _ us hl => match us, hl with | [_, _], _ => rfl⟩
  have D_Rounds_after : MethIn K (He.ga K "Rounds") "after" "Rounds.after" s_Rounds_after ["self", "first"] := ⟨_, _, F_Rounds_after, ⟨a_Rounds_after, i_Rounds_after, F_Rounds_after.kp⟩, F_Rounds_after.binds (ps := ["self", "first"]) fun _ _ _ _ _ _ us hl => match us, hl with | [_, _], _ => rfl⟩
  have D_Rounds___bool__ : MethIn K (He.ga K "Rounds") "__bool__" "Rounds.__bool__" s_Rounds___bool__ ["self"] := ⟨_, _, F_Rounds___bool__, ⟨a_Rounds___bool__, i_Rounds___bool__, F_Rounds___bool__.kp⟩, F_Rounds___bool__.binds (ps := ["self"]) fun _ _ _ _ _ _ us hl => match us, hl with | [_], _ => rfl⟩
  obtain ⟨pY_Rounds_whole_from, aY_Rounds_whole_from⟩ := prB_ok (sk.at_ 28 rfl)
  have D_Rounds_whole_from : PrIn K (He.ga K "Rounds") "whole_from" "Rounds.whole_from" s_Rounds_whole_from ["self"] := ⟨pY_Rounds_whole_from, _, _, F_Rounds_whole_from, aY_Rounds_whole_from, F_Rounds_whole_from.binds (ps := ["self"]) fun _ _ _ _ _ _ us hl => match us, hl with | [_], _ => rfl⟩
  have D__law_several_right : DefIn K mg "_law_several_right" s__law_several_right ["_law_draws"] := ⟨_, _, F__law_several_right, PySem.W.mg_of X G a__law_several_right, F__law_several_right.binds (ps := ["_law_draws"]) fun _ _ _ _ _ _ us hl => match us, hl with | [_], _ => rfl⟩
  have D__law_set : DefIn K mg "_law_set" s__law_set ["_law_draws", "_law_moduli"] := ⟨_, _, F__law_set, PySem.W.mg_of X G a__law_set, F__law_set.binds (ps := ["_law_draws", "_law_moduli"]) fun _ _ _ _ _ _ us hl => match us, hl with | [_, _], _ => rfl⟩
  have D_told_of : DefIn K mg "told_of" s_told_of ["one", "other", "told", "number"] := ⟨_, _, F_told_of, PySem.W.mg_of X G a_told_of, F_told_of.binds (ps := ["one", "other", "told", "number"]) fun _ _ _ _ _ _ us hl => match us, hl with | [_, _, _, _], _ => rfl⟩
  have D_joined : DefIn K mg "joined" s_joined ["one", "other", "told"] := ⟨_, _, F_joined, PySem.W.mg_of X G a_joined, F_joined.binds (ps := ["one", "other", "told"]) fun _ _ _ _ _ _ us hl => match us, hl with | [_, _, _], _ => rfl⟩
  have D_Rounds___or__ : MethIn K (He.ga K "Rounds") "__or__" "Rounds.__or__" s_Rounds___or__ ["self", "other"] := ⟨_, _, F_Rounds___or__, ⟨a_Rounds___or__, i_Rounds___or__, F_Rounds___or__.kp⟩, F_Rounds___or__.binds (ps := ["self", "other"]) fun _ _ _ _ _ _ us hl => match us, hl with | [_, _], _ => rfl⟩
  have D_Rounds___xor__ : MethIn K (He.ga K "Rounds") "__xor__" "Rounds.__xor__" s_Rounds___xor__ ["self", "other"] := ⟨_, _, F_Rounds___xor__, ⟨a_Rounds___xor__, i_Rounds___xor__, F_Rounds___xor__.kp⟩, F_Rounds___xor__.binds (ps := ["self", "other"]) fun _ _ _ _ _ _ us hl => match us, hl with | [_, _], _ => rfl⟩
  have D__law_formed : DefIn K mg "_law_formed" s__law_formed ["_law_model"] := ⟨_, _, F__law_formed, PySem.W.mg_of X G a__law_formed, F__law_formed.binds (ps := ["_law_model"]) fun _ _ _ _ _ _ us hl => match us, hl with | [_], _ => rfl⟩
  have D__law_whole : DefIn K mg "_law_whole" s__law_whole ["_law_model"] := ⟨_, _, F__law_whole, PySem.W.mg_of X G a__law_whole, F__law_whole.binds (ps := ["_law_model"]) fun _ _ _ _ _ _ us hl => match us, hl with | [_], _ => rfl⟩
  have D_Rounds___sub__ : MethIn K (He.ga K "Rounds") "__sub__" "Rounds.__sub__" s_Rounds___sub__ ["self", "other"] := ⟨_, _, F_Rounds___sub__, ⟨a_Rounds___sub__, i_Rounds___sub__, F_Rounds___sub__.kp⟩, F_Rounds___sub__.binds (ps := ["self", "other"]) fun _ _ _ _ _ _ us hl => match us, hl with | [_, _], _ => rfl⟩
  have D_greatest_common : DefIn K mg "greatest_common" s_greatest_common ["one", "two"] := ⟨_, _, F_greatest_common, PySem.W.mg_of X G a_greatest_common, F_greatest_common.binds (ps := ["one", "two"]) fun _ _ _ _ _ _ us hl => match us, hl with | [_, _], _ => rfl⟩
  have D_Ratio___init__ : InitIn K mg "Ratio" (He.ga K "Ratio") "Ratio.__init__" s_Ratio___init__ [.int 1] := ⟨_, _, F_Ratio___init__, ⟨mk_Ratio, a_Ratio___init__, i_Ratio___init__, kc_Ratio⟩, PySem.W.mg_of X G aC_Ratio⟩
  have D_Rounds___contains__ : MethIn K (He.ga K "Rounds") "__contains__" "Rounds.__contains__" s_Rounds___contains__ ["self", "value"] := ⟨_, _, F_Rounds___contains__, ⟨a_Rounds___contains__, i_Rounds___contains__, F_Rounds___contains__.kp⟩, F_Rounds___contains__.binds (ps := ["self", "value"]) fun _ _ _ _ _ _ us hl => match us, hl with | [_, _], _ => rfl⟩
  have D__law_holds : DefIn K mg "_law_holds" s__law_holds ["_law_model", "_law_number"] := ⟨_, _, F__law_holds, PySem.W.mg_of X G a__law_holds, F__law_holds.binds (ps := ["_law_model", "_law_number"]) fun _ _ _ _ _ _ us hl => match us, hl with | [_, _], _ => rfl⟩
  have D__law_members : DefIn K mg "_law_members" s__law_members ["_law_model", "_law_first", "_law_many"] := ⟨_, _, F__law_members, PySem.W.mg_of X G a__law_members, F__law_members.binds (ps := ["_law_model", "_law_first", "_law_many"]) fun _ _ _ _ _ _ us hl => match us, hl with | [_, _, _], _ => rfl⟩
  have D__law_right : DefIn K mg "_law_right" s__law_right ["_law_draws"] := ⟨_, _, F__law_right, PySem.W.mg_of X G a__law_right, F__law_right.binds (ps := ["_law_draws"]) fun _ _ _ _ _ _ us hl => match us, hl with | [_], _ => rfl⟩
  have b_max : mg "max" = none := PySem.W.mg_none_of X G z_max
  have b_min : mg "min" = none := PySem.W.mg_none_of X G z_min
  have b_len : mg "len" = none := PySem.W.mg_none_of X G z_len
  have b_range : mg "range" = none := PySem.W.mg_none_of X G z_range
  have b_int : mg "int" = none := PySem.W.mg_none_of X G z_int
  have b_abs : mg "abs" = none := PySem.W.mg_none_of X G z_abs
  have k_GREATEST_MODULUS : ∃ t, mg "GREATEST_MODULUS" = some (.int 5040 t) := intB_ok X G (sk.at_ 58 rfl)
  have isi_bool : ∀ p ∈ tbl c (tyP "bool"), PySem.W.kitOne K p.1.v (Cl.ty "bool").v = some p.2 := by
    intro p hp
    obtain ⟨t, ht, rfl⟩ := List.mem_map.mp hp
    simp only [c, baseTg, List.map_cons, List.map_nil, List.cons_append, List.nil_append, List.mem_cons, List.not_mem_nil, or_false] at ht
    rcases ht with rfl | rfl | rfl | rfl | rfl | rfl | rfl | rfl | rfl
    · show PySem.W.kitOne K (.type "int") (.type "bool") = some _
      exact (e_bool_int).trans (congrArg some (tyP_bool_int).symm)
    · show PySem.W.kitOne K (.type "bool") (.type "bool") = some _
      exact (e_bool_bl).trans (congrArg some (tyP_bool_bl).symm)
    · show PySem.W.kitOne K (.type "NoneType") (.type "bool") = some _
      exact (e_bool_non).trans (congrArg some (tyP_bool_non).symm)
    · show PySem.W.kitOne K (.type "str") (.type "bool") = some _
      exact (e_bool_str).trans (congrArg some (tyP_bool_str).symm)
    · show PySem.W.kitOne K (.type "tuple") (.type "bool") = some _
      exact (e_bool_tup).trans (congrArg some (tyP_bool_tup).symm)
    · show PySem.W.kitOne K (.type "list") (.type "bool") = some _
      exact (e_bool_lst).trans (congrArg some (tyP_bool_lst).symm)
    · show PySem.W.kitOne K (.type "dict") (.type "bool") = some _
      exact (e_bool_dct).trans (congrArg some (tyP_bool_dct).symm)
    · show PySem.W.kitOne K (.ref (He.ga K "Rounds")) (.type "bool") = some _
      exact (e_bool_IRounds).trans (congrArg some ((tyP_bool_ins (C := (He.ga K "Rounds")))).symm)
    · show PySem.W.kitOne K (.ref (He.ga K "Ratio")) (.type "bool") = some _
      exact (e_bool_IRatio).trans (congrArg some ((tyP_bool_ins (C := (He.ga K "Ratio")))).symm)
  have isiK : ∀ C ∈ c.known, ClsT K C := by
    intro C hC
    simp only [c, List.mem_cons, List.not_mem_nil, or_false] at hC
    rcases hC with rfl | rfl
    · exact ⟨⟨pg_Rounds, hd_Rounds, po_Rounds, sa_Rounds⟩, ha_Rounds, hn, htk, hm_Rounds⟩
    · exact ⟨⟨pg_Ratio, hd_Ratio, po_Ratio, sa_Ratio⟩, ha_Ratio, hn, htk, hm_Ratio⟩
  have b_isinstance : mg "isinstance" = none := PySem.W.mg_none_of X G z_isinstance
  have b_bool : mg "bool" = none := PySem.W.mg_none_of X G z_bool
  have isi_int : ∀ p ∈ tbl c (tyP "int"), PySem.W.kitOne K p.1.v (Cl.ty "int").v = some p.2 := by
    intro p hp
    obtain ⟨t, ht, rfl⟩ := List.mem_map.mp hp
    simp only [c, baseTg, List.map_cons, List.map_nil, List.cons_append, List.nil_append, List.mem_cons, List.not_mem_nil, or_false] at ht
    rcases ht with rfl | rfl | rfl | rfl | rfl | rfl | rfl | rfl | rfl
    · show PySem.W.kitOne K (.type "int") (.type "int") = some _
      exact (e_int_int).trans (congrArg some (tyP_int_int).symm)
    · show PySem.W.kitOne K (.type "bool") (.type "int") = some _
      exact (e_int_bl).trans (congrArg some (tyP_int_bl).symm)
    · show PySem.W.kitOne K (.type "NoneType") (.type "int") = some _
      exact (e_int_non).trans (congrArg some (tyP_int_non).symm)
    · show PySem.W.kitOne K (.type "str") (.type "int") = some _
      exact (e_int_str).trans (congrArg some (tyP_int_str).symm)
    · show PySem.W.kitOne K (.type "tuple") (.type "int") = some _
      exact (e_int_tup).trans (congrArg some (tyP_int_tup).symm)
    · show PySem.W.kitOne K (.type "list") (.type "int") = some _
      exact (e_int_lst).trans (congrArg some (tyP_int_lst).symm)
    · show PySem.W.kitOne K (.type "dict") (.type "int") = some _
      exact (e_int_dct).trans (congrArg some (tyP_int_dct).symm)
    · show PySem.W.kitOne K (.ref (He.ga K "Rounds")) (.type "int") = some _
      exact (e_int_IRounds).trans (congrArg some ((tyP_int_ins (C := (He.ga K "Rounds")))).symm)
    · show PySem.W.kitOne K (.ref (He.ga K "Ratio")) (.type "int") = some _
      exact (e_int_IRatio).trans (congrArg some ((tyP_int_ins (C := (He.ga K "Ratio")))).symm)
  have n_Rounds_modulus : NoAttr K c.Rounds "modulus" := wn_Rounds_modulus
  have t_Rounds : ClsT K c.Rounds := ⟨⟨pg_Rounds, hd_Rounds, po_Rounds, sa_Rounds⟩, ha_Rounds, hn, htk, hm_Rounds⟩
  have n_Rounds_hits : NoAttr K c.Rounds "hits" := wn_Rounds_hits
  have b_tuple : mg "tuple" = none := PySem.W.mg_none_of X G z_tuple
  have n_Rounds_others : NoAttr K c.Rounds "others" := wn_Rounds_others
  have b_any : mg "any" = none := PySem.W.mg_none_of X G z_any
  have g_Rounds : mg "Rounds" = some (.ref c.Rounds) := PySem.W.mg_of X G aC_Rounds
  have k_GREATEST_MEMBER : ∃ t, mg "GREATEST_MEMBER" = some (.int 1000000 t) := intB_ok X G (sk.at_ 98 rfl)
  have k_GREATEST_FIRST : ∃ t, mg "GREATEST_FIRST" = some (.int 1000000000 t) := intB_ok X G (sk.at_ 99 rfl)
  have k_MOST_MEMBERS : ∃ t, mg "MOST_MEMBERS" = some (.int 1000 t) := intB_ok X G (sk.at_ 100 rfl)
  have b_list : mg "list" = none := PySem.W.mg_none_of X G z_list
  have isi_Rounds : ∀ p ∈ tbl c (fun t => decide (t = .ins c.Rounds)), PySem.W.kitOne K p.1.v (Cl.own c.Rounds).v = some p.2 := by
    intro p hp
    obtain ⟨t, ht, rfl⟩ := List.mem_map.mp hp
    simp only [c, baseTg, List.map_cons, List.map_nil, List.cons_append, List.nil_append, List.mem_cons, List.not_mem_nil, or_false] at ht
    rcases ht with rfl | rfl | rfl | rfl | rfl | rfl | rfl | rfl | rfl
    · show PySem.W.kitOne K (.type "int") (.ref (He.ga K "Rounds")) = some _
      exact (e_Rounds_int).trans (congrArg some ((tgI_int (C := (He.ga K "Rounds")))).symm)
    · show PySem.W.kitOne K (.type "bool") (.ref (He.ga K "Rounds")) = some _
      exact (e_Rounds_bl).trans (congrArg some ((tgI_bl (C := (He.ga K "Rounds")))).symm)
    · show PySem.W.kitOne K (.type "NoneType") (.ref (He.ga K "Rounds")) = some _
      exact (e_Rounds_non).trans (congrArg some ((tgI_non (C := (He.ga K "Rounds")))).symm)
    · show PySem.W.kitOne K (.type "str") (.ref (He.ga K "Rounds")) = some _
      exact (e_Rounds_str).trans (congrArg some ((tgI_str (C := (He.ga K "Rounds")))).symm)
    · show PySem.W.kitOne K (.type "tuple") (.ref (He.ga K "Rounds")) = some _
      exact (e_Rounds_tup).trans (congrArg some ((tgI_tup (C := (He.ga K "Rounds")))).symm)
    · show PySem.W.kitOne K (.type "list") (.ref (He.ga K "Rounds")) = some _
      exact (e_Rounds_lst).trans (congrArg some ((tgI_lst (C := (He.ga K "Rounds")))).symm)
    · show PySem.W.kitOne K (.type "dict") (.ref (He.ga K "Rounds")) = some _
      exact (e_Rounds_dct).trans (congrArg some ((tgI_dct (C := (He.ga K "Rounds")))).symm)
    · show PySem.W.kitOne K (.ref (He.ga K "Rounds")) (.ref (He.ga K "Rounds")) = some _
      exact (e_Rounds_IRounds).trans (congrArg some ((tgI_ins (C := (He.ga K "Rounds")))).symm)
    · show PySem.W.kitOne K (.ref (He.ga K "Ratio")) (.ref (He.ga K "Rounds")) = some _
      exact (e_Rounds_IRatio).trans (congrArg some ((decide_eq_false (fun z => ne_Ratio_Rounds (Tg.ins.inj z)))).symm)
  have b_all : mg "all" = none := PySem.W.mg_none_of X G z_all
  have ne_Rounds : NeC K c.Rounds := ⟨nf_Rounds, s2_Rounds, hm_Rounds, nx_Rounds⟩
  have cmp_Rounds : CmpC K c.Rounds := ⟨nf_Rounds, s2_Rounds⟩
  have b_sorted : mg "sorted" = none := PySem.W.mg_none_of X G z_sorted
  have o_Rounds_BitOr : OpC K c.Rounds .BitOr := ⟨sf_Rounds, ⟨_, rn_Rounds_BitOr, .inl rfl⟩, some_of h1_BitOr, some_of h2_BitOr, s1_Rounds⟩
  have o_Rounds_BitXor : OpC K c.Rounds .BitXor := ⟨sf_Rounds, ⟨_, rn_Rounds_BitXor, .inl rfl⟩, some_of h1_BitXor, some_of h2_BitXor, s1_Rounds⟩
  have b_repr : mg "repr" = none := PySem.W.mg_none_of X G z_repr
  have o_Rounds_Sub : OpC K c.Rounds .Sub := ⟨sf_Rounds, ⟨_, rn_Rounds_Sub, .inl rfl⟩, some_of h1_Sub, some_of h2_Sub, s1_Rounds⟩
  have n_Ratio_top : NoAttr K c.Ratio "top" := wn_Ratio_top
  have t_Ratio : ClsT K c.Ratio := ⟨⟨pg_Ratio, hd_Ratio, po_Ratio, sa_Ratio⟩, ha_Ratio, hn, htk, hm_Ratio⟩
  have n_Ratio_bottom : NoAttr K c.Ratio "bottom" := wn_Ratio_bottom
  refine ⟨fd_law, ?bnd, fun base _ _ => ?run⟩
  case bnd =>
    obtain ⟨_, _, _, _, _, _, _, _, _, eF, _⟩ := F_law.ex
    subst eF
    exact fun s v => .of_eq rfl
  case run =>
    have G__law_purse := w__law_purse (P := l.prog) (w := w) (mg := mg) (K := K) (base := base) (c := c) b_len b_int b_abs D__law_purse
    have G__law_take := w__law_take (P := l.prog) (w := w) (mg := mg) (K := K) (base := base) (c := c) b_int D__law_take
    have G_is_integer := w_is_integer (P := l.prog) (w := w) (mg := mg) (K := K) (base := base) (c := c) isi_bool isiK b_isinstance b_bool isi_int b_int D_is_integer
    have G_check_ascending := w_check_ascending (P := l.prog) (w := w) (mg := mg) (K := K) (base := base) (c := c) b_len b_range G_is_integer D_check_ascending
    have G_others_before := w_others_before (P := l.prog) (w := w) (mg := mg) (K := K) (base := base) (c := c) b_any b_tuple b_range b_len D_others_before
    have I_Rounds4 := w_Rounds4 (P := l.prog) (w := w) (mg := mg) (K := K) (base := base) (c := c) n_Rounds_modulus t_Rounds n_Rounds_hits b_tuple b_range n_Rounds_others G_others_before D_Rounds___init__
    have SM_Rounds_rests := w_Rounds_rests (P := l.prog) (w := w) (mg := mg) (K := K) (base := base) (c := c) k_GREATEST_MODULUS G_is_integer G_check_ascending I_Rounds4 D_Rounds_rests
    have SM_Rounds_told := w_Rounds_told (P := l.prog) (w := w) (mg := mg) (K := K) (base := base) (c := c) G_check_ascending k_GREATEST_MEMBER b_len I_Rounds4 D_Rounds_told
    have G_check_number := w_check_number (P := l.prog) (w := w) (mg := mg) (K := K) (base := base) (c := c) G_is_integer D_check_number
    have G_hits_at := w_hits_at (P := l.prog) (w := w) (mg := mg) (K := K) (base := base) (c := c) n_Rounds_hits t_Rounds b_len D_hits_at
    have G_is_member := w_is_member (P := l.prog) (w := w) (mg := mg) (K := K) (base := base) (c := c) G_hits_at n_Rounds_others t_Rounds D_is_member
    have G_next_member := w_next_member (P := l.prog) (w := w) (mg := mg) (K := K) (base := base) (c := c) b_any n_Rounds_hits t_Rounds n_Rounds_others G_is_member D_next_member
    have MY_Rounds_members := w_Rounds_members (P := l.prog) (w := w) (mg := mg) (K := K) (base := base) (c := c) G_check_number k_GREATEST_FIRST k_MOST_MEMBERS b_range G_next_member D_Rounds_members
    have G_common_multiple := w_common_multiple (P := l.prog) (w := w) (mg := mg) (K := K) (base := base) (c := c)  D_common_multiple
    have M_Rounds___eq__ := w_Rounds___eq__ (P := l.prog) (w := w) (mg := mg) (K := K) (base := base) (c := c) n_Rounds_others t_Rounds isi_Rounds isiK b_isinstance g_Rounds G_common_multiple n_Rounds_modulus b_all b_range G_hits_at D_Rounds___eq__
    have M_Rounds_after := w_Rounds_after (P := l.prog) (w := w) (mg := mg) (K := K) (base := base) (c := c) G_check_number k_GREATEST_FIRST G_next_member D_Rounds_after
    have M_Rounds___bool__ := w_Rounds___bool__ (P := l.prog) (w := w) (mg := mg) (K := K) (base := base) (c := c) b_bool b_len n_Rounds_others t_Rounds b_any n_Rounds_hits D_Rounds___bool__
    have PR_Rounds_whole_from := w_Rounds_whole_from (P := l.prog) (w := w) (mg := mg) (K := K) (base := base) (c := c) b_all n_Rounds_hits t_Rounds b_len n_Rounds_others D_Rounds_whole_from
    have G__law_several_right := w__law_several_right (P := l.prog) (w := w) (mg := mg) (K := K) (base := base) (c := c) G__law_take SM_Rounds_rests g_Rounds SM_Rounds_told n_Rounds_modulus t_Rounds MY_Rounds_members b_list M_Rounds___eq__ ne_Rounds M_Rounds_after M_Rounds___bool__ b_bool cmp_Rounds PR_Rounds_whole_from D__law_several_right
    have G__law_set := w__law_set (P := l.prog) (w := w) (mg := mg) (K := K) (base := base) (c := c) G__law_take b_len b_min b_range b_list D__law_set
    have G_told_of := w_told_of (P := l.prog) (w := w) (mg := mg) (K := K) (base := base) (c := c) b_int G_is_member D_told_of
    have G_joined := w_joined (P := l.prog) (w := w) (mg := mg) (K := K) (base := base) (c := c) G_common_multiple n_Rounds_modulus t_Rounds k_GREATEST_MODULUS b_range b_int G_hits_at I_Rounds4 b_list n_Rounds_others G_told_of b_sorted D_joined
    have M_Rounds___or__ := w_Rounds___or__ (P := l.prog) (w := w) (mg := mg) (K := K) (base := base) (c := c) isi_Rounds isiK b_isinstance g_Rounds G_joined D_Rounds___or__
    have M_Rounds___xor__ := w_Rounds___xor__ (P := l.prog) (w := w) (mg := mg) (K := K) (base := base) (c := c) isi_Rounds isiK b_isinstance g_Rounds G_joined D_Rounds___xor__
    have G__law_formed := w__law_formed (P := l.prog) (w := w) (mg := mg) (K := K) (base := base) (c := c) SM_Rounds_told g_Rounds SM_Rounds_rests M_Rounds___or__ o_Rounds_BitOr M_Rounds___xor__ o_Rounds_BitXor D__law_formed
    have G__law_whole := w__law_whole (P := l.prog) (w := w) (mg := mg) (K := K) (base := base) (c := c) b_len D__law_whole
    have M_Rounds___sub__ := w_Rounds___sub__ (P := l.prog) (w := w) (mg := mg) (K := K) (base := base) (c := c) isi_Rounds isiK b_isinstance g_Rounds G_joined D_Rounds___sub__
    have G_greatest_common := w_greatest_common (P := l.prog) (w := w) (mg := mg) (K := K) (base := base) (c := c) b_abs D_greatest_common
    have I_Ratio1 := w_Ratio1 (P := l.prog) (w := w) (mg := mg) (K := K) (base := base) (c := c) G_is_integer G_greatest_common n_Ratio_top t_Ratio n_Ratio_bottom D_Ratio___init__
    have M_Rounds___contains__ := w_Rounds___contains__ (P := l.prog) (w := w) (mg := mg) (K := K) (base := base) (c := c) G_is_member G_is_integer D_Rounds___contains__
    have G__law_holds := w__law_holds (P := l.prog) (w := w) (mg := mg) (K := K) (base := base) (c := c) b_int D__law_holds
    have G__law_members := w__law_members (P := l.prog) (w := w) (mg := mg) (K := K) (base := base) (c := c) b_max b_int b_range G__law_holds b_len D__law_members
    have G__law_right := w__law_right (P := l.prog) (w := w) (mg := mg) (K := K) (base := base) (c := c) G__law_set G__law_formed M_Rounds___eq__ ne_Rounds b_repr PR_Rounds_whole_from t_Rounds G__law_whole n_Rounds_modulus M_Rounds___bool__ b_bool M_Rounds___sub__ o_Rounds_Sub I_Ratio1 b_range M_Rounds___contains__ G__law_holds b_any G__law_take G__law_members MY_Rounds_members b_list M_Rounds_after cmp_Rounds D__law_right
    exact w_law (P := l.prog) (w := w) (mg := mg) (K := K) (base := base) (c := c) (by simp [c]) (by simp [c])  b_max b_min b_len b_range G__law_purse G__law_several_right G__law_right F_law
theorem head_e (F : ∀ (w : World) (mg : Str → Option Value) (fa : Addr) (h : Heap) (K : PySem.W.Frag), K.In h → h.Ns mainGlobals mg → mg "law" = some (.ref fa) → SayK fbs fns dks w K →
    ∃ fd : FuncData, (∀ (s : Shared) (v : Value), BindsTo s fd ⟨[v], []⟩ [("_law_cells", v)]) ∧ ∀ base : Heap, K.In base → base.Ns mainGlobals mg → FnG (PySem.Challenge.rw_loopbounds_k57_rounds_asked).prog w K mg base (L2.CX (PySem.Challenge.rw_loopbounds_k57_rounds_asked).prog w) 9 fa fd ["_law_cells"] (spP K lawF)) : PySem.Challenge.rw_loopbounds_k57_rounds_asked.Holds := by
  refine head_g (law_walk2 (l := PySem.Challenge.rw_loopbounds_k57_rounds_asked) (x := "_law_cells") (k := 9) ⟨⟨rfl, by decide, by decide⟩, rfl⟩ rfl head_d ?F)
  intro w mg fa h Y G hmg0
  obtain ⟨K, KX, sk⟩ := Y
  rw [head_n] at hmg0
  exact ⟨K, KX, F w mg fa h K KX G hmg0 sk⟩
end LX
theorem PySem.Challenge.cw_loopbounds_k57_rounds_asked_holds : PySem.Challenge.rw_loopbounds_k57_rounds_asked.Holds :=
  LX.head_e fun w mg fa h K X G hmg sk => LX.all_mk (l := PySem.Challenge.rw_loopbounds_k57_rounds_asked) X G hmg sk
