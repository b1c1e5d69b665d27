import PyProof.Rows.All
import Wide.All
import OpenK.AllK
import Wide.FinOn
import HandS.ForMost
import KE.KStateDown
import HandS.Words
import HandS.Defaults
import HandS.HeadHook3
import HandS.Ends
import HandS.Head0
import HandS.Head1
import HandS.Head2
import HandS.ExcField
import HandS.ExcIs
import HandS.TupAny
import HandS.NoneIn
import HandS.ExcOwn
import KE.KUnpackStar
import HandS.ForExc
import HandS.IsInst
import HandS.Small
import HandS.Conv
import PyProof.ReprRoads
import HandS.More
import PyProof.Draws
import HandS.Iter
import HandS.Strs
import HandS.SetFor
import HandS.SetBool
import HandS.SortInts
import HandS.Zip
import PyProof.Rows.SeqMore3
import HandS.Comp
import HandS.Style
import HandS.DictComp
import PyProof.DictUpdate
import KE.KDictSum
import HandS.ExcValue
import HandS.TupLe
import HandS.MakeKwOnly
import HandS.ExcInit
import PyProof.RulesRaise
import PyProof.FactsTree
import KE.KExcInit
import HandS.TryMany
import PySem.Challenge.RW_reasonedboxes_k65_no_riddles
/-! ===== FxA -/
set_option Elab.async false
set_option linter.all false
set_option maxRecDepth 100000
set_option maxHeartbeats 4000000
namespace Fx
open PySem PySem.Spec PyProof.Rows L2
/-! ### what a head is looked at for -/
/-- a dict's key -/
inductive DKey where
  | i (k : Int) | s (x : Str) | t (ks : List Key)
  deriving DecidableEq
/-- a value: fixed data (tuples, lists and dicts that nobody changes), a cell of the little heap, a def of the text -/
inductive D where
  | non | bl (b : Bool) | int (i : Int) | str (x : Str)
  | tup (xs : List D) | lst (xs : List D) | dic (t : Bool) (kvs : List (DKey × D)) | rng (lo hi : Int) | ref (n : Nat) | fn (x : Str)
def bltN : List Str := ["len", "max", "min", "list", "tuple", "sum", "any", "all", "range", "isinstance", "int", "str", "bool", "dict", "set", "sorted", "enumerate", "zip", "repr"]
mutual
def relD (K : PySem.W.Frag) : D → Value → Bool
  | .non, .none => true
  | .bl b, .bool c => b == c
  | .int i, .int j _ => decide (i = j)
  | .str x, .str y _ => decide (x = y)
  | .tup ds, .ref a => (match K.lookup a with
    | some ⟨.type c, _, .seq its _, _⟩ => decide (c = "tuple") && (decide (its.size ≤ sizeLine) && relDs K ds its.toList)
    | _ => false)
  | .fn x, .ref f => decide (PySem.W.nsIn K mainGlobals x = some (some (.ref f)))
  | _, _ => false
def relDs (K : PySem.W.Frag) : List D → List Value → Bool
  | [], [] => true
  | d :: ds, u :: us => relD K d u && relDs K ds us
  | _, _ => false
end
def conB (K : PySem.W.Frag) (x : Str) (d : D) : Bool := match PySem.W.nsIn K mainGlobals x with
  | some (some u) => relD K d u
  | _ => false
/-- a dict of the module: its values -/
def dicB (K : PySem.W.Frag) (x : Str) (kvs : List (Str × D)) : Bool := decide (PySem.W.nsIn K mainGlobals x = some (some (.ref (He.ga K x)))) && kvs.all fun q => match PySem.W.nsIn K (He.ga K x) q.1 with
  | some (some u) => relD K q.2 u
  | _ => false
section
open He
/-- the fields that the instances have -/
def cfB (K : PySem.W.Frag) (L : List (Str × Str)) : Bool := L.all fun p => (Fa.glo p.1).ok K && ((Fa.cls p.1).ok K && (Fa.noat p.1 p.2).ok K)
end
/-! ### the hook -/
section
open He
abbrev AlF : Type := AlT × Bool
def hookF (n : Nat) (fa : List Fa) (fn : List DefD) (ts : List Tab) (ck : PySem.W.Frag → Bool) : PySem.W.Hook where
  α := AlF
  obs := fun s => (obsTG n fa fn ts s.heap.get?, ck (frG s.heap.get? (He.asD s.heap.get? n)))
  val := fun w => (valT fn ts w, true)
  says := fun w h => ∃ K : PySem.W.Frag, K.In h ∧ SaysT fa fn ts w K ∧ ck K = true
  of := fun _ _ e => ⟨_, frG_in, congrArg (fun z : AlF => z.1) e, congrArg (fun z : AlF => z.2) e⟩
  keeps := fun _ _ _ ⟨K, hK, c⟩ k => ⟨K, PySem.W.Frag.In.keeps hK k, c⟩
def obF (n : Nat) (fa : List Fa) (fn : List DefD) (ts : List Tab) (ck : PySem.W.Frag → Bool) (g : Addr → Option Obj) : AlF := (obsTG n fa fn ts g, ck (frG g (He.asD g n)))
theorem obF_eq {n : Nat} {fa : List Fa} {fn : List DefD} {ts : List Tab} {ck : PySem.W.Frag → Bool} {g : Addr → Option Obj} {s : Shared} (h : ∀ a, g a = s.heap.get? a) : obF n fa fn ts ck g = (hookF n fa fn ts ck).obs s := by
  have e : g = s.heap.get? := funext h
  rw [e] <;> rfl
end
section
open He HandSHeadRun
/-! ### a head looked at in two goes -/
section
variable {n : Nat} {fa fa' : List Fa} {fn fn' : List DefD} {ts ts' : List Tab} {ck ck' : PySem.W.Frag → Bool} {w : World} {K : PySem.W.Frag}
theorem says_two (h : obsT fa fn ts K = valT fn ts w) (h' : obsT fa' fn' ts' K = valT fn' ts' w) : obsT (fa ++ fa') (fn ++ fn') (ts ++ ts') K = valT (fn ++ fn') (ts ++ ts') w := by
  unfold obsT valT obsD valD at *
  simp only [Prod.mk.injEq] at h h' ⊢
  obtain ⟨⟨a1, a2⟩, a3⟩ := h
  obtain ⟨⟨b1, b2⟩, b3⟩ := h'
  refine ⟨⟨?_, by rw [List.map_append, List.map_append, a2, b2]⟩, by rw [List.map_append, List.map_append, a3, b3]⟩
  rw [Bool.and_eq_true] at a1 b1 ⊢
  rw [List.all_append, List.all_append, a1.1, a1.2, b1.1, b1.2]
  exact ⟨rfl, rfl⟩
end
def hook2 (n : Nat) (fa : List Fa) (fn : List DefD) (ts : List Tab) (ck : PySem.W.Frag → Bool) (fa' : List Fa) (fn' : List DefD) (ts' : List Tab) (ck' : PySem.W.Frag → Bool) : PySem.W.Hook where
  α := AlF × AlF
  obs := fun s => ((hookF n fa fn ts ck).obs s, (hookF n fa' fn' ts' ck').obs s)
  val := fun w => ((hookF n fa fn ts ck).val w, (hookF n fa' fn' ts' ck').val w)
  says := fun w h => ∃ K : PySem.W.Frag, K.In h ∧ SaysT (fa ++ fa') (fn ++ fn') (ts ++ ts') w K ∧ (ck K && ck' K) = true
  of := fun w s e => by
    have e1 := congrArg (fun z : AlF × AlF => z.1) e
    have e2 := congrArg (fun z : AlF × AlF => z.2) e
    refine ⟨frG s.heap.get? (He.asD s.heap.get? n), frG_in, says_two (congrArg (fun z : AlF => z.1) e1) (congrArg (fun z : AlF => z.1) e2), ?_⟩
    rw [Bool.and_eq_true]
    exact ⟨congrArg (fun z : AlF => z.2) e1, congrArg (fun z : AlF => z.2) e2⟩
  keeps := fun _ _ _ ⟨K, hK, c⟩ k => ⟨K, PySem.W.Frag.In.keeps hK k, c⟩
theorem run_two {r : PySem.W.OpenRow} {q : Program} {n M : Nat} {fa : List Fa} {fn : List DefD} {ts : List Tab} {ck : PySem.W.Frag → Bool} {fa' : List Fa} {fn' : List DefD} {ts' : List Tab} {ck' : PySem.W.Frag → Bool} {loose : List PySem.Str} {w : World}
    {ob ob' : PySem.W.SharedT → AlF} (h : RunEq r q (hookF n fa fn ts ck) ob M loose w) (h' : RunEq r q (hookF n fa' fn' ts' ck') ob' M loose w) : RunEq r q (hook2 n fa fn ts ck fa' fn' ts' ck') (fun s => (ob s, ob' s)) M loose w := fun os => by
  have a := h os
  have b := h' os
  revert a b
  generalize endF (stepQ (denQ tabQ) r.prog w) M r.prog w os = x
  intro a b
  cases x with
  | none => cases a
  | some s =>
    have a := Option.some.inj a
    have b := Option.some.inj b
    have a1 := congrArg (fun z => z.1) a
    have a2 := congrArg (fun z => z.2.1) a
    have a3 := congrArg (fun z => z.2.2) a
    have b3 := congrArg (fun z => z.2.2) b
    exact congrArg some (Prod.ext a1 (Prod.ext a2 (Prod.ext a3 b3)))
end
section
open He
abbrev keTl : List Value := [.type "KeyError", .type "LookupError", .type "Exception", .type "BaseException", .type "object"]
/-- the mro behind the class's own: own classes, then the built-in ones tl -/
def isRf : Value → Bool
  | .ref _ => true
  | _ => false
def rfT (tl : List Value) : List Value → Bool
  | [] => decide (tl = [])
  | a :: r => decide (a :: r = tl) || (isRf a && rfT tl r)
/-- the value of a class's name: of the text, or built-in -/
def clsV (K : PySem.W.Frag) (own : Bool) (T : Str) (t : String) : Value := match own with | true => .ref (ga K T) | false => .type t
def clsB (K : PySem.W.Frag) (own : Bool) (T : Str) : Bool := match own with | true => (Fa.glo T).ok K | false => (Fa.free T).ok K
/-- L: the classes and whether the clause named T lets them in -/
def mcB (K : PySem.W.Frag) (own : Bool) (T : Str) (t : String) (L : List (Str × Bool)) : Bool := clsB K own T && L.all fun p => (Fa.glo p.1).ok K && decide (PySem.W.exmOne K (.ref (ga K p.1)) (clsV K own T t) = some p.2)
def exB (K : PySem.W.Frag) (D : Addr) : Bool := decide (PySem.W.findIn K (.ref D) "__getattribute__" = some (some (.builtin "BaseException.__getattribute__"))) && (decide (PySem.W.findIn K (.ref D) "__getattr__" = some none) && (decide (PySem.W.subIn K (.ref D) (.type "BaseException") = some true) &&
  (PySem.W.hasDictIn K D && (decide (PySem.W.findIn K (.ref D) "__class__" = some (some (.builtin "object.__class__"))) && (decide (PySem.W.specialIn K (.builtin "object.__class__") "__get__" = some (some (.builtin "getset_descriptor.__get__"))) &&
  (decide (PySem.W.takesIn K (.builtin "object.__class__") = some true) && decide (PySem.W.mroIn K D (.type "object") = some true)))))))
def xiB (K : PySem.W.Frag) (own : Bool) (T : Str) (t : String) (L : List (Str × Bool)) : Bool := clsB K own T && L.all fun p => (Fa.glo p.1).ok K && (exB K (ga K p.1) && decide (PySem.W.kitOne K (.ref (ga K p.1)) (clsV K own T t) = some p.2))
def xfB2 (K : PySem.W.Frag) (L : List (Str × Str)) : Bool := L.all fun p => (Fa.glo p.1).ok K && (xfB K (ga K p.1) && decide (PySem.W.findIn K (.ref (ga K p.1)) p.2 = some none))
/-- C's class object -/
def xcB (K : PySem.W.Frag) (C : Addr) (newId : String) (tl : List Value) : Bool := match K.lookup C with
  | some ⟨.type "type", dd, .cls cd, sl⟩ => (match cd.mro, sl.toList with
    | .ref C' :: bm, [k0, k1, k2, k3, some (.builtin n), k5] => decide (C' = C) && (decide (n = newId) && (!cd.hasDel && (cd.hasDict && rfT tl bm)))
    | _, _ => false)
  | _ => false
def xkB (K : PySem.W.Frag) (x : Str) (newId : String) (tl : List Value) : Bool := (Fa.glo x).ok K && (xcB K (ga K x) newId tl && (decide (PySem.W.findIn K (.ref (ga K x)) "__setattr__" = some (some (.builtin "object.__setattr__"))) &&
  (decide (PySem.W.subIn K (.ref (ga K x)) (.type "BaseException") = some true) && (decide (PySem.W.typeIn K (.ref (ga K x)) = some (.type "type")) && PySem.W.keepIn K (.ref (ga K x))))))
def x0B (K : PySem.W.Frag) (x : Str) (newId : String) (bm : List Value) : Bool := (Fa.glo x).ok K && (PySem.W.excIn K (ga K x) bm newId && (PySem.W.keepIn K (.ref (ga K x)) && (decide (PySem.W.subIn K (.ref (ga K x)) (.type "BaseException") = some true) && decide (PySem.W.typeIn K (.ref (ga K x)) = some (.type "type")))))
def binB (K : PySem.W.Frag) (own : Bool) (T : Str) (t iT : String) : Bool := clsB K own T && ((match own with
  | true => decide (PySem.W.specialIn K (.ref (ga K T)) "__getattribute__" = some (some (.builtin "type.__getattribute__"))) && PySem.W.readsIn K (ga K T) (.type "type")
  | false => true) && (match PySem.W.findCls K (clsV K own T t) (.type "type") "__init__" with
  | some (.val (.builtin n)) => decide (n = iT)
  | _ => false))
def iniB (K : PySem.W.Frag) (x : Str) : Bool := decide (PySem.W.findIn K (.ref (ga K x)) "__init__" = some (some (.ref (ma K (ga K x) "__init__")))) && decide (PySem.W.typeIn K (.ref (ma K (ga K x) "__init__")) = some (.type "function"))
def noB (K : PySem.W.Frag) (x : Str) (fn : List Str) : Bool := fn.all fun f => decide (PySem.W.findIn K (.ref (ga K x)) f = some none)
end
end Fx

/-! ===== L65s -/
set_option Elab.async false
set_option linter.all false
set_option maxRecDepth 100000
set_option maxHeartbeats 4000000
namespace Lw
open PySem PySem.Spec PyProof.Rows L2 Fx
def top (i : Nat) : Stmt := PySem.Challenge.pw_reasonedboxes_k65_no_riddles.main.body.getD i (.Pass ⟨0, 0, 0, 0⟩)

def d_COINS : D := (.tup [(.tup [(.str "one"), (.int 1)]), (.tup [(.str "two"), (.int 2)]), (.tup [(.str "five"), (.int 5)]), (.tup [(.str "ten"), (.int 10)]), (.tup [(.str "twenty"), (.int 20)])])
def d_LETTERS : D := (.str "abcdefghijklmnopqrstuvwxyz")
def d_LINES : D := (.tup [(.tup [(.int 0), (.int 1), (.int 2)]), (.tup [(.int 3), (.int 4), (.int 5)]), (.tup [(.int 6), (.int 7), (.int 8)]), (.tup [(.int 0), (.int 3), (.int 6)]), (.tup [(.int 1), (.int 4), (.int 7)]), (.tup [(.int 2), (.int 5), (.int 8)]), (.tup [(.int 0), (.int 4), (.int 8)]), (.tup [(.int 2), (.int 4), (.int 6)])])
def d_MAGIC : D := (.int 15)
def d_MOST_MARK : D := (.int 12)
def kd_RIDDLES : List (Str × D) := [("queens", (.tup [(.fn "queens"), (.int 1), (.int 8)])), ("rulers", (.tup [(.fn "rulers"), (.int 2), (.int 5)])), ("square", (.tup [(.fn "square"), (.int 3), (.int 3)])), ("coins", (.tup [(.fn "coins"), (.int 1), (.int 39)]))]
def cfL : List (Str × Str) := []
def mt_NoNumber : List (Str × Bool) := [("NoRiddle", false), ("NoNumber", true)]
def mt_BoxError : List (Str × Bool) := [("NoRiddle", false), ("NoNumber", true)]
def mt_KeyError : List (Str × Bool) := [("NoRiddle", true), ("NoNumber", false)]
def mt_NoName : List (Str × Bool) := [("NoRiddle", false), ("NoNumber", false)]
def mt_NoRiddle : List (Str × Bool) := [("NoRiddle", true), ("NoNumber", false)]
def xfL : List (Str × Str) := [("NoRiddle", "name")]
abbrev s_NoRiddle___init__ : Stmt := inClass (top 4) 0
abbrev s__law_pool : Stmt := top 21
abbrev s__law_take : Stmt := top 22
abbrev s_is_whole : Stmt := top 6
abbrev s_comes_to : Stmt := top 13
abbrev s_queens : Stmt := top 14
abbrev s_rulers : Stmt := top 15
abbrev s_square : Stmt := top 16
abbrev s_coins : Stmt := top 17
abbrev s_riddle : Stmt := top 19
abbrev s__law_said : Stmt := top 23
abbrev s_law : Stmt := top 24
end Lw

/-! ===== L65h -/
set_option Elab.async false
set_option linter.all false
set_option maxRecDepth 100000
set_option maxHeartbeats 0
namespace Lw
open PySem PySem.Spec PyProof.Rows L2 Fx
abbrev RR : PySem.W.OpenRow := PySem.W.OpenLaw.row PySem.Challenge.rw_reasonedboxes_k65_no_riddles
abbrev qv : Program := PySem.W.view RR.prog [24]
def names0 : List Str := ["__name__", "BoxError", "NoNumber", "NoName", "NoRiddle", "is_whole", "LETTERS", "MOST_MARK", "MAGIC", "COINS", "LINES", "comes_to", "queens", "rulers", "square", "coins", "RIDDLES", "riddle", "_law_pool", "_law_take", "_law_said"]
def names : List Str := names0
def fnA : List He.DefD := [⟨("_law_pool", none), "_law_pool", "_law_pool", defArgs s__law_pool, defBody s__law_pool, defScope s__law_pool, [], []⟩,
  ⟨("_law_take", none), "_law_take", "_law_take", defArgs s__law_take, defBody s__law_take, defScope s__law_take, [], []⟩,
  ⟨("is_whole", none), "is_whole", "is_whole", defArgs s_is_whole, defBody s_is_whole, defScope s_is_whole, [], []⟩,
  ⟨("comes_to", none), "comes_to", "comes_to", defArgs s_comes_to, defBody s_comes_to, defScope s_comes_to, [], []⟩,
  ⟨("queens", none), "queens", "queens", defArgs s_queens, defBody s_queens, defScope s_queens, [], []⟩]
def fnB : List He.DefD := [⟨("rulers", none), "rulers", "rulers", defArgs s_rulers, defBody s_rulers, defScope s_rulers, [], []⟩,
  ⟨("square", none), "square", "square", defArgs s_square, defBody s_square, defScope s_square, [], []⟩,
  ⟨("coins", none), "coins", "coins", defArgs s_coins, defBody s_coins, defScope s_coins, [], []⟩,
  ⟨("riddle", none), "riddle", "riddle", defArgs s_riddle, defBody s_riddle, defScope s_riddle, [], []⟩,
  ⟨("_law_said", none), "_law_said", "_law_said", defArgs s__law_said, defBody s__law_said, defScope s__law_said, [], []⟩,
  ⟨("law", none), "law", "law", defArgs s_law, defBody s_law, defScope s_law, [], []⟩,
  ⟨("NoRiddle", some "__init__"), "__init__", "NoRiddle.__init__", defArgs s_NoRiddle___init__, defBody s_NoRiddle___init__, defScope s_NoRiddle___init__, [], []⟩]
def fnL : List He.DefD := fnA ++ fnB
def faA : List He.Fa := bltN.map He.Fa.free ++ [.glo "_law_pool", .glo "_law_take", .glo "is_whole", .glo "comes_to", .glo "queens"]
def faB : List He.Fa := [.glo "rulers", .glo "square", .glo "coins", .glo "riddle", .glo "_law_said", .glo "law"]
def faL : List He.Fa := faA ++ faB
def tsL : List He.Tab := [(fun K => He.ga K "RIDDLES", kd_RIDDLES.map (·.1))]
def coL : List (Str × D) := [("COINS", d_COINS), ("LETTERS", d_LETTERS), ("LINES", d_LINES), ("MAGIC", d_MAGIC), ("MOST_MARK", d_MOST_MARK)]
def diL : List (Str × List (Str × D)) := [("RIDDLES", kd_RIDDLES)]
def ckX (K : PySem.W.Frag) : Bool := xfB2 K xfL && (mcB K true "BoxError" "BoxError" mt_BoxError && (mcB K true "NoRiddle" "NoRiddle" mt_NoRiddle && (xiB K true "NoNumber" "NoNumber" mt_NoNumber && (xiB K false "KeyError" "KeyError" mt_KeyError && (xiB K true "NoName" "NoName" mt_NoName && (x0B K "NoNumber" "ValueError.__new__" PySem.HandSPX.veTail && ((xkB K "NoRiddle" "LookupError.__new__" keTl && (iniB K "NoRiddle" && (noB K "NoRiddle" ["name"] && binB K false "KeyError" "KeyError" "KeyError.__init__"))) && (true))))))))
def ckA (K : PySem.W.Frag) : Bool := coL.all fun p => conB K p.1 p.2
def ckB (K : PySem.W.Frag) : Bool := (diL.all fun p => dicB K p.1 p.2) && (cfB K cfL && ckX K)
def ckL (K : PySem.W.Frag) : Bool := ckA K && ckB K
abbrev hkA : PySem.W.Hook := hookF 4 faA fnA [] ckA
abbrev hkB : PySem.W.Hook := hookF 4 faB fnB tsL ckB
abbrev hk : PySem.W.Hook := hook2 4 faA fnA [] ckA faB fnB tsL ckB
def obA (s : PySem.W.SharedT) : AlF := obF 4 faA fnA [] ckA (HandSHeadRun.getT s)
def obB (s : PySem.W.SharedT) : AlF := obF 4 faB fnB tsL ckB (HandSHeadRun.getT s)
def ob (s : PySem.W.SharedT) : AlF × AlF := (obA s, obB s)
theorem ob_eq (s : PySem.W.SharedT) : ob s = hk.obs s.abs := Prod.ext (obF_eq (HandSHeadRun.getT_eq s)) (obF_eq (HandSHeadRun.getT_eq s))
theorem runA0 (w : World) : HandSHeadRun.RunEq RR qv hkA obA 20000 names (w.withFollow "special-get-raises" false) := by
  intro os
  kernel_rfl
theorem runA1 (w : World) : HandSHeadRun.RunEq RR qv hkA obA 20000 names (w.withFollow "special-get-raises" true) := by
  intro os
  kernel_rfl
theorem runB0 (w : World) : HandSHeadRun.RunEq RR qv hkB obB 20000 names (w.withFollow "special-get-raises" false) := by
  intro os
  kernel_rfl
theorem runB1 (w : World) : HandSHeadRun.RunEq RR qv hkB obB 20000 names (w.withFollow "special-get-raises" true) := by
  intro os
  kernel_rfl
theorem run (w : World) : HandSHeadRun.RunEq RR qv hk ob 20000 names w := run_two (PySem.W.byRow2 "special-get-raises" runA0 runA1 w) (PySem.W.byRow2 "special-get-raises" runB0 runB1 w)
end Lw

/-! ===== Fx0 -/
set_option Elab.async false
set_option linter.all false
set_option maxRecDepth 100000
set_option maxHeartbeats 4000000
namespace Fx
open PySem PySem.Spec PyProof.Rows L2

/-! ### data without the heap -/
abbrev Env := List (Option D)
/-- what may change: a list, a dict (t: its keys are tuples), an instance of the class called C -/
inductive Cell where
  | lst (xs : List D) | dic (t : Bool) (kvs : List (DKey × D)) | ins (C : Str) (fs : List (Str × D))
abbrev AH := List Cell
/-- an exception: its class's name, its own fields -/
structure XD where
  cls : Str
  fs : List (Str × D)
inductive R (α : Type) where
  | ok (a : α) | exc (x : XD) (e : Env) (h : AH) | stk
def R.bind {α β : Type} (r : R α) (f : α → R β) : R β := match r with
  | .ok a => f a
  | .exc x e h => .exc x e h
  | .stk => .stk
inductive Out where
  | nx | rt (d : D) | bk | ct

/-! ### what stands for what -/
/-- where the cells stand, in their order; what is hidden for the moment -/
structure Io where
  c : List Addr
  h : List Addr
def Io.out (ι : Io) (a : Addr) : Prop := a ∉ ι.c ∧ a ∉ ι.h
def Io.add (ι : Io) (p : Addr) : Io := ⟨ι.c ++ [p], ι.h⟩
def Io.hide (ι : Io) (p : Addr) : Io := ⟨ι.c, p :: ι.h⟩
section
variable (K : PySem.W.Frag) (mg : Str → Option Value) (ι : Io) (H : Hp)
abbrev H0 : Hp := fun _ => none
def FzT (a : Addr) (vs : List V) : Prop := (ι.out a ∧ Rd H a (.tup vs)) ∨ SqT K H0 a vs
/-- a list of the module -/
def KLs (a : Addr) (vs : List V) : Prop := ∃ (its : Array Value) (n : Nat), K.lookup a = some { cls := .type "list", data := .seq its n } ∧ its.size ≤ sizeLine ∧ Vals vs its.toList
def RdL (a : Addr) (vs : List V) : Prop := Rd H a (.lst vs) ∨ KLs K a vs
def FzL (a : Addr) (vs : List V) : Prop := (ι.out a ∧ Rd H a (.lst vs)) ∨ KLs K a vs
def toK : DKey → Option Key
  | .i k => some (.inl k)
  | .s x => some (.inr x)
  | .t _ => none
def toT : DKey → Option (List Key)
  | .t ks => some ks
  | _ => none
/-- a dict's own object -/
def dicO (t : Bool) (ks : List DKey) (ws : List V) (o : HO) : Prop := match t with
  | false => ∃ kk : List Key, ks.map toK = kk.map some ∧ o = .dK (kk.zip ws)
  | true => ∃ kk : List (List Key), ks.map toT = kk.map some ∧ o = .dT (kk.zip ws)
mutual
def Rep : D → V → Prop
  | .non, v => v = .non
  | .bl b, v => v = .bl b
  | .int i, v => v = .int i
  | .str x, v => v = .str x
  | .tup ds, v => ∃ a vs, v = .ref a ∧ FzT K ι H a vs ∧ Reps ds vs
  | .lst ds, v => ∃ a vs, v = .ref a ∧ FzL K ι H a vs ∧ Reps ds vs
  | .dic t kvs, v => ∃ a ws o, v = .ref a ∧ ι.out a ∧ dicO t (kvs.map (·.1)) ws o ∧ Rd H a o ∧ RepV kvs ws
  | .rng lo hi, v => ∃ a, v = .ref a ∧ ι.out a ∧ H a = some (.rng lo hi)
  | .ref n, v => ∃ a, v = .ref a ∧ ι.c[n]? = some a
  | .fn x, v => ∃ f, v = .ref f ∧ mg x = some (.ref f)
def Reps : List D → List V → Prop
  | [], vs => vs = []
  | d :: ds, vs => ∃ v r, vs = v :: r ∧ Rep d v ∧ Reps ds r
def RepV : List (DKey × D) → List V → Prop
  | [], vs => vs = []
  | (_, d) :: ds, vs => ∃ v r, vs = v :: r ∧ Rep d v ∧ RepV ds r
end
def RepF : List (Str × D) → List (Str × V) → Prop
  | [], fs => fs = []
  | (x, d) :: r, fs => ∃ v s, fs = (x, v) :: s ∧ Rep K mg ι H d v ∧ RepF r s
def CRep (a : Addr) : Cell → Prop
  | .lst ds => ∃ vs, H a = some (.lst vs) ∧ Reps K mg ι H ds vs
  | .dic t kvs => ∃ ws o, H a = some o ∧ dicO t (kvs.map (·.1)) ws o ∧ RepV K mg ι H kvs ws
  | .ins C fs => ∃ Ca dx gs, mg C = some (.ref Ca) ∧ H a = some (.ins Ca dx gs) ∧ RepF K mg ι H fs gs
structure SimH (ah : AH) : Prop where
  len : ι.c.length = ah.length
  nd : ι.c.Nodup
  cell : ∀ (i : Nat) (c : Cell) (a : Addr), ah[i]? = some c → ι.c[i]? = some a → CRep K mg ι H a c
  hd : ∀ a ∈ ι.h, H a ≠ none ∧ a ∉ ι.c
structure SimE (env : Env) (σ : L2.St) : Prop where
  len : σ.length = env.length
  var : ∀ (i : Nat) (d : D), env[i]? = some (some d) → ∃ v, σ[i]? = some (some v) ∧ Rep K mg ι H d v
def XRep (x : XD) (cv : Value) (dO : Option Addr) : Prop :=
  ∃ C, cv = .ref C ∧ mg x.cls = some (.ref C) ∧ ((x.fs = [] ∧ dO = none) ∨ ∃ d gs, dO = some d ∧ ι.out d ∧ H d = some (.xd gs) ∧ RepF K mg ι H x.fs gs)
end
/-- from one state to a later one: cells are kept in their order, what is no cell stays as it is -/
structure Step (ι : Io) (H : Hp) (ι' : Io) (H' : Hp) : Prop where
  pre : ∃ new, ι'.c = ι.c ++ new ∧ ∀ a ∈ new, H a = none
  hid : ∃ more, ι'.h = more ++ ι.h ∧ ∀ a ∈ more, H a = none
  frame : ∀ a o, a ∉ ι.c → H a = some o → H' a = some o
  dom : ∀ a, H' a = none → H a = none

/-! ### what a change leaves -/
section
variable {K : PySem.W.Frag} {mg : Str → Option Value}
/-- all that (ι, H) tells holds at (ι', H') too -/
structure Lv (ι : Io) (H : Hp) (ι' : Io) (H' : Hp) : Prop where
  out : ∀ a u, ι.out a → H a = some u → ι'.out a ∧ H' a = some u
  get : ∀ (n : Nat) a, ι.c[n]? = some a → ι'.c[n]? = some a
variable {ι ι' ι1 ι2 : Io} {H H' H1 H2 : Hp}
theorem Lv.rd (s : Lv ι H ι' H') {a : Addr} {u : HO} (n : ι.out a) (r : Rd H a u) : ι'.out a ∧ Rd H' a u := by
  rcases r with r | ⟨o, r⟩
  · exact ⟨(s.out a _ n r).1, .inl (s.out a _ n r).2⟩
  · exact ⟨(s.out a _ n r).1, .inr ⟨o, (s.out a _ n r).2⟩⟩
theorem Lv.fzT (s : Lv ι H ι' H') {a : Addr} {vs : List V} (h : FzT K ι H a vs) : FzT K ι' H' a vs := by
  rcases h with ⟨n, r⟩ | r
  · exact .inl (s.rd n r)
  · exact .inr r
theorem Lv.fzL (s : Lv ι H ι' H') {a : Addr} {vs : List V} (h : FzL K ι H a vs) : FzL K ι' H' a vs := by
  rcases h with ⟨n, r⟩ | r
  · exact .inl (s.rd n r)
  · exact .inr r
mutual
theorem Lv.rep (s : Lv ι H ι' H') : ∀ (d : D) {v : V}, Rep K mg ι H d v → Rep K mg ι' H' d v
  | .non, _, h => h
  | .bl _, _, h => h
  | .int _, _, h => h
  | .str _, _, h => h
  | .tup ds, _, h => by
    unfold Rep at h ⊢
    obtain ⟨a, vs, e, f, r⟩ := h
    exact ⟨a, vs, e, s.fzT f, Lv.reps s ds r⟩
  | .lst ds, _, h => by
    unfold Rep at h ⊢
    obtain ⟨a, vs, e, f, r⟩ := h
    exact ⟨a, vs, e, s.fzL f, Lv.reps s ds r⟩
  | .dic t kvs, _, h => by
    unfold Rep at h ⊢
    obtain ⟨a, ws, o, e, n, hd, r, q⟩ := h
    exact ⟨a, ws, o, e, (s.rd n r).1, hd, (s.rd n r).2, Lv.repV s kvs q⟩
  | .rng lo hi, _, h => by
    unfold Rep at h ⊢
    obtain ⟨a, e, n, g⟩ := h
    exact ⟨a, e, (s.out a _ n g).1, (s.out a _ n g).2⟩
  | .ref n, _, h => by
    unfold Rep at h ⊢
    obtain ⟨a, e, g⟩ := h
    exact ⟨a, e, s.get n a g⟩
  | .fn x, _, h => by
    unfold Rep at h ⊢
    exact h
theorem Lv.reps (s : Lv ι H ι' H') : ∀ (ds : List D) {vs : List V}, Reps K mg ι H ds vs → Reps K mg ι' H' ds vs
  | [], _, h => by unfold Reps at h ⊢; exact h
  | d :: ds, _, h => by
    unfold Reps at h ⊢
    obtain ⟨v, r, e, h1, h2⟩ := h
    exact ⟨v, r, e, Lv.rep s d h1, Lv.reps s ds h2⟩
theorem Lv.repV (s : Lv ι H ι' H') : ∀ (ds : List (DKey × D)) {vs : List V}, RepV K mg ι H ds vs → RepV K mg ι' H' ds vs
  | [], _, h => by unfold RepV at h ⊢; exact h
  | (_, d) :: ds, _, h => by
    unfold RepV at h ⊢
    obtain ⟨v, r, e, h1, h2⟩ := h
    exact ⟨v, r, e, Lv.rep s d h1, Lv.repV s ds h2⟩
end
theorem Lv.repF (s : Lv ι H ι' H') : ∀ (ds : List (Str × D)) {fs : List (Str × V)}, RepF K mg ι H ds fs → RepF K mg ι' H' ds fs
  | [], _, h => h
  | (_, d) :: ds, _, h => by
    obtain ⟨v, r, e, h1, h2⟩ := h
    exact ⟨v, r, e, s.rep d h1, Lv.repF s ds h2⟩
theorem Lv.simE {env : Env} {σ : L2.St} (s : Lv ι H ι' H') (E : SimE K mg ι H env σ) : SimE K mg ι' H' env σ :=
  ⟨E.len, fun i d e => let ⟨v, a, b⟩ := E.var i d e; ⟨v, a, s.rep d b⟩⟩
theorem Lv.crep {a : Addr} {c : Cell} (s : Lv ι H ι' H') (e : H' a = H a) (h : CRep K mg ι H a c) : CRep K mg ι' H' a c := by
  cases c with
  | lst ds => obtain ⟨vs, q, r⟩ := h; exact ⟨vs, e.trans q, s.reps ds r⟩
  | dic t kvs => obtain ⟨ws, o, q, d, r⟩ := h; exact ⟨ws, o, e.trans q, d, s.repV kvs r⟩
  | ins C fs => obtain ⟨Ca, dx, gs, m, q, r⟩ := h; exact ⟨Ca, dx, gs, m, e.trans q, s.repF fs r⟩
theorem Step.refl : Step ι H ι H := ⟨⟨[], by simp, by simp⟩, ⟨[], by simp, by simp⟩, fun _ _ _ e => e, fun _ e => e⟩
theorem Step.lv (s : Step ι H ι' H') : Lv ι H ι' H' := by
  obtain ⟨n1, e1, f⟩ := s.pre
  obtain ⟨m1, e2, g⟩ := s.hid
  refine ⟨fun a u n e => ⟨⟨?_, ?_⟩, s.frame a u n.1 e⟩, fun n a e => ?_⟩
  · rw [e1]
    intro h
    rcases List.mem_append.mp h with h | h
    · exact n.1 h
    · rw [f a h] at e; cases e
  · rw [e2]
    intro h
    rcases List.mem_append.mp h with h | h
    · rw [g a h] at e; cases e
    · exact n.2 h
  · rw [e1, List.getElem?_append_left (List.getElem?_eq_some_iff.mp e).1]; exact e
theorem Step.trans (s : Step ι H ι1 H1) (t : Step ι1 H1 ι2 H2) : Step ι H ι2 H2 := by
  obtain ⟨n1, e1, f1⟩ := s.pre
  obtain ⟨n2, e2, f2⟩ := t.pre
  obtain ⟨m1, d1, g1⟩ := s.hid
  obtain ⟨m2, d2, g2⟩ := t.hid
  refine ⟨⟨n1 ++ n2, by rw [e2, e1]; simp, fun a ha => ?_⟩, ⟨m2 ++ m1, by rw [d2, d1]; simp, fun a ha => ?_⟩, fun a o na e => ?_, fun a e => s.dom a (t.dom a e)⟩
  · rcases List.mem_append.mp ha with h | h
    · exact f1 a h
    · exact s.dom a (f2 a h)
  · rcases List.mem_append.mp ha with h | h
    · exact s.dom a (g2 a h)
    · exact g1 a h
  · refine t.frame a o (fun z => ?_) (s.frame a o na e)
    rw [e1] at z
    rcases List.mem_append.mp z with z | z
    · exact na z
    · rw [f1 a z] at e; cases e
theorem Step.get (s : Step ι H ι' H') {n : Nat} {a : Addr} (e : ι.c[n]? = some a) : ι'.c[n]? = some a := s.lv.get n a e
theorem Step.out (s : Step ι H ι' H') {a : Addr} {o : HO} (n : ι.out a) (e : H a = some o) : ι'.out a := (s.lv.out a o n e).1
theorem Step.rd (s : Step ι H ι' H') {a : Addr} {u : HO} (n : ι.out a) (r : Rd H a u) : ι'.out a ∧ Rd H' a u := s.lv.rd n r
theorem Step.fzT (s : Step ι H ι' H') {a : Addr} {vs : List V} (h : FzT K ι H a vs) : FzT K ι' H' a vs := s.lv.fzT h
theorem Step.fzL (s : Step ι H ι' H') {a : Addr} {vs : List V} (h : FzL K ι H a vs) : FzL K ι' H' a vs := s.lv.fzL h
theorem Step.rep (s : Step ι H ι' H') (d : D) {v : V} (h : Rep K mg ι H d v) : Rep K mg ι' H' d v := s.lv.rep d h
theorem Step.reps (s : Step ι H ι' H') (ds : List D) {vs : List V} (h : Reps K mg ι H ds vs) : Reps K mg ι' H' ds vs := s.lv.reps ds h
theorem Step.repV (s : Step ι H ι' H') (ds : List (DKey × D)) {vs : List V} (h : RepV K mg ι H ds vs) : RepV K mg ι' H' ds vs := s.lv.repV ds h
theorem Step.repF (s : Step ι H ι' H') (ds : List (Str × D)) {fs : List (Str × V)} (h : RepF K mg ι H ds fs) : RepF K mg ι' H' ds fs := s.lv.repF ds h
theorem Step.simE {env : Env} {σ : L2.St} (s : Step ι H ι' H') (E : SimE K mg ι H env σ) : SimE K mg ι' H' env σ := s.lv.simE E
theorem FzT.sq {a : Addr} {vs : List V} (h : FzT K ι H a vs) : SqT K H a vs := by
  rcases h with ⟨_, r⟩ | r
  · exact .inl r
  · rcases r with (r | ⟨_, r⟩) | r
    · cases r
    · cases r
    · exact .inr r
theorem RdL.sq {a : Addr} {vs : List V} (h : RdL K H a vs) : SqL K H a vs := by
  rcases h with r | ⟨its, n, e, z, r⟩
  · exact .inl r
  · exact .inr ⟨_, its, n, e, rfl, rfl, rfl, z, r⟩
theorem FzL.rd {a : Addr} {vs : List V} (h : FzL K ι H a vs) : RdL K H a vs := by
  rcases h with ⟨_, r⟩ | r
  · exact .inl r
  · exact .inr r
theorem FzL.sq {a : Addr} {vs : List V} (h : FzL K ι H a vs) : SqL K H a vs := h.rd.sq
theorem upd_none {p : Addr} {o : HO} {a : Addr} (n : H p = none) (e : (upd H p o) a = none) : H a = none := by
  by_cases h : a = p
  · subst h; exact n
  · rw [upd_ne h] at e; exact e
/-- an object that is new and no cell -/
theorem Step.laid {p : Addr} {o : HO} (n : H p = none) : Step ι H ι (upd H p o) :=
  ⟨⟨[], by simp, by simp⟩, ⟨[], by simp, by simp⟩, fun a u _ e => by rw [upd_ne (ne_of_none e n)]; exact e, fun a e => upd_none n e⟩
/-- .. and hidden -/
theorem Step.hide {p : Addr} {o : HO} (n : H p = none) : Step ι H (ι.hide p) (upd H p o) :=
  ⟨⟨[], by simp [Io.hide], by simp⟩, ⟨[p], rfl, by simpa using n⟩, fun a u _ e => by rw [upd_ne (ne_of_none e n)]; exact e, fun a e => upd_none n e⟩
/-- a new cell -/
theorem Step.cell {p : Addr} {o : HO} (n : H p = none) : Step ι H (ι.add p) (upd H p o) :=
  ⟨⟨[p], rfl, by simpa using n⟩, ⟨[], by simp [Io.add], by simp⟩, fun a u _ e => by rw [upd_ne (ne_of_none e n)]; exact e, fun a e => upd_none n e⟩
/-- a cell that stands changes -/
theorem Step.put {p : Addr} {o : HO} (n : p ∈ ι.c) (t : H p ≠ none) : Step ι H ι (upd H p o) :=
  ⟨⟨[], by simp, by simp⟩, ⟨[], by simp, by simp⟩, fun a u na e => by rw [upd_ne (fun z => na (by rw [z]; exact n))]; exact e, fun a e => by
    by_cases h : a = p
    · subst h; rw [upd_same] at e; cases e
    · rw [upd_ne h] at e; exact e⟩
/-- what is hidden, and came since, changes -/
theorem Step.hput {p : Addr} {o : HO} (s : Step ι H ι' H') (n : H p = none) : Step ι H ι' (upd H' p o) :=
  ⟨s.pre, s.hid, fun a u na e => by rw [upd_ne (ne_of_none e n)]; exact s.frame a u na e, fun a e => by
    by_cases h : a = p
    · subst h; exact n
    · rw [upd_ne h] at e; exact s.dom a e⟩
theorem Lv.hput {p : Addr} {o : HO} (h : p ∈ ι.h) : Lv ι H ι (upd H p o) := ⟨fun a u n e => ⟨n, by rw [upd_ne fun z => n.2 (by rw [z]; exact h)]; exact e⟩, fun _ _ e => e⟩
theorem CRep.some {a : Addr} {c : Cell} (h : CRep K mg ι H a c) : ∃ o, H a = some o := by
  cases c with
  | lst ds => obtain ⟨_, e, _⟩ := h; exact ⟨_, e⟩
  | dic t kvs => obtain ⟨_, _, e, _⟩ := h; exact ⟨_, e⟩
  | ins C fs => obtain ⟨_, _, _, _, e, _⟩ := h; exact ⟨_, e⟩
theorem CRep.step {a : Addr} {c : Cell} (s : Step ι H ι' H') (e : H' a = H a) (h : CRep K mg ι H a c) : CRep K mg ι' H' a c := s.lv.crep e h
theorem SimH.at {ah : AH} (S : SimH K mg ι H ah) {i : Nat} {c : Cell} (e : ah[i]? = some c) : ∃ a, ι.c[i]? = some a ∧ CRep K mg ι H a c := by
  have lt : i < ι.c.length := by rw [S.len]; exact (List.getElem?_eq_some_iff.mp e).1
  exact ⟨ι.c[i], by simp [lt], S.cell i c _ e (by simp [lt])⟩
theorem SimH.there {ah : AH} (S : SimH K mg ι H ah) {a : Addr} (h : a ∈ ι.c) : H a ≠ none := by
  obtain ⟨i, hi⟩ := List.mem_iff_getElem?.mp h
  have lt : i < ah.length := by rw [← S.len]; exact (List.getElem?_eq_some_iff.mp hi).1
  obtain ⟨o, e⟩ := (S.cell i ah[i] a (by simp [lt]) hi).some
  rw [e]; simp
theorem SimH.out {ah : AH} (S : SimH K mg ι H ah) {p : Addr} (n : H p = none) : ι.out p := ⟨fun z => S.there z n, fun z => (S.hd p z).1 n⟩
/-- the same cells, perhaps with more or less hidden -/
theorem SimH.to {ah : AH} (S : SimH K mg ι H ah) (s : Lv ι H ι' H') (ec : ι'.c = ι.c) (e : ∀ a ∈ ι.c, H' a = H a) (hh : ∀ a ∈ ι'.h, H' a ≠ none ∧ a ∉ ι.c) : SimH K mg ι' H' ah :=
  ⟨by rw [ec]; exact S.len, by rw [ec]; exact S.nd, fun i c a h1 h2 => by rw [ec] at h2; exact s.crep (e a (List.mem_of_getElem? h2)) (S.cell i c a h1 h2), fun a ha => by rw [ec]; exact hh a ha⟩
/-- nothing of the cells changed -/
theorem SimH.same {ah : AH} (S : SimH K mg ι H ah) (s : Step ι H ι H') (e : ∀ a ∈ ι.c, H' a = H a) : SimH K mg ι H' ah :=
  S.to s.lv rfl e fun a ha => ⟨fun z => (S.hd a ha).1 (s.dom a z), (S.hd a ha).2⟩
/-- an object laid that is no cell -/
theorem SimH.laid {ah : AH} (S : SimH K mg ι H ah) {p : Addr} {o : HO} (n : H p = none) : SimH K mg ι (upd H p o) ah :=
  S.same (Step.laid n) fun a ha => upd_ne fun z => S.there ha (by rw [z]; exact n)
theorem SimH.hide {ah : AH} (S : SimH K mg ι H ah) {p : Addr} {o : HO} (n : H p = none) : SimH K mg (ι.hide p) (upd H p o) ah :=
  S.to (Step.hide n).lv rfl (fun a ha => upd_ne fun z => S.there ha (by rw [z]; exact n)) fun a ha => by
    rcases List.mem_cons.mp ha with z | z
    · subst z; exact ⟨by rw [upd_same]; simp, fun z => S.there z n⟩
    · exact ⟨fun e => (S.hd a z).1 ((Step.laid (ι := ι) n).dom a e), (S.hd a z).2⟩
/-- what is hidden changes -/
theorem SimH.hput {ah : AH} (S : SimH K mg ι H ah) {p : Addr} {o : HO} (h : p ∈ ι.h) : SimH K mg ι (upd H p o) ah :=
  S.to (Lv.hput h) rfl (fun a ha => upd_ne fun z => (S.hd p h).2 (by rw [← z]; exact ha)) fun a ha => ⟨fun e => by
    by_cases z : a = p
    · subst z; rw [upd_same] at e; cases e
    · rw [upd_ne z] at e; exact (S.hd a ha).1 e, (S.hd a ha).2⟩
/-- a new cell -/
theorem SimH.cellNew {ah : AH} (S : SimH K mg ι H ah) {p : Addr} {o : HO} {c : Cell} (n : H p = none) (h : CRep K mg (ι.add p) (upd H p o) p c) : SimH K mg (ι.add p) (upd H p o) (ah ++ [c]) := by
  have np : p ∉ ι.c := fun z => S.there z n
  refine ⟨by simp [Io.add, S.len], List.nodup_append.mpr ⟨S.nd, by simp, fun a ha b hb => ?_⟩, fun i c' a h1 h2 => ?_, fun a ha => ⟨?_, fun z => ?_⟩⟩
  · rw [List.mem_singleton] at hb; subst hb; exact fun z => np (z ▸ ha)
  · have h2 : (ι.c ++ [p])[i]? = some a := h2
    by_cases lt : i < ah.length
    · rw [List.getElem?_append_left lt] at h1
      rw [List.getElem?_append_left (by rw [S.len]; exact lt)] at h2
      refine (S.cell i c' a h1 h2).step (Step.cell n) (upd_ne fun z => np (z ▸ List.mem_of_getElem? h2))
    · have ei : i = ah.length := by
        have := (List.getElem?_eq_some_iff.mp h1).1
        simp at this; omega
      subst ei
      rw [List.getElem?_append_right (Nat.le_refl _)] at h1
      rw [List.getElem?_append_right (by rw [S.len]; exact Nat.le_refl _)] at h2
      simp [S.len] at h1 h2
      subst h1 h2
      exact h
  · rw [upd_ne fun z => (S.hd a ha).1 (by rw [z]; exact n)]; exact (S.hd a ha).1
  · rcases List.mem_append.mp z with z | z
    · exact (S.hd a ha).2 z
    · rw [List.mem_singleton] at z; subst z; exact (S.hd a ha).1 n
theorem SimH.cellPut {ah : AH} (S : SimH K mg ι H ah) {i : Nat} {p : Addr} {o : HO} {c : Cell} (e : ι.c[i]? = some p) (h : CRep K mg ι (upd H p o) p c) : Step ι H ι (upd H p o) ∧ SimH K mg ι (upd H p o) (ah.set i c) := by
  have st : Step ι H ι (upd H p o) := Step.put (List.mem_of_getElem? e) (S.there (List.mem_of_getElem? e))
  refine ⟨st, by simp [S.len], S.nd, fun j c' a h1 h2 => ?_, fun a ha => ⟨fun z => (S.hd a ha).1 (st.dom a z), (S.hd a ha).2⟩⟩
  by_cases hj : i = j
  · subst hj
    have lt : i < ah.length := by rw [← S.len]; exact (List.getElem?_eq_some_iff.mp e).1
    rw [List.getElem?_set_self lt] at h1
    cases h1
    rw [e] at h2; cases h2
    exact h
  · rw [List.getElem?_set_ne hj] at h1
    refine (S.cell j c' a h1 h2).step st (upd_ne fun z => hj ?_)
    subst z
    have l1 := (List.getElem?_eq_some_iff.mp e)
    have l2 := (List.getElem?_eq_some_iff.mp h2)
    obtain ⟨b1, q1⟩ := l1
    obtain ⟨b2, q2⟩ := l2
    exact (List.getElem_inj S.nd).mp (q1.trans q2.symm)

/-! ### p, hidden since it came, comes back into sight: as it is, or as a cell -/
def Io.unhide (ι : Io) (p : Addr) : Io := ⟨ι.c, ι.h.filter fun a => decide (a ≠ p)⟩
theorem Io.unhide_not {p : Addr} : p ∉ (ι.unhide p).h := fun z => by
  have := (List.mem_filter.mp z).2
  simp at this
theorem Step.unhide {p : Addr} (s : Step ι H ι' H') (n : H p = none) (h0 : p ∉ ι.h) : Step ι H (ι'.unhide p) H' := by
  obtain ⟨more, e, f⟩ := s.hid
  refine ⟨s.pre, ⟨more.filter fun a => decide (a ≠ p), ?_, fun a ha => f a (List.mem_filter.mp ha).1⟩, s.frame, s.dom⟩
  show ι'.h.filter _ = _
  rw [e, List.filter_append]
  congr 1
  rw [List.filter_eq_self]
  intro a ha
  simp only [decide_eq_true_eq]
  intro z
  exact h0 (z ▸ ha)
theorem Lv.unhide {p : Addr} : Lv ι H (ι.unhide p) H := ⟨fun a u n e => ⟨⟨n.1, fun z => n.2 (List.mem_filter.mp z).1⟩, e⟩, fun _ _ e => e⟩
theorem SimH.unhide {ah : AH} {p : Addr} (S : SimH K mg ι H ah) : SimH K mg (ι.unhide p) H ah :=
  S.to Lv.unhide rfl (fun _ _ => rfl) fun a ha => S.hd a (List.mem_filter.mp ha).1
theorem Step.uncell {p : Addr} (s : Step ι H ι' H') (n : H p = none) (h0 : p ∉ ι.h) : Step ι H ((ι'.unhide p).add p) H' := by
  have t := s.unhide n h0
  obtain ⟨new, e, f⟩ := t.pre
  exact ⟨⟨new ++ [p], by show (ι'.unhide p).c ++ [p] = _; rw [e, List.append_assoc], fun a ha => by
    rcases List.mem_append.mp ha with z | z
    · exact f a z
    · rw [List.mem_singleton] at z; rw [z]; exact n⟩, t.hid, t.frame, t.dom⟩
theorem Lv.uncell {p : Addr} (h : p ∈ ι.h) : Lv ι H ((ι.unhide p).add p) H := ⟨fun a u n e => ⟨⟨fun z => by
    rcases List.mem_append.mp z with z | z
    · exact n.1 z
    · rw [List.mem_singleton] at z; rw [z] at n; exact n.2 h, fun z => n.2 (List.mem_filter.mp z).1⟩, e⟩, fun n a e => by
  show (ι.c ++ [p])[n]? = some a
  rw [List.getElem?_append_left (List.getElem?_eq_some_iff.mp e).1]; exact e⟩
theorem SimH.uncell {ah : AH} {p : Addr} {c : Cell} (S : SimH K mg ι H ah) (h : p ∈ ι.h) (hc : CRep K mg ι H p c) : SimH K mg ((ι.unhide p).add p) H (ah ++ [c]) := by
  have np : p ∉ ι.c := (S.hd p h).2
  refine ⟨by simp [Io.add, Io.unhide, S.len], List.nodup_append.mpr ⟨S.nd, by simp, fun a ha b hb => ?_⟩, fun i c' a h1 h2 => ?_, fun a ha => ⟨(S.hd a (List.mem_filter.mp ha).1).1, fun z => ?_⟩⟩
  · rw [List.mem_singleton] at hb; subst hb; exact fun z => np (z ▸ ha)
  · have h2 : (ι.c ++ [p])[i]? = some a := h2
    by_cases lt : i < ah.length
    · rw [List.getElem?_append_left lt] at h1
      rw [List.getElem?_append_left (by rw [S.len]; exact lt)] at h2
      exact (Lv.uncell h).crep rfl (S.cell i c' a h1 h2)
    · have ei : i = ah.length := by
        have := (List.getElem?_eq_some_iff.mp h1).1
        simp at this; omega
      subst ei
      rw [List.getElem?_append_right (Nat.le_refl _)] at h1
      rw [List.getElem?_append_right (by rw [S.len]; exact Nat.le_refl _)] at h2
      simp [S.len] at h1 h2
      subst h1 h2
      exact (Lv.uncell h).crep rfl hc
  · rcases List.mem_append.mp z with z | z
    · exact (S.hd a (List.mem_filter.mp ha).1).2 z
    · rw [List.mem_singleton] at z; subst z; exact Io.unhide_not ha
theorem uncell_get {ah : AH} {p : Addr} (S : SimH K mg ι H ah) : ((ι.unhide p).add p).c[ah.length]? = some p := by
  show (ι.c ++ [p])[ah.length]? = some p
  rw [← S.len]
  simp
end
end Fx

/-! ===== Fx1 -/
set_option Elab.async false
set_option linter.all false
set_option maxRecDepth 100000
set_option maxHeartbeats 4000000
namespace Fx
open PySem PySem.Spec PyProof.Rows L2

/-! ### readings by functions of the little heap -/
/-- what is wanted of an exception: its class, its own dict, the slots, the heap -/
abbrev XW := Value → Option Addr → L2.St → Hp → Prop
abbrev FV := Env → AH → R (D × AH)
abbrev FB := Env → AH → R (Bool × AH)
abbrev FL := Env → AH → R (List D × AH)
abbrev FO := Env → AH → R (Out × Env × AH)
section
variable (K : PySem.W.Frag) (mg : Str → Option Value)
/-- the state at hand -/
def At (env : Env) (ah : AH) (ι : Io) (σ : L2.St) (H : Hp) : Prop := SimH K mg ι H ah ∧ SimE K mg ι H env σ
/-- how an exception leaves -/
def PX (E : XW) (ι : Io) (H : Hp) (x : XD) (env : Env) (ah : AH) : Prop :=
  ∀ ι' σ' H' cv dO, Step ι H ι' H' → At K mg env ah ι' σ' H' → XRep K mg ι' H' x cv dO → E cv dO σ' H'
/-- what follows from an outcome r at (ι, H): a value's relation Rv, what is wanted Q -/
def Po {α β : Type} (E : XW) (Rv : Io → Hp → α → β → Prop) (ι : Io) (H : Hp) (r : R (α × AH)) (Q : β → Hp → Prop) : Prop := match r with
  | .ok (d, ah) => ∀ ι' H' v, Step ι H ι' H' → SimH K mg ι' H' ah → Rv ι' H' d v → Q v H'
  | .exc x env ah => PX K mg E ι H x env ah
  | .stk => False
abbrev RvD : Io → Hp → D → V → Prop := fun ι H d v => Rep K mg ι H d v
abbrev RvB : Io → Hp → Bool → Bool → Prop := fun _ _ b c => b = c
abbrev RvL : Io → Hp → List D → List V → Prop := fun ι H ds vs => Reps K mg ι H ds vs
def TF (E : XW) (F : FV) : TE := fun σ H Q => ∃ ι env ah, At K mg env ah ι σ H ∧ Po K mg E (RvD K mg) ι H (F env ah) Q
def TFb (E : XW) (F : FB) : TT := fun σ H Q => ∃ ι env ah, At K mg env ah ι σ H ∧ Po K mg E RvB ι H (F env ah) Q
def TFl (E : XW) (F : FL) : TA := fun σ H Q => ∃ ι env ah, At K mg env ah ι σ H ∧ Po K mg E (RvL K mg) ι H (F env ah) Q
/-- behind a statement -/
def Ou (Dn : Ends) (K : PySem.W.Frag) (mg : Str → Option Value) (ι : Io) (o : Out) (σ : L2.St) (H : Hp) : Prop := match o with
  | .nx => Dn.nx σ H
  | .bk => Dn.bk σ H
  | .ct => Dn.ct σ H
  | .rt d => ∀ v, Rep K mg ι H d v → Dn.rt v H
def PoS (E : XW) (ι : Io) (H : Hp) (r : R (Out × Env × AH)) (Dn : Ends) : Prop := match r with
  | .ok (o, env, ah) => ∀ ι' σ' H', Step ι H ι' H' → At K mg env ah ι' σ' H' → Ou Dn K mg ι' o σ' H'
  | .exc x env ah => PX K mg E ι H x env ah
  | .stk => False
def TFs (E : XW) (F : FO) : TS := fun Dn σ H => ∃ ι env ah, At K mg env ah ι σ H ∧ PoS K mg E ι H (F env ah) Dn
end

section
variable {K : PySem.W.Frag} {mg : Str → Option Value} {E : XW} {ι ι' ι1 : Io} {H H' H1 : Hp} {env : Env} {ah ah' ah1 : AH} {σ : L2.St}
theorem At.step (a : At K mg env ah ι σ H) (s : Step ι H ι' H') (S : SimH K mg ι' H' ah') : At K mg env ah' ι' σ H' := ⟨S, s.simE a.2⟩
theorem PX.later {x : XD} (s : Step ι H ι1 H1) (p : PX K mg E ι H x env ah) : PX K mg E ι1 H1 x env ah := fun ι' σ' H' cv dO t a r => p ι' σ' H' cv dO (s.trans t) a r
theorem Po.later {α β : Type} {Rv : Io → Hp → α → β → Prop} {r : R (α × AH)} {Q : β → Hp → Prop} (s : Step ι H ι1 H1) (p : Po K mg E Rv ι H r Q) : Po K mg E Rv ι1 H1 r Q := by
  cases r with
  | ok z => obtain ⟨d, ah⟩ := z; exact fun ι' H' v t S rv => p ι' H' v (s.trans t) S rv
  | exc x e h => exact PX.later s p
  | stk => exact p
theorem PoS.later {r : R (Out × Env × AH)} {Dn : Ends} (s : Step ι H ι1 H1) (p : PoS K mg E ι H r Dn) : PoS K mg E ι1 H1 r Dn := by
  cases r with
  | ok z => obtain ⟨o, env, ah⟩ := z; exact fun ι' σ' H' t a => p ι' σ' H' (s.trans t) a
  | exc x e h => exact PX.later s p
  | stk => exact p
/-- a part of an outcome: first r, then k -/
theorem Po.first {α β γ δ : Type} {Rv : Io → Hp → α → β → Prop} {Rw : Io → Hp → γ → δ → Prop} {r : R (α × AH)} {k : α × AH → R (γ × AH)} {Q : δ → Hp → Prop} {Q' : β → Hp → Prop}
    (p : Po K mg E Rw ι H (r.bind k) Q)
    (h : ∀ d ah1 ι1 H1 v, r = .ok (d, ah1) → Step ι H ι1 H1 → SimH K mg ι1 H1 ah1 → Rv ι1 H1 d v → Po K mg E Rw ι1 H1 (k (d, ah1)) Q → Q' v H1) : Po K mg E Rv ι H r Q' := by
  cases r with
  | ok z => obtain ⟨d, ah⟩ := z; exact fun ι' H' v t S rv => h d ah ι' H' v rfl t S rv (Po.later t p)
  | exc x e h => exact p
  | stk => exact p
theorem Po.firstS {α β : Type} {Rv : Io → Hp → α → β → Prop} {r : R (α × AH)} {k : α × AH → R (Out × Env × AH)} {Dn : Ends} {Q' : β → Hp → Prop}
    (p : PoS K mg E ι H (r.bind k) Dn)
    (h : ∀ d ah1 ι1 H1 v, r = .ok (d, ah1) → Step ι H ι1 H1 → SimH K mg ι1 H1 ah1 → Rv ι1 H1 d v → PoS K mg E ι1 H1 (k (d, ah1)) Dn → Q' v H1) : Po K mg E Rv ι H r Q' := by
  cases r with
  | ok z => obtain ⟨d, ah⟩ := z; exact fun ι' H' v t S rv => h d ah ι' H' v rfl t S rv (PoS.later t p)
  | exc x e h => exact p
  | stk => exact p
theorem Po.ok {α β : Type} {Rv : Io → Hp → α → β → Prop} {d : α} {Q : β → Hp → Prop} {v : β} (p : Po K mg E Rv ι H (.ok (d, ah)) Q) (s : Step ι H ι1 H1) (S : SimH K mg ι1 H1 ah) (rv : Rv ι1 H1 d v) : Q v H1 := p ι1 H1 v s S rv
theorem Po.here {α β : Type} {Rv : Io → Hp → α → β → Prop} {d : α} {Q : β → Hp → Prop} {v : β} (p : Po K mg E Rv ι H (.ok (d, ah)) Q) (S : SimH K mg ι H ah) (rv : Rv ι H d v) : Q v H := p ι H v Step.refl S rv
end

/-! ### monotony of readings -/
theorem PE.mono {X : Cx} {e : Expr} {t t' : TE} (h : PE X e t) (m : ∀ σ H Q, t' σ H Q → t σ H Q) : PE X e t' := ⟨fun pins s σ H Q I q => h.run pins s σ H Q I (m σ H Q q)⟩
theorem PT.mono {X : Cx} {e : Expr} {t t' : TT} (h : PT X e t) (m : ∀ σ H Q, t' σ H Q → t σ H Q) : PT X e t' := ⟨fun pins s σ H Q I q => h.run pins s σ H Q I (m σ H Q q)⟩
theorem PW.mono {X : Cx} {e : Expr} {t t' : TT} (h : PW X e t) (m : ∀ σ H Q, t' σ H Q → t σ H Q) : PW X e t' := ⟨fun w pins s σ H Q I q => h.run w pins s σ H Q I (m σ H Q q)⟩
theorem PA.mono {X : Cx} {e : List Expr} {t t' : TA} (h : PA X e t) (m : ∀ σ H Q, t' σ H Q → t σ H Q) : PA X e t' := ⟨fun p pins s σ H Q I q => h.run p pins s σ H Q I (m σ H Q q)⟩
theorem PS.mono {X : Cx} {e : Stmt} {t t' : TS} (h : PS X e t) (m : ∀ D σ H, t' D σ H → t D σ H) : PS X e t' := ⟨fun pins s σ H D I q => h.run pins s σ H D I (m D σ H q)⟩
theorem PSs.mono {X : Cx} {e : List Stmt} {t t' : TS} (h : PSs X e t) (m : ∀ D σ H, t' D σ H → t D σ H) : PSs X e t' := ⟨fun pins s σ H D I q => h.run pins s σ H D I (m D σ H q)⟩

/-! ### judgements -/
abbrev FE (X : Cx) (E : XW) (e : Expr) (F : FV) : Prop := PE X e (TF X.K X.mg E F)
abbrev FT (X : Cx) (E : XW) (e : Expr) (F : FB) : Prop := PT X e (TFb X.K X.mg E F)
abbrev FW (X : Cx) (E : XW) (e : Expr) (F : FB) : Prop := PW X e (TFb X.K X.mg E F)
abbrev FA (X : Cx) (E : XW) (e : List Expr) (F : FL) : Prop := PA X e (TFl X.K X.mg E F)
abbrev FS (X : Cx) (E : XW) (e : Stmt) (F : FO) : Prop := PS X e (TFs X.K X.mg E F)
abbrev FSs (X : Cx) (E : XW) (e : List Stmt) (F : FO) : Prop := PSs X e (TFs X.K X.mg E F)

/-! ### small expressions -/
def eVar (i : Nat) : FV := fun env ah => match env[i]? with
  | some (some d) => .ok (d, ah)
  | _ => .stk
def eC (d : D) : FV := fun _ ah => .ok (d, ah)
section
variable {X : Cx} {E : XW} {e : Expr} {pos : Pos}
theorem fv (i : Nat) {x : Str} (hN : X.N[i]? = some x := by rfl) (hv : Vis X.env.scope x := by first | exact Or.inl rfl | exact Or.inr (Or.inl rfl) | exact Or.inr (Or.inr rfl)) (hd : (x == ("__debug__" : Str)) = false := by decide)
    (hcd : (x == ("__classdict__" : Str)) = false := by decide) : FE X E (.Name x pos) (eVar i) := PE.mono (pe_var hN hv hd hcd) fun σ H Q h => by
  obtain ⟨ι, env, ah, a, p⟩ := h
  unfold eVar at p
  split at p
  · rename_i d hd
    obtain ⟨v, e1, r⟩ := a.2.var i d hd
    exact ⟨v, e1, p.here a.1 r⟩
  · exact p.elim
theorem feC {d : D} {v : V} (h : PE X e (tC v)) (r : ∀ ι H, Rep X.K X.mg ι H d v) : FE X E e (eC d) := PE.mono h fun σ H Q h => by
  obtain ⟨ι, env, ah, a, p⟩ := h
  exact p.here a.1 (r ι H)
theorem fint {i j} : FE X E (.Constant (.int i) j pos) (eC (.int i)) := feC pe_int fun _ _ => by unfold Rep; rfl
theorem fbl {b j} : FE X E (.Constant (.bool b) j pos) (eC (.bl b)) := feC pe_bl fun _ _ => by unfold Rep; rfl
theorem fnon {j} : FE X E (.Constant .none j pos) (eC .non) := feC pe_non fun _ _ => by unfold Rep; rfl
theorem fstr {x j} : FE X E (.Constant (.str x) j pos) (eC (.str x)) := feC pe_str fun _ _ => by unfold Rep; rfl
/-- a module's constant -/
structure GlD (K : PySem.W.Frag) (mg : Str → Option Value) (x : Str) (d : D) : Prop where
  to : ∃ u v, mg x = some u ∧ RelV v u ∧ ∀ ι H, Rep K mg ι H d v
theorem fgl {x : Str} {d : D} (g : GlD X.K X.mg x d) (hg : Gl X x := by rfl) (hd : (x == ("__debug__" : Str)) = false := by decide) : FE X E (.Name x pos) (eC d) := by
  obtain ⟨u, v, hm, r, h⟩ := g.to
  exact feC (pe_glob hg hm r hd) h
end

/-! ### one, two, three operands -/
abbrev O1 := D → AH → R (D × AH)
abbrev O2 := D → D → AH → R (D × AH)
def e1 (o : O1) (a : FV) : FV := fun env ah => (a env ah).bind fun z => o z.1 z.2
def e2 (o : O2) (a b : FV) : FV := fun env ah => (a env ah).bind fun z => (b env z.2).bind fun y => o z.1 y.1 y.2
/-- an operation by values keeps to its function -/
def OK1 (K : PySem.W.Frag) (mg : Str → Option Value) (E : XW) (r : V → Hp → VK → Prop) (o : O1) : Prop :=
  ∀ ι H ah d v Q, SimH K mg ι H ah → Rep K mg ι H d v → Po K mg E (RvD K mg) ι H (o d ah) Q → r v H Q
def OK2 (K : PySem.W.Frag) (mg : Str → Option Value) (E : XW) (r : R2) (o : O2) : Prop :=
  ∀ ι H ah d v c u Q, SimH K mg ι H ah → Rep K mg ι H d v → Rep K mg ι H c u → Po K mg E (RvD K mg) ι H (o d c ah) Q → r v u H Q
section
variable {K : PySem.W.Frag} {mg : Str → Option Value} {E : XW}
theorem tf1 {Fa : FV} {r : V → Hp → VK → Prop} {o : O1} (ho : OK1 K mg E r o) {σ : L2.St} {H : Hp} {Q : VK} (h : TF K mg E (e1 o Fa) σ H Q) : TF K mg E Fa σ H (fun x H1 => r x H1 Q) := by
  obtain ⟨ι, env, ah, a, p⟩ := h
  exact ⟨ι, env, ah, a, Po.first p fun d ah1 ι1 H1 v _ s S rv q => ho ι1 H1 ah1 d v Q S rv q⟩
theorem tf2 {Fa Fb : FV} {r : R2} {o : O2} (ho : OK2 K mg E r o) {σ : L2.St} {H : Hp} {Q : VK} (h : TF K mg E (e2 o Fa Fb) σ H Q) : TF K mg E Fa σ H (fun x H1 => TF K mg E Fb σ H1 (fun y H2 => r x y H2 Q)) := by
  obtain ⟨ι, env, ah, a, p⟩ := h
  refine ⟨ι, env, ah, a, Po.first p fun d ah1 ι1 H1 v _ s S rv q => ?_⟩
  exact ⟨ι1, env, ah1, a.step s S, Po.first q fun c ah2 ι2 H2 u _ t T ru q2 => ho ι2 H2 ah2 d v c u Q T (t.rep d rv) ru q2⟩
end
section
variable {X : Cx} {E : XW} {a b c : Expr} {Fa Fb Fc : FV} {pos : Pos}
theorem fop {op : Operator} {r : R2} {o : O2} (hr : OpR X (binaryOp op) r) (ho : OK2 X.K X.mg E r o) (ha : FE X E a Fa) (hb : FE X E b Fb) : FE X E (.BinOp a op b pos) (e2 o Fa Fb) := PE.mono (pe_op hr ha hb) fun _ _ _ h => tf2 ho h
theorem fun1 {op : UnaryOp} {r : V → Hp → VK → Prop} {o : O1} (hr : UnR X (unaryOp op) r) (ho : OK1 X.K X.mg E r o) (ha : FE X E a Fa) : FE X E (.UnaryOp op a pos) (e1 o Fa) := PE.mono (pe_un hr ha) fun _ _ _ h => tf1 ho h
theorem fcmp {op : CmpOp} {r : R2} {o : O2} (hr : OpR X (compareOp op) r) (ho : OK2 X.K X.mg E r o) (ha : FE X E a Fa) (hb : FE X E b Fb) (hm : behindInMarks op b = false) : FE X E (.Compare a [op] [b] pos) (e2 o Fa Fb) := PE.mono (pe_cmpR hr ha hb hm) fun _ _ _ h => tf2 ho h
end

/-! ### whole numbers -/
def oI (g : Int → Int → D) : O2 := fun x y ah => match x, y with
  | .int i, .int j => .ok (g i j, ah)
  | _, _ => .stk
def oIc (C : Int → Int → Bool) (g : Int → Int → D) : O2 := fun x y ah => match x, y with
  | .int i, .int j => if C i j = true then .ok (g i j, ah) else .stk
  | _, _ => .stk
def oI1 (g : Int → D) : O1 := fun x ah => match x with
  | .int i => .ok (g i, ah)
  | _ => .stk
def scD : D → V → Prop
  | .non, v => v = .non
  | .bl b, v => v = .bl b
  | .int i, v => v = .int i
  | .str x, v => v = .str x
  | _, _ => False
section
variable {K : PySem.W.Frag} {mg : Str → Option Value} {E : XW} {ι : Io} {H : Hp}
theorem rep_int {i : Int} {v : V} (h : Rep K mg ι H (.int i) v) : v = .int i := by unfold Rep at h; exact h
theorem rep_bl {i : Bool} {v : V} (h : Rep K mg ι H (.bl i) v) : v = .bl i := by unfold Rep at h; exact h
theorem rep_str {i : Str} {v : V} (h : Rep K mg ι H (.str i) v) : v = .str i := by unfold Rep at h; exact h
theorem rep_non {v : V} (h : Rep K mg ι H .non v) : v = .non := by unfold Rep at h; exact h
theorem rep_ref {n : Nat} {v : V} (h : Rep K mg ι H (.ref n) v) : ∃ a, v = .ref a ∧ ι.c[n]? = some a := by unfold Rep at h; exact h
theorem of_int {i : Int} : Rep K mg ι H (.int i) (.int i) := by unfold Rep; rfl
theorem of_bl {i : Bool} : Rep K mg ι H (.bl i) (.bl i) := by unfold Rep; rfl
theorem of_str {i : Str} : Rep K mg ι H (.str i) (.str i) := by unfold Rep; rfl
theorem of_non : Rep K mg ι H .non .non := by unfold Rep; rfl
theorem of_scD {d : D} {v : V} (h : scD d v) : Rep K mg ι H d v := by
  cases d <;> first | (unfold Rep; exact h) | exact h.elim
theorem ok_oI {g : Int → Int → D} {f : Int → Int → V} (hg : ∀ i j, scD (g i j) (f i j)) : OK2 K mg E (rI0 f) (oI g) := fun ι H ah d v c u Q S rv ru p => by
  unfold oI at p
  split at p
  · rename_i i j
    exact ⟨i, j, rep_int rv, rep_int ru, p.here S (of_scD (hg i j))⟩
  · exact p.elim
theorem ok_oIc {C : Int → Int → Bool} {P : Int → Int → Prop} {g : Int → Int → D} {f : Int → Int → V} (hg : ∀ i j, scD (g i j) (f i j)) (hc : ∀ i j, C i j = true → P i j) : OK2 K mg E (rI P f) (oIc C g) := fun ι H ah d v c u Q S rv ru p => by
  unfold oIc at p
  split at p
  · rename_i i j
    split at p
    · rename_i h
      exact ⟨i, j, rep_int rv, rep_int ru, hc i j h, p.here S (of_scD (hg i j))⟩
    · exact p.elim
  · exact p.elim
theorem ok_oI1 {g : Int → D} {f : Int → V} (hg : ∀ i, scD (g i) (f i)) : OK1 K mg E (rU f) (oI1 g) := fun ι H ah d v Q S rv p => by
  unfold oI1 at p
  split at p
  · rename_i i
    exact ⟨i, rep_int rv, p.here S (of_scD (hg i))⟩
  · exact p.elim
end
def oSub : O2 := oI fun i j => .int (i - j)
def c64 (i : Int) : Bool := decide (-(2 ^ 64) < i) && decide (i < 2 ^ 64)
def oDiv : O2 := oIc (fun _ j => decide (0 < j) && decide (j < 1073741824)) fun i j => .int (i / j)
def oMod : O2 := oIc (fun _ j => decide (0 < j)) fun i j => .int (i % j)
def oPow : O2 := oIc (fun i j => decide (0 ≤ j) && decide (j ≤ 1000000) && decide (i.natAbs < 2 ^ 64)) fun i j => .int (i ^ j.toNat)
def oLt : O2 := oI fun i j => .bl (decide (i < j))
def oLe : O2 := oI fun i j => .bl (decide (i ≤ j))
def oGt : O2 := oI fun i j => .bl (decide (j < i))
def oGe : O2 := oI fun i j => .bl (decide (j ≤ i))
def oNeg : O1 := oI1 fun i => .int (-i)
section
variable {X : Cx} {E : XW} {a b c : Expr} {Fa Fb Fc : FV} {pos : Pos}
theorem fsub (ha : FE X E a Fa) (hb : FE X E b Fb) : FE X E (.BinOp a .Sub b pos) (e2 oSub Fa Fb) := fop op_sub (ok_oI fun _ _ => rfl) ha hb
theorem fdiv (ha : FE X E a Fa) (hb : FE X E b Fb) : FE X E (.BinOp a .FloorDiv b pos) (e2 oDiv Fa Fb) := fop op_fdiv (ok_oIc (fun _ _ => rfl) fun i j h => by simpa [CDiv] using h) ha hb
theorem fmod (ha : FE X E a Fa) (hb : FE X E b Fb) : FE X E (.BinOp a .Mod b pos) (e2 oMod Fa Fb) := fop op_mod (ok_oIc (fun _ _ => rfl) fun i j h => by simpa using h) ha hb
theorem fpow (ha : FE X E a Fa) (hb : FE X E b Fb) : FE X E (.BinOp a .Pow b pos) (e2 oPow Fa Fb) := fop op_pow (ok_oIc (fun _ _ => rfl) fun i j h => by simpa [CPow, and_assoc] using h) ha hb
theorem fneg (ha : FE X E a Fa) : FE X E (.UnaryOp .USub a pos) (e1 oNeg Fa) := fun1 un_neg (ok_oI1 fun _ => rfl) ha
theorem flt (ha : FE X E a Fa) (hb : FE X E b Fb) : FE X E (.Compare a [.Lt] [b] pos) (e2 oLt Fa Fb) := fcmp op_lt (ok_oI fun _ _ => rfl) ha hb (nomark _)
theorem fle (ha : FE X E a Fa) (hb : FE X E b Fb) : FE X E (.Compare a [.LtE] [b] pos) (e2 oLe Fa Fb) := fcmp op_le (ok_oI fun _ _ => rfl) ha hb (nomark _)
theorem fgt (ha : FE X E a Fa) (hb : FE X E b Fb) : FE X E (.Compare a [.Gt] [b] pos) (e2 oGt Fa Fb) := fcmp op_gt (ok_oI fun _ _ => rfl) ha hb (nomark _)
theorem fge (ha : FE X E a Fa) (hb : FE X E b Fb) : FE X E (.Compare a [.GtE] [b] pos) (e2 oGe Fa Fb) := fcmp op_ge (ok_oI fun _ _ => rfl) ha hb (nomark _)
end
end Fx

/-! ===== Fx2 -/
set_option Elab.async false
set_option linter.all false
set_option maxRecDepth 100000
set_option maxHeartbeats 4000000
namespace Fx
open PySem PySem.Spec PyProof.Rows L2

/-! ### sequences -/
def asL (ah : AH) : D → Option (List D)
  | .lst xs => some xs
  | .ref n => match ah[n]? with
    | some (.lst xs) => some xs
    | _ => none
  | _ => none
def asT : D → Option (List D)
  | .tup xs => some xs
  | _ => none
def asS (ah : AH) : D → Option (List D)
  | .tup xs => some xs
  | d => asL ah d
def asI : D → Option Int
  | .int i => some i
  | _ => none
def asB : D → Option Bool
  | .bl i => some i
  | _ => none
def asX : D → Option Str
  | .str i => some i
  | _ => none
/-- an item, or stuck -/
def okO {α β : Type} (o : Option α) (f : α → R β) : R β := match o with
  | some a => f a
  | none => .stk
/-- only where c -/
def okB {α : Type} (c : Bool) (r : R α) : R α := match c with
  | true => r
  | false => .stk
def mapO {α β : Type} (f : α → Option β) : List α → Option (List β)
  | [] => some []
  | a :: r => match f a, mapO f r with
    | some b, some s => some (b :: s)
    | _, _ => none
section
variable {K : PySem.W.Frag} {mg : Str → Option Value} {E : XW} {ι ι' : Io} {H H' : Hp} {ah : AH} {d : D} {ds : List D} {v : V} {vs : List V}
theorem Po.okO {α β γ : Type} {Rv : Io → Hp → β → γ → Prop} {o : Option α} {f : α → R (β × AH)} {Q : γ → Hp → Prop} (p : Po K mg E Rv ι H (okO o f) Q) : ∃ a, o = some a ∧ Po K mg E Rv ι H (f a) Q := by
  cases o with
  | none => exact p.elim
  | some a => exact ⟨a, rfl, p⟩
theorem Po.okB {β γ : Type} {Rv : Io → Hp → β → γ → Prop} {c : Bool} {r : R (β × AH)} {Q : γ → Hp → Prop} (p : Po K mg E Rv ι H (okB c r) Q) : c = true ∧ Po K mg E Rv ι H r Q := by
  cases c with
  | false => exact p.elim
  | true => exact ⟨rfl, p⟩
theorem PoS.okO {α : Type} {o : Option α} {f : α → R (Out × Env × AH)} {Q : Ends} (p : PoS K mg E ι H (okO o f) Q) : ∃ a, o = some a ∧ PoS K mg E ι H (f a) Q := by
  cases o with
  | none => exact p.elim
  | some a => exact ⟨a, rfl, p⟩
theorem PoS.okB {c : Bool} {r : R (Out × Env × AH)} {Q : Ends} (p : PoS K mg E ι H (okB c r) Q) : c = true ∧ PoS K mg E ι H r Q := by
  cases c with
  | false => exact p.elim
  | true => exact ⟨rfl, p⟩
theorem asI_eq {i : Int} (h : asI d = some i) : d = .int i := by cases d <;> first | (cases h; rfl) | cases h
theorem asB_eq {i : Bool} (h : asB d = some i) : d = .bl i := by cases d <;> first | (cases h; rfl) | cases h
theorem asX_eq {i : Str} (h : asX d = some i) : d = .str i := by cases d <;> first | (cases h; rfl) | cases h
theorem asT_eq (h : asT d = some ds) : d = .tup ds := by cases d <;> first | (cases h; rfl) | cases h
theorem reps_nil (h : Reps K mg ι H [] vs) : vs = [] := by unfold Reps at h; exact h
theorem reps_cons {d : D} (h : Reps K mg ι H (d :: ds) vs) : ∃ v r, vs = v :: r ∧ Rep K mg ι H d v ∧ Reps K mg ι H ds r := by unfold Reps at h; exact h
theorem of_nil : Reps K mg ι H [] [] := by unfold Reps; rfl
theorem of_cons (h : Rep K mg ι H d v) (r : Reps K mg ι H ds vs) : Reps K mg ι H (d :: ds) (v :: vs) := by unfold Reps; exact ⟨v, vs, rfl, h, r⟩
theorem reps_len : ∀ {ds : List D} {vs : List V}, Reps K mg ι H ds vs → vs.length = ds.length
  | [], _, h => by rw [reps_nil h]; rfl
  | _ :: _, _, h => by
    obtain ⟨v, r, rfl, _, q⟩ := reps_cons h
    simp [reps_len q]
theorem reps_get : ∀ {ds : List D} {vs : List V} {i : Nat} {d : D}, Reps K mg ι H ds vs → ds[i]? = some d → ∃ v, vs[i]? = some v ∧ Rep K mg ι H d v
  | [], _, _, _, _, e => by simp at e
  | _ :: _, _, 0, _, h, e => by
    obtain ⟨v, r, rfl, q, _⟩ := reps_cons h
    simp at e; subst e; exact ⟨v, rfl, q⟩
  | _ :: _, _, i + 1, _, h, e => by
    obtain ⟨v, r, rfl, _, q⟩ := reps_cons h
    simp at e; simpa using reps_get q e
theorem reps_set : ∀ {ds : List D} {vs : List V} {i : Nat}, Reps K mg ι H ds vs → Rep K mg ι H d v → Reps K mg ι H (ds.set i d) (vs.set i v)
  | [], _, _, h, _ => by rw [reps_nil h]; exact of_nil
  | _ :: _, _, 0, h, r => by
    obtain ⟨v, s, rfl, _, q⟩ := reps_cons h
    exact of_cons r q
  | _ :: _, _, i + 1, h, r => by
    obtain ⟨v, s, rfl, p, q⟩ := reps_cons h
    exact of_cons p (reps_set q r)
theorem reps_app : ∀ {ds es : List D} {vs us : List V}, Reps K mg ι H ds vs → Reps K mg ι H es us → Reps K mg ι H (ds ++ es) (vs ++ us)
  | [], _, _, _, h, g => by rw [reps_nil h]; exact g
  | _ :: _, _, _, _, h, g => by
    obtain ⟨v, s, rfl, p, q⟩ := reps_cons h
    exact of_cons p (reps_app q g)
theorem reps_take : ∀ {ds : List D} {vs : List V} (n : Nat), Reps K mg ι H ds vs → Reps K mg ι H (ds.take n) (vs.take n)
  | _, _, 0, h => by simp; exact of_nil
  | [], _, n + 1, h => by rw [reps_nil h]; exact of_nil
  | _ :: _, _, n + 1, h => by
    obtain ⟨v, s, rfl, p, q⟩ := reps_cons h
    exact of_cons p (reps_take n q)
theorem reps_drop : ∀ {ds : List D} {vs : List V} (n : Nat), Reps K mg ι H ds vs → Reps K mg ι H (ds.drop n) (vs.drop n)
  | _, _, 0, h => by simpa using h
  | [], _, n + 1, h => by rw [reps_nil h]; exact of_nil
  | _ :: _, _, n + 1, h => by
    obtain ⟨v, s, rfl, p, q⟩ := reps_cons h
    exact reps_drop n q
theorem reps_rev : ∀ {ds : List D} {vs : List V}, Reps K mg ι H ds vs → Reps K mg ι H ds.reverse vs.reverse
  | [], _, h => by rw [reps_nil h]; exact of_nil
  | _ :: _, _, h => by
    obtain ⟨v, s, rfl, p, q⟩ := reps_cons h
    rw [List.reverse_cons, List.reverse_cons]
    exact reps_app (reps_rev q) (of_cons p of_nil)
theorem reps_erase : ∀ {ds : List D} {vs : List V} (n : Nat), Reps K mg ι H ds vs → Reps K mg ι H (ds.eraseIdx n) (vs.eraseIdx n)
  | [], _, n, h => by rw [reps_nil h]; simpa using of_nil
  | _ :: _, _, 0, h => by
    obtain ⟨v, s, rfl, p, q⟩ := reps_cons h
    exact q
  | _ :: _, _, n + 1, h => by
    obtain ⟨v, s, rfl, p, q⟩ := reps_cons h
    exact of_cons p (reps_erase n q)
theorem reps_rep (n : Nat) (h : Reps K mg ι H ds vs) : Reps K mg ι H (List.replicate n ds).flatten (List.replicate n vs).flatten := by
  induction n with
  | zero => exact of_nil
  | succ n ih =>
    rw [List.replicate_succ, List.replicate_succ, List.flatten_cons, List.flatten_cons]
    exact reps_app h ih
theorem asL_rep (S : SimH K mg ι H ah) (r : Rep K mg ι H d v) (h : asL ah d = some ds) : ∃ a vs, v = .ref a ∧ RdL K H a vs ∧ Reps K mg ι H ds vs := by
  cases d with
  | lst xs =>
    cases h
    unfold Rep at r
    obtain ⟨a, vs, e, f, q⟩ := r
    exact ⟨a, vs, e, f.rd, q⟩
  | ref n =>
    obtain ⟨a, e, g⟩ := rep_ref r
    unfold asL at h
    simp only at h
    split at h
    · rename_i xs hx
      cases h
      obtain ⟨vs, e1, e2⟩ := S.cell n _ a hx g
      exact ⟨a, vs, e, .inl (.inl e1), e2⟩
    · cases h
  | _ => cases h
theorem asT_rep (r : Rep K mg ι H d v) (h : asT d = some ds) : ∃ a vs, v = .ref a ∧ SqT K H a vs ∧ Reps K mg ι H ds vs := by
  rw [asT_eq h] at r
  unfold Rep at r
  obtain ⟨a, vs, e, f, q⟩ := r
  exact ⟨a, vs, e, f.sq, q⟩
theorem asS_rep (S : SimH K mg ι H ah) (r : Rep K mg ι H d v) (h : asS ah d = some ds) : ∃ a vs, v = .ref a ∧ (SqL K H a vs ∨ SqT K H a vs) ∧ Reps K mg ι H ds vs := by
  by_cases hd : ∃ xs, d = .tup xs
  · obtain ⟨xs, rfl⟩ := hd
    obtain ⟨a, vs, e, f, q⟩ := asT_rep r (show asT (.tup xs) = some ds from h)
    exact ⟨a, vs, e, .inr f, q⟩
  · have h' : asL ah d = some ds := by
      cases d <;> first | exact h | exact absurd ⟨_, rfl⟩ hd
    obtain ⟨a, vs, e, f, q⟩ := asL_rep S r h'
    exact ⟨a, vs, e, .inl f.sq, q⟩
/-! ### new things -/
theorem new_tup {p : Addr} (S : SimH K mg ι H ah) (n : H p = none) (r : Reps K mg ι H ds vs) : Step ι H ι (upd H p (.tup vs)) ∧ SimH K mg ι (upd H p (.tup vs)) ah ∧ Rep K mg ι (upd H p (.tup vs)) (.tup ds) (.ref p) := by
  refine ⟨Step.laid n, S.laid n, ?_⟩
  unfold Rep
  exact ⟨p, vs, rfl, .inl ⟨S.out n, .inl upd_same⟩, (Step.laid n).reps ds r⟩
theorem new_lst {p : Addr} (S : SimH K mg ι H ah) (n : H p = none) (r : Reps K mg ι H ds vs) : Step ι H ι (upd H p (.lst vs)) ∧ SimH K mg ι (upd H p (.lst vs)) ah ∧ Rep K mg ι (upd H p (.lst vs)) (.lst ds) (.ref p) := by
  refine ⟨Step.laid n, S.laid n, ?_⟩
  unfold Rep
  exact ⟨p, vs, rfl, .inl ⟨S.out n, .inl upd_same⟩, (Step.laid n).reps ds r⟩
theorem new_cell {p : Addr} (S : SimH K mg ι H ah) (n : H p = none) (r : Reps K mg ι H ds vs) : Step ι H (ι.add p) (upd H p (.lst vs)) ∧ SimH K mg (ι.add p) (upd H p (.lst vs)) (ah ++ [.lst ds]) ∧ Rep K mg (ι.add p) (upd H p (.lst vs)) (.ref ah.length) (.ref p) := by
  have st : Step ι H (ι.add p) (upd H p (.lst vs)) := Step.cell n
  refine ⟨st, S.cellNew n ⟨vs, upd_same, st.reps ds r⟩, ?_⟩
  unfold Rep
  exact ⟨p, rfl, by rw [← S.len]; simp [Io.add]⟩
/-- what a new list becomes: fixed, or a cell -/
def mkL (c : Bool) (ds : List D) (ah : AH) : R (D × AH) := match c with
  | false => .ok (.lst ds, ah)
  | true => .ok (.ref ah.length, ah ++ [.lst ds])
theorem Po.mkL {c : Bool} {Q : VK} (p : Po K mg E (RvD K mg) ι H (mkL c ds ah) Q) (S : SimH K mg ι H ah) (r : Reps K mg ι H ds vs) : ∀ q, H q = none → Q (.ref q) (upd H q (.lst vs)) := fun q n => by
  cases c with
  | false =>
    obtain ⟨a, b, d⟩ := new_lst S n r
    exact Po.ok p a b d
  | true =>
    obtain ⟨a, b, d⟩ := new_cell S n r
    exact Po.ok p a b d
def mkT (ds : List D) (ah : AH) : R (D × AH) := .ok (.tup ds, ah)
theorem Po.mkT {Q : VK} (p : Po K mg E (RvD K mg) ι H (mkT ds ah) Q) (S : SimH K mg ι H ah) (r : Reps K mg ι H ds vs) : ∀ q, H q = none → Q (.ref q) (upd H q (.tup vs)) := fun q n => by
  obtain ⟨a, b, d⟩ := new_tup S n r
  exact Po.ok p a b d
end
/-- it is not too long -/
def lenOk (n : Nat) : Bool := Nat.ble n 16777216
theorem lenOk_le {n : Nat} (h : lenOk n = true) : n ≤ sizeLine := by rw [sizeLine_eq]; exact Nat.le_of_ble_eq_true h
theorem lenOk_of {n : Nat} (h : n ≤ 16777216) : lenOk n = true := Nat.ble_eq_true_of_le h

/-! ### lists of arguments, displays -/
def lNil : FL := fun _ ah => .ok ([], ah)
def lCons (a : FV) (r : FL) : FL := fun env ah => (a env ah).bind fun z => (r env z.2).bind fun y => .ok (z.1 :: y.1, y.2)
def eTup (l : FL) : FV := fun env ah => (l env ah).bind fun z => okB (lenOk z.1.length) (mkT z.1 z.2)
def eLst (c : Bool) (l : FL) : FV := fun env ah => (l env ah).bind fun z => okB (lenOk z.1.length) (mkL c z.1 z.2)
abbrev OL := List D → AH → R (D × AH)
def eL (o : OL) (l : FL) : FV := fun env ah => (l env ah).bind fun z => o z.1 z.2
def OKL (K : PySem.W.Frag) (mg : Str → Option Value) (E : XW) (r : List V → Hp → VK → Prop) (o : OL) : Prop :=
  ∀ ι H ah ds vs Q, SimH K mg ι H ah → Reps K mg ι H ds vs → Po K mg E (RvD K mg) ι H (o ds ah) Q → r vs H Q
theorem OKL.or {K : PySem.W.Frag} {mg : Str → Option Value} {E : XW} {r r' : List V → Hp → VK → Prop} {o o' : OL} (c : List D → AH → Bool) (h : OKL K mg E r o) (h' : OKL K mg E r' o') : OKL K mg E (fun vs H Q => r vs H Q ∨ r' vs H Q) (fun ds ah => if c ds ah = true then o ds ah else o' ds ah) := fun ι H ah ds vs Q S rv p => by
  have p : Po K mg E (RvD K mg) ι H (if c ds ah = true then o ds ah else o' ds ah) Q := p
  by_cases hc : c ds ah = true
  · rw [if_pos hc] at p; exact .inl (h ι H ah ds vs Q S rv p)
  · rw [if_neg hc] at p; exact .inr (h' ι H ah ds vs Q S rv p)
section
variable {X : Cx} {E : XW} {a : Expr} {as : List Expr} {Fa : FV} {Fr : FL} {pos : Pos}
theorem fnil : FA X E [] lNil := PA.mono pa_nil fun σ H Q h => by
  obtain ⟨ι, env, ah, a, p⟩ := h
  exact p.here a.1 of_nil
theorem fcons (ha : FE X E a Fa) (hr : FA X E as Fr) (hs : starEach (a :: as) X.env = (false, eval a X.env) :: starEach as X.env := by rfl) : FA X E (a :: as) (lCons Fa Fr) := PA.mono (pa_cons ha hr hs) fun σ H Q h => by
  obtain ⟨ι, env, ah, a, p⟩ := h
  refine ⟨ι, env, ah, a, Po.first p fun d ah1 ι1 H1 v _ s S rv q => ?_⟩
  refine ⟨ι1, env, ah1, a.step s S, Po.first q fun ds ah2 ι2 H2 vs _ t T rs q2 => ?_⟩
  exact q2.here T (of_cons (t.rep d rv) rs)
theorem ftup {k} (h : FA X E as Fr) : FE X E (.Tuple as k pos) (eTup Fr) := PE.mono (pe_tup h) fun σ H Q h => by
  obtain ⟨ι, env, ah, a, p⟩ := h
  refine ⟨ι, env, ah, a, Po.first p fun ds ah1 ι1 H1 vs _ s S rs q => ?_⟩
  obtain ⟨hl, q⟩ := q.okB
  exact ⟨by rw [reps_len rs]; exact lenOk_le hl, q.mkT S rs⟩
theorem flst (c : Bool) (h : FA X E as Fr) : FE X E (.List as pos) (eLst c Fr) := PE.mono (pe_lst h) fun σ H Q h => by
  obtain ⟨ι, env, ah, a, p⟩ := h
  refine ⟨ι, env, ah, a, Po.first p fun ds ah1 ι1 H1 vs _ s S rs q => ?_⟩
  obtain ⟨hl, q⟩ := q.okB
  exact ⟨by rw [reps_len rs]; exact lenOk_le hl, q.mkL S rs⟩
/-- plain arguments -/
structure Pl (X : Cx) (a : Expr) (as : List Expr) (pos : Pos) : Prop where
  he : starEach (a :: as) X.env = (false, eval a X.env) :: starEach as X.env
  hpl : (backTo pos (starEach as X.env)).any (·.1) = false
/-- a built-in by its name -/
theorem fcb {x : Str} {p : Pos} {id : String} {r : List V → Hp → VK → Prop} {o : OL} (hc : CallR X (.builtin id) r) (ho : OKL X.K X.mg E r o) (hm : X.mg x = none) (hv : bootBuiltins x = some (.builtin id)) (ha : FA X E (a :: as) Fr) (hg : Gl X x := by rfl)
    (hp : Pl X a as pos := by exact ⟨rfl, rfl⟩) (hn : x ≠ "__name__" := by decide) (hdb : (x == ("__debug__" : Str)) = false := by decide) : FE X E (.Call (.Name x p) (a :: as) [] pos) (eL o Fr) := PE.mono (pe_callB hc hg hm hv ha hn hdb hp.he hp.hpl) fun σ H Q h => by
  obtain ⟨ι, env, ah, a, p⟩ := h
  exact ⟨ι, env, ah, a, Po.first p fun ds ah1 ι1 H1 vs _ s S rs q => ho ι1 H1 ah1 ds vs Q S rs q⟩
theorem fct {x : Str} {p : Pos} {T : String} {r : List V → Hp → VK → Prop} {o : OL} (hc : CallR X (.type T) r) (ho : OKL X.K X.mg E r o) (hm : X.mg x = none) (hv : bootBuiltins x = some (.type T)) (ha : FA X E (a :: as) Fr) (hg : Gl X x := by rfl)
    (hp : Pl X a as pos := by exact ⟨rfl, rfl⟩) (hn : x ≠ "__name__" := by decide) (hdb : (x == ("__debug__" : Str)) = false := by decide) : FE X E (.Call (.Name x p) (a :: as) [] pos) (eL o Fr) := PE.mono (pe_callTy hc hg hm hv ha hn hdb hp.he hp.hpl) fun σ H Q h => by
  obtain ⟨ι, env, ah, a, p⟩ := h
  exact ⟨ι, env, ah, a, Po.first p fun ds ah1 ι1 H1 vs _ s S rs q => ho ι1 H1 ah1 ds vs Q S rs q⟩
end

/-! ### an item -/
def oIx : O2 := fun x y ah => match x with
  | .str z => okO (asI y) fun i => okB (lenOk z.length) (okO (atI z.cps.toList i) fun c => .ok (.str ⟨#[c]⟩, ah))
  | _ => okO (asI y) fun i => okO (asS ah x) fun ds => okO (atI ds i) fun d => .ok (d, ah)
section
variable {K : PySem.W.Frag} {mg : Str → Option Value} {E : XW} {ι ι' : Io} {H H' : Hp} {ah : AH} {d : D} {ds : List D} {v : V} {vs : List V}
theorem reps_at {i : Int} (r : Reps K mg ι H ds vs) (h : atI ds i = some d) : ∃ v, atI vs i = some v ∧ Rep K mg ι H d v := by
  unfold atI at h ⊢
  rw [reps_len r]
  obtain ⟨j, h1, h2⟩ := Option.bind_eq_some_iff.mp h
  obtain ⟨v, e, q⟩ := reps_get r h2
  exact ⟨v, by rw [h1]; exact e, q⟩
theorem ok_ix : OK2 K mg E (rIx K) oIx := fun ι H ah d v c u Q S rv ru p => by
  by_cases hx : ∃ z, d = .str z
  · obtain ⟨z, rfl⟩ := hx
    unfold oIx at p
    obtain ⟨i, hi, p⟩ := p.okO
    obtain ⟨hl, p⟩ := p.okB
    obtain ⟨k, hk, p⟩ := p.okO
    rw [asI_eq hi] at ru
    exact .inr (.inr ⟨z, i, k, rep_str rv, rep_int ru, lenOk_le hl, hk, p.here S of_str⟩)
  · have e : oIx d c ah = okO (asI c) fun i => okO (asS ah d) fun ds => okO (atI ds i) fun d => .ok (d, ah) := by
      cases d <;> first | rfl | exact absurd ⟨_, rfl⟩ hx
    rw [e] at p
    obtain ⟨i, hi, p⟩ := p.okO
    obtain ⟨ds, hs, p⟩ := p.okO
    obtain ⟨z, hz, p⟩ := p.okO
    rw [asI_eq hi] at ru
    obtain ⟨a, vs, e, hq, rs⟩ := asS_rep S rv hs
    obtain ⟨w, hw, rw'⟩ := reps_at rs hz
    rcases hq with hq | hq
    · exact .inl ⟨a, vs, i, w, e, rep_int ru, hq, hw, p.here S rw'⟩
    · exact .inr (.inl ⟨a, vs, i, w, e, rep_int ru, hq, hw, p.here S rw'⟩)
end
section
variable {X : Cx} {E : XW} {a b : Expr} {Fa Fb : FV} {pos : Pos}
theorem fix (ha : FE X E a Fa) (hb : FE X E b Fb) (hs : PlainIx b := by exact fun _ _ => rfl) : FE X E (.Subscript a b pos) (e2 oIx Fa Fb) := PE.mono (pe_ix ix_seq ha hb hs) fun _ _ _ h => tf2 ok_ix h
end

/-! ### slices -/
def cutD (xs : List D) (lo hi : Option Int) : List D := (xs.drop (HT.sIx xs.length 0 lo)).take (HT.sIx xs.length xs.length hi - HT.sIx xs.length 0 lo)
abbrev FOI := Env → AH → R (Option Int × AH)
def pNo : FOI := fun _ ah => .ok (none, ah)
def pYes (a : FV) : FOI := fun env ah => (a env ah).bind fun z => okO (asI z.1) fun i => .ok (some i, z.2)
def oSl (c : Bool) (x : D) (lo hi : Option Int) (ah : AH) : R (D × AH) := match x with
  | .str z => okB (lenOk z.length) (.ok (.str (cutS z lo hi), ah))
  | .tup xs => mkT (cutD xs lo hi) ah
  | _ => okO (asL ah x) fun xs => mkL c (cutD xs lo hi) ah
def eSl (c : Bool) (a : FV) (l h : FOI) : FV := fun env ah => (a env ah).bind fun z => (l env z.2).bind fun y => (h env y.2).bind fun w => oSl c z.1 y.1 w.1 w.2
def TFp (K : PySem.W.Frag) (mg : Str → Option Value) (E : XW) (F : FOI) : TO := fun σ H Q => ∃ ι env ah, At K mg env ah ι σ H ∧ Po K mg E (fun _ _ a b => a = b) ι H (F env ah) Q
section
variable {K : PySem.W.Frag} {mg : Str → Option Value} {E : XW} {ι ι' : Io} {H H' : Hp} {ah : AH} {d : D} {ds : List D} {v : V} {vs : List V}
theorem reps_cut (lo hi : Option Int) (r : Reps K mg ι H ds vs) : Reps K mg ι H (cutD ds lo hi) (cutV vs lo hi) := by
  unfold cutD cutV
  rw [reps_len r]
  exact reps_take _ (reps_drop _ r)
def rSlAll (K : PySem.W.Frag) : V → Option Int → Option Int → Hp → VK → Prop := fun x lo hi H Q => rSlL K x lo hi H Q ∨ (rSlA K x lo hi H Q ∨ rSlS x lo hi H Q)
theorem sl_all {X : Cx} : SlR X (rSlAll X.K) := sl_list.or (sl_tupA.or sl_str)
theorem sIx_whole {n : Nat} {lo hi : Option Int} (h : HT.sIx n 0 lo = 0 ∧ HT.sIx n n hi = n) {xs : List D} (e : xs.length = n) : cutD xs lo hi = xs := by
  unfold cutD
  rw [e, h.1, h.2]
  simp [← e]
theorem ok_sl {c : Bool} {lo hi : Option Int} {Q : VK} (S : SimH K mg ι H ah) (r : Rep K mg ι H d v) (p : Po K mg E (RvD K mg) ι H (oSl c d lo hi ah) Q) : rSlAll K v lo hi H Q := by
  by_cases h1 : ∃ z, d = .str z
  · obtain ⟨z, rfl⟩ := h1
    unfold oSl at p
    obtain ⟨hl, p⟩ := p.okB
    exact .inr (.inr ⟨z, rep_str r, lenOk_le hl, p.here S of_str⟩)
  by_cases h2 : ∃ xs, d = .tup xs
  · obtain ⟨xs, rfl⟩ := h2
    unfold oSl at p
    obtain ⟨a, vs, e, hq, rs⟩ := asT_rep r (show asT (.tup xs) = some xs from rfl)
    refine .inr (.inl ⟨a, vs, e, hq, fun w => ?_, fun w => p.mkT S (reps_cut lo hi rs)⟩)
    have w' : cutD xs lo hi = xs := sIx_whole w (reps_len rs).symm
    have p : Po K mg E (RvD K mg) ι H (.ok (.tup (cutD xs lo hi), ah)) Q := p
    rw [w'] at p
    have q := p.here S r
    rw [e] at q
    exact q
  · have e : oSl c d lo hi ah = okO (asL ah d) fun xs => mkL c (cutD xs lo hi) ah := by
      cases d <;> first | rfl | exact absurd ⟨_, rfl⟩ h1 | exact absurd ⟨_, rfl⟩ h2
    rw [e] at p
    obtain ⟨xs, hx, p⟩ := p.okO
    obtain ⟨a, vs, e, hq, rs⟩ := asL_rep S r hx
    exact .inl ⟨a, vs, e, hq.sq, p.mkL S (reps_cut lo hi rs)⟩
end
section
variable {X : Cx} {E : XW} {a b : Expr} {Fa Fb : FV} {Fl Fh : FOI} {lo hi : Option Expr} {pos p2 : Pos}
theorem fpno : PO X none (TFp X.K X.mg E pNo) := ⟨fun pins s σ H Q I h => by
  obtain ⟨ι, env, ah, a, p⟩ := h
  exact po_none.run pins s σ H Q I (p.here a.1 rfl)⟩
theorem fpyes (h : FE X E a Fa) : PO X (some a) (TFp X.K X.mg E (pYes Fa)) := ⟨fun pins s σ H Q I hw => by
  obtain ⟨ι, env, ah, a, p⟩ := hw
  refine (po_some h).run pins s σ H Q I ⟨ι, env, ah, a, Po.first p fun d ah1 ι1 H1 v _ s S rv q => ?_⟩
  obtain ⟨i, hi, q⟩ := q.okO
  have rv : Rep X.K X.mg ι1 H1 d v := rv
  rw [asI_eq (show asI d = some i from hi)] at rv
  exact ⟨i, rep_int rv, q.here S rfl⟩⟩
theorem fsl (c : Bool) (ha : FE X E a Fa) (hl : PO X lo (TFp X.K X.mg E Fl)) (hh : PO X hi (TFp X.K X.mg E Fh)) : FE X E (.Subscript a (.Slice lo hi none p2) pos) (eSl c Fa Fl Fh) := PE.mono (pe_slice sl_all ha hl hh) fun σ H Q h => by
  obtain ⟨ι, env, ah, a, p⟩ := h
  refine ⟨ι, env, ah, a, Po.first p fun d ah1 ι1 H1 v _ s S rv q => ?_⟩
  refine ⟨ι1, env, ah1, a.step s S, Po.first q fun l ah2 ι2 H2 l' _ t T el q2 => ?_⟩
  subst el
  refine ⟨ι2, env, ah2, (a.step s S).step t T, Po.first q2 fun u ah3 ι3 H3 u' _ t' T' eu q3 => ?_⟩
  subst eu
  exact ok_sl T' ((t.trans t').rep d rv) q3
end

/-! ### + and * -/
section
variable {X : Cx}
theorem Inv.lstR {pins : List (Addr × Obj)} {σ : L2.St} {H : Hp} {s : Shared} {l : Addr} {xs : List V} (I : Inv X pins σ H s) (hH : RdL X.K H l xs) : xs.length ≤ sizeLine ∧ ∃ (its : List Value) (n : Nat), Vals xs its ∧ xs.length = its.length ∧ s.heap.get? l = some { cls := .type "list", data := .seq its.toArray n } := by
  rcases hH with hH | ⟨its, n, e, z, r⟩
  · obtain ⟨z, its, n, r, e⟩ := hH.ok I.hok
    exact ⟨z, its, n, r, r.length, e⟩
  · exact ⟨by rw [r.length, Array.length_toList]; exact z, its.toList, n, r, r.length, I.kIn _ _ e⟩
def rCatR (K : PySem.W.Frag) : R2 := fun x y H Q => ∃ l b xs zs, x = .ref l ∧ y = .ref b ∧ RdL K H l xs ∧ RdL K H b zs ∧ xs.length + zs.length ≤ sizeLine ∧ ∀ p, H p = none → Q (.ref p) (upd H p (.lst (xs ++ zs)))
theorem op_catR : OpR X (binaryOp .Add) (rCatR X.K) := by
  intro pins s σ H x y v u Q I rx ry h
  obtain ⟨l, b, xs, zs, rfl, rfl, hH, hB, hz, q⟩ := h
  cases rx
  cases ry
  obtain ⟨z, its, n, r, hl, e⟩ := Inv.lstR I hH
  obtain ⟨z2, its2, n2, r2, hl2, e2⟩ := Inv.lstR I hB
  refine PySem.P.add_list e e2 ?_ (by rw [List.size_toArray, List.size_toArray]; omega)
  have ea : its.toArray ++ its2.toArray = (its ++ its2).toArray := by simp
  rw [ea]
  exact ⟨.ref _, _, I.lnew (t' := s.toks) (r.append r2) (by rw [List.length_append]; omega), rfl, q _ I.fresh⟩
def rAddAll (K : PySem.W.Frag) : R2 := fun x y H Q => rI0 (fun i j => .int (i + j)) x y H Q ∨ ((∃ i j, x = .str i ∧ y = .str j ∧ i.length + j.length ≤ sizeLine ∧ Q (.str (i ++ j)) H) ∨ (rCatA K x y H Q ∨ rCatR K x y H Q))
theorem op_addAll : OpR X (binaryOp .Add) (rAddAll X.K) := op_add.or (op_add_str.or (op_catA.or op_catR))
end
def oAdd (c : Bool) : O2 := fun x y ah => match x, y with
  | .int i, .int j => .ok (.int (i + j), ah)
  | .str i, .str j => okB (lenOk (i.length + j.length)) (.ok (.str (i ++ j), ah))
  | .tup xs, .tup ys => okB (lenOk (xs.length + ys.length)) (mkT (xs ++ ys) ah)
  | x, y => okO (asL ah x) fun xs => okO (asL ah y) fun ys => okB (lenOk (xs.length + ys.length)) (mkL c (xs ++ ys) ah)
theorem ok_add {K : PySem.W.Frag} {mg : Str → Option Value} {E : XW} {c : Bool} : OK2 K mg E (rAddAll K) (oAdd c) := fun ι H ah d v e u Q S rv ru p => by
  unfold oAdd at p
  split at p
  · exact .inl ⟨_, _, rep_int rv, rep_int ru, p.here S of_int⟩
  · obtain ⟨hl, p⟩ := p.okB
    exact .inr (.inl ⟨_, _, rep_str rv, rep_str ru, lenOk_le hl, p.here S of_str⟩)
  · rename_i xs ys
    obtain ⟨hl, p⟩ := p.okB
    obtain ⟨a, vs, e1, q1, r1⟩ := asT_rep rv (show asT (.tup xs) = some xs from rfl)
    obtain ⟨b, us, e2, q2, r2⟩ := asT_rep ru (show asT (.tup ys) = some ys from rfl)
    refine .inr (.inr (.inl ⟨a, b, vs, us, e1, e2, q1, q2, by rw [reps_len r1, reps_len r2]; exact lenOk_le hl, fun z => ?_, fun _ z => ?_, fun _ _ => p.mkT S (reps_app r1 r2)⟩))
    · have zx : xs = [] := by have := reps_len r1; rw [z] at this; exact List.length_eq_zero_iff.mp this.symm
      rw [zx, List.nil_append] at p
      rw [e2] at ru
      exact p.here S ru
    · have zx : ys = [] := by have := reps_len r2; rw [z] at this; exact List.length_eq_zero_iff.mp this.symm
      rw [zx, List.append_nil] at p
      rw [e1] at rv
      exact p.here S rv
  · obtain ⟨xs, h1, p⟩ := p.okO
    obtain ⟨ys, h2, p⟩ := p.okO
    obtain ⟨hl, p⟩ := p.okB
    obtain ⟨a, vs, e1, q1, r1⟩ := asL_rep S rv h1
    obtain ⟨b, us, e2, q2, r2⟩ := asL_rep S ru h2
    exact .inr (.inr (.inr ⟨a, b, vs, us, e1, e2, q1, q2, by rw [reps_len r1, reps_len r2]; exact lenOk_le hl, p.mkL S (reps_app r1 r2)⟩))
theorem fadd {X : Cx} {E : XW} {a b : Expr} {Fa Fb : FV} {pos : Pos} (c : Bool) (ha : FE X E a Fa) (hb : FE X E b Fb) : FE X E (.BinOp a .Add b pos) (e2 (oAdd c) Fa Fb) := fop op_addAll ok_add ha hb
section
variable {X : Cx}
def rRepR (K : PySem.W.Frag) : R2 := fun x y H Q => ∃ l k xs, x = .ref l ∧ y = .int k ∧ RdL K H l xs ∧ -(2 ^ 63) ≤ k ∧ k < 2 ^ 63 ∧ xs.length * k.toNat ≤ sizeLine ∧
  ∀ p, H p = none → Q (.ref p) (upd H p (.lst (List.replicate k.toNat xs).flatten))
theorem op_repR : OpR X (binaryOp .Mult) (rRepR X.K) := by
  intro pins s σ H x y v u Q I rx ry h
  obtain ⟨l, k, xs, rfl, rfl, hH, h1, h2, hz, q⟩ := h
  cases rx
  obtain ⟨t, rfl⟩ := ry
  obtain ⟨z, its, n, r, hl, e⟩ := Inv.lstR I hH
  have hlen : its.toArray.size * k.toNat ≤ sizeLine := by rw [List.size_toArray, ← hl]; exact hz
  have hcap : ¬ its.toArray.size * k.toNat > (2 ^ 63 - 1) / 8 := by
    have : (sizeLine : Nat) ≤ (2 ^ 63 - 1) / 8 := by decide
    omega
  have hfit : ¬ (!Builtin.List.listFitsIndex k) = true := by
    rw [fitsIndex_both h1 h2]
    exact Bool.false_ne_true
  have hlong : ¬ Builtin.List.listTooLong (its.toArray.size * k.toNat) = true := by
    rw [notLongL hlen]
    exact Bool.false_ne_true
  have hnew : List.foldl (fun x1 x2 => x1 ++ x2) #[] (List.replicate (if its.toArray.isEmpty = true then 0 else k.toNat) its.toArray) = (List.replicate k.toNat its).flatten.toArray := by
    have f0 : ∀ m : Nat, List.foldl (fun x1 x2 => x1 ++ x2) #[] (List.replicate m its.toArray) = (List.replicate m its).flatten.toArray := fun m => by
      have := foldl_rep its m []
      rw [List.nil_append] at this
      exact this
    rw [f0]
    cases its with
    | nil => simp
    | cons a r' => rw [if_neg (by simp)]
  refine wpAny_binaryOp_repeat_ref (T := "list") (U := "int") (by decide) ⟨_, e, rfl⟩ (fun s' => typeIs_int s' k t) noFill_list_mul F.fills_int_mul F.slot_int_rmul repeat_list F.slot_int_index.lookup
    (call_meets F.slot_int_rmul (typeIs_int s k t) F.entry_int_rmul (F.args_int_rmul_2 _ _) (int___rmul___int_list k t l its.toArray n)
      ⟨e, rfl, ⟨_, e, rfl⟩, call_meets F.slot_list_mul ⟨_, e, rfl⟩ F.entry_list_mul (F.args_list_mul_2 _ _) (AutoListH.list___mul___list_int_3 l its.toArray n k t hfit hcap hlong) ⟨e, ?_⟩⟩)
  rw [hnew]
  exact ⟨.ref _, _, I.lnew (t' := s.toks) (r.rep k.toNat) (by rw [PyProof.Rows.lm_len_rep_flat, Nat.mul_comm]; exact hz), rfl, q _ I.fresh⟩
def rMulAll (K : PySem.W.Frag) : R2 := fun x y H Q => rI CMul (fun i j => .int (i * j)) x y H Q ∨ rRepR K x y H Q
theorem op_mulAll : OpR X (binaryOp .Mult) (rMulAll X.K) := op_mul.or op_repR
end
/-- ints (one of them below 2 ^ 64), a list times an int -/
def oMul (c : Bool) : O2 := fun x y ah => match x, y with
  | .int i, .int j => okB (c64 i || c64 j) (.ok (.int (i * j), ah))
  | x, .int k => okO (asL ah x) fun xs => okB (decide (-(2 ^ 63) ≤ k) && decide (k < 2 ^ 63) && lenOk (xs.length * k.toNat)) (mkL c (List.replicate k.toNat xs).flatten ah)
  | _, _ => .stk
theorem ok_mul {K : PySem.W.Frag} {mg : Str → Option Value} {E : XW} {c : Bool} : OK2 K mg E (rMulAll K) (oMul c) := fun ι H ah d v e u Q S rv ru p => by
  unfold oMul at p
  split at p
  · obtain ⟨hl, p⟩ := p.okB
    refine .inl ⟨_, _, rep_int rv, rep_int ru, ?_, p.here S of_int⟩
    simpa [CMul, c64] using hl
  · obtain ⟨xs, h1, p⟩ := p.okO
    obtain ⟨hl, p⟩ := p.okB
    obtain ⟨a, vs, e1, q1, r1⟩ := asL_rep S rv h1
    simp only [Bool.and_eq_true, decide_eq_true_eq] at hl
    exact .inr ⟨a, _, vs, e1, rep_int ru, q1, hl.1.1, hl.1.2, by rw [reps_len r1]; exact lenOk_le hl.2, p.mkL S (reps_rep _ r1)⟩
  · exact p.elim
theorem fmul {X : Cx} {E : XW} {a b : Expr} {Fa Fb : FV} {pos : Pos} (c : Bool) (ha : FE X E a Fa) (hb : FE X E b Fb) : FE X E (.BinOp a .Mult b pos) (e2 (oMul c) Fa Fb) := fop op_mulAll ok_mul ha hb

/-! ### built-ins by their names -/
def bLen : OL := fun ds ah => match ds with
  | [.str z] => okB (lenOk z.length) (.ok (.int z.length, ah))
  | [x] => okO (asS ah x) fun xs => .ok (.int xs.length, ah)
  | _ => .stk
def bMax : OL := fun ds ah => match ds with
  | [.int i, .int j] => .ok (.int (if j > i then j else i), ah)
  | _ => .stk
def bMin : OL := fun ds ah => match ds with
  | [.int i, .int j] => .ok (.int (if j < i then j else i), ah)
  | _ => .stk
def bList (c : Bool) : OL := fun ds ah => match ds with
  | [x] => okO (asS ah x) fun xs => mkL c xs ah
  | _ => .stk
def bTuple : OL := fun ds ah => match ds with
  | [.tup xs] => .ok (.tup xs, ah)
  | [x] => okO (asL ah x) fun xs => mkT xs ah
  | _ => .stk
def bSum : OL := fun ds ah => match ds with
  | [x] => okO (asL ah x) fun xs => okO (mapO asI xs) fun ns => .ok (.int ns.sum, ah)
  | _ => .stk
def bAny : OL := fun ds ah => match ds with
  | [x] => okO (asL ah x) fun xs => okO (mapO asB xs) fun bs => .ok (.bl (bs.any id), ah)
  | _ => .stk
def bAll : OL := fun ds ah => match ds with
  | [x] => okO (asL ah x) fun xs => okO (mapO asB xs) fun bs => .ok (.bl (bs.all id), ah)
  | _ => .stk
section
variable {K : PySem.W.Frag} {mg : Str → Option Value} {E : XW} {ι ι' : Io} {H H' : Hp} {ah : AH} {d : D} {ds : List D} {v : V} {vs : List V}
theorem reps_one (r : Reps K mg ι H [d] vs) : ∃ v, vs = [v] ∧ Rep K mg ι H d v := by
  obtain ⟨v, s, rfl, p, q⟩ := reps_cons r
  rw [reps_nil q]
  exact ⟨v, rfl, p⟩
theorem reps_two {e : D} (r : Reps K mg ι H [d, e] vs) : ∃ v u, vs = [v, u] ∧ Rep K mg ι H d v ∧ Rep K mg ι H e u := by
  obtain ⟨v, s, rfl, p, q⟩ := reps_cons r
  obtain ⟨u, rfl, q2⟩ := reps_one q
  exact ⟨v, u, rfl, p, q2⟩
theorem reps_ints : ∀ {ds : List D} {vs : List V} {ns : List Int}, Reps K mg ι H ds vs → mapO asI ds = some ns → vs = ns.map V.int
  | [], _, _, r, e => by cases e; exact reps_nil r
  | d :: ds, _, _, r, e => by
    obtain ⟨v, s, rfl, p, q⟩ := reps_cons r
    unfold mapO at e
    split at e
    · rename_i b t h1 h2
      cases e
      rw [asI_eq h1] at p
      rw [rep_int p, reps_ints q h2]; rfl
    · cases e
theorem reps_bls : ∀ {ds : List D} {vs : List V} {ns : List Bool}, Reps K mg ι H ds vs → mapO asB ds = some ns → vs = ns.map V.bl
  | [], _, _, r, e => by cases e; exact reps_nil r
  | d :: ds, _, _, r, e => by
    obtain ⟨v, s, rfl, p, q⟩ := reps_cons r
    unfold mapO at e
    split at e
    · rename_i b t h1 h2
      cases e
      rw [asB_eq h1] at p
      rw [rep_bl p, reps_bls q h2]; rfl
    · cases e
def rLenAll (K : PySem.W.Frag) : List V → Hp → VK → Prop := fun xs H Q => (∃ p ys, xs = [.ref p] ∧ (SqL K H p ys ∨ SqT K H p ys) ∧ Q (.int ys.length) H) ∨ (∃ z, xs = [.str z] ∧ z.length ≤ sizeLine ∧ Q (.int z.length) H)
theorem ok_len : OKL K mg E (rLenAll K) bLen := fun ι H ah ds vs Q S r p => by
  unfold bLen at p
  split at p
  · obtain ⟨hl, p⟩ := p.okB
    obtain ⟨v, rfl, q⟩ := reps_one r
    exact .inr ⟨_, by rw [rep_str q], lenOk_le hl, p.here S of_int⟩
  · obtain ⟨xs, hx, p⟩ := p.okO
    obtain ⟨v, rfl, q⟩ := reps_one r
    obtain ⟨a, vs, e, hq, rs⟩ := asS_rep S q hx
    exact .inl ⟨a, vs, by rw [e], hq, by rw [reps_len rs]; exact p.here S of_int⟩
  · exact p.elim
theorem ok_max : OKL K mg E (fun xs H Q => ∃ i j, xs = [.int i, .int j] ∧ Q (.int (if j > i then j else i)) H) bMax := fun ι H ah ds vs Q S r p => by
  unfold bMax at p
  split at p
  · obtain ⟨v, u, rfl, q1, q2⟩ := reps_two r
    exact ⟨_, _, by rw [rep_int q1, rep_int q2], p.here S of_int⟩
  · exact p.elim
theorem ok_min : OKL K mg E (fun xs H Q => ∃ i j, xs = [.int i, .int j] ∧ Q (.int (if j < i then j else i)) H) bMin := fun ι H ah ds vs Q S r p => by
  unfold bMin at p
  split at p
  · obtain ⟨v, u, rfl, q1, q2⟩ := reps_two r
    exact ⟨_, _, by rw [rep_int q1, rep_int q2], p.here S of_int⟩
  · exact p.elim
theorem ok_list {c : Bool} : OKL K mg E (fun xs H Q => ∃ p ys, xs = [.ref p] ∧ (SqL K H p ys ∨ SqT K H p ys) ∧ ∀ l, H l = none → Q (.ref l) (upd H l (.lst ys))) (bList c) := fun ι H ah ds vs Q S r p => by
  unfold bList at p
  split at p
  · obtain ⟨xs, hx, p⟩ := p.okO
    obtain ⟨v, rfl, q⟩ := reps_one r
    obtain ⟨a, vs, e, hq, rs⟩ := asS_rep S q hx
    exact ⟨a, vs, by rw [e], hq, p.mkL S rs⟩
  · exact p.elim
theorem ok_tuple : OKL K mg E (fun xs H Q => ∃ p ys, xs = [.ref p] ∧ ((SqL K H p ys ∧ ∀ l, H l = none → Q (.ref l) (upd H l (.tup ys))) ∨ (SqT K H p ys ∧ Q (.ref p) H))) bTuple := fun ι H ah ds vs Q S r p => by
  unfold bTuple at p
  split at p
  · rename_i xs
    obtain ⟨v, rfl, q⟩ := reps_one r
    obtain ⟨a, vs, e, hq, rs⟩ := asT_rep q (show asT (.tup xs) = some xs from rfl)
    refine ⟨a, vs, by rw [e], .inr ⟨hq, ?_⟩⟩
    rw [e] at q
    exact p.here S q
  · obtain ⟨xs, hx, p⟩ := p.okO
    obtain ⟨v, rfl, q⟩ := reps_one r
    obtain ⟨a, vs, e, hq, rs⟩ := asL_rep S q hx
    exact ⟨a, vs, by rw [e], .inl ⟨hq.sq, p.mkT S rs⟩⟩
  · exact p.elim
theorem ok_sum : OKL K mg E (rSum K) bSum := fun ι H ah ds vs Q S r p => by
  unfold bSum at p
  split at p
  · obtain ⟨xs, hx, p⟩ := p.okO
    obtain ⟨ns, hn, p⟩ := p.okO
    obtain ⟨v, rfl, q⟩ := reps_one r
    obtain ⟨a, vs, e, hq, rs⟩ := asL_rep S q hx
    exact ⟨a, ns, by rw [e], by rw [← reps_ints rs hn]; exact hq.sq, p.here S of_int⟩
  · exact p.elim
theorem ok_any : OKL K mg E (rAny K) bAny := fun ι H ah ds vs Q S r p => by
  unfold bAny at p
  split at p
  · obtain ⟨xs, hx, p⟩ := p.okO
    obtain ⟨ns, hn, p⟩ := p.okO
    obtain ⟨v, rfl, q⟩ := reps_one r
    obtain ⟨a, vs, e, hq, rs⟩ := asL_rep S q hx
    exact ⟨a, ns, by rw [e], by rw [← reps_bls rs hn]; exact hq.sq, p.here S of_bl⟩
  · exact p.elim
theorem ok_all : OKL K mg E (rAll K) bAll := fun ι H ah ds vs Q S r p => by
  unfold bAll at p
  split at p
  · obtain ⟨xs, hx, p⟩ := p.okO
    obtain ⟨ns, hn, p⟩ := p.okO
    obtain ⟨v, rfl, q⟩ := reps_one r
    obtain ⟨a, vs, e, hq, rs⟩ := asL_rep S q hx
    exact ⟨a, ns, by rw [e], by rw [← reps_bls rs hn]; exact hq.sq, p.here S of_bl⟩
  · exact p.elim
end
section
variable {X : Cx} {E : XW} {a b : Expr} {as : List Expr} {Fa Fb : FV} {Fr : FL} {pos p : Pos}
theorem flen (hm : X.mg "len" = none) (ha : FA X E (a :: as) Fr) (hg : Gl X "len" := by rfl) (hp : Pl X a as pos := by exact ⟨rfl, rfl⟩) : FE X E (.Call (.Name "len" p) (a :: as) [] pos) (eL bLen Fr) := fcb (call_len_seq.or call_len_str) ok_len hm PySem.boot_len ha hg hp
theorem fmax2 (hm : X.mg "max" = none) (ha : FA X E (a :: as) Fr) (hc : X.calm = true := by rfl) (hg : Gl X "max" := by rfl) (hp : Pl X a as pos := by exact ⟨rfl, rfl⟩) : FE X E (.Call (.Name "max" p) (a :: as) [] pos) (eL bMax Fr) := fcb (call_max2 hc) ok_max hm (by decide +kernel) ha hg hp
theorem fmin2 (hm : X.mg "min" = none) (ha : FA X E (a :: as) Fr) (hc : X.calm = true := by rfl) (hg : Gl X "min" := by rfl) (hp : Pl X a as pos := by exact ⟨rfl, rfl⟩) : FE X E (.Call (.Name "min" p) (a :: as) [] pos) (eL bMin Fr) := fcb (call_min2 hc) ok_min hm (by decide +kernel) ha hg hp
theorem flist (c : Bool) (hm : X.mg "list" = none) (ha : FA X E (a :: as) Fr) (hg : Gl X "list" := by rfl) (hp : Pl X a as pos := by exact ⟨rfl, rfl⟩) : FE X E (.Call (.Name "list" p) (a :: as) [] pos) (eL (bList c) Fr) := fct call_list_of ok_list hm (by decide +kernel) ha hg hp
theorem ftuple (hm : X.mg "tuple" = none) (ha : FA X E (a :: as) Fr) (hg : Gl X "tuple" := by rfl) (hp : Pl X a as pos := by exact ⟨rfl, rfl⟩) : FE X E (.Call (.Name "tuple" p) (a :: as) [] pos) (eL bTuple Fr) := fct call_tuple_of ok_tuple hm (by decide +kernel) ha hg hp
theorem fsum (hm : X.mg "sum" = none) (ha : FA X E (a :: as) Fr) (hc : X.calm = true := by rfl) (hg : Gl X "sum" := by rfl) (hp : Pl X a as pos := by exact ⟨rfl, rfl⟩) : FE X E (.Call (.Name "sum" p) (a :: as) [] pos) (eL bSum Fr) := fcb (cr_sum hc) ok_sum hm (by decide +kernel) ha hg hp
theorem fany (hm : X.mg "any" = none) (ha : FA X E (a :: as) Fr) (hc : X.calm = true := by rfl) (hg : Gl X "any" := by rfl) (hp : Pl X a as pos := by exact ⟨rfl, rfl⟩) : FE X E (.Call (.Name "any" p) (a :: as) [] pos) (eL bAny Fr) := fcb (cr_any hc) ok_any hm (by decide +kernel) ha hg hp
theorem fall (hm : X.mg "all" = none) (ha : FA X E (a :: as) Fr) (hc : X.calm = true := by rfl) (hg : Gl X "all" := by rfl) (hp : Pl X a as pos := by exact ⟨rfl, rfl⟩) : FE X E (.Call (.Name "all" p) (a :: as) [] pos) (eL bAll Fr) := fcb (cr_all hc) ok_all hm (by decide +kernel) ha hg hp
end
end Fx

/-! ===== Fx3 -/
set_option Elab.async false
set_option linter.all false
set_option maxRecDepth 100000
set_option maxHeartbeats 4000000
namespace Fx
open PySem PySem.Spec PyProof.Rows L2

/-! ### data, for == and in -/
def pd (ah : AH) : Nat → D → Option PyData
  | _, .non => some .none
  | _, .bl b => some (.bool b)
  | _, .int i => some (.int i)
  | _, .str x => match PyData.strOk x with
    | true => some (.str x)
    | false => none
  | n + 1, .tup xs => (mapO (pd ah n) xs).map .tuple
  | n + 1, .lst xs => (mapO (pd ah n) xs).map .list
  | n + 1, .ref k => match ah[k]? with
    | some (.lst xs) => (mapO (pd ah n) xs).map .list
    | _ => none
  | _, _ => none
section
variable {K : PySem.W.Frag} {mg : Str → Option Value} {E : XW} {ι ι' : Io} {H H' : Hp} {ah : AH} {d : D} {ds : List D} {v : V} {vs : List V}
theorem mapO_pd {n : Nat} (h : ∀ (d : D) (v : V) (p : PyData), Rep K mg ι H d v → pd ah n d = some p → Dp K H v p ∧ p.canLay0 = true ∧ p.depth ≤ n) :
    ∀ {ds : List D} {vs : List V} {ps : List PyData}, Reps K mg ι H ds vs → mapO (pd ah n) ds = some ps → DpAll K H vs ps ∧ PyData.canLayAll0 ps = true ∧ PyData.depthAll ps ≤ n
  | [], _, _, r, e => by cases e; rw [reps_nil r]; exact ⟨.nil, by simp [PyData.canLayAll0], by simp [PyData.depthAll]⟩
  | d :: ds, _, _, r, e => by
    obtain ⟨v, s, rfl, p, q⟩ := reps_cons r
    unfold mapO at e
    split at e
    · rename_i b t h1 h2
      cases e
      obtain ⟨a1, a2, a3⟩ := h d v b p h1
      obtain ⟨b1, b2, b3⟩ := mapO_pd h q h2
      exact ⟨.cons a1 b1, by simp [PyData.canLayAll0, a2, b2], by simp only [PyData.depthAll]; omega⟩
    · cases e
theorem pd_rep (S : SimH K mg ι H ah) : ∀ (n : Nat) (d : D) (v : V) (p : PyData), Rep K mg ι H d v → pd ah n d = some p → Dp K H v p ∧ p.canLay0 = true ∧ p.depth ≤ n
  | n, .non, v, p, r, e => by
    cases n <;> (cases e; rw [rep_non r]; exact ⟨.non, by simp [PyData.canLay0], by simp [PyData.depth]⟩)
  | n, .bl b, v, p, r, e => by
    cases n <;> (cases e; rw [rep_bl r]; exact ⟨.bl b, by simp [PyData.canLay0], by simp [PyData.depth]⟩)
  | n, .int i, v, p, r, e => by
    cases n <;> (cases e; rw [rep_int r]; exact ⟨.int i, by simp [PyData.canLay0], by simp [PyData.depth]⟩)
  | n, .str x, v, p, r, e => by
    have e' : (match PyData.strOk x with | true => some (PyData.str x) | false => none) = some p := by cases n <;> exact e
    split at e'
    · rename_i h
      cases e'
      rw [rep_str r]
      exact ⟨.str x, by simp [PyData.canLay0, h], by simp [PyData.depth]⟩
    · cases e'
  | 0, .tup xs, v, p, r, e => by cases e
  | 0, .lst xs, v, p, r, e => by cases e
  | 0, .ref xs, v, p, r, e => by cases e
  | n + 1, .tup xs, v, p, r, e => by
    unfold pd at e
    obtain ⟨ps, h1, h2⟩ := Option.map_eq_some_iff.mp e
    subst h2
    obtain ⟨a, vs, e1, e2, e3⟩ := asT_rep r (show asT (.tup xs) = some xs from rfl)
    obtain ⟨b1, b2, b3⟩ := mapO_pd (pd_rep S n) e3 h1
    rw [e1]
    exact ⟨.tup e2 b1, by simp [PyData.canLay0, b2], by simp only [PyData.depth]; omega⟩
  | n + 1, .lst xs, v, p, r, e => by
    unfold pd at e
    obtain ⟨ps, h1, h2⟩ := Option.map_eq_some_iff.mp e
    subst h2
    obtain ⟨a, vs, e1, e2, e3⟩ := asL_rep S r (show asL ah (.lst xs) = some xs from rfl)
    obtain ⟨b1, b2, b3⟩ := mapO_pd (pd_rep S n) e3 h1
    rw [e1]
    exact ⟨.lst e2.sq b1, by simp [PyData.canLay0, b2], by simp only [PyData.depth]; omega⟩
  | n + 1, .ref k, v, p, r, e => by
    unfold pd at e
    split at e
    · rename_i xs hx
      obtain ⟨ps, h1, h2⟩ := Option.map_eq_some_iff.mp e
      subst h2
      obtain ⟨a, vs, e1, e2, e3⟩ := asL_rep S r (show asL ah (.ref k) = some xs by unfold asL; simp only [hx])
      obtain ⟨b1, b2, b3⟩ := mapO_pd (pd_rep S n) e3 h1
      rw [e1]
      exact ⟨.lst e2.sq b1, by simp [PyData.canLay0, b2], by simp only [PyData.depth]; omega⟩
    · cases e
  | 0, .dic _ _, v, p, r, e => by cases e
  | n + 1, .dic _ _, v, p, r, e => by cases e
  | 0, .rng _ _, v, p, r, e => by cases e
  | n + 1, .rng _ _, v, p, r, e => by cases e
  | 0, .fn _, v, p, r, e => by cases e
  | n + 1, .fn _, v, p, r, e => by cases e
theorem pd_shaped (S : SimH K mg ι H ah) {p : PyData} (r : Rep K mg ι H d v) (e : pd ah 64 d = some p) : Dp K H v p ∧ SeqAt.shaped p = true := by
  obtain ⟨a, b, c⟩ := pd_rep S 64 d v p r e
  refine ⟨a, ?_⟩
  unfold SeqAt.shaped
  rw [b, Bool.true_and]
  exact decide_eq_true c
end
/-- ==, != -/
def oEqD (neg : Bool) : O2 := fun x y ah => okO (pd ah 64 x) fun p => okO (pd ah 64 y) fun q => .ok (.bl (if neg then !PyData.eqv p q else PyData.eqv p q), ah)
/-- texts of any signs; else data -/
def oEq (neg : Bool) : O2 := fun x y ah => match x, y with
  | .str a, .str b => .ok (.bl (if neg then !decide (a = b) else decide (a = b)), ah)
  | x, y => oEqD neg x y ah
def rEqAll (K : PySem.W.Frag) : R2 := fun x y H Q => rEqD K x y H Q ∨ rEq x y H Q
def rNeAll (K : PySem.W.Frag) : R2 := fun x y H Q => rNeD K x y H Q ∨ rNe x y H Q
theorem op_eqAll {X : Cx} (hu : X.A.units + 64 < cLine) : OpR X (compareOp .Eq) (rEqAll X.K) := (op_eqD hu).or op_eq
theorem op_neAll {X : Cx} (hu : X.A.units + 64 < cLine) : OpR X (compareOp .NotEq) (rNeAll X.K) := (op_neD hu).or op_ne
section
variable {K : PySem.W.Frag} {mg : Str → Option Value} {E : XW}
theorem ok_eqD : OK2 K mg E (rEqD K) (oEqD false) := fun ι H ah d v c u Q S rv ru p => by
  obtain ⟨x, hx, p⟩ := p.okO
  obtain ⟨y, hy, p⟩ := p.okO
  obtain ⟨a1, a2⟩ := pd_shaped S rv hx
  obtain ⟨b1, b2⟩ := pd_shaped S ru hy
  exact ⟨x, y, a1, b1, a2, b2, p.here S of_bl⟩
theorem ok_neD : OK2 K mg E (rNeD K) (oEqD true) := fun ι H ah d v c u Q S rv ru p => by
  obtain ⟨x, hx, p⟩ := p.okO
  obtain ⟨y, hy, p⟩ := p.okO
  obtain ⟨a1, a2⟩ := pd_shaped S rv hx
  obtain ⟨b1, b2⟩ := pd_shaped S ru hy
  exact ⟨x, y, a1, b1, a2, b2, p.here S of_bl⟩
theorem ok_eq : OK2 K mg E (rEqAll K) (oEq false) := fun ι H ah d v c u Q S rv ru p => by
  unfold oEq at p
  split at p
  · rename_i a b
    have ev := rep_str rv
    have eu := rep_str ru
    subst ev eu
    refine .inr ⟨rfl, ?_⟩
    have e : decide (V.str a = V.str b) = decide (a = b) := by
      rw [Bool.eq_iff_iff, decide_eq_true_eq, decide_eq_true_eq]
      exact ⟨fun h => by injection h, fun h => by rw [h]⟩
    rw [e]
    exact p.here S of_bl
  · exact .inl (ok_eqD ι H ah d v c u Q S rv ru p)
theorem ok_ne : OK2 K mg E (rNeAll K) (oEq true) := fun ι H ah d v c u Q S rv ru p => by
  unfold oEq at p
  split at p
  · rename_i a b
    have ev := rep_str rv
    have eu := rep_str ru
    subst ev eu
    refine .inr ⟨rfl, ?_⟩
    have e : decide (V.str a = V.str b) = decide (a = b) := by
      rw [Bool.eq_iff_iff, decide_eq_true_eq, decide_eq_true_eq]
      exact ⟨fun h => by injection h, fun h => by rw [h]⟩
    rw [e]
    exact p.here S of_bl
  · exact .inl (ok_neD ι H ah d v c u Q S rv ru p)
end
section
variable {X : Cx} {E : XW} {a b c d : Expr} {Fa Fb Fc Fd : FV} {pos : Pos}
theorem feq (hu : X.A.units + 64 < cLine) (ha : FE X E a Fa) (hb : FE X E b Fb) : FE X E (.Compare a [.Eq] [b] pos) (e2 (oEq false) Fa Fb) := fcmp (op_eqAll hu) ok_eq ha hb (nomark _)
theorem fne (hu : X.A.units + 64 < cLine) (ha : FE X E a Fa) (hb : FE X E b Fb) : FE X E (.Compare a [.NotEq] [b] pos) (e2 (oEq true) Fa Fb) := fcmp (op_neAll hu) ok_ne ha hb (nomark _)
end
/-- is None, is not None -/
def oIsN (neg : Bool) : O2 := fun x y ah => match x, y with
  | .non, .non => .ok (.bl (!neg), ah)
  | _, .non => .ok (.bl neg, ah)
  | _, _ => .stk
theorem rep_nn {K : PySem.W.Frag} {mg : Str → Option Value} {ι : Io} {H : Hp} {d : D} {v : V} (h : d ≠ .non) (r : Rep K mg ι H d v) : v ≠ .non := by
  intro e
  subst e
  cases d with
  | non => exact h rfl
  | bl b => cases rep_bl r
  | int i => cases rep_int r
  | str x => cases rep_str r
  | tup xs => unfold Rep at r; obtain ⟨_, _, e, _⟩ := r; cases e
  | lst xs => unfold Rep at r; obtain ⟨_, _, e, _⟩ := r; cases e
  | dic t kvs => unfold Rep at r; obtain ⟨_, _, _, e, _⟩ := r; cases e
  | rng lo hi => unfold Rep at r; obtain ⟨_, e, _⟩ := r; cases e
  | ref n => unfold Rep at r; obtain ⟨_, e, _⟩ := r; cases e
  | fn x => unfold Rep at r; obtain ⟨_, e, _⟩ := r; cases e
section
variable {X : Cx} {E : XW} {a b c d : Expr} {Fa Fb Fc Fd : FV} {pos : Pos}
theorem ok_isN {K : PySem.W.Frag} {mg : Str → Option Value} : OK2 K mg E (fun x y H Q => y = .non ∧ Q (.bl (decide (x = .non))) H) (oIsN false) := fun ι H ah d v c u Q S rv ru p => by
  unfold oIsN at p
  split at p
  · exact ⟨rep_non ru, by rw [rep_non rv]; exact p.here S of_bl⟩
  · rename_i h
    have nn : d ≠ .non := fun z => h z
    exact ⟨rep_non ru, by rw [decide_eq_false (rep_nn nn rv)]; exact p.here S of_bl⟩
  · exact p.elim
theorem ok_notN {K : PySem.W.Frag} {mg : Str → Option Value} : OK2 K mg E (fun x y H Q => y = .non ∧ Q (.bl (!decide (x = .non))) H) (oIsN true) := fun ι H ah d v c u Q S rv ru p => by
  unfold oIsN at p
  split at p
  · exact ⟨rep_non ru, by rw [rep_non rv]; exact p.here S of_bl⟩
  · rename_i h
    have nn : d ≠ .non := fun z => h z
    exact ⟨rep_non ru, by rw [decide_eq_false (rep_nn nn rv)]; exact p.here S of_bl⟩
  · exact p.elim
theorem fisN (ha : FE X E a Fa) (hb : FE X E b Fb) : FE X E (.Compare a [.Is] [b] pos) (e2 (oIsN false) Fa Fb) := fcmp op_isN ok_isN ha hb (nomark _)
theorem fnotN (ha : FE X E a Fa) (hb : FE X E b Fb) : FE X E (.Compare a [.IsNot] [b] pos) (e2 (oIsN true) Fa Fb) := fcmp op_notN ok_notN ha hb (nomark _)
end

/-! ### dicts that are read -/
def keyF : D → Option Key
  | .int i => some (.inl i)
  | .str x => some (.inr x)
  | _ => none
def keyOf : D → Option DKey
  | .int i => some (.i i)
  | .str x => some (.s x)
  | .tup ds => (mapO keyF ds).map .t
  | _ => none
def dLook : List (DKey × D) → DKey → Option D
  | [], _ => none
  | (k, d) :: r, x => if k = x then some d else dLook r x
def asD (ah : AH) : D → Option (Bool × List (DKey × D))
  | .dic t kvs => some (t, kvs)
  | .ref n => match ah[n]? with
    | some (.dic t kvs) => some (t, kvs)
    | _ => none
  | _ => none
def keyFits (t : Bool) : DKey → Bool
  | .t _ => t
  | _ => !t
section
variable {K : PySem.W.Frag} {mg : Str → Option Value} {E : XW} {ι ι' : Io} {H H' : Hp} {ah : AH} {d : D} {ds : List D} {v : V} {vs : List V}
theorem asD_rep (S : SimH K mg ι H ah) {t : Bool} {kvs : List (DKey × D)} (r : Rep K mg ι H d v) (h : asD ah d = some (t, kvs)) : ∃ a ws o, v = .ref a ∧ dicO t (kvs.map (·.1)) ws o ∧ Rd H a o ∧ RepV K mg ι H kvs ws := by
  cases d with
  | dic t' kvs' =>
    cases h
    unfold Rep at r
    obtain ⟨a, ws, o, e, _, x, y, z⟩ := r
    exact ⟨a, ws, o, e, x, y, z⟩
  | ref n =>
    obtain ⟨a, e, g⟩ := rep_ref r
    unfold asD at h
    simp only at h
    split at h
    · rename_i t' kvs' hx
      cases h
      obtain ⟨ws, o, e1, e2, e3⟩ := S.cell n _ a hx g
      exact ⟨a, ws, o, e, e2, .inl e1, e3⟩
    · cases h
  | _ => cases h
theorem repV_nil (h : RepV K mg ι H [] vs) : vs = [] := by unfold RepV at h; exact h
theorem repV_cons {k : DKey} {d : D} {kvs : List (DKey × D)} (h : RepV K mg ι H ((k, d) :: kvs) vs) : ∃ v r, vs = v :: r ∧ Rep K mg ι H d v ∧ RepV K mg ι H kvs r := by unfold RepV at h; exact h
theorem of_vnil : RepV K mg ι H [] [] := by unfold RepV; rfl
theorem of_vcons {k : DKey} {kvs : List (DKey × D)} (h : Rep K mg ι H d v) (r : RepV K mg ι H kvs vs) : RepV K mg ι H ((k, d) :: kvs) (v :: vs) := by unfold RepV; exact ⟨v, vs, rfl, h, r⟩
theorem repV_len : ∀ {kvs : List (DKey × D)} {vs : List V}, RepV K mg ι H kvs vs → vs.length = kvs.length
  | [], _, h => by rw [repV_nil h]; rfl
  | (_, _) :: _, _, h => by
    obtain ⟨v, r, rfl, _, q⟩ := repV_cons h
    simp [repV_len q]
/-- what a look-up gives -/
def RelL (K : PySem.W.Frag) (mg : Str → Option Value) (ι : Io) (H : Hp) (o : Option D) (o' : Option V) : Prop := match o, o' with
  | some d, some v => Rep K mg ι H d v
  | none, none => True
  | _, _ => False
theorem look_zip {κ : Type} [DecidableEq κ] {tk : DKey → Option κ} (inj : ∀ a b k, tk a = some k → tk b = some k → a = b) {x : DKey} {k : κ} (hk : tk x = some k) :
    ∀ {kvs : List (DKey × D)} {kk : List κ} {ws : List V}, (kvs.map (·.1)).map tk = kk.map some → RepV K mg ι H kvs ws → RelL K mg ι H (dLook kvs x) (valV (kk.zip ws) k)
  | [], kk, ws, e, r => by
    rw [repV_nil r, List.zip_nil_right]
    unfold dLook RelL valV
    simp
  | (y, d) :: kvs, kk, ws, e, r => by
    obtain ⟨v, s, rfl, p, q⟩ := repV_cons r
    cases kk with
    | nil => simp at e
    | cons k' kk =>
      simp only [List.map_cons, List.cons.injEq] at e
      have ih := look_zip inj hk (kvs := kvs) e.2 q
      rw [List.zip_cons_cons]
      unfold dLook
      by_cases h : y = x
      · subst h
        rw [if_pos rfl, valV_pos (by show k' = k; rw [e.1] at hk; exact Option.some.inj hk)]
        exact p
      · rw [if_neg h, valV_neg (by show ¬ k' = k; rintro rfl; exact h (inj _ _ _ e.1 hk))]
        exact ih
theorem toK_inj : ∀ (a b : DKey) (k : Key), toK a = some k → toK b = some k → a = b := fun a b k ha hb => by
  cases a <;> cases b <;> simp [toK] at ha hb <;> (subst ha; simp_all)
theorem toT_inj : ∀ (a b : DKey) (k : List Key), toT a = some k → toT b = some k → a = b := fun a b k ha hb => by
  cases a <;> cases b <;> simp [toT] at ha hb <;> (subst ha; simp_all)
theorem keyF_rep {k : Key} (r : Rep K mg ι H d v) (h : keyF d = some k) : v = kV k := by
  cases d with
  | int i => rw [rep_int r]; cases h; rfl
  | str x => rw [rep_str r]; cases h; rfl
  | _ => cases h
theorem keyFs_rep : ∀ {ds : List D} {vs : List V} {ks : List Key}, Reps K mg ι H ds vs → mapO keyF ds = some ks → vs = ks.map kV
  | [], _, _, r, e => by cases e; exact reps_nil r
  | d :: ds, _, _, r, e => by
    obtain ⟨v, s, rfl, p, q⟩ := reps_cons r
    unfold mapO at e
    split at e
    · rename_i b t h1 h2
      cases e
      rw [keyF_rep p h1, keyFs_rep q h2]; rfl
    · cases e
/-- the key tuple is tracked -/
def tupTr : D → Prop := fun _ => True
theorem key_rep {x : DKey} (r : Rep K mg ι H d v) (h : keyOf d = some x) : (∃ k, toK x = some k ∧ v = kV k) ∨ (∃ ks b, toT x = some ks ∧ v = .ref b ∧ SqT K H b (ks.map kV)) := by
  cases d with
  | int i => cases h; rw [rep_int r]; exact .inl ⟨_, rfl, rfl⟩
  | str z => cases h; rw [rep_str r]; exact .inl ⟨_, rfl, rfl⟩
  | tup ds =>
    unfold keyOf at h
    obtain ⟨ks, h1, h2⟩ := Option.map_eq_some_iff.mp h
    subst h2
    obtain ⟨a, vs, e1, e2, e3⟩ := asT_rep r (show asT (.tup ds) = some ds from rfl)
    exact .inr ⟨ks, a, rfl, e1, by rw [← keyFs_rep e3 h1]; exact e2⟩
  | _ => cases h
/-- a look-up by a flat key -/
theorem dget_rep (S : SimH K mg ι H ah) {kvs : List (DKey × D)} {c : D} {u : V} {x : DKey} {k : Key} (r : Rep K mg ι H d v) (h : asD ah d = some (false, kvs)) (rc : Rep K mg ι H c u) (hx : keyOf c = some x) (hk : toK x = some k) :
    ∃ a o, v = .ref a ∧ DGet H a u o ∧ RelL K mg ι H (dLook kvs x) o ∧ IsD H a := by
  obtain ⟨a, ws, o, e1, ⟨kk, e2, e3⟩, e4, e5⟩ := asD_rep S r h
  subst e3
  refine ⟨a, valV (kk.zip ws) k, e1, .inl ⟨kk.zip ws, k, e4, ?_, rfl⟩, look_zip toK_inj hk e2 e5, .inl ⟨_, e4⟩⟩
  rcases key_rep rc hx with ⟨k', a1, a2⟩ | ⟨ks, b, a1, _⟩
  · rw [hk] at a1; cases a1; exact a2
  · cases x <;> first | (cases a1; done) | (cases hk; done)
end

/-! ### in -/
section
variable {X : Cx}
def rInT (K : PySem.W.Frag) (neg : Bool) : R2 := fun x y H Q => ∃ d ds, Dp K H x d ∧ (Dp K H y (.list ds) ∨ Dp K H y (.tuple ds)) ∧ d.canLay0 = true ∧ d.depth ≤ 64 ∧ PyData.canLayAll0 ds = true ∧ Q (.bl (if neg then !(ds.any fun z => PyData.eqv z d) else ds.any fun z => PyData.eqv z d)) H
theorem op_inT (hu : X.A.units + 65 < cLine) : OpR X (compareOp .In) (rInT X.K false) := by
  intro pins s σ H x y v u Q I rx ry h
  obtain ⟨d, ds, hd, he, sd, se, sx, q⟩ := h
  obtain ⟨as, r1⟩ := Dp.reads I d x v hd rx
  have hr : X.A.units + 1 + min (PyData.depthAll ds) d.depth < cLine := by
    have := Nat.min_le_right (PyData.depthAll ds) d.depth; omega
  rcases he with he | he
  · obtain ⟨bs, r2⟩ := Dp.reads I (.list ds) y u he ry
    exact SeqAt.in_list_reads r2 r1 sx sd hr ⟨.bl _, H, I, rfl, q⟩
  · obtain ⟨bs, r2⟩ := Dp.reads I (.tuple ds) y u he ry
    exact SeqAt.in_tuple_reads r2 r1 sx sd hr ⟨.bl _, H, I, rfl, q⟩
theorem op_notInT (hu : X.A.units + 65 < cLine) : OpR X (compareOp .NotIn) (rInT X.K true) := by
  intro pins s σ H x y v u Q I rx ry h
  obtain ⟨d, ds, hd, he, sd, se, sx, q⟩ := h
  obtain ⟨as, r1⟩ := Dp.reads I d x v hd rx
  have hr : X.A.units + 1 + min (PyData.depthAll ds) d.depth < cLine := by
    have := Nat.min_le_right (PyData.depthAll ds) d.depth; omega
  rcases he with he | he
  · obtain ⟨bs, r2⟩ := Dp.reads I (.list ds) y u he ry
    exact SeqAt.notIn_list_reads r2 r1 sx sd hr ⟨.bl _, H, I, rfl, q⟩
  · obtain ⟨bs, r2⟩ := Dp.reads I (.tuple ds) y u he ry
    exact SeqAt.notIn_tuple_reads r2 r1 sx sd hr ⟨.bl _, H, I, rfl, q⟩
def rInDc (neg : Bool) : R2 := fun x y H Q => ∃ a o, y = .ref a ∧ DGet H a x o ∧ Q (.bl (if neg then !o.isSome else o.isSome)) H
theorem op_inDc (hu : X.A.units + 65 < cLine) : OpR X (compareOp .In) (rInDc false) := by
  intro pins s σ H x y v u Q I rx ry h
  obtain ⟨a, o, rfl, g, q⟩ := h
  cases ry
  exact d_in (by omega) I g rx fun s' I' => ⟨.bl _, H, I', rfl, q⟩
theorem op_notInDc (hu : X.A.units + 65 < cLine) : OpR X (compareOp .NotIn) (rInDc true) := by
  intro pins s σ H x y v u Q I rx ry h
  obtain ⟨a, o, rfl, g, q⟩ := h
  cases ry
  exact d_notIn (by omega) I g rx fun s' I' => ⟨.bl _, H, I', rfl, q⟩
def rInS (neg : Bool) : R2 := fun x y H Q => ∃ (c : Nat) (z : Str), x = .str ⟨#[c]⟩ ∧ y = .str z ∧ Q (.bl (if neg then !decide (c ∈ z.cps.toList) else decide (c ∈ z.cps.toList))) H
theorem op_inAll (hu : X.A.units + 65 < cLine) : OpR X (compareOp .In) (fun x y H Q => rInS false x y H Q ∨ (rInDc false x y H Q ∨ rInT X.K false x y H Q)) := OpR.or (op_in_sign (X := X)) (OpR.or (op_inDc hu) (op_inT hu))
theorem op_notInAll (hu : X.A.units + 65 < cLine) : OpR X (compareOp .NotIn) (fun x y H Q => rInS true x y H Q ∨ (rInDc true x y H Q ∨ rInT X.K true x y H Q)) := OpR.or (op_notIn_sign (X := X)) (OpR.or (op_notInDc hu) (op_notInT hu))
end
def ngB (neg b : Bool) : Bool := if neg then !b else b
/-- one sign in a text; a key in a dict; an item in a list, a tuple -/
def oIn (neg : Bool) : O2 := fun x y ah => match y with
  | .str z => match x with
    | .str c => match c.cps.toList with
      | [n] => .ok (.bl (ngB neg (decide (n ∈ z.cps.toList))), ah)
      | _ => .stk
    | _ => .stk
  | y => match asD ah y with
    | some (t, kvs) => okO (keyOf x) fun k => okB (!t && keyFits t k) (.ok (.bl (ngB neg (dLook kvs k).isSome), ah))
    | none => okO (asS ah y) fun ys => okO (pd ah 64 x) fun p => okO (mapO (pd ah 63) ys) fun qs => .ok (.bl (ngB neg (qs.any fun z => PyData.eqv z p)), ah)
theorem RelL.isSome {K : PySem.W.Frag} {mg : Str → Option Value} {ι : Io} {H : Hp} {o : Option D} {o' : Option V} (h : RelL K mg ι H o o') : o'.isSome = o.isSome := by
  cases o <;> cases o' <;> first | rfl | exact h.elim
theorem ok_in {K : PySem.W.Frag} {mg : Str → Option Value} {E : XW} {neg : Bool} : OK2 K mg E (fun x y H Q => rInS neg x y H Q ∨ (rInDc neg x y H Q ∨ rInT K neg x y H Q)) (oIn neg) := fun ι H ah d v c u Q S rv ru p => by
  by_cases h1 : ∃ z, c = .str z
  · obtain ⟨z, rfl⟩ := h1
    unfold oIn at p
    simp only at p
    split at p
    · rename_i w
      split at p
      · rename_i n hn
        have hw : w = ⟨#[n]⟩ := by
          obtain ⟨w⟩ := w
          congr
          exact Array.ext' hn
        subst hw
        exact .inl ⟨n, z, rep_str rv, rep_str ru, p.here S of_bl⟩
      · exact p.elim
    · exact p.elim
  · have e : oIn neg d c ah = (match asD ah c with
      | some (t, kvs) => okO (keyOf d) fun k => okB (!t && keyFits t k) (.ok (.bl (ngB neg (dLook kvs k).isSome), ah))
      | none => okO (asS ah c) fun ys => okO (pd ah 64 d) fun p => okO (mapO (pd ah 63) ys) fun qs => .ok (.bl (ngB neg (qs.any fun z => PyData.eqv z p)), ah)) := by
      cases c <;> first | rfl | exact absurd ⟨_, rfl⟩ h1
    rw [e] at p
    split at p
    · rename_i t kvs hd
      obtain ⟨k, hk, p⟩ := p.okO
      obtain ⟨hf, p2⟩ := p.okB
      clear p
      cases t with
      | true => simp at hf
      | false =>
        have : ∃ k', toK k = some k' := by cases k <;> first | exact ⟨_, rfl⟩ | (simp [keyFits] at hf)
        obtain ⟨k', hk'⟩ := this
        obtain ⟨a, o, e1, e2, e3, _⟩ := dget_rep S ru hd rv hk hk'
        refine .inr (.inl ⟨a, o, e1, e2, ?_⟩)
        have := e3.isSome
        show Q (.bl (ngB neg o.isSome)) H
        rw [this]
        exact p2.here S of_bl
    · obtain ⟨ys, hy, p⟩ := p.okO
      obtain ⟨x, hx, p⟩ := p.okO
      obtain ⟨qs, hq, p⟩ := p.okO
      obtain ⟨a1, a2, a3⟩ := pd_rep S 64 _ _ _ rv hx
      obtain ⟨a, vs, e1, e2, e3⟩ := asS_rep S ru hy
      obtain ⟨b1, b2, b3⟩ := mapO_pd (pd_rep S 63) e3 hq
      refine .inr (.inr ⟨x, qs, a1, ?_, a2, a3, b2, p.here S of_bl⟩)
      rw [e1]
      rcases e2 with e2 | e2
      · exact .inl (.lst e2 b1)
      · exact .inr (.tup e2 b1)
section
variable {X : Cx} {E : XW} {a b c d : Expr} {Fa Fb Fc Fd : FV} {pos : Pos}
theorem fin (hu : X.A.units + 65 < cLine) (ha : FE X E a Fa) (hb : FE X E b Fb) (hm : behindInMarks .In b = false := by rfl) : FE X E (.Compare a [.In] [b] pos) (e2 (oIn false) Fa Fb) := fcmp (op_inAll hu) ok_in ha hb hm
theorem fnin (hu : X.A.units + 65 < cLine) (ha : FE X E a Fa) (hb : FE X E b Fb) (hm : behindInMarks .NotIn b = false := by rfl) : FE X E (.Compare a [.NotIn] [b] pos) (e2 (oIn true) Fa Fb) := fcmp (op_notInAll hu) ok_in ha hb hm
end

/-! ### tests -/
def bT (F : FV) : FB := fun env ah => (F env ah).bind fun z => okO (asB z.1) fun b => .ok (b, z.2)
def bAnd (a b : FB) : FB := fun env ah => (a env ah).bind fun z => match z.1 with
  | true => b env z.2
  | false => .ok (false, z.2)
def bOr (a b : FB) : FB := fun env ah => (a env ah).bind fun z => match z.1 with
  | true => .ok (true, z.2)
  | false => b env z.2
def bNot (a : FB) : FB := fun env ah => (a env ah).bind fun z => .ok (!z.1, z.2)
def eAnd (a b : FV) : FV := fun env ah => (a env ah).bind fun z => okO (asB z.1) fun c => match c with
  | true => b env z.2
  | false => .ok (.bl false, z.2)
def eOr (a b : FV) : FV := fun env ah => (a env ah).bind fun z => okO (asB z.1) fun c => match c with
  | true => .ok (.bl true, z.2)
  | false => b env z.2
def eNot (a : FV) : FV := fun env ah => (a env ah).bind fun z => okO (asB z.1) fun c => .ok (.bl (!c), z.2)
def eIf (c : FB) (a b : FV) : FV := fun env ah => (c env ah).bind fun z => match z.1 with
  | true => a env z.2
  | false => b env z.2
section
variable {K : PySem.W.Frag} {mg : Str → Option Value} {E : XW}
theorem tfT {F : FV} {σ : L2.St} {H : Hp} {Q : Bool → Hp → Prop} (h : TFb K mg E (bT F) σ H Q) : TF K mg E F σ H (fun x H1 => ∃ c, x = .bl c ∧ Q c H1) := by
  obtain ⟨ι, env, ah, a, p⟩ := h
  refine ⟨ι, env, ah, a, Po.first p fun d ah1 ι1 H1 v _ s S rv q => ?_⟩
  obtain ⟨b, hb, q⟩ := q.okO
  have rv : Rep K mg ι1 H1 d v := rv
  rw [asB_eq (show asB d = some b from hb)] at rv
  exact ⟨b, rep_bl rv, q.here S rfl⟩
end
section
variable {X : Cx} {E : XW} {a b c d : Expr} {rest : List Expr} {Fa Fb Fc Fd : FV} {Ba Bb : FB} {pos : Pos}
/-- an expression that is a bool, as a test -/
theorem tv (h : FE X E a Fa) (he : ∀ whole, isTrue a X.env whole = (do let v ← whole; standAt a.pos; holding [v] (truthy v)) := by intro _; rfl) : FT X E a (bT Fa) := PT.mono (pt_val h he) fun _ _ _ h => tfT h
theorem tcmp {op : CmpOp} {r : R2} {o : O2} (hr : OpR X (compareOp op) r) (ho : OK2 X.K X.mg E r o) (ha : FE X E a Fa) (hb : FE X E b Fb) (hm : behindInMarks op b = false) : FT X E (.Compare a [op] [b] pos) (bT (e2 o Fa Fb)) := PT.mono (pt_cmpR hr ha hb hm) fun σ H Q h => by
  have q := tfT h
  exact tf2 ho q
theorem tlt (ha : FE X E a Fa) (hb : FE X E b Fb) : FT X E (.Compare a [.Lt] [b] pos) (bT (e2 oLt Fa Fb)) := tcmp op_lt (ok_oI fun _ _ => rfl) ha hb (nomark _)
theorem tle (ha : FE X E a Fa) (hb : FE X E b Fb) : FT X E (.Compare a [.LtE] [b] pos) (bT (e2 oLe Fa Fb)) := tcmp op_le (ok_oI fun _ _ => rfl) ha hb (nomark _)
theorem tgt (ha : FE X E a Fa) (hb : FE X E b Fb) : FT X E (.Compare a [.Gt] [b] pos) (bT (e2 oGt Fa Fb)) := tcmp op_gt (ok_oI fun _ _ => rfl) ha hb (nomark _)
theorem tge (ha : FE X E a Fa) (hb : FE X E b Fb) : FT X E (.Compare a [.GtE] [b] pos) (bT (e2 oGe Fa Fb)) := tcmp op_ge (ok_oI fun _ _ => rfl) ha hb (nomark _)
theorem teq (hu : X.A.units + 64 < cLine) (ha : FE X E a Fa) (hb : FE X E b Fb) : FT X E (.Compare a [.Eq] [b] pos) (bT (e2 (oEq false) Fa Fb)) := tcmp (op_eqAll hu) ok_eq ha hb (nomark _)
theorem tne (hu : X.A.units + 64 < cLine) (ha : FE X E a Fa) (hb : FE X E b Fb) : FT X E (.Compare a [.NotEq] [b] pos) (bT (e2 (oEq true) Fa Fb)) := tcmp (op_neAll hu) ok_ne ha hb (nomark _)
theorem tisN (ha : FE X E a Fa) (hb : FE X E b Fb) : FT X E (.Compare a [.Is] [b] pos) (bT (e2 (oIsN false) Fa Fb)) := tcmp op_isN ok_isN ha hb (nomark _)
theorem tnotN (ha : FE X E a Fa) (hb : FE X E b Fb) : FT X E (.Compare a [.IsNot] [b] pos) (bT (e2 (oIsN true) Fa Fb)) := tcmp op_notN ok_notN ha hb (nomark _)
theorem tin (hu : X.A.units + 65 < cLine) (ha : FE X E a Fa) (hb : FE X E b Fb) (hm : behindInMarks .In b = false := by rfl) : FT X E (.Compare a [.In] [b] pos) (bT (e2 (oIn false) Fa Fb)) := tcmp (op_inAll hu) ok_in ha hb hm
theorem tnin (hu : X.A.units + 65 < cLine) (ha : FE X E a Fa) (hb : FE X E b Fb) (hm : behindInMarks .NotIn b = false := by rfl) : FT X E (.Compare a [.NotIn] [b] pos) (bT (e2 (oIn true) Fa Fb)) := tcmp (op_notInAll hu) ok_in ha hb hm
theorem tand1 (ha : FT X E a Ba) : FW X E (.BoolOp .And [a] pos) Ba := pw_and1 ha
theorem tor1 (ha : FT X E a Ba) : FW X E (.BoolOp .Or [a] pos) Ba := pw_or1 ha
theorem tand (ha : FT X E a Ba) (hb : FW X E (.BoolOp .And (b :: rest) pos) Bb) : FW X E (.BoolOp .And (a :: b :: rest) pos) (bAnd Ba Bb) := PW.mono (pw_and ha hb) fun σ H Q h => by
  obtain ⟨ι, env, ah, a, p⟩ := h
  refine ⟨ι, env, ah, a, Po.first p fun d ah1 ι1 H1 v _ s S rv q => ?_⟩
  have rv : d = v := rv
  subst rv
  cases d with
  | true => exact iteT ⟨ι1, env, ah1, a.step s S, q⟩
  | false => exact iteF (Po.here q S rfl)
theorem tor (ha : FT X E a Ba) (hb : FW X E (.BoolOp .Or (b :: rest) pos) Bb) : FW X E (.BoolOp .Or (a :: b :: rest) pos) (bOr Ba Bb) := PW.mono (pw_or ha hb) fun σ H Q h => by
  obtain ⟨ι, env, ah, a, p⟩ := h
  refine ⟨ι, env, ah, a, Po.first p fun d ah1 ι1 H1 v _ s S rv q => ?_⟩
  have rv : d = v := rv
  subst rv
  cases d with
  | true => exact iteT (Po.here q S rfl)
  | false => exact iteF ⟨ι1, env, ah1, a.step s S, q⟩
theorem tnot (ha : FT X E a Ba) : FT X E (.UnaryOp .Not a pos) (bNot Ba) := PT.mono (pt_not ha) fun σ H Q h => by
  obtain ⟨ι, env, ah, a, p⟩ := h
  refine ⟨ι, env, ah, a, Po.first p fun d ah1 ι1 H1 v _ s S rv q => ?_⟩
  have rv : d = v := rv
  subst rv
  exact Po.here q S rfl
theorem fone {op} (h : FE X E a Fa) : FE X E (.BoolOp op [a] pos) Fa := pe_one h
theorem fand (ha : FE X E a Fa) (hb : FE X E (.BoolOp .And (b :: rest) pos) Fb) : FE X E (.BoolOp .And (a :: b :: rest) pos) (eAnd Fa Fb) := PE.mono (pe_and ha hb) fun σ H Q h => by
  obtain ⟨ι, env, ah, a, p⟩ := h
  refine ⟨ι, env, ah, a, Po.first p fun d ah1 ι1 H1 v _ s S rv q => ?_⟩
  obtain ⟨c, hc, q⟩ := q.okO
  have rv : Rep X.K X.mg ι1 H1 d v := rv
  rw [asB_eq (show asB d = some c from hc)] at rv
  refine ⟨c, rep_bl rv, ?_⟩
  cases c with
  | true => exact iteT ⟨ι1, env, ah1, a.step s S, q⟩
  | false => exact iteF (Po.here q S of_bl)
theorem for_ (ha : FE X E a Fa) (hb : FE X E (.BoolOp .Or (b :: rest) pos) Fb) : FE X E (.BoolOp .Or (a :: b :: rest) pos) (eOr Fa Fb) := PE.mono (pe_or ha hb) fun σ H Q h => by
  obtain ⟨ι, env, ah, a, p⟩ := h
  refine ⟨ι, env, ah, a, Po.first p fun d ah1 ι1 H1 v _ s S rv q => ?_⟩
  obtain ⟨c, hc, q⟩ := q.okO
  have rv : Rep X.K X.mg ι1 H1 d v := rv
  rw [asB_eq (show asB d = some c from hc)] at rv
  refine ⟨c, rep_bl rv, ?_⟩
  cases c with
  | true => exact iteT (Po.here q S of_bl)
  | false => exact iteF ⟨ι1, env, ah1, a.step s S, q⟩
theorem fnot (ha : FE X E a Fa) : FE X E (.UnaryOp .Not a pos) (eNot Fa) := PE.mono (pe_not ha) fun σ H Q h => by
  obtain ⟨ι, env, ah, a, p⟩ := h
  refine ⟨ι, env, ah, a, Po.first p fun d ah1 ι1 H1 v _ s S rv q => ?_⟩
  obtain ⟨c, hc, q⟩ := q.okO
  have rv : Rep X.K X.mg ι1 H1 d v := rv
  rw [asB_eq (show asB d = some c from hc)] at rv
  exact ⟨c, rep_bl rv, Po.here q S of_bl⟩
theorem fif (hc : FT X E c Ba) (ha : FE X E a Fa) (hb : FE X E b Fb) : FE X E (.IfExp c a b pos) (eIf Ba Fa Fb) := PE.mono (pe_ifExp hc ha hb) fun σ H Q h => by
  obtain ⟨ι, env, ah, a, p⟩ := h
  refine ⟨ι, env, ah, a, Po.first p fun d ah1 ι1 H1 v _ s S rv q => ?_⟩
  have rv : d = v := rv
  subst rv
  cases d with
  | true => exact iteT ⟨ι1, env, ah1, a.step s S, q⟩
  | false => exact iteF ⟨ι1, env, ah1, a.step s S, q⟩
end

/-! ### chains of comparisons -/
def eCh (o o' : O2) (a b c : FV) : FV := fun env ah => (a env ah).bind fun x => (b env x.2).bind fun y => (o x.1 y.1 y.2).bind fun z => okO (asB z.1) fun k => match k with
  | true => (c env z.2).bind fun w => o' y.1 w.1 w.2
  | false => .ok (.bl false, z.2)
theorem tfCh {K : PySem.W.Frag} {mg : Str → Option Value} {E : XW} {r r' : R2} {o o' : O2} {Fa Fb Fc : FV} (ho : OK2 K mg E r o) (ho' : OK2 K mg E r' o') {σ : L2.St} {H : Hp} {Q : VK} (h : TF K mg E (eCh o o' Fa Fb Fc) σ H Q) :
    tChain r r' (TF K mg E Fa) (TF K mg E Fb) (TF K mg E Fc) σ H Q := by
  obtain ⟨ι, env, ah, a, p⟩ := h
  refine ⟨ι, env, ah, a, Po.first p fun d ah1 ι1 H1 v _ s S rv q => ?_⟩
  refine ⟨ι1, env, ah1, a.step s S, Po.first q fun c ah2 ι2 H2 u _ t T ru q2 => ?_⟩
  refine ho ι2 H2 ah2 d v c u _ T (t.rep d rv) ru (Po.first q2 fun e ah3 ι3 H3 w _ t3 T3 rw' q3 => ?_)
  obtain ⟨k, hk, q3⟩ := q3.okO
  have rw' : Rep K mg ι3 H3 e w := rw'
  rw [asB_eq (show asB e = some k from hk)] at rw'
  refine ⟨k, rep_bl rw', ?_⟩
  cases k with
  | true =>
    refine iteT ⟨ι3, env, ah3, ((a.step s S).step t T).step t3 T3, Po.first q3 fun f ah4 ι4 H4 x _ t4 T4 rx q4 => ?_⟩
    exact ho' ι4 H4 ah4 c u f x _ T4 ((t3.trans t4).rep c ru) rx q4
  | false => exact iteF (Po.here q3 T3 of_bl)
section
variable {X : Cx} {E : XW} {a b c d : Expr} {Fa Fb Fc Fd : FV} {pos : Pos} {op op' op'' : CmpOp} {r r' r'' : R2} {o o' o'' : O2}
/-- a comparison with its function -/
structure Cmp (X : Cx) (E : XW) (op : CmpOp) (o : O2) : Prop where
  to : ∃ r, OpR X (compareOp op) r ∧ OK2 X.K X.mg E r o
theorem c_lt : Cmp X E .Lt oLt := ⟨_, op_lt, ok_oI fun _ _ => rfl⟩
theorem c_le : Cmp X E .LtE oLe := ⟨_, op_le, ok_oI fun _ _ => rfl⟩
theorem c_gt : Cmp X E .Gt oGt := ⟨_, op_gt, ok_oI fun _ _ => rfl⟩
theorem c_ge : Cmp X E .GtE oGe := ⟨_, op_ge, ok_oI fun _ _ => rfl⟩
theorem fch (h : Cmp X E op o) (h' : Cmp X E op' o') (ha : FE X E a Fa) (hb : FE X E b Fb) (hc : FE X E c Fc) (hm : lastMarks [op, op'] [b, c] = false := by with_unfolding_all rfl) : FE X E (.Compare a [op, op'] [b, c] pos) (eCh o o' Fa Fb Fc) := by
  obtain ⟨r, h1, h2⟩ := h.to
  obtain ⟨r', h1', h2'⟩ := h'.to
  exact PE.mono (pe_chain h1 h1' ha hb hc hm) fun _ _ _ h => tfCh h2 h2' h
theorem tch (h : Cmp X E op o) (h' : Cmp X E op' o') (ha : FE X E a Fa) (hb : FE X E b Fb) (hc : FE X E c Fc) (hm : lastMarks [op, op'] [b, c] = false := by with_unfolding_all rfl) : FT X E (.Compare a [op, op'] [b, c] pos) (bT (eCh o o' Fa Fb Fc)) := by
  obtain ⟨r, h1, h2⟩ := h.to
  obtain ⟨r', h1', h2'⟩ := h'.to
  exact PT.mono (pt_chain h1 h1' ha hb hc hm) fun _ _ _ h => tfCh h2 h2' (tfT h)
end
end Fx

/-! ===== Fx4 -/
set_option Elab.async false
set_option linter.all false
set_option maxRecDepth 100000
set_option maxHeartbeats 4000000
namespace Fx
open PySem PySem.Spec PyProof.Rows L2

/-! ### targets -/
abbrev FG0 := D → Env → AH → R (Env × AH)
abbrev FGs0 := List D → Env → AH → R (Env × AH)
/-- only the slots of S may differ -/
def Sam (S : List Nat) (σ σ' : L2.St) : Prop := σ'.length = σ.length ∧ ∀ i, i ∉ S → σ'[i]? = σ[i]?
theorem Sam.refl {S : List Nat} {σ : L2.St} : Sam S σ σ := ⟨rfl, fun _ _ => rfl⟩
theorem Sam.set {σ : L2.St} {i : Nat} {v : Option V} : Sam [i] σ (σ.set i v) := ⟨by simp, fun j h => by rw [List.getElem?_set_ne fun z => h (by rw [z]; exact List.mem_cons_self)]⟩
theorem Sam.trans {S T : List Nat} {σ σ1 σ2 : L2.St} (a : Sam S σ σ1) (b : Sam T σ1 σ2) : Sam (S ++ T) σ σ2 := ⟨b.1.trans a.1, fun i h => (b.2 i fun z => h (List.mem_append_right _ z)).trans (a.2 i fun z => h (List.mem_append_left _ z))⟩
section
variable (K : PySem.W.Frag) (mg : Str → Option Value) (E : XW)
def PoG (Sl : List Nat) (σ : L2.St) (ι : Io) (H : Hp) (r : R (Env × AH)) (Q : L2.St → Hp → Prop) : Prop := match r with
  | .ok (env, ah) => ∀ ι' σ' H', Step ι H ι' H' → At K mg env ah ι' σ' H' → Sam Sl σ σ' → Q σ' H'
  | .exc x env ah => PX K mg E ι H x env ah
  | .stk => False
def TFg (Sl : List Nat) (G : FG0) : TG := fun v σ H Q => ∃ ι env ah d, At K mg env ah ι σ H ∧ Rep K mg ι H d v ∧ PoG K mg E Sl σ ι H (G d env ah) Q
def TFgs (Sl : List Nat) (G : FGs0) : TGs := fun vs σ H Q => ∃ ι env ah ds, At K mg env ah ι σ H ∧ Reps K mg ι H ds vs ∧ PoG K mg E Sl σ ι H (G ds env ah) Q
end
section
variable {K : PySem.W.Frag} {mg : Str → Option Value} {E : XW} {ι ι' ι1 : Io} {H H' H1 : Hp} {env : Env} {ah ah' : AH} {σ : L2.St} {d : D} {v : V} {Sl Tl : List Nat}
theorem PoG.later {r : R (Env × AH)} {Q : L2.St → Hp → Prop} (s : Step ι H ι1 H1) (p : PoG K mg E Sl σ ι H r Q) : PoG K mg E Sl σ ι1 H1 r Q := by
  cases r with
  | ok z => obtain ⟨env, ah⟩ := z; exact fun ι' σ' H' t a => p ι' σ' H' (s.trans t) a
  | exc x e h => exact PX.later s p
  | stk => exact p
theorem PoG.wide {r : R (Env × AH)} {Q : L2.St → Hp → Prop} (p : PoG K mg E (Sl ++ Tl) σ ι H r Q) {σ1 : L2.St} (a : Sam Sl σ σ1) : PoG K mg E Tl σ1 ι H r Q := by
  cases r with
  | ok z => obtain ⟨env, ah⟩ := z; exact fun ι' σ' H' t at' b => p ι' σ' H' t at' (a.trans b)
  | exc x e h => exact p
  | stk => exact p
theorem PoG.first {r : R (Env × AH)} {k : Env × AH → R (Env × AH)} {Q Q' : L2.St → Hp → Prop} (p : PoG K mg E (Sl ++ Tl) σ ι H (r.bind k) Q)
    (h : ∀ env ah ι1 σ1 H1, Step ι H ι1 H1 → At K mg env ah ι1 σ1 H1 → PoG K mg E Tl σ1 ι1 H1 (k (env, ah)) Q → Q' σ1 H1) : PoG K mg E Sl σ ι H r Q' := by
  cases r with
  | ok z => obtain ⟨env, ah⟩ := z; exact fun ι' σ' H' t a b => h env ah ι' σ' H' t a (PoG.wide (PoG.later t p) b)
  | exc x e h => exact p
  | stk => exact p
theorem PoG.firstS {r : R (Env × AH)} {k : Env × AH → R (Out × Env × AH)} {Dn : Ends} {Q' : L2.St → Hp → Prop} (p : PoS K mg E ι H (r.bind k) Dn)
    (h : ∀ env ah ι1 σ1 H1, Step ι H ι1 H1 → At K mg env ah ι1 σ1 H1 → PoS K mg E ι1 H1 (k (env, ah)) Dn → Q' σ1 H1) : PoG K mg E Sl σ ι H r Q' := by
  cases r with
  | ok z => obtain ⟨env, ah⟩ := z; exact fun ι' σ' H' t a _ => h env ah ι' σ' H' t a (PoS.later t p)
  | exc x e h => exact p
  | stk => exact p
theorem Po.firstG {α β : Type} {Rv : Io → Hp → α → β → Prop} {r : R (α × AH)} {k : α × AH → R (Env × AH)} {Q : L2.St → Hp → Prop} {Q' : β → Hp → Prop}
    (p : PoG K mg E Sl σ ι H (r.bind k) Q)
    (h : ∀ d ah1 ι1 H1 v, r = .ok (d, ah1) → Step ι H ι1 H1 → SimH K mg ι1 H1 ah1 → Rv ι1 H1 d v → PoG K mg E Sl σ ι1 H1 (k (d, ah1)) Q → Q' v H1) : Po K mg E Rv ι H r Q' := by
  cases r with
  | ok z => obtain ⟨d, ah⟩ := z; exact fun ι' H' v t S rv => h d ah ι' H' v rfl t S rv (PoG.later t p)
  | exc x e h => exact p
  | stk => exact p
theorem PoG.okO {α : Type} {o : Option α} {f : α → R (Env × AH)} {Q : L2.St → Hp → Prop} (p : PoG K mg E Sl σ ι H (okO o f) Q) : ∃ a, o = some a ∧ PoG K mg E Sl σ ι H (f a) Q := by
  cases o with
  | none => exact p.elim
  | some a => exact ⟨a, rfl, p⟩
theorem PoG.okB {c : Bool} {r : R (Env × AH)} {Q : L2.St → Hp → Prop} (p : PoG K mg E Sl σ ι H (okB c r) Q) : c = true ∧ PoG K mg E Sl σ ι H r Q := by
  cases c with
  | false => exact p.elim
  | true => exact ⟨rfl, p⟩
theorem At.set (a : At K mg env ah ι σ H) (i : Nat) (r : Rep K mg ι H d v) : At K mg (env.set i (some d)) ah ι (σ.set i (some v)) H := by
  refine ⟨a.1, by simp [a.2.len], fun j d' e => ?_⟩
  by_cases h : i = j
  · subst h
    have lt : i < env.length := by have := (List.getElem?_eq_some_iff.mp e).1; simpa using this
    rw [List.getElem?_set_self lt] at e
    cases e
    exact ⟨v, by rw [List.getElem?_set_self (by rw [a.2.len]; exact lt)], r⟩
  · rw [List.getElem?_set_ne h] at e
    rw [List.getElem?_set_ne h]
    exact a.2.var j d' e
theorem At.weak (a : At K mg env ah ι σ H) {env' : Env} {σ' : L2.St} (l : σ'.length = env'.length) (h : ∀ (i : Nat) (d : D), env'[i]? = some (some d) → env[i]? = some (some d) ∧ σ'[i]? = σ[i]?) : At K mg env' ah ι σ' H :=
  ⟨a.1, l, fun i d e => by
    obtain ⟨h1, h2⟩ := h i d e
    rw [h2]; exact a.2.var i d h1⟩
end
def gN (i : Nat) : FG0 := fun d env ah => .ok (env.set i (some d), ah)
def gsNil : FGs0 := fun ds env ah => match ds with
  | [] => .ok (env, ah)
  | _ => .stk
def gsCons (g : FG0) (r : FGs0) : FGs0 := fun ds env ah => match ds with
  | d :: t => (g d env ah).bind fun z => r t z.1 z.2
  | [] => .stk
/-- (a, b, ..) = a tuple or a list -/
def gT (n : Nat) (g : FGs0) : FG0 := fun d env ah => okO (asS ah d) fun ds => okB (Nat.beq ds.length n) (g ds env ah)
section
variable {X : Cx} {E : XW} {e : Expr} {es : List Expr} {G : FG0} {Gs : FGs0} {pos : Pos} {Sl Tl : List Nat}
abbrev FG (X : Cx) (E : XW) (e : Expr) (Sl : List Nat) (G : FG0) : Prop := PG X e (TFg X.K X.mg E Sl G)
abbrev FGs (X : Cx) (E : XW) (e : List Expr) (Sl : List Nat) (G : FGs0) : Prop := PGs X e (TFgs X.K X.mg E Sl G)
theorem PG.mono {e : Expr} {t t' : TG} (h : PG X e t) (m : ∀ v σ H Q, t' v σ H Q → t v σ H Q) : PG X e t' := ⟨fun pins s σ H v u Q I r q => h.run pins s σ H v u Q I r (m v σ H Q q)⟩
theorem PGs.mono {e : List Expr} {t t' : TGs} (h : PGs X e t) (m : ∀ v σ H Q, t' v σ H Q → t v σ H Q) : PGs X e t' := ⟨fun pins s σ H v u Q I r q => h.run pins s σ H v u Q I r (m v σ H Q q)⟩
theorem gn (i : Nat) {x : Str} (hN : X.N.Nodup) (hi : X.N[i]? = some x := by rfl) (hx : Loc X.env.scope x := by first | exact Or.inl rfl | exact Or.inr rfl) (hf : X.fn x = true ∨ X.env.scope.names.lookup x = some .local := by first | exact .inl rfl | exact .inr rfl) : FG X E (.Name x pos) [i] (gN i) :=
  PG.mono (pg_name hN hi hx hf) fun v σ H Q h => by
    obtain ⟨ι, env, ah, d, a, r, p⟩ := h
    exact p ι _ H Step.refl (a.set i r) Sam.set
theorem gsnil : FGs X E [] [] gsNil := PGs.mono pgs_nil fun v σ H Q h => by
  obtain ⟨ι, env, ah, ds, a, r, p⟩ := h
  unfold gsNil at p
  split at p
  · exact ⟨reps_nil r, p ι σ H Step.refl a Sam.refl⟩
  · exact p.elim
theorem gscons (h1 : FG X E e Sl G) (h2 : FGs X E es Tl Gs) (hs : (assignEach (e :: es) X.env).map (·.2) = assign e X.env :: (assignEach es X.env).map (·.2) := by rfl) : FGs X E (e :: es) (Sl ++ Tl) (gsCons G Gs) := PGs.mono (pgs_cons h1 h2 hs) fun v σ H Q h => by
  obtain ⟨ι, env, ah, ds, a, r, p⟩ := h
  unfold gsCons at p
  split at p
  · rename_i d t
    obtain ⟨v, vr, rfl, r1, r2⟩ := reps_cons r
    refine ⟨v, vr, rfl, ι, env, ah, d, a, r1, PoG.first p fun env1 ah1 ι1 σ1 H1 s a1 q => ?_⟩
    exact ⟨ι1, env1, ah1, t, a1, s.reps t r2, q⟩
  · exact p.elim
theorem gtup {k : Nat} {n : Nat} (hc : X.calm = true) (h : FGs X E es Sl Gs) (hn : (assignEach es X.env).length = n := by rfl) (hst : (assignEach es X.env).findIdx? (·.1) = none := by rfl) : FG X E (.Tuple es k pos) Sl (gT n Gs) := by
  refine ⟨fun pins s σ H v u Q I r hw => ?_⟩
  obtain ⟨ι, env, ah, d, a, rv, p⟩ := hw
  unfold gT at p
  obtain ⟨ds, hd, p⟩ := p.okO
  obtain ⟨hl, p⟩ := p.okB
  obtain ⟨b, vs, e1, hq, rs⟩ := asS_rep a.1 rv hd
  have hlen : vs.length = n := (reps_len rs).trans (Nat.eq_of_beq_eq_true hl)
  rcases hq with hq | hq
  · exact (pg_unl hc h hn hst).run pins s σ H v u Q I r ⟨b, vs, e1, hq, hlen, ι, env, ah, ds, a, rs, p⟩
  · exact (pg_tup hc h hn hst).run pins s σ H v u Q I r ⟨b, vs, e1, hq, hlen, ι, env, ah, ds, a, rs, p⟩
end

/-! ### a star behind the first ones: a, b, *rest = t -/
section
variable {prog : Program} {w : World} {A : Around} {E : Value → Shared → Prop} {s : Shared}
theorem star_end {items : Array Value} {i : Nat} {l I : Addr} {T : String} {h₁ : Heap} {St : Nat → Heap → Prop} {Q : List Value → Shared → Prop} (hTm : T = "str_ascii_iterator" ∨ T = "str_iterator" ∨ T = "list_iterator" ∨ T = "tuple_iterator")
    (W : Walks prog w A.in1 I [I, l] [I] items.size (fun j v => items[j]? = some v) St) (hT : ∀ j (u : Shared), St j u.heap → u.TypeIs (.ref I) T) (hi : i ≤ items.size) (hst : St i h₁) (hI : I < h₁.objs.size) (hl : l < h₁.objs.size) (hz : items.size ≤ sizeLine)
    (h : ∀ (h₂ : Heap) (tk : Nat), (∀ b o, b ≠ I → h₁.get? b = some o → h₂.get? b = some o) → Q (items.toList.take i ++ [.ref h₂.objs.size]) { s with heap := h₂.push { cls := .type "list", data := .seq (items.toList.drop i).toArray }, toks := tk }) :
    wpAny (model prog w) A (do
      let first := items.toList.take i
      let rest ← holding first (collect (.ref I))
      let after := (i + 1) - 1 - i
      if rest.length < after then
        rule "unpack.star.too-few"
        raiseError "ValueError" s!"not enough values to unpack (expected at least {(i + 1) - 1}, got {i + rest.length})"
      let mid := rest.length - after
      return first ++ [← newList (rest.take mid)] ++ rest.drop mid) Q E { s with heap := h₁ } := by
  refine wpAny_bind (wpAny_holding (PySem.W.kun_collect (s := { s with heap := h₁ }) hTm W hT (k := i) hi hst hI hl (fun h₂ tk hk => ?_) hz))
  have e0 : (i + 1) - 1 - i = 0 := by omega
  rw [e0]
  show wpAny _ _ (if (items.toList.drop i).length < 0 then _ else _) _ _ _
  rw [if_neg (by omega)]
  show wpAny _ _ (newList ((items.toList.drop i).take ((items.toList.drop i).length - 0)) >>= fun d => pure (items.toList.take i ++ [d] ++ (items.toList.drop i).drop ((items.toList.drop i).length - 0))) _ _ _
  have e1 : (items.toList.drop i).take ((items.toList.drop i).length - 0) = items.toList.drop i := by
    rw [Nat.sub_zero]; exact List.take_length
  have e2 : (items.toList.drop i).drop ((items.toList.drop i).length - 0) = [] := by
    rw [Nat.sub_zero]; exact List.drop_length
  rw [e1, e2]
  refine wpAny_bind (wpAny_newList (wpAny_pure ?_) ?_)
  · rw [List.append_nil]
    exact h h₂ tk hk
  · rw [List.length_drop, Array.length_toList]
    omega
theorem star_tup {l : Addr} {items : Array Value} {i : Nat} {Q : List Value → Shared → Prop} (hl : IsTup s.heap l items) (hh : A.handled = none) (hi : i ≤ items.size) (hz : items.size ≤ sizeLine)
    (h : ∀ (h₂ : Heap) (tk : Nat), (∀ b o, b ≠ s.heap.objs.size → s.heap.get? b = some o → h₂.get? b = some o) → Q (items.toList.take i ++ [.ref h₂.objs.size]) { s with heap := h₂.push { cls := .type "list", data := .seq (items.toList.drop i).toArray }, toks := tk }) :
    wpAny (model prog w) A (unpackItems (.ref l) (i + 1) (some i)) Q E s := by
  have hlt : l ≠ s.heap.objs.size := by obtain ⟨o, ho, _⟩ := hl; exact Nat.ne_of_lt (Heap.lt_size ho)
  unfold unpackItems
  refine wpAny_bind ?_
  unfold notIterableAtAll
  refine wpAny_bind (wpAny_specialOf hl.typeIs slot_tuple_iter.lookup ?_)
  refine wpAny_pure ?_
  simp only [Bool.false_eq_true, if_false]
  refine wpAny_bind (wpAny_holding (iter_tuple hl ?_))
  refine wpAny_bind (wpAny_holding (draw_tuple hlt i 0 _ _ ⟨_, Heap.get?_push_size _ rfl, rfl, rfl⟩ (hl.push _) (by omega) fun h₁ hit₁ hs₁ => ?_))
  have hl₁ : IsTup h₁ l items := (hl.push _).extBut hs₁.extBut hlt
  rw [Nat.zero_add] at hit₁
  obtain ⟨oi, hoi, _⟩ := id hit₁
  obtain ⟨ol, hol, _⟩ := id hl₁
  rw [List.drop_zero]
  have hfl : (items.toList.take i).length = i := by rw [List.length_take, Array.length_toList]; omega
  rw [if_neg (show ¬ ((items.toList.take i).length < i) by rw [hfl]; omega)]
  exact star_end (s := s) (.inr (.inr (.inr rfl))) (Walks.tuple (A := A.in1) hh s.heap.objs.size l hlt items) (fun j u st => st.1.typeIs) hi ⟨hit₁, hl₁⟩ (Heap.lt_size hoi) (Heap.lt_size hol) hz fun h₂ tk hk => h h₂ tk fun b o hb e => hk b o hb (hs₁.extBut b o hb (Heap.get?_push_of_some _ e))
theorem star_lst {l : Addr} {items : Array Value} {i : Nat} {Q : List Value → Shared → Prop} (hl : s.heap.IsList l items) (hh : A.handled = none) (hi : i ≤ items.size) (hz : items.size ≤ sizeLine)
    (h : ∀ (h₂ : Heap) (tk : Nat), (∀ b o, b ≠ s.heap.objs.size → s.heap.get? b = some o → h₂.get? b = some o) → Q (items.toList.take i ++ [.ref h₂.objs.size]) { s with heap := h₂.push { cls := .type "list", data := .seq (items.toList.drop i).toArray }, toks := tk }) :
    wpAny (model prog w) A (unpackItems (.ref l) (i + 1) (some i)) Q E s := by
  have hlt : l ≠ s.heap.objs.size := by obtain ⟨o, ho, _⟩ := hl; exact Nat.ne_of_lt (Heap.lt_size ho)
  unfold unpackItems
  refine wpAny_bind ?_
  unfold notIterableAtAll
  refine wpAny_bind (wpAny_specialOf hl.typeIs slot_list_iter.lookup ?_)
  refine wpAny_pure ?_
  simp only [Bool.false_eq_true, if_false]
  refine wpAny_bind (wpAny_holding (wpAny_pyIter_list hl ?_))
  refine wpAny_bind (wpAny_holding (PySem.W.kun_draw hlt i 0 _ _ ⟨_, Heap.get?_push_size _ rfl, rfl, rfl⟩ (hl.push _) (by omega) fun h₁ hit₁ hs₁ => ?_))
  have hl₁ : h₁.IsList l items := (hl.push _).extBut hs₁.extBut hlt
  rw [Nat.zero_add] at hit₁
  obtain ⟨oi, hoi, _⟩ := id hit₁
  obtain ⟨ol, hol, _⟩ := id hl₁
  rw [List.drop_zero]
  have hfl : (items.toList.take i).length = i := by rw [List.length_take, Array.length_toList]; omega
  rw [if_neg (show ¬ ((items.toList.take i).length < i) by rw [hfl]; omega)]
  exact star_end (s := s) (.inr (.inr (.inl rfl))) (Walks.list (A := A.in1) hh s.heap.objs.size l hlt items) (fun j u st => st.1.typeIs) hi ⟨hit₁, hl₁⟩ (Heap.lt_size hoi) (Heap.lt_size hol) hz fun h₂ tk hk => h h₂ tk fun b o hb e => hk b o hb (hs₁.extBut b o hb (Heap.get?_push_of_some _ e))
end
/-- n plain ones ahead, then the rest as a list -/
def gStar (n : Nat) (g : FGs0) : FG0 := fun d env ah => okO (asS ah d) fun ds => okB (Nat.ble n ds.length && lenOk ds.length) (g (ds.take n ++ [.lst (ds.drop n)]) env ah)
section
variable {X : Cx} {E : XW} {e : Expr} {es : List Expr} {G : FG0} {Gs : FGs0} {pos : Pos} {Sl Tl : List Nat}
theorem gscons1 {p2 : Pos} (h1 : FG X E e Sl G) (hs : (assignEach [.Starred e p2] X.env).map (·.2) = [assign e X.env] := by rfl) : FGs X E [.Starred e p2] (Sl ++ []) (gsCons G gsNil) := by
  refine ⟨fun pins s σ H vs us Q I r hw => ?_⟩
  obtain ⟨ι, env, ah, ds, a, rv, p⟩ := hw
  unfold gsCons at p
  split at p
  · rename_i d t
    obtain ⟨v, vr, rfl, r1, r2⟩ := reps_cons rv
    cases r with
    | cons r rr =>
      rw [hs]
      have hd : TFg X.K X.mg E Sl G v σ H (fun σ' H' => vr = [] ∧ Q σ' H') := ⟨ι, env, ah, d, a, r1, PoG.first p fun env1 ah1 ι1 σ1 H1 s a1 q => by
        unfold gsNil at q
        split at q
        · exact ⟨reps_nil r2, q ι1 σ1 H1 Step.refl a1 Sam.refl⟩
        · exact q.elim⟩
      refine assignInOrder_cons (thn (h1.run pins s σ H _ _ _ I r hd) fun _ s1 ⟨σ1, H1, I1, e1, q1⟩ => ?_)
      subst e1
      cases rr
      exact assignInOrder_nil ⟨σ1, H1, I1, q1⟩
  · exact p.elim
theorem gstar {k : Nat} {n : Nat} (hc : X.calm = true) (h : FGs X E es Sl Gs) (hn : (assignEach es X.env).length = n + 1 := by rfl) (hst : (assignEach es X.env).findIdx? (·.1) = some n := by rfl) : FG X E (.Tuple es k pos) Sl (gStar n Gs) := by
  refine ⟨fun pins s σ H v u Q I r hw => ?_⟩
  obtain ⟨ι, env, ah, d, a, rv, p⟩ := hw
  unfold gStar at p
  obtain ⟨ds, hd, p⟩ := p.okO
  obtain ⟨hl, p⟩ := p.okB
  simp only [Bool.and_eq_true, Nat.ble_eq] at hl
  obtain ⟨b, vs, e1, hq, rs⟩ := asS_rep a.1 rv hd
  subst e1
  cases r
  have hlen := reps_len rs
  have fin : ∀ (its : List Value), Vals vs its → vs.length ≤ sizeLine → ∀ (h₂ : Heap) (tk : Nat), (∀ b o, b ≠ s.heap.objs.size → s.heap.get? b = some o → h₂.get? b = some o) →
      wpAny (model X.prog X.w) X.A (assignInOrder ((assignEach es X.env).map (·.2)) (its.take n ++ [.ref h₂.objs.size])) (fun _ s' => ∃ σ' H', L2.Inv X pins σ' H' s' ∧ Q σ' H') X.xe { s with heap := h₂.push { cls := .type "list", data := .seq (its.drop n).toArray }, toks := tk } := fun its rv' hz h₂ tk hk => by
    have I1 : L2.Inv X pins σ H { s with heap := h₂, toks := tk } := I.kept fun b o e => hk b o (Nat.ne_of_lt (Heap.lt_size e)) e
    have I2 : L2.Inv X pins σ (upd H h₂.objs.size (.lst (vs.drop n))) { s with heap := h₂.push { cls := .type "list", data := .seq (its.drop n).toArray }, toks := tk } := L2.Inv.lnew (t' := tk) I1 (rv'.drop n) (by rw [List.length_drop]; omega)
    have nn : H h₂.objs.size = none := I1.hok.fresh (Nat.le_refl _)
    obtain ⟨st, S2, rp⟩ := new_lst a.1 nn (reps_drop n rs)
    refine h.run pins _ σ _ (vs.take n ++ [.ref h₂.objs.size]) _ Q I2 (Vals.append (rv'.take n) (.cons (show RelV (.ref h₂.objs.size) (.ref h₂.objs.size) from rfl) .nil)) ⟨ι, env, ah, ds.take n ++ [.lst (ds.drop n)], a.step st S2, reps_app (reps_take n (st.reps ds rs)) (of_cons rp of_nil), PoG.later st p⟩
  rw [PyProof.Rows.assign_Tuple]
  refine wpAny_bind (wpAny_standAt ?_)
  unfold unpack
  rw [hn, hst]
  rcases hq with hq | hq
  · obtain ⟨its, rv', pl, hz⟩ := I.list hq
    have e2 := rv'.length
    refine wpAny_bind (wpAny_holding (star_lst pl.isList (I.ok.hd hc) (by rw [List.size_toArray]; omega) (by rw [List.size_toArray]; omega) fun h₂ tk hk => ?_))
    exact fin its rv' hz h₂ tk hk
  · obtain ⟨its, rv', pl, hz⟩ := I.tuple hq
    have e2 := rv'.length
    refine wpAny_bind (wpAny_holding (star_tup pl (I.ok.hd hc) (by rw [List.size_toArray]; omega) (by rw [List.size_toArray]; omega) fun h₂ tk hk => ?_))
    exact fin its rv' hz h₂ tk hk
end

/-! ### statements -/
def sNil : FO := fun env ah => .ok (.nx, env, ah)
def sSeq (a b : FO) : FO := fun env ah => (a env ah).bind fun z => match z.1 with
  | .nx => b z.2.1 z.2.2
  | o => .ok (o, z.2)
def sAsg (e : FV) (g : FG0) : FO := fun env ah => (e env ah).bind fun z => (g z.1 env z.2).bind fun y => .ok (.nx, y)
def sSet (i : Nat) (e : FV) : FO := sAsg e (gN i)
def sDrop (e : FV) : FO := fun env ah => (e env ah).bind fun z => .ok (.nx, env, z.2)
def sRet (e : FV) : FO := fun env ah => (e env ah).bind fun z => .ok (.rt z.1, env, z.2)
def sIf (c : FB) (a b : FO) : FO := fun env ah => (c env ah).bind fun z => match z.1 with
  | true => a env z.2
  | false => b env z.2
def sBrk : FO := fun env ah => .ok (.bk, env, ah)
def sPar (i j : Nat) (l : FL) : FO := fun env ah => (l env ah).bind fun z => match z.1 with
  | [a, b] => .ok (.nx, (env.set i (some a)).set j (some b), z.2)
  | _ => .stk
def sStk : FO := fun _ _ => .stk
def eStk : FV := fun _ _ => .stk
section
variable {K : PySem.W.Frag} {mg : Str → Option Value} {E : XW} {ι ι' ι1 : Io} {H H' H1 : Hp} {env : Env} {ah ah' : AH} {σ : L2.St} {d : D} {v : V}
/-- a part of a block -/
theorem PoS.first {r : R (Out × Env × AH)} {k : Out × Env × AH → R (Out × Env × AH)} {Dn Dn' : Ends} (p : PoS K mg E ι H (r.bind k) Dn)
    (h : ∀ o env ah ι1 σ1 H1, r = .ok (o, env, ah) → Step ι H ι1 H1 → At K mg env ah ι1 σ1 H1 → PoS K mg E ι1 H1 (k (o, env, ah)) Dn → Ou Dn' K mg ι1 o σ1 H1) : PoS K mg E ι H r Dn' := by
  cases r with
  | ok z => obtain ⟨o, env, ah⟩ := z; exact fun ι' σ' H' t a => h o env ah ι' σ' H' rfl t a (PoS.later t p)
  | exc x e h => exact p
  | stk => exact p
theorem PoS.ou {o : Out} {Dn : Ends} (p : PoS K mg E ι H (.ok (o, env, ah)) Dn) (a : At K mg env ah ι σ H) : Ou Dn K mg ι o σ H := p ι σ H Step.refl a
end
section
variable {X : Cx} {E : XW} {e : Expr} {es : List Expr} {Sl : List Nat} {Fe : FV} {Fl : FL} {G : FG0} {Gs : FGs0} {st : Stmt} {sts a b : List Stmt} {A B : FO} {C : FB} {pos : Pos}
theorem snil : FSs X E [] sNil := PSs.mono pss_nil fun Dn σ H h => by
  obtain ⟨ι, env, ah, a, p⟩ := h
  exact p.ou a
theorem scons (h1 : FS X E st A) (h2 : FSs X E sts B) : FSs X E (st :: sts) (sSeq A B) := PSs.mono (pss_cons h1 h2) fun Dn σ H h => by
  obtain ⟨ι, env, ah, a, p⟩ := h
  refine ⟨ι, env, ah, a, PoS.first p fun o env1 ah1 ι1 σ1 H1 _ s a1 q => ?_⟩
  cases o with
  | nx => exact ⟨ι1, env1, ah1, a1, q⟩
  | rt d => exact q.ou a1
  | bk => exact q.ou a1
  | ct => exact q.ou a1
theorem sone (h1 : FS X E st A) : FSs X E [st] A := pss_one h1
theorem sasg {tg : Expr} (he : FE X E e Fe) (hg : FG X E tg Sl G) (hs : swapsWithSole [tg] e pos.line X.env = pure false := by rfl) (hw : swappedStores [tg] e X.env = pure none := by rfl)
    (h1 : (assignEach [tg] X.env).map (·.2) = [assign tg X.env] := by rfl) : FS X E (.Assign [tg] e pos) (sAsg Fe G) := PS.mono (ps_asg he hg hs hw h1) fun Dn σ H h => by
  obtain ⟨ι, env, ah, a, p⟩ := h
  refine ⟨ι, env, ah, a, Po.firstS p fun d ah1 ι1 H1 v _ s S rv q => ?_⟩
  refine ⟨ι1, env, ah1, d, a.step s S, rv, PoG.firstS q fun env1 ah2 ι2 σ2 H2 t a2 q2 => ?_⟩
  exact q2.ou a2
theorem sset (i : Nat) {x : Str} {pos' : Pos} (hN : X.N.Nodup) (he : FE X E e Fe) (hi : X.N[i]? = some x := by rfl) (hx : Loc X.env.scope x := by first | exact Or.inl rfl | exact Or.inr rfl) (hs : swapsWith e (some (.Name x pos')) pos.line X.env = pure false := by rfl) (hf : X.fn x = true ∨ X.env.scope.names.lookup x = some .local := by first | exact .inl rfl | exact .inr rfl) :
    FS X E (.Assign [.Name x pos'] e pos) (sSet i Fe) := PS.mono (ps_set hN hi hx he hs hf) fun Dn σ H h => by
  obtain ⟨ι, env, ah, a, p⟩ := h
  refine ⟨ι, env, ah, a, Po.firstS p fun d ah1 ι1 H1 v _ s S rv q => ?_⟩
  exact q.ou ((a.step s S).set i rv)
theorem sexpr (he : FE X E e Fe) (hs : swapsWith e none pos.line X.env = pure false := by rfl) : FS X E (.Expr e pos) (sDrop Fe) := PS.mono (ps_expr he hs) fun Dn σ H h => by
  obtain ⟨ι, env, ah, a, p⟩ := h
  refine ⟨ι, env, ah, a, Po.firstS p fun d ah1 ι1 H1 v _ s S rv q => ?_⟩
  exact q.ou (a.step s S)
theorem sret (he : FE X E e Fe) : FS X E (.Return (some e) pos) (sRet Fe) := PS.mono (ps_ret he) fun Dn σ H h => by
  obtain ⟨ι, env, ah, a, p⟩ := h
  refine ⟨ι, env, ah, a, Po.firstS p fun d ah1 ι1 H1 v _ s S rv q => ?_⟩
  exact (q.ou (a.step s S)) v rv
theorem sif {c : Expr} (hc : FT X E c C) (ha : FSs X E a A) (hb : FSs X E b B) : FS X E (.If c a b pos) (sIf C A B) := PS.mono (ps_if hc ha hb) fun Dn σ H h => by
  obtain ⟨ι, env, ah, a, p⟩ := h
  refine ⟨ι, env, ah, a, Po.firstS p fun d ah1 ι1 H1 v _ s S rv q => ?_⟩
  have rv : d = v := rv
  subst rv
  cases d with
  | true => exact iteT ⟨ι1, env, ah1, a.step s S, q⟩
  | false => exact iteF ⟨ι1, env, ah1, a.step s S, q⟩
theorem sbrk : FS X E (.Break pos) sBrk := PS.mono ps_break fun Dn σ H h => by
  obtain ⟨ι, env, ah, a, p⟩ := h
  exact p.ou a
theorem spass : FS X E (.Pass pos) sNil := PS.mono ps_pass fun Dn σ H h => by
  obtain ⟨ι, env, ah, a, p⟩ := h
  exact p.ou a
theorem spar (i j : Nat) {x y : Str} {a b : Expr} {px py pt : Pos} {kt k2 pt2} (hc : X.calm = true) (hN : X.N.Nodup) (ha : FA X E [a, b] Fl) (hi : X.N[i]? = some x := by rfl) (hj : X.N[j]? = some y := by rfl) (hij : i ≠ j := by decide)
    (hx : X.env.scope.names.lookup x = some .local := by rfl) (hy : X.env.scope.names.lookup y = some .local := by rfl)
    (hw : swappedStores [.Tuple [.Name x px, .Name y py] kt pt] (.Tuple [a, b] k2 pt2) X.env = pure (some [x, y]) := by rfl)
    (hs : swapsWithSole [.Tuple [.Name x px, .Name y py] kt pt] (.Tuple [a, b] k2 pt2) pos.line X.env = pure false := by rfl) :
    FS X E (.Assign [.Tuple [.Name x px, .Name y py] kt pt] (.Tuple [a, b] k2 pt2) pos) (sPar i j Fl) := PS.mono (ps_par hc hN hi hj hij hx hy ha hw hs) fun Dn σ H h => by
  obtain ⟨ι, env, ah, a, p⟩ := h
  refine ⟨ι, env, ah, a, Po.firstS p fun ds ah1 ι1 H1 vs _ s S rs q => ?_⟩
  split at q
  · rename_i c d hd
    have hd : ds = [c, d] := hd
    subst hd
    obtain ⟨v, u, rfl, r1, r2⟩ := reps_two rs
    refine ⟨v, u, rfl, ?_⟩
    exact PoS.ou (env := (env.set i (some c)).set j (some d)) (o := .nx) q (((a.step s S).set i r1).set j r2)
  · exact q.elim
/-- what is never come to -/
theorem sstk : FS X E st sStk := PS.mono ps_never fun Dn σ H h => by
  obtain ⟨ι, env, ah, a, p⟩ := h
  exact p.elim
theorem sstks : FSs X E sts sStk := PSs.mono pss_never fun Dn σ H h => by
  obtain ⟨ι, env, ah, a, p⟩ := h
  exact p.elim
theorem fstk : FE X E e eStk := ⟨fun pins s σ H Q I h => by
  obtain ⟨ι, env, ah, a, p⟩ := h
  exact p.elim⟩
end
end Fx

/-! ===== Fx5 -/
set_option Elab.async false
set_option linter.all false
set_option maxRecDepth 100000
set_option maxHeartbeats 4000000
namespace Fx
open PySem PySem.Spec PyProof.Rows L2

/-! ### the same data -/
mutual
def D.eq : D → D → Bool
  | .non, .non => true
  | .bl a, .bl b => a == b
  | .int a, .int b => decide (a = b)
  | .str a, .str b => decide (a = b)
  | .tup a, .tup b => D.eqs a b
  | .lst a, .lst b => D.eqs a b
  | .dic s a, .dic t b => s == t && D.eqk a b
  | .rng a b, .rng c d => decide (a = c) && decide (b = d)
  | .ref a, .ref b => Nat.beq a b
  | .fn a, .fn b => decide (a = b)
  | _, _ => false
def D.eqs : List D → List D → Bool
  | [], [] => true
  | a :: r, b :: s => D.eq a b && D.eqs r s
  | _, _ => false
def D.eqk : List (DKey × D) → List (DKey × D) → Bool
  | [], [] => true
  | (k, a) :: r, (j, b) :: s => decide (k = j) && (D.eq a b && D.eqk r s)
  | _, _ => false
end
mutual
theorem D.eq_of : ∀ {a b : D}, D.eq a b = true → a = b
  | .non, b, h => by cases b <;> first | rfl | (simp [D.eq] at h)
  | .bl x, b, h => by cases b <;> first | (simp [D.eq] at h; rw [h]) | (simp [D.eq] at h)
  | .int x, b, h => by cases b <;> first | (simp [D.eq] at h; rw [h]) | (simp [D.eq] at h)
  | .str x, b, h => by cases b <;> first | (simp [D.eq] at h; rw [h]) | (simp [D.eq] at h)
  | .tup x, b, h => by
    cases b with
    | tup y => unfold D.eq at h; rw [D.eqs_of h]
    | _ => simp [D.eq] at h
  | .lst x, b, h => by
    cases b with
    | lst y => unfold D.eq at h; rw [D.eqs_of h]
    | _ => simp [D.eq] at h
  | .dic s x, b, h => by
    cases b with
    | dic t y =>
      unfold D.eq at h
      rw [Bool.and_eq_true] at h
      rw [D.eqk_of h.2, beq_iff_eq.mp h.1]
    | _ => simp [D.eq] at h
  | .rng x y, b, h => by
    cases b with
    | rng z w => simp [D.eq] at h; rw [h.1, h.2]
    | _ => simp [D.eq] at h
  | .ref x, b, h => by
    cases b with
    | ref y => unfold D.eq at h; rw [Nat.eq_of_beq_eq_true h]
    | _ => simp [D.eq] at h
  | .fn x, b, h => by cases b <;> first | (simp [D.eq] at h; rw [h]) | (simp [D.eq] at h)
theorem D.eqs_of : ∀ {a b : List D}, D.eqs a b = true → a = b
  | [], b, h => by cases b <;> first | rfl | (simp [D.eqs] at h)
  | a :: r, b, h => by
    cases b with
    | nil => simp [D.eqs] at h
    | cons c s =>
      unfold D.eqs at h
      rw [Bool.and_eq_true] at h
      rw [D.eq_of h.1, D.eqs_of h.2]
theorem D.eqk_of : ∀ {a b : List (DKey × D)}, D.eqk a b = true → a = b
  | [], b, h => by cases b <;> first | rfl | (simp [D.eqk] at h)
  | (k, a) :: r, b, h => by
    cases b with
    | nil => simp [D.eqk] at h
    | cons c s =>
      obtain ⟨j, c⟩ := c
      unfold D.eqk at h
      rw [Bool.and_eq_true, Bool.and_eq_true] at h
      rw [of_decide_eq_true h.1, D.eq_of h.2.1, D.eqk_of h.2.2]
end
mutual
theorem D.eq_refl : ∀ (a : D), D.eq a a = true
  | .non => by simp [D.eq]
  | .bl x => by simp [D.eq]
  | .int x => by simp [D.eq]
  | .str x => by simp [D.eq]
  | .tup x => by unfold D.eq; exact D.eqs_refl x
  | .lst x => by unfold D.eq; exact D.eqs_refl x
  | .dic s x => by unfold D.eq; simp [D.eqk_refl x]
  | .rng x y => by simp [D.eq]
  | .ref x => by simp [D.eq]
  | .fn x => by simp [D.eq]
theorem D.eqs_refl : ∀ (a : List D), D.eqs a a = true
  | [] => by simp [D.eqs]
  | a :: r => by unfold D.eqs; simp [D.eq_refl a, D.eqs_refl r]
theorem D.eqk_refl : ∀ (a : List (DKey × D)), D.eqk a a = true
  | [] => by simp [D.eqk]
  | (k, a) :: r => by unfold D.eqk; simp [D.eq_refl a, D.eqk_refl r]
end

/-! ### what a loop walks -/
/-- its items; the cells that must stay as they are meanwhile -/
structure Src where
  items : List D
  deps : List (Nat × List D)
def Src.still (s : Src) (ah : AH) : Bool := s.deps.all fun p => match ah[p.1]? with
  | some (.lst xs) => D.eqs xs p.2
  | _ => false
abbrev FI0 := Env → AH → R (Src × AH)
section
variable (K : PySem.W.Frag) (mg : Str → Option Value) (E : XW)
/-- the walk J yields the items, as long as the cells stay -/
def Wk (ι0 : Io) (H0 : Hp) (src : Src) (J : It) : Prop := ∀ (i : Nat) ι H ah, Lv ι0 H0 ι H → SimH K mg ι H ah → src.still ah = true →
  (∀ d, src.items[i]? = some d → J.go i H ∧ ∀ x H', J.yld i H x H' → Step ι H ι H' ∧ SimH K mg ι H' ah ∧ Rep K mg ι H' d x) ∧ (src.items.length ≤ i → J.stop i H)
def PoI (ι : Io) (H : Hp) (r : R (Src × AH)) (Q : It → Hp → Prop) : Prop := match r with
  | .ok (src, ah) => ∀ ι' H' J, Step ι H ι' H' → SimH K mg ι' H' ah → Wk K mg ι' H' src J → Q J H'
  | .exc x env ah => PX K mg E ι H x env ah
  | .stk => False
def TFi (F : FI0) : TI := fun σ H Q => ∃ ι env ah, At K mg env ah ι σ H ∧ PoI K mg E ι H (F env ah) Q
end
section
variable {K : PySem.W.Frag} {mg : Str → Option Value} {E : XW} {ι ι' ι1 : Io} {H H' H1 : Hp} {env : Env} {ah ah' : AH} {σ : L2.St} {d : D} {v : V}
theorem PoI.later {r : R (Src × AH)} {Q : It → Hp → Prop} (s : Step ι H ι1 H1) (p : PoI K mg E ι H r Q) : PoI K mg E ι1 H1 r Q := by
  cases r with
  | ok z => obtain ⟨d, ah⟩ := z; exact fun ι' H' v t S rv => p ι' H' v (s.trans t) S rv
  | exc x e h => exact PX.later s p
  | stk => exact p
theorem Po.firstI {α β : Type} {Rv : Io → Hp → α → β → Prop} {r : R (α × AH)} {k : α × AH → R (Src × AH)} {Q : It → Hp → Prop} {Q' : β → Hp → Prop}
    (p : PoI K mg E ι H (r.bind k) Q)
    (h : ∀ d ah1 ι1 H1 v, r = .ok (d, ah1) → Step ι H ι1 H1 → SimH K mg ι1 H1 ah1 → Rv ι1 H1 d v → PoI K mg E ι1 H1 (k (d, ah1)) Q → Q' v H1) : Po K mg E Rv ι H r Q' := by
  cases r with
  | ok z => obtain ⟨d, ah⟩ := z; exact fun ι' H' v t S rv => h d ah ι' H' v rfl t S rv (PoI.later t p)
  | exc x e h => exact p
  | stk => exact p
theorem PoI.okO {α : Type} {o : Option α} {f : α → R (Src × AH)} {Q : It → Hp → Prop} (p : PoI K mg E ι H (okO o f) Q) : ∃ a, o = some a ∧ PoI K mg E ι H (f a) Q := by
  cases o with
  | none => exact p.elim
  | some a => exact ⟨a, rfl, p⟩
theorem PoI.okB {c : Bool} {r : R (Src × AH)} {Q : It → Hp → Prop} (p : PoI K mg E ι H (okB c r) Q) : c = true ∧ PoI K mg E ι H r Q := by
  cases c with
  | false => exact p.elim
  | true => exact ⟨rfl, p⟩
theorem PoI.here {src : Src} {Q : It → Hp → Prop} {J : It} (p : PoI K mg E ι H (.ok (src, ah)) Q) (S : SimH K mg ι H ah) (w : Wk K mg ι H src J) : Q J H := p ι H J Step.refl S w
/-- what a sequence's walk leans on -/
def seqSrc (ah : AH) (d : D) : Option Src := match d with
  | .tup xs => some ⟨xs, []⟩
  | .lst xs => some ⟨xs, []⟩
  | .ref n => match ah[n]? with
    | some (.lst xs) => some ⟨xs, [(n, xs)]⟩
    | _ => none
  | _ => none
/-- a list is to be read for the whole walk -/
theorem lst_still (S : SimH K mg ι H ah) (r : Rep K mg ι H d v) {src : Src} (h : seqSrc ah d = some src) (nt : ∀ xs, d ≠ .tup xs) : ∃ a vs, v = .ref a ∧ SqL K H a vs ∧
    ∀ ι1 H1 ah1, Lv ι H ι1 H1 → SimH K mg ι1 H1 ah1 → src.still ah1 = true → ∃ vs1, SqL K H1 a vs1 ∧ Reps K mg ι1 H1 src.items vs1 := by
  cases d with
  | tup xs => exact absurd rfl (nt xs)
  | lst xs =>
    cases h
    unfold Rep at r
    obtain ⟨a, vs, e, f, q⟩ := r
    exact ⟨a, vs, e, f.sq, fun ι1 H1 ah1 st S1 _ => ⟨vs, (st.fzL f).sq, st.reps xs q⟩⟩
  | ref n =>
    obtain ⟨a, e, g⟩ := rep_ref r
    unfold seqSrc at h
    simp only at h
    split at h
    · rename_i xs hx
      cases h
      obtain ⟨vs, e1, e2⟩ := S.cell n _ a hx g
      refine ⟨a, vs, e, .inl (.inl e1), fun ι1 H1 ah1 st S1 sl => ?_⟩
      unfold Src.still at sl
      simp only [List.all_cons, List.all_nil, Bool.and_true] at sl
      split at sl
      · rename_i ys hy
        obtain ⟨vs1, f1, f2⟩ := S1.cell n _ a hy (st.get n a g)
        rw [D.eqs_of sl] at f2
        exact ⟨vs1, .inl (.inl f1), f2⟩
      · cases sl
    · cases h
  | _ => cases h
theorem wk_list {a : Addr} {src : Src} (h : ∀ ι1 H1 ah1, Lv ι H ι1 H1 → SimH K mg ι1 H1 ah1 → src.still ah1 = true → ∃ vs1, SqL K H1 a vs1 ∧ Reps K mg ι1 H1 src.items vs1) : Wk K mg ι H src (Itl K a) := fun i ι1 H1 ah1 st S1 sl => by
  obtain ⟨vs, hr, rs⟩ := h ι1 H1 ah1 st S1 sl
  have hq : SqL K H1 a vs := hr
  refine ⟨fun d hd => ?_, fun hi => ⟨vs, hq, by rw [reps_len rs]; exact hi⟩⟩
  obtain ⟨v, hv, rv⟩ := reps_get rs hd
  refine ⟨⟨vs, v, hq, hv⟩, fun x H' y => ?_⟩
  obtain ⟨e, y⟩ := y
  subst e
  have := y vs hq
  rw [hv] at this
  cases this
  exact ⟨Step.refl, S1, rv⟩
theorem wk_tup {a : Addr} {xs : List D} {vs : List V} (f : FzT K ι H a vs) (r : Reps K mg ι H xs vs) : Wk K mg ι H ⟨xs, []⟩ (Itt K a) := fun i ι1 H1 ah1 st S1 sl => by
  have hq : SqT K H1 a vs := (st.fzT f).sq
  have rs := st.reps xs r
  refine ⟨fun d hd => ?_, fun hi => ⟨vs, hq, by rw [reps_len rs]; exact hi⟩⟩
  obtain ⟨v, hv, rv⟩ := reps_get rs hd
  refine ⟨⟨vs, v, hq, hv⟩, fun x H' y => ?_⟩
  obtain ⟨e, y⟩ := y
  subst e
  have := y vs hq
  rw [hv] at this
  cases this
  exact ⟨Step.refl, S1, rv⟩
def chD (c : Nat) : D := .str ⟨#[c]⟩
theorem wk_str {z : Str} : Wk K mg ι H ⟨z.cps.toList.map chD, []⟩ (Its z) := fun i ι1 H1 ah1 st S1 sl => by
  have hz : z.cps.size = (z.cps.toList.map chD).length := by simp
  refine ⟨fun d hd => ?_, fun hi => by show z.cps.size ≤ i; rw [hz]; exact hi⟩
  rw [List.getElem?_map, Array.getElem?_toList] at hd
  obtain ⟨c, hc, e⟩ := Option.map_eq_some_iff.mp hd
  subst e
  refine ⟨(Array.getElem?_eq_some_iff.mp hc).1, fun x H' y => ?_⟩
  obtain ⟨e, c', hc', e2⟩ := y
  subst e e2
  rw [hc] at hc'
  cases hc'
  exact ⟨Step.refl, S1, of_str⟩
def rngD (lo : Int) (n : Nat) : List D := (List.range n).map fun k : Nat => .int (lo + (k : Int))
theorem wk_rng {lo : Int} {n : Nat} : Wk K mg ι H ⟨rngD lo n, []⟩ (Itr lo n) := fun i ι1 H1 ah1 st S1 sl => by
  refine ⟨fun d hd => ?_, fun hi => by show n ≤ i; simpa [rngD] using hi⟩
  have lt : i < n := by have := (List.getElem?_eq_some_iff.mp hd).1; simpa [rngD] using this
  refine ⟨lt, fun x H' y => ?_⟩
  obtain ⟨e, e2⟩ := y
  subst e e2
  have : d = .int (lo + i) := by
    have e := hd
    unfold rngD at e
    rw [List.getElem?_map, List.getElem?_range lt] at e
    exact (Option.some.inj e).symm
  subst this
  exact ⟨Step.refl, S1, of_int⟩
def rngC (lo c : Int) (n : Nat) : List D := (List.range n).map fun k : Nat => .int (lo + (k : Int) * c)
theorem wk_rngC {lo c : Int} {n : Nat} : Wk K mg ι H ⟨rngC lo c n, []⟩ (Itc lo c n) := fun i ι1 H1 ah1 st S1 sl => by
  refine ⟨fun d hd => ?_, fun hi => by show n ≤ i; simpa [rngC] using hi⟩
  have lt : i < n := by have := (List.getElem?_eq_some_iff.mp hd).1; simpa [rngC] using this
  refine ⟨lt, fun x H' y => ?_⟩
  obtain ⟨e, e2⟩ := y
  subst e e2
  have : d = .int (lo + i * c) := by
    have e := hd
    unfold rngC at e
    rw [List.getElem?_map, List.getElem?_range lt] at e
    exact (Option.some.inj e).symm
  subst this
  exact ⟨Step.refl, S1, of_int⟩
end
abbrev FI (X : Cx) (E : XW) (tg e : Expr) (F : FI0) : Prop := PI X tg e (TFi X.K X.mg E F)
def b62 (i : Int) : Bool := decide (-(2 ^ 62) ≤ i) && decide (i < 2 ^ 62)
/-- a list, a tuple, a text -/
def seqOf (d : D) (ah : AH) : R (Src × AH) := match d with
  | .str x => .ok (⟨x.cps.toList.map chD, []⟩, ah)
  | d => okO (seqSrc ah d) fun s => .ok (s, ah)
def iSeq (e : FV) : FI0 := fun env ah => (e env ah).bind fun z => seqOf z.1 z.2
def iRg1 (l : FL) : FI0 := fun env ah => (l env ah).bind fun z => match z.1 with
  | [.int j] => okB (b62 j) (.ok (⟨rngD 0 j.toNat, []⟩, z.2))
  | _ => .stk
def iRg2 (l : FL) : FI0 := fun env ah => (l env ah).bind fun z => match z.1 with
  | [.int i, .int j] => okB (b62 i && b62 j) (.ok (⟨rngD i (j - i).toNat, []⟩, z.2))
  | _ => .stk
section
variable {X : Cx} {E : XW} {tg e a b c : Expr} {Fe : FV} {Fl : FL} {pos p : Pos}
theorem PI.or {tg e : Expr} {w w' : TI} (h : PI X tg e w) (h' : PI X tg e w') : PI X tg e (fun σ H R => w σ H R ∨ w' σ H R) := ⟨fun pins s σ H R I q => by
  rcases q with q | q
  · exact h.run pins s σ H R I q
  · exact h'.run pins s σ H R I q⟩
theorem PI.mono {tg e : Expr} {w w' : TI} (h : PI X tg e w) (m : ∀ σ H R, w' σ H R → w σ H R) : PI X tg e w' := ⟨fun pins s σ H R I q => h.run pins s σ H R I (m σ H R q)⟩
theorem iseq (h : FE X E e Fe) : FI X E tg e (iSeq Fe) := PI.mono (PI.or (pi_str h) (PI.or (pi_tup h) (pi_list h))) fun σ H R hw => by
  obtain ⟨ι, env, ah, a, p⟩ := hw
  unfold iSeq at p
  cases hr : Fe env ah with
  | stk => rw [hr] at p; exact p.elim
  | exc x e' h' =>
    rw [hr] at p
    refine .inl ⟨ι, env, ah, a, ?_⟩
    rw [hr]
    exact p
  | ok z =>
    obtain ⟨d, ah1⟩ := z
    rw [hr] at p
    have p : PoI X.K X.mg E ι H (seqOf d ah1) R := p
    by_cases h1 : ∃ z, d = .str z
    · obtain ⟨z, rfl⟩ := h1
      refine .inl ⟨ι, env, ah, a, ?_⟩
      rw [hr]
      intro ι' H' v s S rv
      exact ⟨z, rep_str rv, (p.later s).here S wk_str⟩
    · by_cases h2 : ∃ xs, d = .tup xs
      · obtain ⟨xs, rfl⟩ := h2
        refine .inr (.inl ⟨ι, env, ah, a, ?_⟩)
        rw [hr]
        intro ι' H' v s S rv
        have rv' := rv
        unfold Rep at rv'
        obtain ⟨b, vs, e1, f, q⟩ := rv'
        exact ⟨b, e1, ⟨vs, f.sq⟩, (p.later s).here S (wk_tup f q)⟩
      · refine .inr (.inr ⟨ι, env, ah, a, ?_⟩)
        rw [hr]
        intro ι' H' v s S rv
        have p : PoI X.K X.mg E ι H (okO (seqSrc ah1 d) fun s => .ok (s, ah1)) R := by
          cases d <;> first | exact p | exact absurd ⟨_, rfl⟩ h1
        obtain ⟨src, hs, p⟩ := p.okO
        obtain ⟨b, vs, e1, f, q⟩ := lst_still S rv hs fun xs z => h2 ⟨xs, z⟩
        exact ⟨b, e1, ⟨vs, f⟩, (p.later s).here S (wk_list q)⟩
theorem irg1 (hm : X.mg "range" = none) (ha : FA X E [a] Fl) (hg : Gl X "range" := by rfl) (hs : starEach [a] X.env = [(false, eval a X.env)] := by rfl) : FI X E tg (.Call (.Name "range" p) [a] [] pos) (iRg1 Fl) := PI.mono (pi_range1 hg hm ha hs) fun σ H R hw => by
  obtain ⟨ι, env, ah, a, p⟩ := hw
  refine ⟨ι, env, ah, a, Po.firstI p fun ds ah1 ι1 H1 vs _ s S rs q => ?_⟩
  split at q
  · rename_i j hd
    have hd : ds = [.int j] := hd
    subst hd
    obtain ⟨hb, q⟩ := q.okB
    obtain ⟨v, rfl, rv⟩ := reps_one rs
    unfold b62 at hb
    simp only [Bool.and_eq_true, decide_eq_true_eq] at hb
    exact ⟨j, by rw [rep_int rv], hb.1, hb.2, q.here S wk_rng⟩
  · exact q.elim
theorem irg2 (hm : X.mg "range" = none) (ha : FA X E [a, b] Fl) (hg : Gl X "range" := by rfl) (hs : starEach [a, b] X.env = [(false, eval a X.env), (false, eval b X.env)] := by rfl) (hs2 : starEach [b] X.env = [(false, eval b X.env)] := by rfl) : FI X E tg (.Call (.Name "range" p) [a, b] [] pos) (iRg2 Fl) := PI.mono (pi_range2 hg hm ha hs hs2) fun σ H R hw => by
  obtain ⟨ι, env, ah, a, p⟩ := hw
  refine ⟨ι, env, ah, a, Po.firstI p fun ds ah1 ι1 H1 vs _ s S rs q => ?_⟩
  split at q
  · rename_i i j hd
    have hd : ds = [.int i, .int j] := hd
    subst hd
    obtain ⟨hb, q⟩ := q.okB
    obtain ⟨v, u, rfl, rv, ru⟩ := reps_two rs
    unfold b62 at hb
    simp only [Bool.and_eq_true, decide_eq_true_eq] at hb
    exact ⟨i, j, by rw [rep_int rv, rep_int ru], ⟨hb.1.1, hb.1.2, hb.2.1, hb.2.2⟩, q.here S wk_rng⟩
  · exact q.elim
end

/-! ### for -/
/-- the turns: the items from i on -/
def forGo (src : Src) (g : FG0) (body : FO) : List D → Env → AH → R (Out × Env × AH)
  | [], env, ah => okB (src.still ah) (.ok (.nx, env, ah))
  | d :: r, env, ah => okB (src.still ah) ((g d env ah).bind fun y => (body y.1 y.2).bind fun z => match z.1 with
    | .nx => forGo src g body r z.2.1 z.2.2
    | .ct => forGo src g body r z.2.1 z.2.2
    | .bk => .ok (.nx, z.2)
    | .rt v => .ok (.rt v, z.2))
def sFor (i : FI0) (g : FG0) (body : FO) : FO := fun env ah => (i env ah).bind fun z => forGo z.1 g body z.1.items env z.2
theorem drop_some {α : Type} {l : List α} {i : Nat} {d : α} {r : List α} (h : l.drop i = d :: r) : l[i]? = some d ∧ l.drop (i + 1) = r := by
  have lt : i < l.length := by
    rcases Nat.lt_or_ge i l.length with z | z
    · exact z
    · rw [List.drop_eq_nil_of_le z] at h; cases h
  rw [List.drop_eq_getElem_cons lt] at h
  injection h with h1 h2
  exact ⟨by rw [List.getElem?_eq_getElem lt, h1], h2⟩
section
variable {X : Cx} {E : XW} {tg e : Expr} {sts : List Stmt} {I : FI0} {G : FG0} {B : FO} {pos : Pos} {Sl : List Nat}
theorem sfor (hp : PassesOwn (model X.prog X.w) X.A X.env X.xe) (hc : X.calm = true) (hi : FI X E tg e I) (hg : FG X E tg Sl G) (hb : FSs X E sts B) (hs : ∀ x, foldedSetIterable e X.env x = pure x := by intro _; rfl) : FS X E (.For tg e sts [] pos) (sFor I G B) := PS.mono (ps_for hp hc hi hg hb hs) fun Dn σ H hw => by
  obtain ⟨ι, env, ah, a, p⟩ := hw
  unfold sFor at p
  refine ⟨ι, env, ah, a, ?_⟩
  cases hr : I env ah with
  | stk => rw [hr] at p; exact p.elim
  | exc x e' h' => rw [hr] at p; exact p
  | ok z =>
    obtain ⟨src, ah1⟩ := z
    rw [hr] at p
    have p : PoS X.K X.mg E ι H (forGo src G B src.items env ah1) Dn := p
    intro ι0 H0 J s0 S0 wk
    refine ⟨fun i m σ H => m = src.items.length - i ∧ i ≤ src.items.length ∧ ∃ ι env ah, Step ι0 H0 ι H ∧ At X.K X.mg env ah ι σ H ∧ PoS X.K X.mg E ι H (forGo src G B (src.items.drop i) env ah) Dn,
      ⟨src.items.length, by simp, Nat.zero_le _, ι0, env, ah1, Step.refl, a.step s0 S0, p.later s0⟩, ?_⟩
    rintro i m σ H ⟨rfl, hi, ι, env, ah, s, a, p⟩
    cases hd : src.items.drop i with
    | nil =>
      have hl : src.items.length ≤ i := by
        rcases Nat.lt_or_ge i src.items.length with z | z
        · rw [List.drop_eq_getElem_cons z] at hd; cases hd
        · exact z
      rw [hd] at p
      unfold forGo at p
      obtain ⟨st, p⟩ := p.okB
      exact .inl ⟨(wk i ι H ah s.lv a.1 st).2 hl, p.ou a⟩
    | cons d r =>
      obtain ⟨hg', hd'⟩ := drop_some hd
      have lt : i < src.items.length := (List.getElem?_eq_some_iff.mp hg').1
      rw [hd] at p
      unfold forGo at p
      obtain ⟨st, p⟩ := p.okB
      obtain ⟨go, yl⟩ := (wk i ι H ah s.lv a.1 st).1 d hg'
      refine .inr ⟨go, fun σ' H' => ∃ ι env ah, Step ι0 H0 ι H' ∧ At X.K X.mg env ah ι σ' H' ∧ PoS X.K X.mg E ι H' (forGo src G B (src.items.drop (i + 1)) env ah) Dn, fun σ' H' q => ⟨src.items.length - (i + 1), by omega, rfl, lt, q⟩, fun x H' y => ?_⟩
      obtain ⟨s1, S1, rx⟩ := yl x H' y
      refine ⟨ι, env, ah, d, a.step s1 S1, rx, PoG.firstS (p.later s1) fun env2 ah2 ι2 σ2 H2 s2 a2 q2 => ?_⟩
      refine ⟨ι2, env2, ah2, a2, PoS.first q2 fun o env3 ah3 ι3 σ3 H3 _ s3 a3 q3 => ?_⟩
      have sAll := ((s.trans s1).trans s2).trans s3
      cases o with
      | nx => exact ⟨ι3, env3, ah3, sAll, a3, by rw [hd']; exact q3⟩
      | ct => exact ⟨ι3, env3, ah3, sAll, a3, by rw [hd']; exact q3⟩
      | bk => exact q3.ou a3
      | rt d => exact q3.ou a3
end

/-! ### while -/
/-- at most n turns -/
def whGo (c : FB) (body : FO) : Nat → Env → AH → R (Out × Env × AH)
  | 0, _, _ => .stk
  | n + 1, env, ah => (c env ah).bind fun z => match z.1 with
    | false => .ok (.nx, env, z.2)
    | true => (body env z.2).bind fun y => match y.1 with
      | .nx => whGo c body n y.2.1 y.2.2
      | .ct => whGo c body n y.2.1 y.2.2
      | .bk => .ok (.nx, y.2)
      | .rt v => .ok (.rt v, y.2)
def sWh (n : Nat) (c : FB) (body : FO) : FO := whGo c body n
section
variable {X : Cx} {E : XW} {c : Expr} {sts : List Stmt} {C : FB} {B : FO} {pos : Pos}
theorem swh (n : Nat) (hp : PassesOwn (model X.prog X.w) X.A X.env X.xe) (hc : FT X E c C) (hb : FSs X E sts B) : FS X E (.While c sts [] pos) (sWh n C B) := PS.mono (ps_while hp hc hb) fun Dn σ H hw => by
  obtain ⟨ι, env, ah, a, p⟩ := hw
  refine ⟨fun m σ H => ∃ ι env ah, At X.K X.mg env ah ι σ H ∧ PoS X.K X.mg E ι H (whGo C B m env ah) Dn, ⟨n, ι, env, ah, a, p⟩, ?_⟩
  rintro m σ H ⟨ι, env, ah, a, p⟩
  cases m with
  | zero => exact p.elim
  | succ m =>
    unfold whGo at p
    refine ⟨ι, env, ah, a, Po.firstS p fun b ah1 ι1 H1 b' _ s S e q => ?_⟩
    have e : b = b' := e
    subst e
    cases b with
    | false => exact iteF (PoS.ou (o := .nx) q (a.step s S))
    | true =>
      refine iteT ⟨fun σ' H' => ∃ ι env ah, At X.K X.mg env ah ι σ' H' ∧ PoS X.K X.mg E ι H' (whGo C B m env ah) Dn, fun σ' H' q => ⟨m, Nat.lt_succ_self m, q⟩, ?_⟩
      refine ⟨ι1, env, ah1, a.step s S, PoS.first q fun o env3 ah3 ι3 σ3 H3 _ s3 a3 q3 => ?_⟩
      cases o with
      | nx => exact ⟨ι3, env3, ah3, a3, q3⟩
      | ct => exact ⟨ι3, env3, ah3, a3, q3⟩
      | bk => exact q3.ou a3
      | rt d => exact q3.ou a3
end
end Fx

/-! ===== Fx6 -/
set_option Elab.async false
set_option linter.all false
set_option maxRecDepth 100000
set_option maxHeartbeats 4000000
namespace Fx
open PySem PySem.Spec PyProof.Rows L2

/-! ### list comprehensions -/
/-- within a comprehension nothing is raised -/
def R.bx {α β : Type} (r : R α) (f : α → R β) : R β := match r with
  | .ok a => f a
  | _ => .stk
abbrev E0w : XW := fun _ _ _ _ => False
def wipeE (env : Env) : List Nat → Env
  | [] => env
  | v :: vs => (wipeE env vs).set v none
def bYes : FB := fun _ ah => .ok (true, ah)
section
variable {K : PySem.W.Frag} {mg : Str → Option Value} {E : XW} {ι ι' ι1 : Io} {H H' H1 : Hp} {env : Env} {ah ah' : AH} {σ : L2.St} {d : D} {v : V} {Sl : List Nat}
theorem At.wiped (a : At K mg env ah ι σ H) (vs : List Nat) : At K mg (wipeE env vs) ah ι (wipe σ vs) H := by
  induction vs with
  | nil => exact a
  | cons v vs ih =>
    refine ⟨a.1, by unfold L2.wipe wipeE; simp [ih.2.len], fun i d e => ?_⟩
    unfold wipeE at e
    unfold L2.wipe
    by_cases h : v = i
    · subst h
      by_cases l : v < (wipeE env vs).length
      · rw [List.getElem?_set_self l] at e; cases e
      · rw [List.getElem?_eq_none (by simpa using l)] at e; cases e
    · rw [List.getElem?_set_ne h] at e
      rw [List.getElem?_set_ne h]
      exact ih.2.var i d e
theorem sam_wipe : ∀ {vs : List Nat} {σ σ' : L2.St}, Sam Sl σ σ' → (∀ i ∈ Sl, i ∈ vs) → wipe σ' vs = wipe σ vs := fun {vs σ σ'} a h => by
  apply List.ext_getElem?
  intro i
  have key : ∀ (vs : List Nat) (τ : L2.St), (wipe τ vs)[i]? = if i ∈ vs then (if i < τ.length then some none else none) else τ[i]? := by
    intro vs τ
    induction vs with
    | nil => simp [L2.wipe]
    | cons v vs ih =>
      unfold L2.wipe
      by_cases e : v = i
      · subst e
        rw [if_pos (List.mem_cons_self)]
        by_cases l : v < τ.length
        · rw [if_pos l, List.getElem?_set_self (by rw [wipe_length]; exact l)]
        · rw [if_neg l, List.getElem?_eq_none (by rw [List.length_set, wipe_length]; omega)]
      · rw [List.getElem?_set_ne e, ih]
        by_cases m : i ∈ vs
        · rw [if_pos m, if_pos (List.mem_cons_of_mem _ m)]
        · rw [if_neg m, if_neg (by simp only [List.mem_cons, not_or]; exact ⟨fun z => e z.symm, m⟩)]
  rw [key, key, a.1]
  by_cases m : i ∈ vs
  · rw [if_pos m, if_pos m]
  · rw [if_neg m, if_neg m]
    exact a.2 i fun z => m (h i z)
theorem wipe_wipe (vs : List Nat) (σ : L2.St) : wipe (wipe σ vs) vs = wipe σ vs := by
  have : Sam vs σ (wipe σ vs) := by
    refine ⟨wipe_length σ vs, fun i h => ?_⟩
    induction vs with
    | nil => rfl
    | cons v vs ih =>
      unfold L2.wipe
      simp only [List.mem_cons, not_or] at h
      rw [List.getElem?_set_ne fun z => h.1 z.symm]
      exact ih h.2
  exact sam_wipe this fun i h => h
/-- a part of an outcome told at (ι0, H0), where nothing may be raised -/
theorem Po.X {α β γ δ : Type} {Rv : Io → Hp → α → β → Prop} {Rw : Io → Hp → γ → δ → Prop} {ι0 : Io} {H0 : Hp} {r : R (α × AH)} {k : α × AH → R (γ × AH)} {Q : δ → Hp → Prop} {Q' : β → Hp → Prop}
    (p : Po K mg E Rw ι0 H0 (r.bx k) Q)
    (h : ∀ d ah1 ι1 H1 v, r = .ok (d, ah1) → Step ι H ι1 H1 → SimH K mg ι1 H1 ah1 → Rv ι1 H1 d v → Po K mg E Rw ι0 H0 (k (d, ah1)) Q → Q' v H1) : Po K mg E0w Rv ι H r Q' := by
  cases r with
  | ok z => obtain ⟨d, ah⟩ := z; exact fun ι' H' v t S rv => h d ah ι' H' v rfl t S rv p
  | exc x e h => exact p.elim
  | stk => exact p.elim
theorem PoG.X {γ δ : Type} {Rw : Io → Hp → γ → δ → Prop} {ι0 : Io} {H0 : Hp} {r : R (Env × AH)} {k : Env × AH → R (γ × AH)} {Q : δ → Hp → Prop} {Q' : L2.St → Hp → Prop}
    (p : Po K mg E Rw ι0 H0 (r.bx k) Q)
    (h : ∀ env1 ah1 ι1 σ1 H1, Step ι H ι1 H1 → At K mg env1 ah1 ι1 σ1 H1 → Sam Sl σ σ1 → Po K mg E Rw ι0 H0 (k (env1, ah1)) Q → Q' σ1 H1) : PoG K mg E0w Sl σ ι H r Q' := by
  cases r with
  | ok z => obtain ⟨e, ah⟩ := z; exact fun ι' σ' H' t a b => h e ah ι' σ' H' t a b p
  | exc x e h => exact p.elim
  | stk => exact p.elim
end
/-- the turns of a comprehension, over the slots env -/
def lcGo (src : Src) (env : Env) (g : FG0) (t : FB) (e : FV) : List D → AH → R (List D × AH)
  | [], ah => okB (src.still ah) (.ok ([], ah))
  | d :: r, ah => okB (src.still ah) ((g d env ah).bx fun y => (t y.1 y.2).bx fun b => match b.1 with
    | true => (e y.1 b.2).bx fun z => (lcGo src env g t e r z.2).bx fun w => .ok (z.1 :: w.1, w.2)
    | false => lcGo src env g t e r b.2)
def eLc (c : Bool) (i : FI0) (vs : List Nat) (g : FG0) (t : FB) (e : FV) : FV := fun env ah => (i env ah).bind fun z => okB (lenOk z.1.items.length) ((lcGo z.1 (wipeE env vs) g t e z.1.items z.2).bx fun w => mkL c w.1 w.2)
theorem bx_assoc {α β γ : Type} (r : R α) (f : α → R β) (g : β → R γ) : (r.bx f).bx g = r.bx fun a => (f a).bx g := by
  cases r <;> rfl
theorem okB_bx {α β : Type} (c : Bool) (r : R α) (g : α → R β) : (okB c r).bx g = okB c (r.bx g) := by
  cases c <;> rfl
section
variable {K : PySem.W.Frag} {mg : Str → Option Value} {E : XW}
theorem Reps.snoc {ι : Io} {H : Hp} {ds : List D} {vs : List V} {d : D} {v : V} (h : Reps K mg ι H ds vs) (r : Rep K mg ι H d v) : Reps K mg ι H (ds ++ [d]) (vs ++ [v]) := reps_app h (of_cons r of_nil)
theorem bx_of {α β : Type} {a : α} {f : α → R β} : (R.ok a).bx f = f a := rfl
/-- L, hidden, holds a list: it comes into sight -/
theorem Po.mkLh {c : Bool} {ι0 ι : Io} {H0 H : Hp} {ah : AH} {ds : List D} {acc : List V} {L : Addr} {Q : VK} (p : Po K mg E (RvD K mg) ι0 H0 (Fx.mkL c ds ah) Q) (s : Step ι0 H0 ι H) (n : H0 L = none) (n0 : L ∉ ι0.h) (h : L ∈ ι.h) (S : SimH K mg ι H ah)
    (e : H L = some (.lst acc)) (r : Reps K mg ι H ds acc) : Q (.ref L) H := by
  cases c with
  | false =>
    refine p (ι.unhide L) H (.ref L) (s.unhide n n0) S.unhide ?_
    show Rep K mg (ι.unhide L) H (.lst ds) (.ref L)
    unfold Rep
    exact ⟨L, acc, rfl, .inl ⟨⟨(S.hd L h).2, Io.unhide_not⟩, .inl e⟩, Lv.unhide.reps ds r⟩
  | true =>
    refine p ((ι.unhide L).add L) H (.ref L) (s.uncell n n0) (S.uncell h ⟨acc, e, r⟩) ?_
    show Rep K mg ((ι.unhide L).add L) H (.ref ah.length) (.ref L)
    unfold Rep
    exact ⟨L, rfl, uncell_get S⟩
theorem tfLc {I : FI0} {vs Sl : List Nat} {G : FG0} {T : FB} {Fe : FV} {c : Bool} (hv : ∀ i ∈ Sl, i ∈ vs) {σ : L2.St} {H : Hp} {Q : VK} (hw : TF K mg E (eLc c I vs G T Fe) σ H Q) :
    tLc (TFi K mg E I) (TFg K mg E0w Sl G) (TFb K mg E0w T) (TF K mg E0w Fe) vs σ H Q := by
  obtain ⟨ι, env, ah, a, p⟩ := hw
  refine ⟨ι, env, ah, a, ?_⟩
  unfold eLc at p
  cases hr : I env ah with
  | stk => rw [hr] at p; exact p.elim
  | exc x e' h' => rw [hr] at p; exact p
  | ok z =>
    obtain ⟨src, ah1⟩ := z
    rw [hr] at p
    have p : Po K mg E (RvD K mg) ι H (okB (lenOk src.items.length) ((lcGo src (wipeE env vs) G T Fe src.items ah1).bx fun w => mkL c w.1 w.2)) Q := p
    obtain ⟨hl, p⟩ := p.okB
    intro ι0 H0 J s0 S0 wk L hL
    have a0 : At K mg (wipeE env vs) ah1 ι0 (wipe σ vs) H0 := (a.step s0 S0).wiped vs
    have n0 : L ∉ ι0.h := (S0.out hL).2
    have p := p.later s0
    refine ⟨fun i m H => m = src.items.length - i ∧ i ≤ src.items.length ∧ ∃ ι ah ds acc, Step ι0 H0 ι H ∧ L ∈ ι.h ∧ At K mg (wipeE env vs) ah ι (wipe σ vs) H ∧ H L = some (.lst acc) ∧ Reps K mg ι H ds acc ∧ acc.length ≤ i ∧
        Po K mg E (RvD K mg) ι0 H0 ((lcGo src (wipeE env vs) G T Fe (src.items.drop i) ah).bx fun w => mkL c (ds ++ w.1) w.2) Q,
      ⟨src.items.length, by simp, Nat.zero_le _, ι0.hide L, ah1, [], [], Step.hide hL, List.mem_cons_self, a0.step (Step.hide hL) (S0.hide hL), upd_same, of_nil, Nat.zero_le _, p⟩, ?_⟩
    rintro i m H ⟨rfl, hi, ι, ah, ds, acc, s, hLi, a, hacc, rs, hal, p⟩
    have wkb := wk i ι H ah s.lv a.1
    cases hd : src.items.drop i with
    | nil =>
      have hl : src.items.length ≤ i := by
        rcases Nat.lt_or_ge i src.items.length with z | z
        · rw [List.drop_eq_getElem_cons z] at hd; cases hd
        · exact z
      rw [hd] at p
      unfold lcGo at p
      rw [okB_bx] at p
      obtain ⟨st, p⟩ := p.okB
      refine .inl ⟨(wkb st).2 hl, ?_⟩
      have p : Po K mg E (RvD K mg) ι0 H0 (Fx.mkL c (ds ++ []) ah) Q := p
      rw [List.append_nil] at p
      exact p.mkLh s hL n0 hLi a.1 hacc rs
    | cons d r =>
      obtain ⟨hg', hd'⟩ := drop_some hd
      have lt : i < src.items.length := (List.getElem?_eq_some_iff.mp hg').1
      rw [hd] at p
      unfold lcGo at p
      rw [okB_bx] at p
      obtain ⟨st, p⟩ := p.okB
      obtain ⟨go, yl⟩ := (wkb st).1 d hg'
      refine .inr ⟨go, fun H' => ∃ ι ah ds acc, Step ι0 H0 ι H' ∧ L ∈ ι.h ∧ At K mg (wipeE env vs) ah ι (wipe σ vs) H' ∧ H' L = some (.lst acc) ∧ Reps K mg ι H' ds acc ∧ acc.length ≤ i + 1 ∧
        Po K mg E (RvD K mg) ι0 H0 ((lcGo src (wipeE env vs) G T Fe (src.items.drop (i + 1)) ah).bx fun w => mkL c (ds ++ w.1) w.2) Q, fun H' q => ⟨src.items.length - (i + 1), by omega, rfl, lt, q⟩, fun x H' y => ?_⟩
      obtain ⟨s1, S1, rx⟩ := yl x H' y
      rw [bx_assoc] at p
      have hLx : L ∉ ι.c := (a.1.hd L hLi).2
      refine ⟨ι, wipeE env vs, ah, d, a.step s1 S1, rx, PoG.X p fun env1 ah2 ι2 σ2 H2 s2 a2 sm q2 => ?_⟩
      rw [bx_assoc] at q2
      refine ⟨by rw [sam_wipe sm hv, wipe_wipe], ι2, env1, ah2, a2, Po.X q2 fun b ah3 ι3 H3 b' _ s3 S3 eb q3 => ?_⟩
      have eb : b = b' := eb
      subst eb
      have s13 := (s1.trans s2).trans s3
      have mem3 : ∀ {ιx : Io} {Hx : Hp}, Step ι H ιx Hx → L ∈ ιx.h := fun {ιx Hx} t => by
        obtain ⟨m, e, _⟩ := t.hid
        rw [e]; exact List.mem_append_right _ hLi
      have base : ∀ {ιx : Io} {Hx : Hp} {ahx : AH}, Step ι H ιx Hx → SimH K mg ιx Hx ahx → At K mg (wipeE env vs) ahx ιx (wipe σ vs) Hx := fun t Sx => a.step t Sx
      cases b with
      | false =>
        refine iteF ⟨ι3, ah3, ds, acc, s.trans s13, mem3 s13, base s13 S3, s13.frame L _ hLx hacc, s13.reps ds rs, by omega, ?_⟩
        rw [hd']
        exact q3
      | true =>
        have q3 : Po K mg E (RvD K mg) ι0 H0 (((Fe env1 ah3).bx fun z => (lcGo src (wipeE env vs) G T Fe r z.2).bx fun w => Fx.R.ok (z.1 :: w.1, w.2)).bx fun w => Fx.mkL c (ds ++ w.1) w.2) Q := q3
        rw [bx_assoc] at q3
        refine iteT ⟨ι3, env1, ah3, a2.step s3 S3, Po.X q3 fun y ah4 ι4 H4 v _ s4 S4 ry q4 => ?_⟩
        rw [bx_assoc] at q4
        have s14 := s13.trans s4
        refine ⟨acc, s14.frame L _ hLx hacc, ?_, ι4, ah4, ds ++ [y], acc ++ [v], (s.trans s14).hput hL, mem3 s14, ?_, upd_same, (Lv.hput (mem3 s14)).reps _ ((s14.reps ds rs).snoc ry), by rw [List.length_append]; simp; omega, ?_⟩
        · have := lenOk_le hl
          exact Nat.lt_of_lt_of_le (Nat.lt_of_le_of_lt hal lt) this
        · have b4 := base s14 S4
          exact ⟨b4.1.hput (mem3 s14), (Lv.hput (mem3 s14)).simE b4.2⟩
        · rw [hd']
          have e : ∀ w : List D × AH, Fx.mkL c (ds ++ (y :: w.1)) w.2 = Fx.mkL c (ds ++ [y] ++ w.1) w.2 := fun w => by rw [List.append_assoc]; rfl
          have e2 : (fun a : List D × AH => (Fx.R.ok (y :: a.1, a.2)).bx fun w => Fx.mkL c (ds ++ w.1) w.2) = fun w => Fx.mkL c (ds ++ [y] ++ w.1) w.2 := funext fun w => e w
          have q4 : Po K mg E (RvD K mg) ι0 H0 ((lcGo src (wipeE env vs) G T Fe r ah4).bx fun a : List D × AH => (Fx.R.ok (y :: a.1, a.2)).bx fun w => Fx.mkL c (ds ++ w.1) w.2) Q := q4
          rw [e2] at q4
          exact q4
end
section
variable {X : Cx} {E : XW} {elt tg iter c : Expr} {scope : Scope} {own : List (Str × Nat)} {pos : Pos} {I : FI0} {Sl : List Nat} {G : FG0} {T : FB} {Fe : FV} {C : FB}
/-- the tests of a comprehension -/
structure FTs (X : Cx) (E : XW) (ifs : List Expr) (T : FB) : Prop where
  to : PTs X ifs (TFb X.K X.mg E T)
theorem ftn : FTs X E [] bYes := ⟨⟨fun pins s σ H Q I h => by
  obtain ⟨ι, env, ah, a, p⟩ := h
  exact pts_nil.run pins s σ H Q I (p.here a.1 rfl)⟩⟩
theorem fto (h : FT X E c C) : FTs X E [c] C := ⟨pts_one h⟩
/-- the block of a comprehension of X -/
abbrev Bk (X : Cx) (scope : Scope) (s : Shared) (H : Hp) (C : Addr) (cl : List (Str × Addr)) (fp : List Addr) : Cx := X.blk s H scope (compEnvC scope cl C X.env) fp
theorem flc (cc : Bool) (own : List (Str × Nat)) {ifs : List Expr} (hc : X.calm = true) (hN : X.N.Nodup) (hi : FI X E tg iter I) (ok : BlkOk X.N X.env.scope scope own)
    (hg : ∀ s H C cl fp, FG (Bk X scope s H C cl fp) E0w tg Sl G) (ht : ∀ s H C cl fp, FTs (Bk X scope s H C cl fp) E0w ifs T) (he : ∀ s H C cl fp, FE (Bk X scope s H C cl fp) E0w elt Fe)
    (hv : ∀ i ∈ Sl, i ∈ own.map (·.2) := by decide) (hs : ∀ x, foldedSetIterable iter X.env x = pure x := by intro _; rfl) :
    FE X E (.ListComp elt [⟨tg, iter, ifs, 0⟩] scope pos) (eLc cc I (own.map (·.2)) G T Fe) :=
  PE.mono (pe_lc hc hN hi ok hg (fun s H C cl fp => (ht s H C cl fp).to) he hs) fun _ _ _ h => tfLc hv h
theorem slc (i : Nat) (cc : Bool) (own : List (Str × Nat)) {ifs : List Expr} {y : Str} {py spos : Pos} (hc : X.calm = true) (hN : X.N.Nodup) (hi : FI X E tg iter I) (ok : BlkOk X.N X.env.scope scope own)
    (hg : ∀ s H C cl fp, FG (Bk X scope s H C cl fp) E0w tg Sl G) (ht : ∀ s H C cl fp, FTs (Bk X scope s H C cl fp) E0w ifs T) (he : ∀ s H C cl fp, FE (Bk X scope s H C cl fp) E0w elt Fe)
    (hsw : swapsWith (.ListComp elt [⟨tg, iter, ifs, 0⟩] scope pos) (some (.Name y py)) spos.line X.env = pure true)
    (hy : X.N[i]? = some y := by rfl) (hyl : X.env.scope.names.lookup y = some .local := by rfl) (hv : ∀ i ∈ Sl, i ∈ own.map (·.2) := by decide) (hs : ∀ x, foldedSetIterable iter X.env x = pure x := by intro _; rfl) :
    FS X E (.Assign [.Name y py] (.ListComp elt [⟨tg, iter, ifs, 0⟩] scope pos) spos) (sSet i (eLc cc I (own.map (·.2)) G T Fe)) :=
  PS.mono (ps_setLc hc hN hy hyl hsw hi ok hg (fun s H C cl fp => (ht s H C cl fp).to) he hs) fun Dn σ H h => by
    obtain ⟨ι, env, ah, a, p⟩ := h
    refine tfLc hv ⟨ι, env, ah, a, Po.firstS p fun d ah1 ι1 H1 v _ s S rv q => ?_⟩
    exact q.ou ((a.step s S).set i rv)
end
end Fx

/-! ===== Fx7 -/
set_option Elab.async false
set_option linter.all false
set_option maxRecDepth 100000
set_option maxHeartbeats 4000000
namespace Fx
open PySem PySem.Spec PyProof.Rows L2


/-! ### a def's promise, with the empty watch of a repr known -/
abbrev Gd (A : Around) : Prop := A.guards = some []
structure RG (k : Nat) (A : Around) : Prop where
  r : Room k A
  g : Gd A
theorem RG.mono {j k : Nat} {A : Around} (h : RG k A) (e : j ≤ k) : RG j A := ⟨h.r.mono e, h.g⟩
structure FnG (P : Program) (w : World) (K : PySem.W.Frag) (mg : Str → Option Value) (base : Heap) (CX : CXT) (k : Nat) (f : Addr) (fd : FuncData) (ps : List Str) (sp : Sp) : Prop where
  len : ∀ vs H Q E, sp vs H Q E → vs.length = ps.length
  run : ∀ (A : Around) (outer : List PySem.Env) (s : Shared) (H : Hp) (args : Args) (us : List Value) (vs : List V) (Q : VK) (E : XK), RG k A → Env0 P w K mg base A outer s H → BindsTo s fd args (ps.zip us) → Vals vs us → sp vs H Q E →
    codeAny (model P w) A (.call (.ref f) args) (CR CX outer P w H s Q E) s
theorem FnG.mono {P : Program} {w : World} {K : PySem.W.Frag} {mg : Str → Option Value} {base : Heap} {CX : CXT} {j k : Nat} {f : Addr} {fd : FuncData} {ps : List Str} {sp : Sp} (F : FnG P w K mg base CX j f fd ps sp) (h : j ≤ k) :
    FnG P w K mg base CX k f fd ps sp := ⟨F.len, fun A outer s H args us vs Q E hr => F.run A outer s H args us vs Q E (hr.mono h)⟩
theorem gd_deeper {A : Around} {env : PySem.Env} (h : Gd A) : Gd (A.deeper env) := h
theorem fnG_of {CX : CXT} {P : Program} {w : World} {K : PySem.W.Frag} {mg : Str → Option Value} {base : Heap} {k : Nat} {f : Addr} {name qual : Str} {params : Arguments} {body : List Stmt} {scope : Scope} {dV kV doc pm cdv ct oc : Value} {an od : Option Addr}
    {osl : Array (Option Value)} {N ps : List Str} {sp : Sp} (lk : K.lookup f = some ⟨oc, od, .func (PySem.W.fnOf name qual params body scope dV kV doc pm an cdv ct), osl⟩) (hcd : PySem.W.codeIn K cdv qual = true) (S : FnScope N ps scope)
    (len : ∀ vs H Q E, sp vs H Q E → vs.length = ps.length)
    (hbody : ∀ (A : Around) (outer : List PySem.Env) (s : Shared) (H : Hp) (vs : List V) (Q : VK) (E : XK), RG k (A.deeper (envOfC qual scope s.heap.objs.size f cdv)) → sp vs H Q E →
      ∃ t, PSs (cxOf CX P w K mg base N qual scope f cdv A outer s H E) body t ∧ t { nx := fun _ H' => Q .non H', rt := Q } (L2.start N vs) H) :
    FnG P w K mg base CX (k + 1) f (PySem.W.fnOf name qual params body scope dV kV doc pm an cdv ct) ps sp := by
  refine ⟨len, fun A outer s H args us vs Q E hr e0 hb r hsp => ?_⟩
  have KX : K.In s.heap := e0.mod.kin.keeps fun b o e => (e0.bs b o e).1
  have lim : s.heap.NoLimit := e0.mod.nolimit.keeps fun b o e => (e0.bs b o e).1
  refine codeAny_call_function hr.r.depth (KX _ _ lk) rfl S.co S.gen rfl (PySem.W.codeRec_of KX hcd) (hb _ _ _ _ ?_)
  refine wpAny_newFunctionEnv_cells S.kind (fun ⟨n, v⟩ hy => ?_) fun env he s1 x => ?_
  · rcases S.par n (List.of_mem_zip hy).1 with q | q
    · exact .inl q
    · exact .inr ⟨q, PySem.W.cellsFrom_some _ _ _ (.inl q)⟩
  subst he
  refine ⟨lim.keeps x.toInCall.keep, codeAny_func ?_⟩
  obtain ⟨t, ht, hq⟩ := hbody A outer s H vs Q E ⟨hr.r.deeper _, gd_deeper hr.g⟩ hsp
  refine wpAny_mono (ht.run [] s1 (L2.start N vs) H _ (inv_start S hr.r.hd e0 (len _ _ _ _ hsp) r x) hq) (fun fl s' hs => ?_) fun e s' hs => hs
  cases fl with
  | ret u =>
    obtain ⟨v, σ', H', J, rv, q⟩ := hs
    exact ⟨v, H', J.os, J.bare, J.base, J.hok, rv, q⟩
  | next =>
    obtain ⟨σ', H', J, q⟩ := hs
    exact ⟨.non, H', J.os, J.bare, J.base, J.hok, rfl, q⟩
  | brk =>
    obtain ⟨_, _, _, q⟩ := hs
    exact q.elim
  | cont =>
    obtain ⟨_, _, _, q⟩ := hs
    exact q.elim
theorem okXG {P : Program} {w : World} {K : PySem.W.Frag} {mg : Str → Option Value} {base : Heap} {x qual : Str} {st : Stmt} {f : Addr} {fd : FuncData} {N ps : List Str} {k : Nat} {sp : Sp} (F : Fun K x qual st f fd) (S : FnScope N ps (defScope st)) (len : ∀ vs H Q E, sp vs H Q E → vs.length = ps.length)
    (hbody : ∀ (cdv : Value) (A : Around) (outer : List PySem.Env) (s : Shared) (H : Hp) (vs : List V) (Q : VK) (E : XK), RG k (A.deeper (envOfC qual (defScope st) s.heap.objs.size f cdv)) → sp vs H Q E →
      ∃ t, PSs (cxOf (L2.CX P w) P w K mg base N qual (defScope st) f cdv A outer s H E) (defBody st) t ∧ t { nx := fun _ H' => Q .non H', rt := Q } (L2.start N vs) H) : FnG P w K mg base (L2.CX P w) (k + 1) f fd ps sp := by
  obtain ⟨oc, od, kV, doc, pm, an, cdv, ct, osl, rfl, lk, hcd⟩ := F.ex
  exact fnG_of lk hcd S len fun A outer s H vs Q E hr hsp => hbody cdv A outer s H vs Q E hr hsp
section
variable {X : Cx} {CX : CXT} {k : Nat} {f C : Addr} {fd : FuncData} {ps : List Str} {sp : Sp} {E : L2.St → XK} {x m : Str} {p pos apos : Pos} {e o : Expr} {es : List Expr} {ta : TE} {t : TA} {dvs : List V} {ds : List Value}
theorem runG {pins : List (Addr × Obj)} {σ : L2.St} {H : Hp} {s : Shared} {Q : VK} {us : List Value} {vs : List V} (F : FnG X.prog X.w X.K X.mg X.base CX k f fd ps sp) (hr : RG k X.A) (hb : Binds X.K fd ps ds) (hd : Vals dvs ds) (hx : PassesAt CX X σ (E σ))
    (I : Inv X pins σ H s) (r : Vals vs us) (h : sp (vs ++ dvs) H Q (E σ)) : wpAny (model X.prog X.w) X.A (call (.ref f) us) (EP X pins σ Q) X.xe s := by
  have r2 : Vals (vs ++ dvs) (us ++ ds) := r.append hd
  have hl : (us ++ ds).length = ps.length := by rw [← r2.length]; exact F.len _ _ _ _ h
  refine wpAny_call (codeAny_mono (F.run X.A X.stack s H ⟨us, []⟩ (us ++ ds) (vs ++ dvs) Q (E σ) hr I.env0 (hb s us I.kIn hl) r2 h) fun r s' hq => ?_)
  cases r with
  | error e => exact hx pins H s e s' I hq
  | ok fl =>
    cases fl with
    | ret u => exact I.after hq
    | next => exact False.elim hq
    | brk => exact False.elim hq
    | cont => exact False.elim hq
/-- f(..), the defaults behind -/
def tCallD (sp : Sp) (dvs : List V) (E : L2.St → XK) (t : TA) : TE := fun σ H Q => t σ H fun vs H1 => sp (vs ++ dvs) H1 Q (E σ)
theorem pe_callG (F : FnG X.prog X.w X.K X.mg X.base CX k f fd ps sp) (hr : RG k X.A) (hg : Gl X x) (hm : X.mg x = some (.ref f)) (hk : PySem.W.keepIn X.K (.ref f) = true) (hb : Binds X.K fd ps ds) (hd : Vals dvs ds) (hx : ∀ σ, PassesAt CX X σ (E σ))
    (ha : PA X (e :: es) t) (hdb : (x == ("__debug__" : Str)) = false := by decide) (he : starEach (e :: es) X.env = (false, eval e X.env) :: starEach es X.env := by rfl) (hpl : (backTo pos (starEach es X.env)).any (·.1) = false := by rfl) :
    PE X (.Call (.Name x p) (e :: es) [] pos) (tCallD sp dvs E t) := by
  refine ⟨fun pins s σ H Q I h => ?_⟩
  refine wpAny_Call_Name_kw (ld_glob I hg hm ?_ hdb)
  refine PySem.W.callWith_K (h₀ := X.base) I.ok.mod.kin hk (thn (ha.run pos pins s σ H _ I h) fun us s1 ⟨vs, H1, I1, r, q⟩ => ⟨I1.kIn, ?_⟩) he hpl
  exact runG F hr hb hd (hx σ) I1 r q
end
/-- the law's promise behind the top -/
theorem lawG {P : Program} {w : World} {K : PySem.W.Frag} {mg mb : Str → Option Value} {CX : CXT} {k : Nat} {fa a : Addr} {fd : FuncData} {x : Str} {sp : Sp} {s₁ : Shared} {vs : List Value} {ns : List Int}
    (KX : K.In s₁.heap) (hns : s₁.heap.Ns mainGlobals mg) (hb : s₁.heap.Ns builtinsNs mb) (hbb : ∀ x : Str, x ≠ "__name__" → mb x = bootBuiltins x) (hlim : s₁.heap.NoLimit) (hg : s₁.gens = #[])
    (ha : s₁.heap.get? a = some { cls := .type "list", data := .seq vs.toArray }) (hi : IntsAre vs ns) (hl : ns.length ≤ sizeLine) (hr : RG k callerA)
    (F : ∀ base : Heap, K.In base → base.Ns mainGlobals mg → FnG P w K mg base CX k fa fd [x] sp) (hbind : ∀ (s : Shared) (u : Value), BindsTo s fd ⟨[u], []⟩ [(x, u)])
    (hsp : ∀ H : Hp, Only H → RdL K H a (ns.map V.int) → sp [.ref a] H (fun v _ => v = .bl true) fun _ _ _ => False)
    (hCX : ∀ H e s', CX [] H s₁ (fun _ _ _ => False) e s' → False) :
    codeAny (model P w) callerA (.call (.ref fa) ⟨[.ref a], []⟩) (fun r s' => r = .ok (.ret (.bool true)) ∧ OldK s₁.heap s'.heap ∧ s'.os = s₁.os ∧ AllBare s'.gens) s₁ := by
  have main : ∀ H : Hp, Only H → RdL K H a (ns.map V.int) → HOk P w H s₁.heap → (∀ b, H b ≠ none → b = a ∧ K.lookup a = none) →
      codeAny (model P w) callerA (.call (.ref fa) ⟨[.ref a], []⟩) (fun r s' => r = .ok (.ret (.bool true)) ∧ OldK s₁.heap s'.heap ∧ s'.os = s₁.os ∧ AllBare s'.gens) s₁ := by
    intro H hO hS hok hA
    have nsK : ∀ {b : Addr} {m : Str → Option Value}, s₁.heap.Ns b m → (hidT s₁.heap H).Ns b m := fun {b m} ⟨o, es, ep, e, d, r⟩ => ⟨o, es, ep, hidT_get e (by
      cases q : H b with
      | none => rfl
      | some u =>
        obtain rfl := (hA b (by rw [q]; simp)).1
        rw [ha] at e; cases e
        have d' : Data.seq vs.toArray _ = Data.dict es ep := d
        cases d'), d, r⟩
    have hKb : K.In (hidT s₁.heap H) := fun b o e => hidT_get (KX b o e) (by
      cases q : H b with
      | none => rfl
      | some u =>
        obtain ⟨rfl, z⟩ := hA b (by rw [q]; simp)
        rw [z] at e; cases e)
    have e0 : Env0 P w K mg (hidT s₁.heap H) callerA [] s₁ H := ⟨rfl, ⟨hKb, nsK hns, ⟨mb, nsK hb, hbb⟩, let ⟨mc, h1, h2⟩ := hlim; ⟨mc, nsK h1, h2⟩⟩, fun b o e => of_hidT e, Nat.le_of_eq (hidT_size _ _), trivial, fun b hb => absurd (show b ∈ ([] : List Addr) from hb) (by simp), hok, .of_eq hg⟩
    refine codeAny_mono ((F _ hKb (nsK hns)).run callerA [] s₁ H ⟨[.ref a], []⟩ [.ref a] [.ref a] _ _ hr e0 (hbind s₁ (.ref a)) (.cons rfl .nil) (hsp H hO hS)) fun r s' h => ?_
    cases r with
    | error e => exact (hCX H e s' h).elim
    | ok fl =>
      cases fl with
      | next => exact False.elim h
      | brk => exact False.elim h
      | cont => exact False.elim h
      | ret u =>
        obtain ⟨v, H', os, bare, un, hok', r', q⟩ := h
        obtain rfl : v = .bl true := q
        obtain rfl : u = Value.bool true := r'
        refine ⟨rfl, OldK.of_keep fun b o e => ?_, os, bare⟩
        cases q : H b with
        | none => exact un.keep b o e q (by intro z; exact absurd (show b ∈ ([] : List Addr) from z) (by simp)) (by simp)
        | some u =>
          rcases hO b with z | ⟨ob, xs, z⟩
          · rw [q] at z; cases z
          · obtain ⟨e1, _⟩ := hok b _ z
            rw [e] at e1; cases e1
            have e3 := (hok' b _ (un.frzs b _ _ z)).1
            exact e3
  have rv := vals_ints hi
  have lenV := hi.length
  cases hk : K.lookup a with
  | some o =>
    have e := KX a o hk
    rw [ha] at e
    cases e
    exact main (fun _ => none) (fun _ => .inl rfl) (.inr ⟨vs.toArray, _, hk, by rw [List.size_toArray, lenV]; exact hl, by simpa using rv⟩) (fun b u z => by have z' : (none : Option HO) = some u := z; cases z') (fun b z => absurd rfl z)
  | none =>
    refine main (fun b => if b = a then some (.frz { cls := .type "list", data := .seq vs.toArray } (.lst (ns.map V.int))) else none) (fun b => ?_) (.inl (.inr ⟨{ cls := .type "list", data := .seq vs.toArray }, if_pos rfl⟩)) (fun b u z => ?_) (fun b z => ?_)
    · by_cases hb : b = a
      · exact .inr ⟨_, _, if_pos hb⟩
      · exact .inl (if_neg hb)
    · by_cases hb : b = a
      · have z' := (if_pos hb).symm.trans z
        cases z'
        subst hb
        exact ⟨ha, by rw [List.length_map]; exact hl, vs, _, rv, ha⟩
      · have z' := (if_neg hb).symm.trans z
        cases z'
    · by_cases hb : b = a
      · exact ⟨hb, hk⟩
      · exact absurd (if_neg hb) z
/-- a law: F gives the written part, the function object, the promise over every base -/
theorem walkG {l : PySem.W.OpenLaw} {n k : Nat} {q : Program} {loose : List Str} {XP : (Str → Option Value) → Heap → Prop} {YP : World → Heap → Prop} {d : DefRec} {CX : World → CXT} {x : Str}
    (hn : l.most = some n) (hn2 : n ≤ sizeLine) (hdf : d.params.defaults = []) (hr : RG k callerA)
    (F : ∀ (w : World) (mg : Str → Option Value) (fa : Addr) (h : Heap), YP w h → h.Ns mainGlobals mg → mg d.name = some (.ref fa) →
      ∃ (K : PySem.W.Frag) (fd : FuncData) (sp : Sp), K.In h ∧ (∀ (s : Shared) (u : Value), BindsTo s fd ⟨[u], []⟩ [(x, u)]) ∧
        (∀ (H : Hp) (a : Addr) (ns : List Int), ns.length ≤ n → Only H → RdL K H a (ns.map V.int) → sp [.ref a] H (fun v _ => v = .bl true) fun _ _ _ => False) ∧
        ∀ base : Heap, K.In base → base.Ns mainGlobals mg → FnG l.prog w K mg base (CX w) k fa fd [x] sp)
    (hCX : ∀ (w : World) (H : Hp) (s : Shared) (e : Value) (s' : Shared), CX w [] H s (fun _ _ _ => False) e s' → False) :
    PySem.W.WalkO q loose XP YP l.row.toRowW d [] (fun f vs => PySem.call f vs) := by
  refine Att.attach_call hn hdf fun w s₀ s₁ mg mb fa o pm cd doc a vs ns G Y ho hd hcd hmg hobj hints hlen hg => ?_
  obtain ⟨K, fd, sp, KX, hb, hsp, hF⟩ := F w mg fa _ Y G.T.g hmg
  exact lawG KX G.T.g G.T.b G.T.builtins G.T.nolimit hg hobj hints (Nat.le_trans hlen hn2) hr hF hb (fun H hO hS => hsp H a ns hlen hO hS) fun H e s' => hCX w H s₁ e s'

/-! ### defs of the text -/
abbrev Mf := List D → AH → R (D × AH)
/-- at the end of a body -/
def endB (r : R (Out × Env × AH)) : R (D × AH) := match r with
  | .ok (.nx, _, ah) => .ok (.non, ah)
  | .ok (.rt d, _, ah) => .ok (d, ah)
  | .ok (_, _, _) => .stk
  | .exc x e h => .exc x e h
  | .stk => .stk
/-- a def's function: n parameters, m slots besides -/
def runB (n m : Nat) (B : FO) : Mf := fun ds ah => okB (Nat.beq ds.length n) (endB (B (ds.map some ++ List.replicate m none) ah))
/-- the promise of a def: over any cells -/
def spT (K : PySem.W.Frag) (mg : Str → Option Value) (n : Nat) (m : Mf) : Sp := fun vs H Q E => ∃ ι ah ds, SimH K mg ι H ah ∧ Reps K mg ι H ds vs ∧ ds.length = n ∧ Po K mg (fun c d _ H => E c d H) (RvD K mg) ι H (m ds ah) Q
section
variable {P : Program} {w : World} {K : PySem.W.Frag} {mg : Str → Option Value} {base : Heap}
theorem start_simE {ι : Io} {H : Hp} {N : List Str} {ds : List D} {vs : List V} {m : Nat} (r : Reps K mg ι H ds vs) (h : N.length = ds.length + m) : SimE K mg ι H (ds.map some ++ List.replicate m none) (L2.start N vs) := by
  have hl := reps_len r
  refine ⟨by unfold L2.start; simp; omega, fun i d e => ?_⟩
  have lt : i < ds.length := by
    rcases Nat.lt_or_ge i ds.length with z | z
    · exact z
    · rw [List.getElem?_append_right (by simpa using z)] at e
      have := List.mem_of_getElem? e
      rw [List.mem_replicate] at this
      cases this.2
  rw [List.getElem?_append_left (by simpa using lt), List.getElem?_map] at e
  have e2 : ds[i]? = some d := by
    cases q : ds[i]? with
    | none => rw [q] at e; cases e
    | some x => rw [q] at e; simp at e; rw [e]
  obtain ⟨v, hv, rv⟩ := reps_get r e2
  refine ⟨v, ?_, rv⟩
  unfold L2.start
  rw [List.getElem?_append_left (by simp; omega), List.getElem?_map, hv]
  rfl
/-- THE RULE for a def: its body's function keeps its promise -/
theorem okT {x qual : Str} {st : Stmt} {f : Addr} {fd : FuncData} {N ps : List Str} {k n m : Nat} {B : FO} (F : Fun K x qual st f fd) (S : FnScope N ps (defScope st)) (hn : ps.length = n) (hm : N.length = n + m)
    (hbody : ∀ (X : Cx) (E : XW), X.K = K → X.mg = mg → X.prog = P → X.w = w → X.base = base → X.N = N → X.env.scope = defScope st → X.calm = true → (∀ x, X.fn x = true) → RG k X.A → PassesOwn (model X.prog X.w) X.A X.env X.xe → Takes X E →
      FSs X E (defBody st) B) : FnG P w K mg base (L2.CX P w) (k + 1) f fd ps (spT K mg n (runB n m B)) := by
  refine okXG F S (fun vs H Q E h => ?_) (fun cdv A outer s H vs Q E hr h => ?_)
  · obtain ⟨ι, ah, ds, _, r, l, _⟩ := h
    rw [reps_len r, l, hn]
  · obtain ⟨ι, ah, ds, S0, r, l, p⟩ := h
    refine ⟨_, hbody (cxOf (L2.CX P w) P w K mg base N qual (defScope st) f cdv A outer s H E) (fun c d _ H => E c d H) rfl rfl rfl rfl rfl rfl rfl rfl (fun _ => rfl) hr (passes_of rfl) (takes_of rfl rfl rfl rfl), ?_⟩
    unfold runB at p
    obtain ⟨_, p⟩ := p.okB
    refine ⟨ι, ds.map some ++ List.replicate m none, ah, ⟨S0, start_simE r (by omega)⟩, ?_⟩
    show PoS K mg (fun c d _ H => E c d H) ι H (B (ds.map some ++ List.replicate m none) ah) _
    revert p
    generalize B (ds.map some ++ List.replicate m none) ah = res
    intro p
    cases res with
    | stk => exact p.elim
    | exc x e h => exact p
    | ok z =>
      obtain ⟨o, e, h⟩ := z
      intro ι' σ' H' st a
      cases o with
      | nx => exact p ι' H' .non st a.1 of_non
      | rt d => exact fun v rv => p ι' H' v st a.1 rv
      | bk => exact p.elim
      | ct => exact p.elim
end

/-! ### a call -/
mutual
/-- no cell is named -/
def D.nr : D → Bool
  | .tup xs => D.nrs xs
  | .lst xs => D.nrs xs
  | .dic _ kvs => D.nrk kvs
  | .ref _ => false
  | _ => true
def D.nrs : List D → Bool
  | [] => true
  | a :: r => D.nr a && D.nrs r
def D.nrk : List (DKey × D) → Bool
  | [] => true
  | (_, a) :: r => D.nr a && D.nrk r
end
/-- what a call hands out at its end: its cells' contents -/
def frz (ah : AH) : Nat → D → Option D
  | 0, d => if D.nr d = true then some d else none
  | n + 1, .tup xs => (mapO (frz ah n) xs).map .tup
  | n + 1, .lst xs => (mapO (frz ah n) xs).map .lst
  | n + 1, .ref k => match ah[k]? with
    | some (.lst xs) => (mapO (frz ah n) xs).map .lst
    | some (.dic t kvs) => (mapO (fun p : DKey × D => (frz ah n p.2).map fun d => (p.1, d)) kvs).map (.dic t)
    | _ => none
  | _ + 1, d => if D.nr d = true then some d else none
def frzT (ah : AH) (d : D) : Option D := match ah with
  | [] => some d
  | _ => frz ah 4 d
def argsOk (ah : AH) (ds : List D) : Bool := match ah with
  | [] => true
  | _ => D.nrs ds
section
variable {K : PySem.W.Frag} {mg : Str → Option Value} {E : XW} {ι ι' : Io} {H H' : Hp} {ah ah' : AH} {d : D} {v : V}
/-- two ways to see the same heap, for data without cells -/
structure Lw (ι : Io) (H : Hp) (ι' : Io) (H' : Hp) : Prop where
  out : ∀ a u, ι.out a → H a = some u → ι'.out a ∧ H' a = some u
theorem Lw.rd (s : Lw ι H ι' H') {a : Addr} {u : HO} (n : ι.out a) (r : Rd H a u) : ι'.out a ∧ Rd H' a u := by
  rcases r with r | ⟨o, r⟩
  · exact ⟨(s.out a _ n r).1, .inl (s.out a _ n r).2⟩
  · exact ⟨(s.out a _ n r).1, .inr ⟨o, (s.out a _ n r).2⟩⟩
mutual
theorem Lw.rep (s : Lw ι H ι' H') : ∀ (d : D) {v : V}, D.nr d = true → Rep K mg ι H d v → Rep K mg ι' H' d v
  | .non, _, _, h => h
  | .bl _, _, _, h => h
  | .int _, _, _, h => h
  | .str _, _, _, h => h
  | .tup ds, _, n, h => by
    unfold D.nr at n
    unfold Rep at h ⊢
    obtain ⟨a, vs, e, f, r⟩ := h
    refine ⟨a, vs, e, ?_, Lw.reps s ds n r⟩
    rcases f with ⟨x, y⟩ | y
    · exact .inl (s.rd x y)
    · exact .inr y
  | .lst ds, _, n, h => by
    unfold D.nr at n
    unfold Rep at h ⊢
    obtain ⟨a, vs, e, f, r⟩ := h
    refine ⟨a, vs, e, ?_, Lw.reps s ds n r⟩
    rcases f with ⟨x, y⟩ | y
    · exact .inl (s.rd x y)
    · exact .inr y
  | .dic t kvs, _, n, h => by
    unfold D.nr at n
    unfold Rep at h ⊢
    obtain ⟨a, ws, o, e, x, hd, r, q⟩ := h
    exact ⟨a, ws, o, e, (s.rd x r).1, hd, (s.rd x r).2, Lw.repV s kvs n q⟩
  | .rng lo hi, _, _, h => by
    unfold Rep at h ⊢
    obtain ⟨a, e, n, g⟩ := h
    exact ⟨a, e, (s.out a _ n g).1, (s.out a _ n g).2⟩
  | .ref n, _, z, h => by unfold D.nr at z; cases z
  | .fn x, _, _, h => by
    unfold Rep at h ⊢
    exact h
theorem Lw.reps (s : Lw ι H ι' H') : ∀ (ds : List D) {vs : List V}, D.nrs ds = true → Reps K mg ι H ds vs → Reps K mg ι' H' ds vs
  | [], _, _, h => by unfold Reps at h ⊢; exact h
  | d :: ds, _, n, h => by
    unfold D.nrs at n
    rw [Bool.and_eq_true] at n
    unfold Reps at h ⊢
    obtain ⟨v, r, e, h1, h2⟩ := h
    exact ⟨v, r, e, Lw.rep s d n.1 h1, Lw.reps s ds n.2 h2⟩
theorem Lw.repV (s : Lw ι H ι' H') : ∀ (ds : List (DKey × D)) {vs : List V}, D.nrk ds = true → RepV K mg ι H ds vs → RepV K mg ι' H' ds vs
  | [], _, _, h => by unfold RepV at h ⊢; exact h
  | (_, d) :: ds, _, n, h => by
    unfold D.nrk at n
    rw [Bool.and_eq_true] at n
    unfold RepV at h ⊢
    obtain ⟨v, r, e, h1, h2⟩ := h
    exact ⟨v, r, e, Lw.rep s d n.1 h1, Lw.repV s ds n.2 h2⟩
end
/-- the cells of a call are fixed behind it -/
structure Lz (ι : Io) (H : Hp) (ι' : Io) : Prop where
  out : ∀ a u, ι.out a → H a = some u → ι'.out a
  cel : ∀ a ∈ ι.c, ι'.out a
theorem Lz.lw (z : Lz ι H ι') : Lw ι H ι' H := ⟨fun a u n e => ⟨z.out a u n e, e⟩⟩
theorem mapO_frz {f : D → Option D} (h : ∀ (d d' : D) (v : V), Rep K mg ι H d v → f d = some d' → Rep K mg ι' H d' v) : ∀ {ds ds' : List D} {vs : List V}, Reps K mg ι H ds vs → mapO f ds = some ds' → Reps K mg ι' H ds' vs
  | [], _, _, r, e => by cases e; rw [reps_nil r]; exact of_nil
  | d :: ds, _, _, r, e => by
    obtain ⟨v, s, rfl, p, q⟩ := reps_cons r
    unfold mapO at e
    split at e
    · rename_i b t h1 h2
      cases e
      exact of_cons (h d b v p h1) (mapO_frz h q h2)
    · cases e
theorem mapO_frzk {f : D → Option D} (h : ∀ (d d' : D) (v : V), Rep K mg ι H d v → f d = some d' → Rep K mg ι' H d' v) : ∀ {ds ds' : List (DKey × D)} {vs : List V}, RepV K mg ι H ds vs → mapO (fun p : DKey × D => (f p.2).map fun d => (p.1, d)) ds = some ds' → RepV K mg ι' H ds' vs ∧ ds'.map (·.1) = ds.map (·.1)
  | [], _, _, r, e => by cases e; rw [repV_nil r]; exact ⟨of_vnil, rfl⟩
  | (k, d) :: ds, _, _, r, e => by
    obtain ⟨v, s, rfl, p, q⟩ := repV_cons r
    unfold mapO at e
    split at e
    · rename_i b t h1 h2
      cases e
      obtain ⟨b', hb, eb⟩ := Option.map_eq_some_iff.mp h1
      subst eb
      obtain ⟨i1, i2⟩ := mapO_frzk h q h2
      exact ⟨of_vcons (h d b' v p hb) i1, by simp [i2]⟩
    · cases e
theorem frz_rep (S : SimH K mg ι H ah) (z : Lz ι H ι') : ∀ (n : Nat) (d d' : D) (v : V), Rep K mg ι H d v → frz ah n d = some d' → Rep K mg ι' H d' v := fun n => by
  have base : ∀ {d d' : D} {v : V}, Rep K mg ι H d v → (if D.nr d = true then some d else none) = some d' → Rep K mg ι' H d' v := fun {d d' v} r e => by
    split at e
    · rename_i h; cases e; exact z.lw.rep d h r
    · cases e
  induction n with
  | zero => intro d d' v r e; unfold frz at e; exact base r e
  | succ n ih =>
    intro d d' v r e
    cases d with
    | tup xs =>
      unfold frz at e
      obtain ⟨ys, h1, h2⟩ := Option.map_eq_some_iff.mp e
      subst h2
      unfold Rep at r ⊢
      obtain ⟨a, vs, e, f, q⟩ := r
      refine ⟨a, vs, e, ?_, mapO_frz ih q h1⟩
      rcases f with ⟨x, y⟩ | y
      · exact .inl (z.lw.rd x y)
      · exact .inr y
    | lst xs =>
      unfold frz at e
      obtain ⟨ys, h1, h2⟩ := Option.map_eq_some_iff.mp e
      subst h2
      unfold Rep at r ⊢
      obtain ⟨a, vs, e, f, q⟩ := r
      refine ⟨a, vs, e, ?_, mapO_frz ih q h1⟩
      rcases f with ⟨x, y⟩ | y
      · exact .inl (z.lw.rd x y)
      · exact .inr y
    | ref k =>
      obtain ⟨a, ea, g⟩ := rep_ref r
      unfold frz at e
      split at e
      · rename_i xs hx
        obtain ⟨ys, h1, h2⟩ := Option.map_eq_some_iff.mp e
        subst h2
        obtain ⟨vs, e1, e2⟩ := S.cell k _ a hx g
        unfold Rep
        exact ⟨a, vs, ea, .inl ⟨z.cel a (List.mem_of_getElem? g), .inl e1⟩, mapO_frz ih e2 h1⟩
      · rename_i t kvs hx
        obtain ⟨ys, h1, h2⟩ := Option.map_eq_some_iff.mp e
        subst h2
        obtain ⟨ws, o, e1, e2, e3⟩ := S.cell k _ a hx g
        obtain ⟨i1, i2⟩ := mapO_frzk ih e3 h1
        unfold Rep
        exact ⟨a, ws, o, ea, z.cel a (List.mem_of_getElem? g), by rw [i2]; exact e2, .inl e1, i1⟩
      · cases e
    | non => unfold frz at e; exact base r e
    | bl b => unfold frz at e; exact base r e
    | int i => unfold frz at e; exact base r e
    | str x => unfold frz at e; exact base r e
    | dic t kvs => unfold frz at e; exact base r e
    | rng lo hi => unfold frz at e; exact base r e
    | fn x => unfold frz at e; exact base r e
theorem frzT_rep (S : SimH K mg ι H ah) (z : Lz ι H ι') {d' : D} (r : Rep K mg ι H d v) (e : frzT ah d = some d') : Rep K mg ι' H d' v := by
  unfold frzT at e
  split at e
  · cases e
    have hc : ι.c = [] := List.length_eq_zero_iff.mp S.len
    exact Lv.rep ⟨fun a u n e => ⟨z.out a u n e, e⟩, fun n a g => by rw [hc] at g; simp at g⟩ d r
  · exact frz_rep S z 4 d d' v r e
end
def reEnv {α : Type} (env : Env) (r : R α) : R α := match r with
  | .exc x _ h => .exc x env h
  | r => r
/-- a call that goes on with the cells -/
def eCall (m : Mf) (l : FL) : FV := fun env ah => (l env ah).bind fun z => reEnv env (m z.1 z.2)
/-- a call with cells of its own -/
def pureR (env : Env) (ah : AH) (r : R (D × AH)) : R (D × AH) := match r with
  | .ok (d, h) => okO (frzT h d) fun d' => .ok (d', ah)
  | .exc x _ h => okO (mapO (fun p : Str × D => (frzT h p.2).map fun d => (p.1, d)) x.fs) fun fs => .exc ⟨x.cls, fs⟩ env ah
  | .stk => .stk
def pCall (m : Mf) (l : FL) : FV := fun env ah => (l env ah).bind fun z => okB (argsOk z.2 z.1) (pureR env z.2 (m z.1 []))
section
variable {K : PySem.W.Frag} {mg : Str → Option Value} {E : XW} {ι ι' : Io} {H H' : Hp} {ah ah' : AH} {d : D} {v : V} {env : Env} {σ : L2.St} {n : Nat} {m : Mf} {ds : List D} {vs : List V} {Q : VK}
theorem sp_call (a : At K mg env ah ι σ H) (r : Reps K mg ι H ds vs) (hl : ds.length = n) (p : Po K mg E (RvD K mg) ι H (reEnv env (m ds ah)) Q) : spT K mg n m vs H Q (WE E σ) := by
  refine ⟨ι, ah, ds, a.1, r, hl, ?_⟩
  revert p
  generalize m ds ah = res
  intro p
  cases res with
  | ok z => exact p
  | stk => exact p
  | exc x e h => exact fun ι' σ' H' cv dO s b xr => p ι' σ H' cv dO s ⟨b.1, s.simE a.2⟩ xr
theorem frz_fs (S : SimH K mg ι H ah) (z : Lz ι H ι') : ∀ {fs fs' : List (Str × D)} {gs : List (Str × V)}, RepF K mg ι H fs gs → mapO (fun p : Str × D => (frzT ah p.2).map fun d => (p.1, d)) fs = some fs' → RepF K mg ι' H fs' gs
  | [], _, _, r, e => by cases e; exact r
  | (x, d) :: fs, _, _, r, e => by
    obtain ⟨v, s, rfl, p, q⟩ := r
    unfold mapO at e
    split at e
    · rename_i b t h1 h2
      cases e
      obtain ⟨b', hb, eb⟩ := Option.map_eq_some_iff.mp h1
      subst eb
      exact ⟨v, s, rfl, frzT_rep S z p hb, frz_fs S z q h2⟩
    · cases e
theorem sp_pure (a : At K mg env ah ι σ H) (r : Reps K mg ι H ds vs) (hl : ds.length = n) (hok : argsOk ah ds = true) (p : Po K mg E (RvD K mg) ι H (pureR env ah (m ds [])) Q) : spT K mg n m vs H Q (WE E σ) := by
  have S := a.1
  have hh : ∀ b ∈ ι.c ++ ι.h, H b ≠ none := fun b hb => by
    rcases List.mem_append.mp hb with z | z
    · exact S.there z
    · exact (S.hd b z).1
  have lw : Lw ι H ⟨[], ι.c ++ ι.h⟩ H := ⟨fun b u n e => ⟨⟨by simp, fun z => (List.mem_append.mp z).elim n.1 n.2⟩, e⟩⟩
  have r' : Reps K mg ⟨[], ι.c ++ ι.h⟩ H ds vs := by
    unfold argsOk at hok
    split at hok
    · have hc : ι.c = [] := List.length_eq_zero_iff.mp S.len
      exact Lv.reps ⟨lw.out, fun n b g => by rw [hc] at g; simp at g⟩ ds r
    · exact lw.reps ds hok r
  have S0 : SimH K mg ⟨[], ι.c ++ ι.h⟩ H [] := ⟨rfl, List.nodup_nil, fun i c b e _ => by simp at e, fun b hb => ⟨hh b hb, by simp⟩⟩
  refine ⟨⟨[], ι.c ++ ι.h⟩, [], ds, S0, r', hl, ?_⟩
  have back : ∀ {ι' : Io} {H' : Hp}, Step ⟨[], ι.c ++ ι.h⟩ H ι' H' → Step ι H ι H' ∧ SimH K mg ι H' ah ∧ Lz ι' H' ι := fun {ι' H'} s => by
    have fr : ∀ b u, H b = some u → H' b = some u := fun b u e => s.frame b u (by simp) e
    have st : Step ι H ι H' := ⟨⟨[], by simp, by simp⟩, ⟨[], by simp, by simp⟩, fun b u _ e => fr b u e, s.dom⟩
    refine ⟨st, S.same st fun b hb => ?_, fun b u n e => ?_, fun b hb => ?_⟩
    · cases q : H b with
      | none => exact absurd q (S.there hb)
      | some u => exact fr b u q
    · obtain ⟨more, e1, _⟩ := s.hid
      have nn : b ∉ ι.c ++ ι.h := fun z => n.2 (by rw [e1]; exact List.mem_append_right _ z)
      exact ⟨fun z => nn (List.mem_append_left _ z), fun z => nn (List.mem_append_right _ z)⟩
    · obtain ⟨new, e1, f⟩ := s.pre
      rw [e1] at hb
      exact S.out (f b (by simpa using hb))
  revert p
  generalize m ds [] = res
  intro p
  cases res with
  | stk => exact p.elim
  | ok z =>
    obtain ⟨d, h⟩ := z
    unfold pureR at p
    obtain ⟨d', hd, p⟩ := p.okO
    intro ι' H' v s S' rv
    obtain ⟨st, Sb, lz⟩ := back s
    exact p ι H' v st Sb (frzT_rep S' lz rv hd)
  | exc x e h =>
    unfold pureR at p
    obtain ⟨fs, hf, p⟩ := p.okO
    intro ι' σ' H' cv dO s b xr
    obtain ⟨st, Sb, lz⟩ := back s
    refine p ι σ H' cv dO st ⟨Sb, st.simE a.2⟩ ?_
    obtain ⟨C, e1, e2, xr⟩ := xr
    refine ⟨C, e1, e2, ?_⟩
    rcases xr with ⟨e3, e4⟩ | ⟨dd, gs, e3, e4, e5, e6⟩
    · left
      rw [e3] at hf
      cases hf
      exact ⟨rfl, e4⟩
    · exact .inr ⟨dd, gs, e3, lz.out dd _ e4 e5, e5, frz_fs b.1 lz e6 hf⟩
end
/-- a def of the text, known -/
structure Dk (P : Program) (w : World) (K : PySem.W.Frag) (mg : Str → Option Value) (base : Heap) (k : Nat) (x : Str) (n : Nat) (m : Mf) : Prop where
  to : ∃ f fd ps, FnG P w K mg base (L2.CX P w) k f fd ps (spT K mg n m) ∧ mg x = some (.ref f) ∧ PySem.W.keepIn K (.ref f) = true ∧ Binds K fd ps []
theorem Dk.mono {P : Program} {w : World} {K : PySem.W.Frag} {mg : Str → Option Value} {base : Heap} {j k : Nat} {x : Str} {n : Nat} {m : Mf} (d : Dk P w K mg base j x n m) (h : j ≤ k) : Dk P w K mg base k x n m := by
  obtain ⟨f, fd, ps, F, r⟩ := d.to
  exact ⟨f, fd, ps, F.mono h, r⟩
abbrev Df (X : Cx) (k : Nat) (x : Str) (n : Nat) (m : Mf) : Prop := Dk X.prog X.w X.K X.mg X.base k x n m
section
variable {X : Cx} {E : XW} {a : Expr} {as : List Expr} {Fl : FL} {k n : Nat} {x : Str} {m : Mf} {p pos : Pos}
theorem fcall (d : Df X k x n m) (hr : RG k X.A) (tk : ∀ σ, PassesAt (L2.CX X.prog X.w) X σ (WE E σ)) (ha : FA X E (a :: as) Fl) (hn : as.length + 1 = n := by rfl) (hg : Gl X x := by rfl) (hp : Pl X a as pos := by exact ⟨rfl, rfl⟩) (hdb : (x == ("__debug__" : Str)) = false := by decide)
    (hl : ∀ env ah z h, Fl env ah = .ok (z, h) → z.length = n := by intros; assumption) : FE X E (.Call (.Name x p) (a :: as) [] pos) (eCall m Fl) := by
  obtain ⟨f, fd, ps, F, hm, hk, hb⟩ := d.to
  refine PE.mono (pe_callG F hr hg hm hk hb .nil tk ha hdb hp.he hp.hpl) fun σ H Q h => ?_
  obtain ⟨ι, env, ah, a, p⟩ := h
  refine ⟨ι, env, ah, a, Po.first p fun ds ah1 ι1 H1 vs e s S rs q => ?_⟩
  exact sp_call (a.step s S) (by rw [List.append_nil]; exact rs) (hl env ah ds ah1 e) q
end
end Fx

/-! ===== Fx8 -/
set_option Elab.async false
set_option linter.all false
set_option maxRecDepth 100000
set_option maxHeartbeats 4000000
namespace Fx
open PySem PySem.Spec PyProof.Rows L2

theorem PE.or {X : Cx} {e : Expr} {t t' : TE} (h : PE X e t) (h' : PE X e t') : PE X e (fun σ H Q => t σ H Q ∨ t' σ H Q) := ⟨fun pins s σ H Q I q => q.elim (h.run pins s σ H Q I) (h'.run pins s σ H Q I)⟩
theorem PS.or {X : Cx} {e : Stmt} {t t' : TS} (h : PS X e t) (h' : PS X e t') : PS X e (fun D σ H => t D σ H ∨ t' D σ H) := ⟨fun pins s σ H D I q => q.elim (h.run pins s σ H D I) (h'.run pins s σ H D I)⟩
theorem MtR.or {X : Cx} {id : String} {r r' : V → List V → Hp → VK → Prop} (h : MtR X id r) (h' : MtR X id r') : MtR X id (fun x xs H Q => r x xs H Q ∨ r' x xs H Q) :=
  fun pins s σ H x xs v us Q I rx rv q => q.elim (h pins s σ H x xs v us Q I rx rv) (h' pins s σ H x xs v us Q I rx rv)
theorem PSet.or {X : Cx} {r r' : TSet} (h : PSet X r) (h' : PSet X r') : PSet X (fun o i v H Q => r o i v H Q ∨ r' o i v H Q) :=
  fun pins s σ H o i v a b c Q I ro ri rv q => q.elim (h pins s σ H o i v a b c Q I ro ri rv) (h' pins s σ H o i v a b c Q I ro ri rv)
theorem tw {X : Cx} {E : XW} {e : Expr} {F : FB} (h : FW X E e F) : FT X E e F := PW.pt h
theorem tkB {X : Cx} : ∀ σ, PassesAt (L2.CX X.prog X.w) X σ (WE E0w σ) := fun σ => passAt takes0 σ

/-! ### pure calls -/
def lenB (n : Nat) (l : FL) : FL := fun env ah => (l env ah).bind fun z => okB (Nat.beq z.1.length n) (.ok z)
section
variable {X : Cx} {E : XW} {a : Expr} {as : List Expr} {Fl : FL} {k n : Nat} {x : Str} {m : Mf} {p pos : Pos}
theorem fpcall (d : Df X k x n m) (hr : RG k X.A) (tk : ∀ σ, PassesAt (L2.CX X.prog X.w) X σ (WE E σ)) (ha : FA X E (a :: as) Fl) (hg : Gl X x := by rfl) (hp : Pl X a as pos := by exact ⟨rfl, rfl⟩) (hdb : (x == ("__debug__" : Str)) = false := by decide)
    : FE X E (.Call (.Name x p) (a :: as) [] pos) (pCall m (lenB n Fl)) := by
  obtain ⟨f, fd, ps, F, hm, hk, hb⟩ := d.to
  refine PE.mono (pe_callG F hr hg hm hk hb .nil tk ha hdb hp.he hp.hpl) fun σ H Q h => ?_
  obtain ⟨ι, env, ah, a, p⟩ := h
  have p : Po X.K X.mg E (RvD X.K X.mg) ι H ((Fl env ah).bind fun z => (okB (Nat.beq z.1.length n) (R.ok z)).bind fun z => okB (argsOk z.2 z.1) (pureR env z.2 (m z.1 []))) Q := by
    revert p
    unfold pCall lenB
    cases Fl env ah <;> exact id
  refine ⟨ι, env, ah, a, Po.first p fun ds ah1 ι1 H1 vs e s S rs q => ?_⟩
  have q : Po X.K X.mg E (RvD X.K X.mg) ι1 H1 ((okB (Nat.beq ds.length n) (R.ok (ds, ah1))).bind fun z => okB (argsOk z.2 z.1) (pureR env z.2 (m z.1 []))) Q := q
  have hl : Nat.beq ds.length n = true := by
    cases e : Nat.beq ds.length n with
    | true => rfl
    | false => rw [e] at q; exact q.elim
  rw [hl] at q
  have q : Po X.K X.mg E (RvD X.K X.mg) ι1 H1 (okB (argsOk ah1 ds) (pureR env ah1 (m ds []))) Q := q
  obtain ⟨ho, q⟩ := q.okB
  exact sp_pure (a.step s S) (by rw [List.append_nil]; exact rs) (Nat.eq_of_beq_eq_true hl) ho q
theorem fxcall (d : Df X k x n m) (hr : RG k X.A) (tk : ∀ σ, PassesAt (L2.CX X.prog X.w) X σ (WE E σ)) (ha : FA X E (a :: as) Fl) (hg : Gl X x := by rfl) (hp : Pl X a as pos := by exact ⟨rfl, rfl⟩) (hdb : (x == ("__debug__" : Str)) = false := by decide)
    : FE X E (.Call (.Name x p) (a :: as) [] pos) (eCall m (lenB n Fl)) := by
  obtain ⟨f, fd, ps, F, hm, hk, hb⟩ := d.to
  refine PE.mono (pe_callG F hr hg hm hk hb .nil tk ha hdb hp.he hp.hpl) fun σ H Q h => ?_
  obtain ⟨ι, env, ah, a, p⟩ := h
  have p : Po X.K X.mg E (RvD X.K X.mg) ι H ((Fl env ah).bind fun z => (okB (Nat.beq z.1.length n) (R.ok z)).bind fun z => reEnv env (m z.1 z.2)) Q := by
    revert p
    unfold eCall lenB
    cases Fl env ah <;> exact id
  refine ⟨ι, env, ah, a, Po.first p fun ds ah1 ι1 H1 vs e s S rs q => ?_⟩
  have q : Po X.K X.mg E (RvD X.K X.mg) ι1 H1 ((okB (Nat.beq ds.length n) (R.ok (ds, ah1))).bind fun z => reEnv env (m z.1 z.2)) Q := q
  have hl : Nat.beq ds.length n = true := by
    cases e : Nat.beq ds.length n with
    | true => rfl
    | false => rw [e] at q; exact q.elim
  rw [hl] at q
  exact sp_call (a.step s S) (by rw [List.append_nil]; exact rs) (Nat.eq_of_beq_eq_true hl) q
end

/-! ### chains of three links -/
def eCh3 (o o' o'' : O2) (a b c d : FV) : FV := fun env ah => (a env ah).bind fun x => (b env x.2).bind fun y => (o x.1 y.1 y.2).bind fun z => okO (asB z.1) fun k => match k with
  | true => (c env z.2).bind fun w => (o' y.1 w.1 w.2).bind fun z => okO (asB z.1) fun k => match k with
    | true => (d env z.2).bind fun u => o'' w.1 u.1 u.2
    | false => .ok (.bl false, z.2)
  | false => .ok (.bl false, z.2)
section
variable {X : Cx} {E : XW} {a b c d : Expr} {Fa Fb Fc Fd : FV} {pos : Pos} {op op' op'' : CmpOp} {o o' o'' : O2}
theorem fch3 (h : Cmp X E op o) (h' : Cmp X E op' o') (h'' : Cmp X E op'' o'') (ha : FE X E a Fa) (hb : FE X E b Fb) (hc : FE X E c Fc) (hd : FE X E d Fd) (hm : lastMarks [op, op', op''] [b, c, d] = false := by with_unfolding_all rfl) :
    FE X E (.Compare a [op, op', op''] [b, c, d] pos) (eCh3 o o' o'' Fa Fb Fc Fd) := by
  obtain ⟨r, h1, h2⟩ := h.to
  obtain ⟨r', h1', h2'⟩ := h'.to
  obtain ⟨r'', h1'', h2''⟩ := h''.to
  refine ⟨fun pins s σ H Q I h => ?_⟩
  obtain ⟨ι, env, ah, a, p⟩ := h
  refine Compare_chain (thn (ha.run pins s σ H (fun x H1 => TF X.K X.mg E Fb σ H1 fun y H2 => r x y H2 fun z H3 => ∃ k, z = .bl k ∧ if k = true then TF X.K X.mg E Fc σ H3 (fun w H4 => r' y w H4 fun z H5 => ∃ k, z = .bl k ∧ if k = true then TF X.K X.mg E Fd σ H5 (fun u H6 => r'' w u H6 Q) else Q (.bl false) H5) else Q (.bl false) H3) I ?_) fun v s1 ⟨x, H1, I1, r1, q1⟩ => ?_) hm
  · refine ⟨ι, env, ah, a, Po.first p fun d ah1 ι1 H1 v _ s S rv q => ?_⟩
    refine ⟨ι1, env, ah1, a.step s S, Po.first q fun c ah2 ι2 H2 u _ t T ru q2 => ?_⟩
    refine h2 ι2 H2 ah2 d v c u _ T (t.rep d rv) ru (Po.first q2 fun e ah3 ι3 H3 w _ t3 T3 rw' q3 => ?_)
    obtain ⟨k, hk, q3⟩ := q3.okO
    have rw' : Rep X.K X.mg ι3 H3 e w := rw'
    rw [asB_eq (show asB e = some k from hk)] at rw'
    refine ⟨k, rep_bl rw', ?_⟩
    cases k with
    | false => exact iteF (Po.here q3 T3 of_bl)
    | true =>
      refine iteT ⟨ι3, env, ah3, ((a.step s S).step t T).step t3 T3, Po.first q3 fun f ah4 ι4 H4 x _ t4 T4 rx q4 => ?_⟩
      refine h2' ι4 H4 ah4 c u f x _ T4 ((t3.trans t4).rep c ru) rx (Po.first q4 fun e ah5 ι5 H5 w _ t5 T5 rw5 q5 => ?_)
      obtain ⟨k, hk, q5⟩ := q5.okO
      have rw5 : Rep X.K X.mg ι5 H5 e w := rw5
      rw [asB_eq (show asB e = some k from hk)] at rw5
      refine ⟨k, rep_bl rw5, ?_⟩
      cases k with
      | false => exact iteF (Po.here q5 T5 of_bl)
      | true =>
        refine iteT ⟨ι5, env, ah5, ((((a.step s S).step t T).step t3 T3).step t4 T4).step t5 T5, Po.first q5 fun g ah6 ι6 H6 y _ t6 T6 ry q6 => ?_⟩
        exact h2'' ι6 H6 ah6 f x g y _ T6 ((t5.trans t6).rep f rx) ry q6
  refine chain_link (thn (hb.run pins s1 σ H1 _ I1 q1) fun u s2 ⟨y, H2, I2, r2, q2⟩ => thn (h1 pins s2 σ H2 x y v u _ I2 r1 r2 q2) fun d s3 ⟨z, H3, I3, r3, k, e, q3⟩ => ?_)
  subst e
  cases r3
  refine wpAny_truthy_bool ?_
  cases k with
  | false => exact ite_ff ⟨.bl false, H3, I3, rfl, q3⟩
  | true =>
    refine ite_tt ?_
    refine chain_link (thn (hc.run pins s3 σ H3 _ I3 q3) fun w' s4 ⟨z', H4, I4, r4, q4⟩ => thn (h1' pins s4 σ H4 y z' u w' _ I4 r2 r4 q4) fun d s5 ⟨z, H5, I5, r5, k, e, q5⟩ => ?_)
    subst e
    cases r5
    refine wpAny_truthy_bool ?_
    cases k with
    | false => exact ite_ff ⟨.bl false, H5, I5, rfl, q5⟩
    | true => exact ite_tt (chain_last (thn (hd.run pins s5 σ H5 _ I5 q5) fun g s6 ⟨z6, H6, I6, r6, q6⟩ => h1'' pins s6 σ H6 z' z6 w' g Q I6 r4 r6 q6))
end

/-! ### isinstance -/
inductive Ty where
  | non | bool | int | str | tuple | list | dict
  deriving DecidableEq
def Ty.nm : Ty → String
  | .non => "NoneType" | .bool => "bool" | .int => "int" | .str => "str" | .tuple => "tuple" | .list => "list" | .dict => "dict"
def Ty.is (a b : Ty) : Bool := match a, b with
  | .bool, .int => true
  | a, b => decide (a = b)
theorem kit_nm (a b : Ty) : kitB a.nm b.nm = some (a.is b) := by
  cases a <;> cases b <;> decide +kernel
def tyD (ah : AH) : D → Option Ty
  | .non => some .non
  | .bl _ => some .bool
  | .int _ => some .int
  | .str _ => some .str
  | .tup _ => some .tuple
  | .lst _ => some .list
  | .dic _ _ => some .dict
  | .ref n => match ah[n]? with
    | some (.lst _) => some .list
    | some (.dic _ _) => some .dict
    | _ => none
  | _ => none
def oIsi (t : Ty) : O1 := fun x ah => okO (tyD ah x) fun y => .ok (.bl (y.is t), ah)
section
variable {K : PySem.W.Frag} {mg : Str → Option Value} {E : XW} {ι : Io} {H : Hp} {ah : AH} {d : D} {v : V}
theorem tyx_dic {b : Bool} {ks : List DKey} {ws : List V} {o : HO} {a : Addr} (h : dicO b ks ws o) (r : Rd H a o) (hz : b = false ∨ H a = some o) : TyX K H (.ref a) (.type "dict") := by
  cases b with
  | false =>
    obtain ⟨kk, _, rfl⟩ := h
    rcases r with r | ⟨q, r⟩
    · exact .base (.dK r)
    · exact .fDict r
  | true =>
    obtain ⟨kk, _, rfl⟩ := h
    rcases hz with z | z
    · cases z
    · exact .base (.dT z)
theorem tyD_rep (S : SimH K mg ι H ah) (r : Rep K mg ι H d v) {t : Ty} (h : tyD ah d = some t) (hd : ∀ kvs, d ≠ .dic true kvs) : TyX K H v (.type t.nm) := by
  cases d with
  | non => cases h; rw [rep_non r]; exact .base .non
  | bl b => cases h; rw [rep_bl r]; exact .base (.bl b)
  | int i => cases h; rw [rep_int r]; exact .base (.int i)
  | str x => cases h; rw [rep_str r]; exact .base (.str x)
  | tup xs =>
    cases h
    unfold Rep at r
    obtain ⟨a, vs, rfl, f, _⟩ := r
    rcases f.sq with f | ⟨o, its, n, q, c, _⟩
    · rcases f with f | ⟨o, f⟩
      · exact .base (.tup f)
      · exact .fTuple f
    · exact .kTuple q c
  | lst xs =>
    cases h
    unfold Rep at r
    obtain ⟨a, vs, rfl, f, _⟩ := r
    rcases f.rd with (f | ⟨o, f⟩) | ⟨its, n, q, _⟩
    · exact .base (.lst f)
    · exact .base (.frz f)
    · exact .kList q rfl
  | dic t kvs =>
    cases h
    unfold Rep at r
    obtain ⟨a, ws, o, rfl, _, x, y, z⟩ := r
    refine tyx_dic x y ?_
    cases t with
    | false => exact .inl rfl
    | true => exact absurd rfl (hd kvs)
  | ref n =>
    obtain ⟨a, rfl, g⟩ := rep_ref r
    unfold tyD at h
    simp only at h
    split at h
    · rename_i xs hx
      cases h
      obtain ⟨vs, e1, _⟩ := S.cell n _ a hx g
      exact .base (.lst e1)
    · rename_i t kvs hx
      cases h
      obtain ⟨ws, o, e1, e2, _⟩ := S.cell n _ a hx g
      exact tyx_dic e2 (.inl e1) (.inr e1)
    · cases h
  | _ => cases h
end
/-- isinstance(x, T) -/
def eIsi (t : Ty) (a : FV) : FV := fun env ah => (a env ah).bind fun z => match z.1 with
  | .dic true _ => .stk
  | d => oIsi t d z.2
section
variable {X : Cx} {E : XW} {a : Expr} {Fa : FV} {pos p p2 : Pos}
theorem fisi (t : Ty) {T : Str} (hm : X.mg "isinstance" = none) (hT : X.mg T = none) (ha : FE X E a Fa) (hv : bootBuiltins T = some (.type t.nm)) (hg : Gl X "isinstance" := by rfl) (hgT : Gl X T := by rfl)
    (hn : T ≠ "__name__" := by decide) (hdT : (T == ("__debug__" : Str)) = false := by decide)
    (hp : Pl X a [.Name T p2] pos := by exact ⟨rfl, rfl⟩) (hs : starEach [a, .Name T p2] X.env = (false, eval a X.env) :: starEach [.Name T p2] X.env := by rfl) (hs2 : starEach [.Name T p2] X.env = (false, eval (.Name T p2) X.env) :: starEach [] X.env := by rfl) :
    FE X E (.Call (.Name "isinstance" p) [a, .Name T p2] [] pos) (eIsi t Fa) := by
  refine PE.mono (pe_callB call_isi hg hm (by decide +kernel) (pa_cons ha (pa_cons (pe_bltn hgT hT hv (show RelV (.ty t.nm) (.type t.nm) from rfl) hn hdT) pa_nil hs2) hs) (by decide) (by decide) hp.he hp.hpl) fun σ H Q h => ?_
  obtain ⟨ι, env, ah, a, p⟩ := h
  refine ⟨ι, env, ah, a, Po.first p fun d ah1 ι1 H1 v _ s S rv q => ?_⟩
  have fin : (∀ kvs, d ≠ .dic true kvs) → Po X.K X.mg E (RvD X.K X.mg) ι1 H1 (oIsi t d ah1) Q → rIsi X.K [v, .ty t.nm] H1 Q := fun hd q => by
    unfold oIsi at q
    obtain ⟨y, hy, q⟩ := q.okO
    exact ⟨v, .ty t.nm, _, _, _, rfl, .ty _, tyD_rep S rv hy hd, kit_ty (kit_nm y t), q.here S of_bl⟩
  show rIsi X.K [v, .ty t.nm] H1 Q
  revert q
  cases d with
  | dic b kvs =>
    cases b with
    | true => exact fun q => q.elim
    | false => exact fun q => fin (fun _ z => by cases z) q
  | _ => exact fun q => fin (fun _ z => by cases z) q
end
end Fx

/-! ===== Fx9 -/
set_option Elab.async false
set_option linter.all false
set_option maxRecDepth 100000
set_option maxHeartbeats 4000000
namespace Fx
open PySem PySem.Spec PyProof.Rows L2

/-! ### an item of a list, a tuple, a text, a dict -/
def rIxD : R2 := fun x y H Q => ∃ a v, x = .ref a ∧ DGet H a y (some v) ∧ Q v H
theorem ix_dict {X : Cx} (hu : X.A.units + 1 < cLine) : IxR X rIxD := by
  intro value slice pins s σ H x y v u Q I rx ry h hs
  obtain ⟨a, w, rfl, g, q⟩ := h
  cases (show v = Value.ref a from rx)
  have hT := dict_typeIs I g
  have fin : wpAny (model X.prog X.w) X.A (subscripted slice false (Value.ref a) u) (fun r s₃ => wpAny (model X.prog X.w) X.A (letTemporaryGo value (Value.ref a) r >>= fun _ => pure r) (EP X pins σ Q) X.xe s₃) X.xe s := by
    rw [hs]
    exact wpAny_operating (wpAny_mono (d_getItem hu I g ry fun w' s3 I3 rw' => (⟨w, H, I3, rw', q⟩ : EP X pins σ Q w' s3)) (fun r s₃ h₃ => wpAny_bind (wpAny_letTemporaryGo (wpAny_pure h₃))) fun _ _ x => x)
  unfold subscriptTail
  refine wpAny_bind ?_
  rw [getitemInPython_of_ne hT.not_modules]
  refine wpAny_bind (wpAny_specialOf hT PySem.F.slot_dict_getitem.lookup ?_)
  first
    | exact wpAny_pure (wpAny_bind fin)
    | exact wpAny_bind (wpAny_pure (wpAny_bind fin))
    | exact wpAny_bind fin
def oIxA : O2 := fun x y ah => match asD ah x with
  | some (t, kvs) => okO (keyOf y) fun k => okB (!t && keyFits t k) (okO (dLook kvs k) fun d => .ok (d, ah))
  | none => oIx x y ah
theorem flat_key {c : D} {t : Bool} {x : DKey} (h : (!t && keyFits t x) = true) : t = false ∧ ∃ k, toK x = some k := by
  cases t with
  | true => cases h
  | false => cases x <;> first | exact ⟨rfl, _, rfl⟩ | cases h
theorem ok_ixA {K : PySem.W.Frag} {mg : Str → Option Value} {E : XW} : OK2 K mg E (fun x y H Q => rIx K x y H Q ∨ rIxD x y H Q) oIxA := fun ι H ah d v c u Q S rv ru p => by
  unfold oIxA at p
  split at p
  · rename_i t kvs hx
    obtain ⟨k, hk, p⟩ := p.okO
    obtain ⟨hf, p1⟩ := p.okB
    obtain ⟨z, hz, p2⟩ := p1.okO
    obtain ⟨rfl, k', hk'⟩ := flat_key (c := c) hf
    obtain ⟨a, o, e, g, rl, _⟩ := dget_rep S rv hx ru hk hk'
    rw [hz] at rl
    cases o with
    | none => exact rl.elim
    | some w => exact .inr ⟨a, w, e, g, p2.here S rl⟩
  · exact .inl (ok_ix ι H ah d v c u Q S rv ru p)
theorem ixr_or {X : Cx} {r r' : R2} (h : IxR X r) (h' : IxR X r') : IxR X (fun x y H Q => r x y H Q ∨ r' x y H Q) := IxR.or h h'
theorem fixA {X : Cx} {E : XW} {a b : Expr} {Fa Fb : FV} {pos : Pos} (hu : X.A.units + 64 < cLine) (ha : FE X E a Fa) (hb : FE X E b Fb) (hs : PlainIx b := by exact fun _ _ => rfl) : FE X E (.Subscript a b pos) (e2 oIxA Fa Fb) :=
  PE.mono (pe_ix (ixr_or ix_seq (ix_dict (by omega))) ha hb hs) fun _ _ _ h => tf2 ok_ixA h

/-! ### stores -/
def dPut (kvs : List (DKey × D)) (k : DKey) (d : D) : List (DKey × D) := if (kvs.any fun p => decide (p.1 = k)) = true then kvs.map (fun p => if p.1 = k then (p.1, d) else p) else kvs ++ [(k, d)]
section
variable {K : PySem.W.Frag} {mg : Str → Option Value} {E : XW} {ι ι' : Io} {H H' : Hp} {ah : AH} {d : D} {ds : List D} {v : V} {vs : List V}
theorem any_zip {κ : Type} [DecidableEq κ] {tk : DKey → Option κ} (inj : ∀ a b k, tk a = some k → tk b = some k → a = b) {x : DKey} {k : κ} (hk : tk x = some k) :
    ∀ {kvs : List (DKey × D)} {kk : List κ} {ws : List V}, (kvs.map (·.1)).map tk = kk.map some → RepV K mg ι H kvs ws → (kvs.any fun p => decide (p.1 = x)) = ((kk.zip ws).any fun kv => decide (kv.1 = k))
  | [], kk, ws, e, r => by rw [repV_nil r, List.zip_nil_right]; rfl
  | (y, d) :: kvs, kk, ws, e, r => by
    obtain ⟨v, s, rfl, p, q⟩ := repV_cons r
    cases kk with
    | nil => simp at e
    | cons k' kk =>
      simp only [List.map_cons, List.cons.injEq] at e
      rw [List.zip_cons_cons, List.any_cons, List.any_cons, any_zip inj hk e.2 q]
      congr 1
      by_cases h : y = x
      · subst h
        rw [e.1] at hk
        cases hk
        simp
      · have : ¬ k' = k := by rintro rfl; exact h (inj _ _ _ e.1 hk)
        simp [h, this]
theorem map_zip {κ : Type} [DecidableEq κ] {tk : DKey → Option κ} (inj : ∀ a b k, tk a = some k → tk b = some k → a = b) {x : DKey} {k : κ} (hk : tk x = some k) {d' : D} {v' : V} (rd : Rep K mg ι H d' v') :
    ∀ {kvs : List (DKey × D)} {kk : List κ} {ws : List V}, (kvs.map (·.1)).map tk = kk.map some → RepV K mg ι H kvs ws →
      ∃ ws', RepV K mg ι H (kvs.map (fun p => if p.1 = x then (p.1, d') else p)) ws' ∧ ((kvs.map (fun p => if p.1 = x then (p.1, d') else p)).map (·.1)) = kvs.map (·.1) ∧ (kk.zip ws).map (fun kv => if kv.1 = k then (kv.1, v') else kv) = kk.zip ws'
  | [], kk, ws, e, r => by
    rw [repV_nil r]
    exact ⟨[], of_vnil, rfl, by simp⟩
  | (y, d) :: kvs, kk, ws, e, r => by
    obtain ⟨v, s, rfl, p, q⟩ := repV_cons r
    cases kk with
    | nil => simp at e
    | cons k' kk =>
      simp only [List.map_cons, List.cons.injEq] at e
      obtain ⟨ws', h1, h2, h3⟩ := map_zip inj hk rd e.2 q
      by_cases h : y = x
      · subst h
        rw [e.1] at hk
        cases hk
        refine ⟨v' :: ws', ?_, ?_, ?_⟩
        · rw [List.map_cons, if_pos rfl]; exact of_vcons rd h1
        · rw [List.map_cons, if_pos rfl, List.map_cons, h2]; rfl
        · rw [List.zip_cons_cons, List.map_cons, if_pos rfl, h3]; rfl
      · have hn : ¬ k' = k := by rintro rfl; exact h (inj _ _ _ e.1 hk)
        refine ⟨v :: ws', ?_, ?_, ?_⟩
        · rw [List.map_cons, if_neg h]; exact of_vcons p h1
        · rw [List.map_cons, if_neg h, List.map_cons, h2]; rfl
        · rw [List.zip_cons_cons, List.map_cons, if_neg hn, h3]; rfl
theorem repV_snoc {x : DKey} (rd : Rep K mg ι H d v) : ∀ {kvs : List (DKey × D)} {ws : List V}, RepV K mg ι H kvs ws → RepV K mg ι H (kvs ++ [(x, d)]) (ws ++ [v])
  | [], _, r => by rw [repV_nil r]; exact of_vcons rd of_vnil
  | (_, _) :: _, _, r => by
    obtain ⟨v, s, rfl, p, q⟩ := repV_cons r
    exact of_vcons p (repV_snoc rd q)
theorem put_zip {κ : Type} [DecidableEq κ] {tk : DKey → Option κ} (inj : ∀ a b k, tk a = some k → tk b = some k → a = b) {x : DKey} {k : κ} (hk : tk x = some k) (rd : Rep K mg ι H d v)
    {kvs : List (DKey × D)} {kk : List κ} {ws : List V} (e : (kvs.map (·.1)).map tk = kk.map some) (r : RepV K mg ι H kvs ws) :
      ∃ (kk' : List κ) (ws' : List V), ((dPut kvs x d).map (·.1)).map tk = kk'.map some ∧ RepV K mg ι H (dPut kvs x d) ws' ∧ putK (kk.zip ws) k v = kk'.zip ws' := by
  unfold dPut putK
  rw [any_zip inj hk e r]
  by_cases h : ((kk.zip ws).any fun kv => decide (kv.1 = k)) = true
  · rw [if_pos h, if_pos h]
    obtain ⟨ws', h1, h2, h3⟩ := map_zip inj hk rd e r
    exact ⟨kk, ws', by rw [h2]; exact e, h1, h3⟩
  · rw [if_neg h, if_neg h]
    have hl : kk.length = ws.length := by
      have := congrArg List.length e
      simp only [List.length_map] at this
      rw [repV_len r, ← this]
    refine ⟨kk ++ [k], ws ++ [v], by simp [hk]; simpa using e, repV_snoc rd r, ?_⟩
    rw [List.zip_append hl]; rfl
end
abbrev RvU : Io → Hp → Unit → Unit → Prop := fun _ _ _ _ => True
abbrev O3 := D → D → D → AH → R (Unit × AH)
def OKS (K : PySem.W.Frag) (mg : Str → Option Value) (E : XW) (r : TSet) (o : O3) : Prop :=
  ∀ ι H ah d v c u e w Q, SimH K mg ι H ah → Rep K mg ι H d v → Rep K mg ι H c u → Rep K mg ι H e w → Po K mg E RvU ι H (o d c e ah) (fun _ H' => Q H') → r v u w H Q
def oPut : O3 := fun d c e ah => match d with
  | .ref n => match ah[n]? with
    | some (.lst xs) => okO (asI c) fun k => okO (ixN xs.length k) fun j => .ok ((), ah.set n (.lst (xs.set j e)))
    | some (.dic false kvs) => okO (keyOf c) fun k => okB (keyFits false k && lenOk (kvs.length + 1)) (.ok ((), ah.set n (.dic false (dPut kvs k e))))
    | _ => .stk
  | _ => .stk
section
variable {K : PySem.W.Frag} {mg : Str → Option Value} {E : XW} {ι ι' : Io} {H H' : Hp} {ah : AH} {d e : D} {ds : List D} {v w : V} {vs : List V}
/-- a cell's new content -/
theorem SimH.put {n : Nat} {a : Addr} {o : HO} {c : Cell} (S : SimH K mg ι H ah) (g : ι.c[n]? = some a) (h : ∀ {ι' : Io} {H' : Hp}, Step ι H ι' H' → H' a = some o → CRep K mg ι' H' a c) : Step ι H ι (upd H a o) ∧ SimH K mg ι (upd H a o) (ah.set n c) := by
  have st : Step ι H ι (upd H a o) := Step.put (List.mem_of_getElem? g) (S.there (List.mem_of_getElem? g))
  exact S.cellPut g (h st upd_same)
theorem ok_put : OKS K mg E (fun o i v H Q => rSetL o i v H Q ∨ rSetD o i v H Q) oPut := fun ι H ah d v c u e w Q S rd rc re p => by
  unfold oPut at p
  split at p
  · rename_i n
    obtain ⟨a, rfl, g⟩ := rep_ref rd
    split at p
    · rename_i xs hx
      obtain ⟨k, hk, p⟩ := p.okO
      obtain ⟨j, hj, p⟩ := p.okO
      obtain ⟨vs, e1, e2⟩ := S.cell n _ a hx g
      rw [asI_eq hk] at rc
      refine .inl ⟨a, vs, k, j, rfl, rep_int rc, e1, by rw [reps_len e2]; exact hj, ?_⟩
      obtain ⟨st, S'⟩ := S.put (o := .lst (vs.set j w)) (c := .lst (xs.set j e)) g fun {ι' H'} t q => ⟨_, q, reps_set (i := j) (t.reps xs e2) (t.rep e re)⟩
      exact p ι _ () st S' True.intro
    · rename_i kvs hx
      obtain ⟨k, hk, p⟩ := p.okO
      obtain ⟨hf, p⟩ := p.okB
      rw [Bool.and_eq_true] at hf
      obtain ⟨ws, o, e1, ⟨kk, e2, rfl⟩, e3⟩ := S.cell n _ a hx g
      obtain ⟨_, k', hk'⟩ := flat_key (c := c) (t := false) (x := k) (by simpa using hf.1)
      have hu : u = kV k' := by
        rcases key_rep rc hk with ⟨k2, a1, a2⟩ | ⟨ks, b, a1, _⟩
        · rw [hk'] at a1; cases a1; exact a2
        · cases k <;> first | (cases a1; done) | (cases hk'; done)
      subst hu
      have hl : (kk.zip ws).length < sizeLine := by
        have h1 := lenOk_le hf.2
        have h2 := repV_len e3
        rw [List.length_zip]
        have := Nat.min_le_right kk.length ws.length
        omega
      refine .inr ⟨a, _, rfl, .inl ⟨_, k', e1, rfl, hl, rfl⟩, ?_⟩
      obtain ⟨kk', ws', f1, f2, f3⟩ := put_zip toK_inj hk' re e2 e3
      obtain ⟨st, S'⟩ := S.put (o := .dK (putK (kk.zip ws) k' w)) (c := .dic false (dPut kvs k e)) g fun {ι' H'} t q => ⟨ws', _, q, ⟨kk', f1, by rw [f3]⟩, t.repV _ f2⟩
      exact p ι _ () st S' True.intro
    · exact p.elim
  · exact p.elim
end
/-- o[i] as a target -/
def gIx (o i : FV) : FG0 := fun d env ah => (o env ah).bind fun x => (i env x.2).bind fun y => (oPut x.1 y.1 d y.2).bind fun z => .ok (env, z.2)
section
variable {X : Cx} {E : XW} {o i : Expr} {Fo Fi : FV} {pos : Pos}
theorem Po.firstG' {α β : Type} {K : PySem.W.Frag} {mg : Str → Option Value} {E : XW} {Sl : List Nat} {σ : L2.St} {ι : Io} {H : Hp} {Rv : Io → Hp → α → β → Prop} {r : R (α × AH)} {k : α × AH → R (Env × AH)} {Q : L2.St → Hp → Prop} {Q' : β → Hp → Prop}
    (p : PoG K mg E Sl σ ι H (r.bind k) Q)
    (h : ∀ d ah1 ι1 H1 v, Step ι H ι1 H1 → SimH K mg ι1 H1 ah1 → Rv ι1 H1 d v → PoG K mg E Sl σ ι1 H1 (k (d, ah1)) Q → Q' v H1) : Po K mg E Rv ι H r Q' :=
  Po.firstG p fun d ah1 ι1 H1 v _ s S rv q => h d ah1 ι1 H1 v s S rv q
theorem gix (hu : X.A.units + 64 < cLine) (ho : FE X E o Fo) (hi : FE X E i Fi)
    (ha : ∀ v, assign (.Subscript o i pos) X.env v = (do
      let ov ← holding [v] (eval o X.env)
      let iv ← holding [v, ov] (eval i X.env)
      standAt pos
      holding [v, ov, iv] (setItem ov iv v)
      release [v, ov, iv] []) := by intro _; rfl) : FG X E (.Subscript o i pos) [] (gIx Fo Fi) := PG.mono (pg_sub ho hi (PSet.or set_list (set_dict (by omega))) ha) fun v σ H Q h => by
  obtain ⟨ι, env, ah, d, a, rd, p⟩ := h
  refine ⟨ι, env, ah, a, Po.firstG p fun x ah1 ι1 H1 vx _ s S rx q => ?_⟩
  refine ⟨ι1, env, ah1, a.step s S, Po.firstG q fun y ah2 ι2 H2 vy _ s2 S2 ry q2 => ?_⟩
  refine ok_put (E := E) ι2 H2 ah2 x vx y vy d v _ S2 (s2.rep x rx) ry ((s.trans s2).rep d rd) (Po.firstG q2 fun _ ah3 ι3 H3 _ _ s3 S3 _ q3 => ?_)
  exact q3 ι3 σ H3 Step.refl (((a.step s S).step s2 S2).step s3 S3) Sam.refl
end

/-! ### methods of lists -/
abbrev OM := D → List D → AH → R (D × AH)
def OKM (K : PySem.W.Frag) (mg : Str → Option Value) (E : XW) (r : V → List V → Hp → VK → Prop) (o : OM) : Prop :=
  ∀ ι H ah d v ds vs Q, SimH K mg ι H ah → Rep K mg ι H d v → Reps K mg ι H ds vs → Po K mg E (RvD K mg) ι H (o d ds ah) Q → r v vs H Q
def isLc (ah : AH) : D → Bool
  | .ref n => match ah[n]? with
    | some (.lst _) => true
    | _ => false
  | _ => false
def eLm (o : OM) (a : FV) (l : FL) : FV := fun env ah => (a env ah).bind fun x => okB (isLc x.2 x.1) ((l env x.2).bind fun y => o x.1 y.1 y.2)
def lcSet (d : D) (ah : AH) (f : List D → Option (D × List D)) : R (D × AH) := match d with
  | .ref n => match ah[n]? with
    | some (.lst xs) => okO (f xs) fun z => .ok (z.1, ah.set n (.lst z.2))
    | _ => .stk
  | _ => .stk
def mApp : OM := fun d ds ah => match ds with
  | [y] => lcSet d ah fun xs => if lenOk (xs.length + 1) = true then some (.non, xs ++ [y]) else none
  | _ => .stk
def mPop : OM := fun d ds ah => match ds with
  | [] => lcSet d ah fun xs => (xs[xs.length - 1]?).map fun y => (y, xs.dropLast)
  | [.int i] => if b62 i = true then lcSet d ah fun xs => (seqIndex? i xs.length).bind fun k => (xs[k]?).map fun y => (y, xs.eraseIdx k) else .stk
  | _ => .stk
def mClear : OM := fun d ds ah => match ds with
  | [] => lcSet d ah fun xs => some (.non, [])
  | _ => .stk
section
variable {K : PySem.W.Frag} {mg : Str → Option Value} {E : XW} {ι ι' : Io} {H H' : Hp} {ah : AH} {d e : D} {ds : List D} {v w : V} {vs : List V}
theorem isLc_ty (S : SimH K mg ι H ah) (r : Rep K mg ι H d v) (h : isLc ah d = true) : tyV K "list" v H := by
  unfold isLc at h
  split at h
  · rename_i n
    obtain ⟨a, rfl, g⟩ := rep_ref r
    split at h
    · rename_i xs hx
      obtain ⟨vs, e1, _⟩ := S.cell n _ a hx g
      exact .inl ⟨rfl, vs, .inl (.inl e1)⟩
    · cases h
  · cases h
theorem lcSet_ok {f : List D → Option (D × List D)} {Q : VK} (S : SimH K mg ι H ah) (r : Rep K mg ι H d v) (p : Po K mg E (RvD K mg) ι H (lcSet d ah f) Q) :
    ∃ l vs xs z, v = .ref l ∧ H l = some (.lst vs) ∧ Reps K mg ι H xs vs ∧ f xs = some z ∧ ∀ u vs', Reps K mg ι H z.2 vs' → Rep K mg ι H z.1 u → Q u (upd H l (.lst vs')) := by
  unfold lcSet at p
  split at p
  · rename_i n
    obtain ⟨a, rfl, g⟩ := rep_ref r
    split at p
    · rename_i xs hx
      obtain ⟨z, hz, p⟩ := p.okO
      obtain ⟨vs, e1, e2⟩ := S.cell n _ a hx g
      refine ⟨a, vs, xs, z, rfl, e1, e2, hz, fun u vs' r1 r2 => ?_⟩
      obtain ⟨st, S'⟩ := S.put (o := .lst vs') (c := .lst z.2) g fun {ι' H'} t q => ⟨_, q, t.reps _ r1⟩
      exact p ι _ u st S' (st.rep _ r2)
    · exact p.elim
  · exact p.elim
theorem reps_dropLast : ∀ {ds : List D} {vs : List V}, Reps K mg ι H ds vs → Reps K mg ι H ds.dropLast vs.dropLast
  | [], _, r => by rw [reps_nil r]; exact of_nil
  | [d], _, r => by
    obtain ⟨v, s, rfl, p, q⟩ := reps_cons r
    rw [reps_nil q]; exact of_nil
  | d :: e :: ds, _, r => by
    obtain ⟨v, s, rfl, p, q⟩ := reps_cons r
    obtain ⟨v2, s2, rfl, p2, q2⟩ := reps_cons q
    exact of_cons p (reps_dropLast q)
theorem ok_app : OKM K mg E rAppend mApp := fun ι H ah d v ds vs Q S r rs p => by
  unfold mApp at p
  split at p
  · rename_i y
    obtain ⟨u, s, rfl, p1, p2⟩ := reps_cons rs
    rw [reps_nil p2]
    obtain ⟨l, zs, xs, z, rfl, e1, e2, hz, fin⟩ := lcSet_ok S r p
    by_cases hl : lenOk (xs.length + 1) = true
    · rw [if_pos hl] at hz
      cases hz
      have := lenOk_le hl
      exact ⟨l, zs, u, rfl, rfl, e1, by rw [reps_len e2]; omega, fin _ _ (e2.snoc p1) of_non⟩
    · rw [if_neg hl] at hz; cases hz
  · exact p.elim
theorem ok_pop : OKM K mg E (fun x xs H Q => rPop x xs H Q ∨ rPopAt x xs H Q) mPop := fun ι H ah d v ds vs Q S r rs p => by
  unfold mPop at p
  split at p
  · rw [reps_nil rs]
    obtain ⟨l, zs, xs, z, rfl, e1, e2, hz, fin⟩ := lcSet_ok S r p
    obtain ⟨y, hy, hz⟩ := Option.map_eq_some_iff.mp hz
    subst hz
    obtain ⟨u, hu, ru⟩ := reps_get e2 hy
    exact .inl ⟨l, zs, u, rfl, rfl, e1, by rw [reps_len e2]; exact hu, fin _ _ (reps_dropLast e2) ru⟩
  · rename_i i
    obtain ⟨u, s, rfl, p1, p2⟩ := reps_cons rs
    rw [reps_nil p2, rep_int p1]
    by_cases hb : b62 i = true
    · rw [if_pos hb] at p
      obtain ⟨l, zs, xs, z, rfl, e1, e2, hz, fin⟩ := lcSet_ok S r p
      obtain ⟨k, hk, hz⟩ := Option.bind_eq_some_iff.mp hz
      obtain ⟨y, hy, hz⟩ := Option.map_eq_some_iff.mp hz
      subst hz
      obtain ⟨u, hu, ru⟩ := reps_get e2 hy
      unfold b62 at hb
      rw [Bool.and_eq_true, decide_eq_true_eq, decide_eq_true_eq] at hb
      exact .inr ⟨l, zs, i, k, u, rfl, rfl, e1, by omega, by omega, by rw [reps_len e2]; exact hk, hu, fin _ _ (reps_erase k e2) ru⟩
    · rw [if_neg hb] at p; exact p.elim
  · exact p.elim
theorem ok_clear : OKM K mg E rClear mClear := fun ι H ah d v ds vs Q S r rs p => by
  unfold mClear at p
  split at p
  · rw [reps_nil rs]
    obtain ⟨l, zs, xs, z, rfl, e1, e2, hz, fin⟩ := lcSet_ok S r p
    cases hz
    exact ⟨l, zs, rfl, rfl, e1, fin _ _ of_nil of_non⟩
  · exact p.elim
end
/-- what must be seen of the text of a call o.m(e, ..) -/
structure MOk (X : Cx) (o : Expr) (m : Str) (apos : Pos) (e : Expr) (es : List Expr) (cpos : Pos) : Prop where
  base : attributeBase o m X.env (eval o X.env) = eval o X.env
  few : ((backTo cpos (starEach (e :: es) X.env)).all (fun x => !x.1) && (backToKw cpos (keywordEach [] X.env)).all (fun x => x.1.isSome)
      && decide ((e :: es).length + ([] : List Keyword).length + (if ([] : List Keyword).isEmpty then 0 else 1) < 30)) = true
  line : (apos.endLine == cpos.line) = true
  star : starEach (e :: es) X.env = (false, eval e X.env) :: starEach es X.env
  plain : (backTo cpos (starEach es X.env)).any (·.1) = false
section
variable {X : Cx} {E : XW} {o e : Expr} {es : List Expr} {Fo : FV} {Fl : FL} {apos cpos : Pos} {m : Str} {id : String} {r : V → List V → Hp → VK → Prop} {om : OM}
theorem fbm (slot : Slot "list" m id) (hty : typeOf (.builtin id) = pure (.type "method_descriptor")) (hm : MtR X id r) (hk : OKM X.K X.mg E r om) (ho : FE X E o Fo) (ha : FA X E (e :: es) Fl) (h : MOk X o m apos e es cpos) :
    FE X E (.Call (.Attribute o m apos) (e :: es) [] cpos) (eLm om Fo Fl) := PE.mono (pe_bm PySem.F.plainAttrs_list slot hty hm ho ha h.base h.few h.line h.star h.plain) fun σ H Q hw => by
  obtain ⟨ι, env, ah, a, p⟩ := hw
  refine ⟨ι, env, ah, a, Po.first p fun d ah1 ι1 H1 v _ s S rv q => ?_⟩
  obtain ⟨hl, q⟩ := q.okB
  refine ⟨isLc_ty S rv hl, ι1, env, ah1, a.step s S, Po.first q fun ds ah2 ι2 H2 vs _ s2 S2 rs q2 => ?_⟩
  exact hk ι2 H2 ah2 d v ds vs Q S2 (s2.rep d rv) rs q2
theorem fbm0 (slot : Slot "list" m id) (hty : typeOf (.builtin id) = pure (.type "method_descriptor")) (hm : MtR X id r) (hk : OKM X.K X.mg E r om) (ho : FE X E o Fo)
    (hb : attributeBase o m X.env (eval o X.env) = eval o X.env := by rfl) (hline : (apos.endLine == cpos.line) = true := by rfl) :
    FE X E (.Call (.Attribute o m apos) [] [] cpos) (eLm om Fo lNil) := PE.mono (pe_bm0 PySem.F.plainAttrs_list slot hty hm ho hb hline) fun σ H Q hw => by
  obtain ⟨ι, env, ah, a, p⟩ := hw
  refine ⟨ι, env, ah, a, Po.first p fun d ah1 ι1 H1 v _ s S rv q => ?_⟩
  obtain ⟨hl, q⟩ := q.okB
  exact ⟨isLc_ty S rv hl, hk ι1 H1 ah1 d v [] [] Q S rv of_nil q⟩
theorem fapp (ho : FE X E o Fo) (ha : FA X E [e] Fl) (h : MOk X o "append" apos e [] cpos := by exact ⟨rfl, rfl, rfl, rfl, rfl⟩) : FE X E (.Call (.Attribute o "append" apos) [e] [] cpos) (eLm mApp Fo Fl) := fbm PySem.F.slot_list_append PySem.F.type_list_append mt_append ok_app ho ha h
theorem fpop (ho : FE X E o Fo) (ha : FA X E [e] Fl) (h : MOk X o "pop" apos e [] cpos := by exact ⟨rfl, rfl, rfl, rfl, rfl⟩) : FE X E (.Call (.Attribute o "pop" apos) [e] [] cpos) (eLm mPop Fo Fl) := fbm PySem.F.slot_list_pop PySem.F.type_list_pop (MtR.or mt_pop mt_popAt) ok_pop ho ha h
theorem fpop0 (ho : FE X E o Fo) (hb : attributeBase o "pop" X.env (eval o X.env) = eval o X.env := by rfl) (hline : (apos.endLine == cpos.line) = true := by rfl) : FE X E (.Call (.Attribute o "pop" apos) [] [] cpos) (eLm mPop Fo lNil) := fbm0 PySem.F.slot_list_pop PySem.F.type_list_pop (MtR.or mt_pop mt_popAt) ok_pop ho hb hline
theorem fclear (ho : FE X E o Fo) (hb : attributeBase o "clear" X.env (eval o X.env) = eval o X.env := by rfl) (hline : (apos.endLine == cpos.line) = true := by rfl) : FE X E (.Call (.Attribute o "clear" apos) [] [] cpos) (eLm mClear Fo lNil) := fbm0 PySem.F.slot_list_clear PySem.F.type_list_clear mt_clear ok_clear ho hb hline
end
end Fx

/-! ===== Fx10 -/
set_option Elab.async false
set_option linter.all false
set_option maxRecDepth 100000
set_option maxHeartbeats 4000000
namespace Fx
open PySem PySem.Spec PyProof.Rows L2

/-! ### displays of dicts -/
def mkD (c t : Bool) (kvs : List (DKey × D)) (ah : AH) : R (D × AH) := match c with
  | false => .ok (.dic t kvs, ah)
  | true => .ok (.ref ah.length, ah ++ [.dic t kvs])
abbrev FPr := Env → AH → R (List (D × D) × AH)
def prF : List (FV × FV) → FPr
  | [] => fun _ ah => .ok ([], ah)
  | p :: r => fun env ah => (p.1 env ah).bind fun x => (p.2 env x.2).bind fun y => (prF r env y.2).bind fun z => .ok ((x.1, y.1) :: z.1, z.2)
def flatK : DKey → Bool
  | .t _ => false
  | _ => true
def kvO (l : List (D × D)) : Option (List (DKey × D)) := mapO (fun p : D × D => (keyOf p.1).bind fun k => if flatK k = true then some (k, p.2) else none) l
def eDsp (c : Bool) (l : List (FV × FV)) : FV := fun env ah => (prF l env ah).bind fun z => okO (kvO z.1) fun kvs => okB (Nat.ble kvs.length 15) (mkD c false (kvs.foldl (fun a p => dPut a p.1 p.2) []) z.2)
def eDn (c : Bool) : FV := fun _ ah => mkD c false [] ah
section
variable {K : PySem.W.Frag} {mg : Str → Option Value} {E : XW} {ι ι' : Io} {H H' : Hp} {ah : AH} {d e : D} {ds : List D} {v w : V} {vs : List V} {env : Env} {σ : L2.St}
/-- L, hidden, holds a dict: it comes into sight -/
theorem Po.mkDh {c t : Bool} {ι0 ι : Io} {H0 H : Hp} {ah : AH} {kvs : List (DKey × D)} {ws : List V} {o : HO} {L : Addr} {Q : VK} (p : Po K mg E (RvD K mg) ι0 H0 (mkD c t kvs ah) Q) (s : Step ι0 H0 ι H) (n : H0 L = none) (n0 : L ∉ ι0.h) (h : L ∈ ι.h) (S : SimH K mg ι H ah)
    (e : H L = some o) (hd : dicO t (kvs.map (·.1)) ws o) (r : RepV K mg ι H kvs ws) : Q (.ref L) H := by
  cases c with
  | false =>
    refine p (ι.unhide L) H (.ref L) (s.unhide n n0) S.unhide ?_
    show Rep K mg (ι.unhide L) H (.dic t kvs) (.ref L)
    unfold Rep
    exact ⟨L, ws, o, rfl, ⟨(S.hd L h).2, Io.unhide_not⟩, hd, .inl e, Lv.unhide.repV kvs r⟩
  | true =>
    refine p ((ι.unhide L).add L) H (.ref L) (s.uncell n n0) (S.uncell h ⟨ws, o, e, hd, r⟩) ?_
    show Rep K mg ((ι.unhide L).add L) H (.ref ah.length) (.ref L)
    unfold Rep
    exact ⟨L, rfl, uncell_get S⟩
theorem Po.mkD0 {c t : Bool} {kvs : List (DKey × D)} {ws : List V} {o : HO} {Q : VK} (p : Po K mg E (RvD K mg) ι H (mkD c t kvs ah) Q) (S : SimH K mg ι H ah) (hd : dicO t (kvs.map (·.1)) ws o) (r : RepV K mg ι H kvs ws) {L : Addr} (n : H L = none) : Q (.ref L) (upd H L o) :=
  p.mkDh (Step.hide n) n (S.out n).2 List.mem_cons_self (S.hide n) upd_same hd ((Step.hide n).repV kvs r)
theorem kv_merge {κs : List (DKey × D)} : ∀ {ks : List Key} {vs : List V} {kvs : List (DKey × D)} {kk : List Key} {ws : List V}, κs.map (fun p => toK p.1) = ks.map some → RepV K mg ι H κs vs → (kvs.map (·.1)).map toK = kk.map some → RepV K mg ι H kvs ws →
    ∃ (kk' : List Key) (ws' : List V), ((κs.foldl (fun a p => dPut a p.1 p.2) kvs).map (·.1)).map toK = kk'.map some ∧ RepV K mg ι H (κs.foldl (fun a p => dPut a p.1 p.2) kvs) ws' ∧ mergeK (kk.zip ws) (ks.zip vs) = kk'.zip ws' := by
  induction κs with
  | nil =>
    intro ks vs kvs kk ws e r e2 r2
    rw [repV_nil r, List.zip_nil_right]
    exact ⟨kk, ws, e2, r2, rfl⟩
  | cons p κs ih =>
    obtain ⟨x, d⟩ := p
    intro ks vs kvs kk ws e r e2 r2
    obtain ⟨v, s, rfl, p, q⟩ := repV_cons r
    cases ks with
    | nil => simp at e
    | cons k ks =>
      simp only [List.map_cons, List.cons.injEq] at e
      obtain ⟨kk', ws', f1, f2, f3⟩ := put_zip toK_inj e.1 p e2 r2
      obtain ⟨k3, w3, g1, g2, g3⟩ := ih e.2 q f1 f2
      refine ⟨k3, w3, g1, g2, ?_⟩
      rw [List.zip_cons_cons]
      show mergeK (putK (kk.zip ws) k v) (ks.zip s) = _
      rw [f3]
      exact g3
abbrev RvP (K : PySem.W.Frag) (mg : Str → Option Value) : Io → Hp → List (D × D) → List (V × V) → Prop := fun ι H ds ps => Reps K mg ι H (ds.map (·.1)) (ps.map (·.1)) ∧ Reps K mg ι H (ds.map (·.2)) (ps.map (·.2))
theorem tPairs_of : ∀ (l : List (FV × FV)) {ι : Io} {H : Hp} {ah : AH} {Q : List (V × V) → Hp → Prop}, At K mg env ah ι σ H → Po K mg E (RvP K mg) ι H (prF l env ah) Q → tPairs (l.map fun p => (TF K mg E p.1, TF K mg E p.2)) σ H Q
  | [], ι, H, ah, Q, a, p => p.here a.1 ⟨of_nil, of_nil⟩
  | p :: r, ι, H, ah, Q, a, h => by
    refine ⟨ι, env, ah, a, Po.first h fun d ah1 ι1 H1 v _ s S rv q => ?_⟩
    refine ⟨ι1, env, ah1, a.step s S, Po.first q fun d2 ah2 ι2 H2 v2 _ s2 S2 rv2 q2 => ?_⟩
    refine tPairs_of r ((a.step s S).step s2 S2) (Po.first q2 fun z ah3 ι3 H3 ps _ s3 S3 rz q3 => ?_)
    exact q3.here S3 ⟨of_cons ((s2.trans s3).rep d rv) rz.1, of_cons (s3.rep d2 rv2) rz.2⟩
theorem kvO_rep : ∀ {l : List (D × D)} {ps : List (V × V)} {kvs : List (DKey × D)}, RvP K mg ι H l ps → kvO l = some kvs → ∃ (ks : List Key) (vs : List V), ps = (ks.zip vs).map (fun kv => (kV kv.1, kv.2)) ∧ kvs.map (fun p => toK p.1) = ks.map some ∧ RepV K mg ι H kvs vs ∧ ks.length = kvs.length ∧ vs.length = kvs.length
  | [], ps, kvs, r, e => by
    cases e
    have := reps_nil r.1
    rw [List.map_eq_nil_iff] at this
    exact ⟨[], [], by rw [this]; rfl, rfl, of_vnil, rfl, rfl⟩
  | (a, b) :: l, ps, kvs, r, e => by
    obtain ⟨r1, r2⟩ := r
    rw [List.map_cons] at r1 r2
    obtain ⟨v, s, e1, p1, q1⟩ := reps_cons r1
    cases ps with
    | nil => cases e1
    | cons p ps =>
      rw [List.map_cons, List.cons.injEq] at e1
      obtain ⟨rfl, rfl⟩ := e1
      obtain ⟨v2, s2, e2, p2, q2⟩ := reps_cons r2
      rw [List.map_cons, List.cons.injEq] at e2
      obtain ⟨rfl, rfl⟩ := e2
      unfold kvO mapO at e
      split at e
      · rename_i c t h1 h2
        cases e
        obtain ⟨k, hk, h1⟩ := Option.bind_eq_some_iff.mp h1
        split at h1
        · rename_i hf
          cases h1
          obtain ⟨ks, vs, g1, g2, g3, g4, g5⟩ := kvO_rep (l := l) ⟨q1, q2⟩ h2
          have hkk : ∃ k', toK k = some k' := by cases k <;> first | exact ⟨_, rfl⟩ | cases hf
          obtain ⟨k', hk'⟩ := hkk
          have ev : p.1 = kV k' := by
            rcases key_rep p1 hk with ⟨k2, a1, a2⟩ | ⟨kt, b, a1, _⟩
            · rw [hk'] at a1; cases a1; exact a2
            · cases k <;> first | (cases a1; done) | (cases hk'; done)
          refine ⟨k' :: ks, p.2 :: vs, ?_, ?_, of_vcons p2 g3, by simp [g4], by simp [g5]⟩
          · rw [List.zip_cons_cons, List.map_cons, ← g1, ← ev]
          · rw [List.map_cons, List.map_cons, hk', g2]
        · cases h1
      · cases e
end
theorem Po.first0 {K : PySem.W.Frag} {mg : Str → Option Value} {E : XW} {α β γ δ : Type} {Rv : Io → Hp → α → β → Prop} {Rw : Io → Hp → γ → δ → Prop} {ι0 ι : Io} {H0 H : Hp} {r : R (α × AH)} {k : α × AH → R (γ × AH)} {Q : δ → Hp → Prop} {Q' : β → Hp → Prop}
    (p : Po K mg E Rw ι0 H0 (r.bind k) Q) (s0 : Step ι0 H0 ι H)
    (h : ∀ d ah1 ι1 H1 v, Step ι H ι1 H1 → SimH K mg ι1 H1 ah1 → Rv ι1 H1 d v → Po K mg E Rw ι0 H0 (k (d, ah1)) Q → Q' v H1) : Po K mg E Rv ι H r Q' := by
  cases r with
  | ok z => obtain ⟨d, ah⟩ := z; exact fun ι' H' v t S rv => h d ah ι' H' v t S rv p
  | exc x e h => exact PX.later s0 p
  | stk => exact p.elim
structure FPs (X : Cx) (E : XW) (pos : Pos) (keys : List (Option Expr)) (values : List Expr) (l : List (FV × FV)) : Prop where
  to : PPs X pos keys values (l.map fun p => (TF X.K X.mg E p.1, TF X.K X.mg E p.2))
section
variable {X : Cx} {E : XW} {k v : Expr} {keys : List (Option Expr)} {vals : List Expr} {l : List (FV × FV)} {Fk Fv : FV} {pos : Pos}
theorem fpsn : FPs X E pos [] [] [] := ⟨pps_nil⟩
theorem fpsc (hk : FE X E k Fk) (hv : FE X E v Fv) (hr : FPs X E pos keys vals l) : FPs X E pos (some k :: keys) (v :: vals) ((Fk, Fv) :: l) := ⟨pps_cons hk hv hr.to⟩
theorem fdsp (c : Bool) (h : FPs X E pos keys vals l) (hall : keys.all (·.isSome) = true := by rfl) (hl : keys.length = vals.length := by rfl) (h0 : keys ≠ [] := by exact List.cons_ne_nil _ _) (h15 : keys.length ≤ 15 := by decide) : FE X E (.Dict keys vals pos) (eDsp c l) :=
  PE.mono (pe_disp h.to hall hl h0 h15) fun σ H Q hw => by
    obtain ⟨ι, env, ah, a, p⟩ := hw
    intro L n
    have n0 : L ∉ ι.h := (a.1.out n).2
    refine tPairs_of l (a.step (Step.hide n) (a.1.hide n)) (Po.first0 p (Step.hide n) fun z ah1 ι1 H1 ps s S rz q => ?_)
    obtain ⟨kvs, hk, q⟩ := q.okO
    obtain ⟨hb, q⟩ := q.okB
    obtain ⟨ks, vs, e1, e2, e3, e4, e5⟩ := kvO_rep rz hk
    have hLo : H1 L = some (.dK []) := s.frame L _ (fun z => (a.1.out n).1 z) upd_same
    have hLi : L ∈ ι1.h := by
      obtain ⟨m, e, _⟩ := s.hid
      rw [e]; exact List.mem_append_right _ List.mem_cons_self
    refine ⟨hLo, ks.zip vs, e1, ?_, ?_⟩
    · have := Nat.le_of_ble_eq_true hb
      rw [List.length_zip, e4, e5]; omega
    · obtain ⟨kk, ws, f1, f2, f3⟩ := kv_merge (kvs := []) (kk := []) (ws := []) e2 e3 rfl of_vnil
      have f3 : mergeK [] (ks.zip vs) = kk.zip ws := f3
      rw [f3]
      exact q.mkDh (((Step.hide n).trans s).hput n) n n0 hLi (S.hput hLi) upd_same ⟨kk, f1, rfl⟩ ((Lv.hput hLi).repV _ f2)
theorem fdn (c : Bool) : FE X E (.Dict [] [] pos) (eDn c) := PE.mono pe_dnewK fun σ H Q hw => by
  obtain ⟨ι, env, ah, a, p⟩ := hw
  exact fun L n => p.mkD0 a.1 (ws := []) ⟨[], rfl, rfl⟩ of_vnil n
end

/-! ### d.get(k, x) -/
theorem isD_rep {K : PySem.W.Frag} {mg : Str → Option Value} {ι : Io} {H : Hp} {ah : AH} {d : D} {v : V} (S : SimH K mg ι H ah) {t : Bool} {kvs : List (DKey × D)} (r : Rep K mg ι H d v) (h : asD ah d = some (t, kvs)) : ∃ a, v = .ref a ∧ IsD H a := by
  obtain ⟨a, ws, o, e1, e2, e3, _⟩ := asD_rep S r h
  refine ⟨a, e1, ?_⟩
  cases t with
  | false => obtain ⟨kk, _, rfl⟩ := e2; exact .inl ⟨_, e3⟩
  | true => obtain ⟨kk, _, rfl⟩ := e2; exact .inr ⟨_, e3⟩
def eGet2 (o k x : FV) : FV := fun env ah => (o env ah).bind fun d => okO (asD d.2 d.1) fun _ => (k env d.2).bind fun y => (x env y.2).bind fun z => okO (asD z.2 d.1) fun p => okO (keyOf y.1) fun κ => okB (!p.1 && keyFits p.1 κ) (.ok ((dLook p.2 κ).getD z.1, z.2))
structure M2Ok (X : Cx) (o : Expr) (m : Str) (apos : Pos) (e f : Expr) (cpos : Pos) : Prop where
  to : M2 X o m apos e f cpos
section
variable {X : Cx} {E : XW} {o e f : Expr} {Fo Fk Fz : FV} {apos cpos : Pos}
theorem fget2 (hu : X.A.units + 64 < cLine) (ho : FE X E o Fo) (hk : FE X E e Fk) (hx : FE X E f Fz) (m : M2 X o "get" apos e f cpos := by exact ⟨rfl, rfl, rfl, rfl⟩) : FE X E (.Call (.Attribute o "get" apos) [e, f] [] cpos) (eGet2 Fo Fk Fz) :=
  PE.mono (pe_dget2 (by omega) ho hk hx m) fun σ H Q hw => by
    obtain ⟨ι, env, ah, a, p⟩ := hw
    refine ⟨ι, env, ah, a, Po.first p fun d ah1 ι1 H1 v _ s S rv q => ?_⟩
    obtain ⟨z0, hz0, q⟩ := q.okO
    obtain ⟨a0, rfl, hi⟩ := isD_rep S rv (t := z0.1) (kvs := z0.2) hz0
    refine ⟨a0, rfl, hi, ι1, env, ah1, a.step s S, Po.first q fun y ah2 ι2 H2 vy _ s2 S2 ry q2 => ?_⟩
    refine ⟨ι2, env, ah2, (a.step s S).step s2 S2, Po.first q2 fun z ah3 ι3 H3 vz _ s3 S3 rz q3 => ?_⟩
    obtain ⟨p3, hp3, q3⟩ := q3.okO
    obtain ⟨κ, hκ, q3⟩ := q3.okO
    obtain ⟨hf, q3⟩ := q3.okB
    obtain ⟨t, kvs⟩ := p3
    obtain ⟨rfl, k', hk'⟩ := flat_key (c := y) hf
    obtain ⟨a1, ov, e1, g, rl, _⟩ := dget_rep S3 ((s2.trans s3).rep d rv) hp3 (s3.rep y ry) hκ hk'
    cases e1
    refine ⟨ov, g, q3.here S3 ?_⟩
    show Rep X.K X.mg ι3 H3 ((dLook kvs κ).getD z) (ov.getD vz)
    cases hl : dLook kvs κ with
    | none =>
      rw [hl] at rl
      cases ov with
      | none => exact rz
      | some w => exact rl.elim
    | some w =>
      rw [hl] at rl
      cases ov with
      | none => exact rl.elim
      | some w => exact rl
end

/-! ### x += e -/
def sAug (i : Nat) (f : Int → Int → Int) (e : FV) : FO := fun env ah => match env[i]? with
  | some (some (.int x)) => (e env ah).bind fun z => match z.1 with
    | .int y => .ok (.nx, env.set i (some (.int (f x y))), z.2)
    | _ => .stk
  | _ => .stk
section
variable {X : Cx} {E : XW} {e : Expr} {Fe : FV} {pos : Pos}
theorem saugG (i : Nat) {x : Str} {pos' : Pos} {op : Operator} {f : Int → Int → Int} (ho : PIp X op (ipI f)) (hN : X.N.Nodup) (he : FE X E e Fe) (hi : X.N[i]? = some x) (hx : Loc X.env.scope x) (hf : X.fn x = true ∨ X.env.scope.names.lookup x = some .local) :
    FS X E (.AugAssign (.Name x pos') op e pos) (sAug i f Fe) := PS.mono (ps_aug hN hi hx he ho hf) fun Dn σ H h => by
  obtain ⟨ι, env, ah, a, p⟩ := h
  unfold sAug at p
  split at p
  · rename_i k hk
    obtain ⟨v, hv, rv⟩ := a.2.var i _ hk
    rw [rep_int rv] at hv
    refine ⟨.int k, hv, ι, env, ah, a, Po.firstS p fun d ah1 ι1 H1 w _ s S rw' q => ?_⟩
    split at q
    · rename_i y hy
      have hy : d = .int y := hy
      subst hy
      exact ⟨k, y, rfl, rep_int rw', q ι1 _ H1 Step.refl ((a.step s S).set i of_int)⟩
    · exact q.elim
  · exact p.elim
theorem saug (i : Nat) {x : Str} {pos' : Pos} (hN : X.N.Nodup) (he : FE X E e Fe) (hi : X.N[i]? = some x := by rfl) (hx : Loc X.env.scope x := by first | exact Or.inl rfl | exact Or.inr rfl) (hf : X.fn x = true ∨ X.env.scope.names.lookup x = some .local := by first | exact .inl rfl | exact .inr rfl) :
    FS X E (.AugAssign (.Name x pos') .Add e pos) (sAug i (fun a b => a + b) Fe) := saugG i ip_add hN he hi hx hf
theorem saugS (i : Nat) {x : Str} {pos' : Pos} (hN : X.N.Nodup) (he : FE X E e Fe) (hi : X.N[i]? = some x := by rfl) (hx : Loc X.env.scope x := by first | exact Or.inl rfl | exact Or.inr rfl) (hf : X.fn x = true ∨ X.env.scope.names.lookup x = some .local := by first | exact .inl rfl | exact .inr rfl) :
    FS X E (.AugAssign (.Name x pos') .Sub e pos) (sAug i (fun a b => a - b) Fe) := saugG i ip_sub hN he hi hx hf
end

/-! ### list(range(..)), tuple(range(..)) -/
def rgOk (a b : Int) : Bool := b62 a && b62 b && Nat.ble (b - a).toNat 16777216
def eRg1 (c tu : Bool) (x : FV) : FV := fun env ah => (x env ah).bind fun z => okO (asI z.1) fun n => okB (rgOk 0 n) (if tu = true then mkT (rngD 0 n.toNat) z.2 else mkL c (rngD 0 n.toNat) z.2)
def eRg2 (c tu : Bool) (x y : FV) : FV := fun env ah => (x env ah).bind fun z => (y env z.2).bind fun w => okO (asI z.1) fun i => okO (asI w.1) fun j => okB (rgOk i j) (if tu = true then mkT (rngD i (j - i).toNat) w.2 else mkL c (rngD i (j - i).toNat) w.2)
section
variable {K : PySem.W.Frag} {mg : Str → Option Value} {E : XW} {ι ι' : Io} {H H' : Hp} {ah : AH}
theorem rep_rg (i : Int) (n : Nat) : Reps K mg ι H (rngD i n) ((List.range n).map fun k => V.int (i + (k : Nat))) := by
  unfold rngD
  generalize List.range n = l
  induction l with
  | nil => exact of_nil
  | cons a l ih => exact of_cons of_int ih
theorem rgOk_of {a b : Int} (h : rgOk a b = true) : RgOk a b := by
  unfold rgOk b62 at h
  simp only [Bool.and_eq_true, decide_eq_true_eq] at h
  have := Nat.le_of_ble_eq_true h.2
  exact ⟨by omega, by omega, by omega, by omega, by omega⟩
end
section
variable {X : Cx} {E : XW} {a b : Expr} {Fa Fb : FV} {pos p p2 q2 : Pos}
theorem rep_rgV {K : PySem.W.Frag} {mg : Str → Option Value} {ι : Io} {H : Hp} {a b : Int} : Reps K mg ι H (rngD a (b - a).toNat) (rgV a b) := rep_rg a _
theorem flrg1 (c : Bool) (hm : X.mg "list" = none) (hr : X.mg "range" = none) (ha : FE X E a Fa) (hc : X.calm = true := by rfl) (hg : Gl X "list" := by rfl) (hg2 : Gl X "range" := by rfl)
    (na : starEach [a] X.env = (false, eval a X.env) :: starEach [] X.env := by rfl) (nb : starEach [.Call (.Name "range" p2) [a] [] q2] X.env = (false, eval (.Call (.Name "range" p2) [a] [] q2) X.env) :: starEach [] X.env := by rfl) :
    FE X E (.Call (.Name "list" p) [.Call (.Name "range" p2) [a] [] q2] [] pos) (eRg1 c false Fa) := PE.mono (pe_listRg hc hg hm (prg_1 hg2 hr ha na) nb) fun σ H Q hw => by
  obtain ⟨ι, env, ah, a, p⟩ := hw
  refine ⟨ι, env, ah, a, Po.first p fun d ah1 ι1 H1 v _ s S rv q => ?_⟩
  obtain ⟨n, hn, q⟩ := q.okO
  obtain ⟨hb, q⟩ := q.okB
  obtain rfl : d = .int n := asI_eq hn
  have e : n.toNat = (n - 0).toNat := by omega
  rw [e] at q
  exact ⟨n, rep_int rv, rgOk_of hb, (Po.mkL (c := c) q S rep_rgV)⟩
theorem ftrg1 (hm : X.mg "tuple" = none) (hr : X.mg "range" = none) (ha : FE X E a Fa) (hc : X.calm = true := by rfl) (hg : Gl X "tuple" := by rfl) (hg2 : Gl X "range" := by rfl)
    (na : starEach [a] X.env = (false, eval a X.env) :: starEach [] X.env := by rfl) (nb : starEach [.Call (.Name "range" p2) [a] [] q2] X.env = (false, eval (.Call (.Name "range" p2) [a] [] q2) X.env) :: starEach [] X.env := by rfl) :
    FE X E (.Call (.Name "tuple" p) [.Call (.Name "range" p2) [a] [] q2] [] pos) (eRg1 false true Fa) := PE.mono (pe_tupRg hc hg hm (prg_1 hg2 hr ha na) nb) fun σ H Q hw => by
  obtain ⟨ι, env, ah, a, p⟩ := hw
  refine ⟨ι, env, ah, a, Po.first p fun d ah1 ι1 H1 v _ s S rv q => ?_⟩
  obtain ⟨n, hn, q⟩ := q.okO
  obtain ⟨hb, q⟩ := q.okB
  obtain rfl : d = .int n := asI_eq hn
  have e : n.toNat = (n - 0).toNat := by omega
  rw [e] at q
  exact ⟨n, rep_int rv, rgOk_of hb, (Po.mkT q S rep_rgV)⟩
theorem flrg2 (c : Bool) (hm : X.mg "list" = none) (hr : X.mg "range" = none) (ha : FE X E a Fa) (hb : FE X E b Fb) (hc : X.calm = true := by rfl) (hg : Gl X "list" := by rfl) (hg2 : Gl X "range" := by rfl)
    (na : starEach [a, b] X.env = (false, eval a X.env) :: starEach [b] X.env := by rfl) (na2 : starEach [b] X.env = (false, eval b X.env) :: starEach [] X.env := by rfl) (hp : (backTo q2 (starEach [b] X.env)).any (·.1) = false := by rfl)
    (nb : starEach [.Call (.Name "range" p2) [a, b] [] q2] X.env = (false, eval (.Call (.Name "range" p2) [a, b] [] q2) X.env) :: starEach [] X.env := by rfl) :
    FE X E (.Call (.Name "list" p) [.Call (.Name "range" p2) [a, b] [] q2] [] pos) (eRg2 c false Fa Fb) := PE.mono (pe_listRg hc hg hm (prg_2 hg2 hr ha hb na na2 hp) nb) fun σ H Q hw => by
  obtain ⟨ι, env, ah, a, p⟩ := hw
  refine ⟨ι, env, ah, a, Po.first p fun d ah1 ι1 H1 v _ s S rv q => ?_⟩
  refine ⟨ι1, env, ah1, a.step s S, Po.first q fun d2 ah2 ι2 H2 v2 _ s2 S2 rv2 q => ?_⟩
  obtain ⟨i, hi, q3⟩ := q.okO
  obtain ⟨j, hj, q4⟩ := q3.okO
  obtain ⟨hb, q5⟩ := q4.okB
  obtain rfl : d = .int i := asI_eq hi
  obtain rfl : d2 = .int j := asI_eq hj
  have rv := s2.rep _ rv
  exact ⟨i, j, rep_int rv, rep_int rv2, rgOk_of hb, (Po.mkL (c := c) q5 S2 rep_rgV)⟩
theorem ftrg2 (hm : X.mg "tuple" = none) (hr : X.mg "range" = none) (ha : FE X E a Fa) (hb : FE X E b Fb) (hc : X.calm = true := by rfl) (hg : Gl X "tuple" := by rfl) (hg2 : Gl X "range" := by rfl)
    (na : starEach [a, b] X.env = (false, eval a X.env) :: starEach [b] X.env := by rfl) (na2 : starEach [b] X.env = (false, eval b X.env) :: starEach [] X.env := by rfl) (hp : (backTo q2 (starEach [b] X.env)).any (·.1) = false := by rfl)
    (nb : starEach [.Call (.Name "range" p2) [a, b] [] q2] X.env = (false, eval (.Call (.Name "range" p2) [a, b] [] q2) X.env) :: starEach [] X.env := by rfl) :
    FE X E (.Call (.Name "tuple" p) [.Call (.Name "range" p2) [a, b] [] q2] [] pos) (eRg2 false true Fa Fb) := PE.mono (pe_tupRg hc hg hm (prg_2 hg2 hr ha hb na na2 hp) nb) fun σ H Q hw => by
  obtain ⟨ι, env, ah, a, p⟩ := hw
  refine ⟨ι, env, ah, a, Po.first p fun d ah1 ι1 H1 v _ s S rv q => ?_⟩
  refine ⟨ι1, env, ah1, a.step s S, Po.first q fun d2 ah2 ι2 H2 v2 _ s2 S2 rv2 q => ?_⟩
  obtain ⟨i, hi, q3⟩ := q.okO
  obtain ⟨j, hj, q4⟩ := q3.okO
  obtain ⟨hb, q5⟩ := q4.okB
  obtain rfl : d = .int i := asI_eq hi
  obtain rfl : d2 = .int j := asI_eq hj
  have rv := s2.rep _ rv
  exact ⟨i, j, rep_int rv, rep_int rv2, rgOk_of hb, (Po.mkT q5 S2 rep_rgV)⟩
end

/-! ### repr -/
def rRepr (K : PySem.W.Frag) : List V → Hp → VK → Prop := fun xs H Q => ∃ x p, xs = [x] ∧ Dp K H x p ∧ p.canLay0 = true ∧ p.depth ≤ 64 ∧ p.showable = true ∧ p.shown.length ≤ sizeLine ∧ Q (.str p.shown) H
theorem call_reprD {X : Cx} (hu : X.A.units + 66 < cLine) (hg : Gd X.A) : CallR X (.builtin "repr") (rRepr X.K) := by
  intro pins s σ H xs us Q I r h
  obtain ⟨x, p, rfl, dp, cl, dd, hs, hl, q⟩ := h
  obtain ⟨u, rfl, rx⟩ := r.one
  obtain ⟨as, rd⟩ := Dp.reads I p x u dp rx
  have nd := PyData.hasDict_of_canLay p cl
  have big : ∀ {a : Addr}, u = .ref a → wpAny (model X.prog X.w) X.A (call (.builtin "repr") [u]) (EP X pins σ Q) X.xe s := fun {a} e => by
    subst e
    exact repr_of_reads' rd hs (PyData.noDict_hsm nd) hg (by omega) (fun _ _ e => e) (fun h' u tk hk => ⟨.str p.shown, H, I.kept (t' := tk) hk, ⟨_, rfl⟩, q⟩) hl
  cases rd with
  | none => exact PySem.P.repr_of_none ⟨.str _, H, I.tok _, ⟨_, rfl⟩, q⟩
  | bool b => exact PySem.P.repr_of_bool ⟨.str _, H, I.tok _, ⟨_, rfl⟩, q⟩
  | int i t => exact PySem.P.repr_of_int (by simpa [PyData.showable] using hs) ⟨.str _, H, I.tok _, ⟨_, rfl⟩, q⟩
  | str y t => exact PySem.P.repr_of_str ⟨.str _, H, I.tok _, ⟨_, rfl⟩, q⟩ (by simpa [PyData.shown] using hl)
  | list _ _ _ _ => exact big rfl
  | tuple _ _ _ _ => exact big rfl
  | dict _ _ _ _ _ => exact big rfl
def bRepr : OL := fun ds ah => match ds with
  | [x] => okO (pd ah 64 x) fun p => okB (p.showable && lenOk p.shown.length) (.ok (.str p.shown, ah))
  | _ => .stk
theorem ok_repr {K : PySem.W.Frag} {mg : Str → Option Value} {E : XW} : OKL K mg E (rRepr K) bRepr := fun ι H ah ds vs Q S rs p => by
  unfold bRepr at p
  split at p
  · rename_i x
    obtain ⟨v, s, rfl, r, q⟩ := reps_cons rs
    rw [reps_nil q]
    obtain ⟨d, hd, p⟩ := p.okO
    obtain ⟨hb, p⟩ := p.okB
    rw [Bool.and_eq_true] at hb
    obtain ⟨b1, b2, b3⟩ := pd_rep S 64 x v d r hd
    exact ⟨v, d, rfl, b1, b2, b3, hb.1, lenOk_le hb.2, p.here S of_str⟩
  · exact p.elim
theorem frepr {X : Cx} {E : XW} {a : Expr} {Fl : FL} {p pos : Pos} {k : Nat} (hm : X.mg "repr" = none) (hr : RG k X.A) (ha : FA X E [a] Fl) (hg : Gl X "repr" := by rfl) (hp : Pl X a [] pos := by exact ⟨rfl, rfl⟩) : FE X E (.Call (.Name "repr" p) [a] [] pos) (eL bRepr Fl) :=
  fcb (call_reprD (by have := hr.r.un; omega) hr.g) ok_repr hm (by decide +kernel) ha hg hp

/-! ### int(x) -/
def bInt : OL := fun ds ah => match ds with
  | [.int i] => .ok (.int i, ah)
  | [.bl b] => .ok (.int (if b = true then 1 else 0), ah)
  | _ => .stk
theorem ok_int1 {K : PySem.W.Frag} {mg : Str → Option Value} {E : XW} : OKL K mg E (fun xs H Q => (∃ i, xs = [.int i] ∧ Q (.int i) H) ∨ ∃ k, xs = [.bl k] ∧ Q (.int (if k then 1 else 0)) H) bInt := fun ι H ah ds vs Q S rs p => by
  unfold bInt at p
  split at p
  · obtain ⟨v, s, rfl, r, q⟩ := reps_cons rs
    rw [reps_nil q, rep_int r]
    exact .inl ⟨_, rfl, p.here S of_int⟩
  · obtain ⟨v, s, rfl, r, q⟩ := reps_cons rs
    rw [reps_nil q, rep_bl r]
    exact .inr ⟨_, rfl, p.here S of_int⟩
  · exact p.elim
theorem fint1 {X : Cx} {E : XW} {a : Expr} {Fl : FL} {p pos : Pos} (hm : X.mg "int" = none) (ha : FA X E [a] Fl) (hg : Gl X "int" := by rfl) (hp : Pl X a [] pos := by exact ⟨rfl, rfl⟩) : FE X E (.Call (.Name "int" p) [a] [] pos) (eL bInt Fl) :=
  fct call_int1 ok_int1 hm (by decide +kernel) ha hg hp
end Fx

/-! ===== Fx11 -/
set_option Elab.async false
set_option linter.all false
set_option maxRecDepth 100000
set_option maxHeartbeats 4000000
namespace Fx
open PySem PySem.Spec PyProof.Rows L2

/-! ### dicts of the module, text keys -/
def sLook : List (Str × D) → Str → Option D
  | [], _ => none
  | (k, d) :: r, x => if k = x then some d else sLook r x
structure KDc (K : PySem.W.Frag) (w : World) (mg : Str → Option Value) (x : Str) (kvs : List (Str × D)) : Prop where
  to : ∃ a es n, mg x = some (.ref a) ∧ KDict K w a es n ∧ (∀ z d, sLook kvs z = some d → ∃ u v, PySem.W.nsIn K a z = some (some u) ∧ RelV v u ∧ ∀ ι H, Rep K mg ι H d v) ∧ ∀ z, sLook kvs z = none → PySem.W.nsIn K a z = some none
def asTx : D → Option Str
  | .str x => some x
  | _ => none
theorem asTx_eq {d : D} {x : Str} (h : asTx d = some x) : d = .str x := by
  cases d <;> first | (cases h; done) | (cases h; rfl)
def eKix (kvs : List (Str × D)) (k : FV) : FV := fun env ah => (k env ah).bind fun y => okO (asTx y.1) fun z => okO (sLook kvs z) fun d => .ok (d, y.2)
def eKin (neg : Bool) (kvs : List (Str × D)) (k : FV) : FV := fun env ah => (k env ah).bind fun y => okO (asTx y.1) fun z => .ok (.bl (ngB neg (sLook kvs z).isSome), y.2)
def eKget (kvs : List (Str × D)) (k x : FV) : FV := fun env ah => (k env ah).bind fun y => okO (asTx y.1) fun z => (x env y.2).bind fun w => .ok ((sLook kvs z).getD w.1, w.2)
section
variable {X : Cx} {E : XW} {x : Str} {kvs : List (Str × D)} {e f : Expr} {Fk Fz : FV} {pos p apos cpos : Pos}
theorem fkix (g : KDc X.K X.w X.mg x kvs) (hk : FE X E e Fk) (hg : Gl X x := by rfl) (hd : (x == ("__debug__" : Str)) = false := by decide) (hs : PlainIx e := by exact fun _ _ => rfl) : FE X E (.Subscript (.Name x p) e pos) (eKix kvs Fk) := by
  obtain ⟨a, es, n, hm, kd, h1, h2⟩ := g.to
  refine PE.mono (pe_ix ix_kdict (pe_glob hg hm (show RelV (.ref a) (.ref a) from rfl) hd) hk hs) fun σ H Q hw => ?_
  obtain ⟨ι, env, ah, at_, q⟩ := hw
  refine ⟨ι, env, ah, at_, Po.first q fun y ah1 ι1 H1 v _ s S rv q => ?_⟩
  obtain ⟨z, hz, q1⟩ := q.okO
  obtain ⟨d, hd', q2⟩ := q1.okO
  obtain rfl : y = .str z := asTx_eq hz
  obtain ⟨u, w, e1, e2, e3⟩ := h1 z d hd'
  exact ⟨a, z, w, rfl, rep_str rv, ⟨es, n, u, kd.at_, kd.lit, e1, e2⟩, q2.here S (e3 ι1 H1)⟩
theorem fkin (g : KDc X.K X.w X.mg x kvs) (hk : FE X E e Fk) (hg : Gl X x := by rfl) (hd : (x == ("__debug__" : Str)) = false := by decide) (hm : behindInMarks .In (.Name x p) = false := by rfl) : FE X E (.Compare e [.In] [.Name x p] pos) (eKin false kvs Fk) := by
  obtain ⟨a, es, n, hm', kd, h1, h2⟩ := g.to
  refine PE.mono (pe_cmpR (op_in_kd kd) hk (pe_glob hg hm' (show RelV (.ref a) (.ref a) from rfl) hd) hm) fun σ H Q hw => ?_
  obtain ⟨ι, env, ah, at_, q⟩ := hw
  refine ⟨ι, env, ah, at_, Po.first q fun y ah1 ι1 H1 v _ s S rv q => ?_⟩
  obtain ⟨z, hz, q1⟩ := q.okO
  obtain rfl : y = .str z := asTx_eq hz
  cases hl : sLook kvs z with
  | some d =>
    rw [hl] at q1
    obtain ⟨u, w, e1, e2, e3⟩ := h1 z d hl
    exact ⟨z, some u, rep_str rv, rfl, e1, q1.here S of_bl⟩
  | none =>
    rw [hl] at q1
    exact ⟨z, none, rep_str rv, rfl, h2 z hl, q1.here S of_bl⟩
theorem fknin (g : KDc X.K X.w X.mg x kvs) (hk : FE X E e Fk) (hg : Gl X x := by rfl) (hd : (x == ("__debug__" : Str)) = false := by decide) (hm : behindInMarks .NotIn (.Name x p) = false := by rfl) : FE X E (.Compare e [.NotIn] [.Name x p] pos) (eKin true kvs Fk) := by
  obtain ⟨a, es, n, hm', kd, h1, h2⟩ := g.to
  refine PE.mono (pe_cmpR (op_notIn_kd kd) hk (pe_glob hg hm' (show RelV (.ref a) (.ref a) from rfl) hd) hm) fun σ H Q hw => ?_
  obtain ⟨ι, env, ah, at_, q⟩ := hw
  refine ⟨ι, env, ah, at_, Po.first q fun y ah1 ι1 H1 v _ s S rv q => ?_⟩
  obtain ⟨z, hz, q1⟩ := q.okO
  obtain rfl : y = .str z := asTx_eq hz
  cases hl : sLook kvs z with
  | some d =>
    rw [hl] at q1
    obtain ⟨u, w, e1, e2, e3⟩ := h1 z d hl
    exact ⟨z, some u, rep_str rv, rfl, e1, q1.here S of_bl⟩
  | none =>
    rw [hl] at q1
    exact ⟨z, none, rep_str rv, rfl, h2 z hl, q1.here S of_bl⟩
theorem tkin (g : KDc X.K X.w X.mg x kvs) (hk : FE X E e Fk) (hg : Gl X x := by rfl) (hd : (x == ("__debug__" : Str)) = false := by decide) (hm : behindInMarks .In (.Name x p) = false := by rfl) : FT X E (.Compare e [.In] [.Name x p] pos) (bT (eKin false kvs Fk)) := by
  obtain ⟨a, es, n, hm', kd, h1, h2⟩ := g.to
  refine PT.mono (pt_cmpR (op_in_kd kd) hk (pe_glob hg hm' (show RelV (.ref a) (.ref a) from rfl) hd) hm) fun σ H Q hw => ?_
  obtain ⟨ι, env, ah, at_, q⟩ := tfT hw
  refine ⟨ι, env, ah, at_, Po.first q fun y ah1 ι1 H1 v _ s S rv q => ?_⟩
  obtain ⟨z, hz, q1⟩ := q.okO
  obtain rfl : y = .str z := asTx_eq hz
  cases hl : sLook kvs z with
  | some d =>
    rw [hl] at q1
    obtain ⟨u, w, e1, e2, e3⟩ := h1 z d hl
    exact ⟨z, some u, rep_str rv, rfl, e1, q1.here S of_bl⟩
  | none =>
    rw [hl] at q1
    exact ⟨z, none, rep_str rv, rfl, h2 z hl, q1.here S of_bl⟩
theorem tknin (g : KDc X.K X.w X.mg x kvs) (hk : FE X E e Fk) (hg : Gl X x := by rfl) (hd : (x == ("__debug__" : Str)) = false := by decide) (hm : behindInMarks .NotIn (.Name x p) = false := by rfl) : FT X E (.Compare e [.NotIn] [.Name x p] pos) (bT (eKin true kvs Fk)) := by
  obtain ⟨a, es, n, hm', kd, h1, h2⟩ := g.to
  refine PT.mono (pt_cmpR (op_notIn_kd kd) hk (pe_glob hg hm' (show RelV (.ref a) (.ref a) from rfl) hd) hm) fun σ H Q hw => ?_
  obtain ⟨ι, env, ah, at_, q⟩ := tfT hw
  refine ⟨ι, env, ah, at_, Po.first q fun y ah1 ι1 H1 v _ s S rv q => ?_⟩
  obtain ⟨z, hz, q1⟩ := q.okO
  obtain rfl : y = .str z := asTx_eq hz
  cases hl : sLook kvs z with
  | some d =>
    rw [hl] at q1
    obtain ⟨u, w, e1, e2, e3⟩ := h1 z d hl
    exact ⟨z, some u, rep_str rv, rfl, e1, q1.here S of_bl⟩
  | none =>
    rw [hl] at q1
    exact ⟨z, none, rep_str rv, rfl, h2 z hl, q1.here S of_bl⟩
/-- D.get(e, f) of a dict of the module -/
theorem fkget (g : KDc X.K X.w X.mg x kvs) (hk : FE X E e Fk) (hf : FE X E f Fz) (hg : Gl X x := by rfl) (hd : (x == ("__debug__" : Str)) = false := by decide) (m : M2 X (.Name x p) "get" apos e f cpos := by exact ⟨rfl, rfl, rfl, rfl⟩) :
    FE X E (.Call (.Attribute (.Name x p) "get" apos) [e, f] [] cpos) (eKget kvs Fk Fz) := by
  obtain ⟨a, es, n, hm, kd, h1, h2⟩ := g.to
  refine ⟨fun pins s σ H Q I hw => ?_⟩
  obtain ⟨ι, env, ah, at_, p0⟩ := hw
  refine wpAny_Call_method m.base m.few m.line PySem.F.plainAttrs_dict PySem.F.slot_dict_get PySem.F.type_dict_get (ld_glob I hg hm ?_ hd)
  have mo := PySem.W.mapOf_K (prog := X.prog) (w := X.w) I.kIn kd.at_ kd.lit
  refine ⟨mo.typeIs, fun b q => ?_, ?_⟩
  · cases q
    exact ⟨_, I.kIn _ _ kd.at_, rfl⟩
  rw [m.trees]
  have r1 := hk.run pins s σ H (fun v H1 => ∃ z r, v = .str z ∧ PySem.W.nsIn X.K a z = some r ∧ TF X.K X.mg E Fz σ H1 (fun w H2 => (∀ u, r = some u → ∃ v0, RelV v0 u ∧ Q v0 H2) ∧ (r = none → Q w H2))) I ⟨ι, env, ah, at_, Po.first p0 fun y ah1 ι1 H1 v _ s S rv q => ?_⟩
  · refine Calls.callWith_builtin rfl (Calls.evalArgs_plain (Calls.spliced_cons (thn r1 fun iv s2 ⟨y, H2, I2, ry, z, r, ey, er, q2⟩ => Calls.spliced_cons (thn (hf.run pins s2 σ H2 _ I2 q2) fun fv s3 ⟨zv, H3, I3, rz, q3⟩ => Calls.spliced_nil ?_))))
    subst ey
    obtain ⟨t, rfl⟩ := ry
    have mo3 := PySem.W.mapOf_K (prog := X.prog) (w := X.w) I3.kIn kd.at_ kd.lit
    refine call_meetsIn PySem.F.slot_dict_get mo3.typeIs PySem.F.entry_dict_get (PySem.F.args_dict_get_3 _ _ _) (meets_dict_get_default (PySem.strKind X.prog X.w) a (PySem.strKind_is X.prog X.w z t) kd.low fv) ⟨_, mo3, ?_⟩
    rw [PySem.W.find_K kd.at_ er]
    cases r with
    | some u =>
      obtain ⟨v0, e1, e2⟩ := q3.1 u rfl
      exact ⟨v0, H3, I3.tok _, e1, e2⟩
    | none => exact ⟨zv, H3, I3.tok _, rz, q3.2 rfl⟩
  · obtain ⟨z, hz, q⟩ := q.okO
    have rv : Rep X.K X.mg ι1 H1 y v := rv
    obtain rfl : y = .str z := asTx_eq hz
    · cases hl : sLook kvs z with
      | some d =>
        obtain ⟨u, w, e1, e2, e3⟩ := h1 z d hl
        refine ⟨z, some u, rep_str rv, e1, ι1, env, ah1, at_.step s S, Po.first q fun w' ah2 ι2 H2 v2 _ s2 S2 rv2 q2 => ⟨fun u' eu => ?_, fun z => by cases z⟩⟩
        cases eu
        refine ⟨w, e2, ?_⟩
        have q2 : Po X.K X.mg E (RvD X.K X.mg) ι2 H2 (.ok ((sLook kvs z).getD w', ah2)) Q := q2
        rw [hl] at q2
        exact q2.here S2 (e3 ι2 H2)
      | none =>
        refine ⟨z, none, rep_str rv, h2 z hl, ι1, env, ah1, at_.step s S, Po.first q fun w' ah2 ι2 H2 v2 _ s2 S2 rv2 q2 => And.intro (fun u' eu => nomatch eu) (fun _ => ?_)⟩
        have q2 : Po X.K X.mg E (RvD X.K X.mg) ι2 H2 (.ok ((sLook kvs z).getD w', ah2)) Q := q2
        rw [hl] at q2
        exact q2.here S2 rv2
end

/-! ### the call of a local that holds a def -/
def vCall (i : Nat) (n : Nat) (tb : Str → Option Mf) (l : FL) : FV := fun env ah => match env[i]? with
  | some (some (.fn g)) => okO (tb g) fun m => pCall m (lenB n l) env ah
  | _ => .stk
def vxCall (i : Nat) (n : Nat) (tb : Str → Option Mf) (l : FL) : FV := fun env ah => match env[i]? with
  | some (some (.fn g)) => okO (tb g) fun m => eCall m (lenB n l) env ah
  | _ => .stk
section
variable {X : Cx} {E : XW} {a : Expr} {as : List Expr} {Fl : FL} {k n : Nat} {x : Str} {p pos : Pos} {tb : Str → Option Mf}
theorem pe_vG {i : Nat} {t : TA} (hr : RG k X.A) (tk : ∀ σ, PassesAt (L2.CX X.prog X.w) X σ (WE E σ)) (hN : X.N[i]? = some x) (hv : Vis X.env.scope x) (ha : PA X (a :: as) t)
    (hd : (x == ("__debug__" : Str)) = false := by decide) (hcd : (x == ("__classdict__" : Str)) = false := by decide)
    (he : starEach (a :: as) X.env = (false, eval a X.env) :: starEach as X.env := by rfl) (hpl : (backTo pos (starEach as X.env)).any (·.1) = false := by rfl) :
    PE X (.Call (.Name x p) (a :: as) [] pos) (fun σ H Q => ∃ f fd ps sp, σ[i]? = some (some (.ref f)) ∧ FnG X.prog X.w X.K X.mg X.base (L2.CX X.prog X.w) k f fd ps sp ∧ PySem.W.keepIn X.K (.ref f) = true ∧ Binds X.K fd ps [] ∧ t σ H fun vs H1 => sp vs H1 Q (WE E σ)) := by
  refine ⟨fun pins s σ H Q I h => ?_⟩
  obtain ⟨f, fd, ps, sp, hs, F, kp, b, ht⟩ := h
  refine wpAny_Call_Name_kw (thn ((pe_var (pos := p) hN hv hd hcd).run pins s σ H (fun v H1 => v = .ref f ∧ H1 = H) I ⟨.ref f, hs, rfl, rfl⟩) fun u s1 ⟨v, H1, I1, r1, q1⟩ => ?_)
  obtain ⟨rfl, rfl⟩ := q1
  cases r1
  refine PySem.W.callWith_K (h₀ := X.base) I.ok.mod.kin kp (thn (ha.run pos pins s1 σ _ _ I1 ht) fun us s2 ⟨vs, H2, I2, r, q⟩ => ⟨I2.kIn, ?_⟩) he hpl
  exact runG (dvs := []) (ds := []) (E := WE E) F hr b .nil (tk σ) I2 r (by rw [List.append_nil]; exact q)
theorem fvcall (i : Nat) (hd : ∀ g m, tb g = some m → Df X k g n m) (hr : RG k X.A) (tk : ∀ σ, PassesAt (L2.CX X.prog X.w) X σ (WE E σ)) (ha : FA X E (a :: as) Fl) (hN : X.N[i]? = some x := by rfl) (hv : Vis X.env.scope x := by first | exact Or.inl rfl | exact Or.inr (Or.inl rfl) | exact Or.inr (Or.inr rfl))
    (hp : Pl X a as pos := by exact ⟨rfl, rfl⟩) (hdb : (x == ("__debug__" : Str)) = false := by decide) (hcd : (x == ("__classdict__" : Str)) = false := by decide) : FE X E (.Call (.Name x p) (a :: as) [] pos) (vCall i n tb Fl) := by
  refine PE.mono (pe_vG hr tk hN hv ha hdb hcd hp.he hp.hpl) fun σ H Q h => ?_
  obtain ⟨ι, env, ah, a, p⟩ := h
  unfold vCall at p
  split at p
  · rename_i g hg
    obtain ⟨m, hm, p⟩ := p.okO
    obtain ⟨v, hv', rv⟩ := a.2.var i _ hg
    unfold Rep at rv
    obtain ⟨f, rfl, hf⟩ := rv
    obtain ⟨f', fd, ps, F, hmg, hk, hb⟩ := (hd g m hm).to
    rw [hf] at hmg
    cases hmg
    refine ⟨f, fd, ps, _, hv', F, hk, hb, ι, env, ah, a, ?_⟩
    have p : Po X.K X.mg E (RvD X.K X.mg) ι H ((Fl env ah).bind fun z => (okB (Nat.beq z.1.length n) (R.ok z)).bind fun z => okB (argsOk z.2 z.1) (pureR env z.2 (m z.1 []))) Q := by
      revert p
      unfold pCall lenB
      cases Fl env ah <;> exact id
    refine Po.first p fun ds ah1 ι1 H1 vs e s S rs q => ?_
    have q : Po X.K X.mg E (RvD X.K X.mg) ι1 H1 ((okB (Nat.beq ds.length n) (R.ok (ds, ah1))).bind fun z => okB (argsOk z.2 z.1) (pureR env z.2 (m z.1 []))) Q := q
    have hl : Nat.beq ds.length n = true := by
      cases e : Nat.beq ds.length n with
      | true => rfl
      | false => rw [e] at q; exact q.elim
    rw [hl] at q
    have q : Po X.K X.mg E (RvD X.K X.mg) ι1 H1 (okB (argsOk ah1 ds) (pureR env ah1 (m ds []))) Q := q
    obtain ⟨ho, q⟩ := q.okB
    exact sp_pure (a.step s S) rs (Nat.eq_of_beq_eq_true hl) ho q
  · exact p.elim
theorem fvxcall (i : Nat) (hd : ∀ g m, tb g = some m → Df X k g n m) (hr : RG k X.A) (tk : ∀ σ, PassesAt (L2.CX X.prog X.w) X σ (WE E σ)) (ha : FA X E (a :: as) Fl) (hN : X.N[i]? = some x := by rfl) (hv : Vis X.env.scope x := by first | exact Or.inl rfl | exact Or.inr (Or.inl rfl) | exact Or.inr (Or.inr rfl))
    (hp : Pl X a as pos := by exact ⟨rfl, rfl⟩) (hdb : (x == ("__debug__" : Str)) = false := by decide) (hcd : (x == ("__classdict__" : Str)) = false := by decide) : FE X E (.Call (.Name x p) (a :: as) [] pos) (vxCall i n tb Fl) := by
  refine PE.mono (pe_vG hr tk hN hv ha hdb hcd hp.he hp.hpl) fun σ H Q h => ?_
  obtain ⟨ι, env, ah, a, p⟩ := h
  unfold vxCall at p
  split at p
  · rename_i g hg
    obtain ⟨m, hm, p⟩ := p.okO
    obtain ⟨v, hv', rv⟩ := a.2.var i _ hg
    unfold Rep at rv
    obtain ⟨f, rfl, hf⟩ := rv
    obtain ⟨f', fd, ps, F, hmg, hk, hb⟩ := (hd g m hm).to
    rw [hf] at hmg
    cases hmg
    refine ⟨f, fd, ps, _, hv', F, hk, hb, ι, env, ah, a, ?_⟩
    have p : Po X.K X.mg E (RvD X.K X.mg) ι H ((Fl env ah).bind fun z => (okB (Nat.beq z.1.length n) (R.ok z)).bind fun z => reEnv env (m z.1 z.2)) Q := by
      revert p
      unfold eCall lenB
      cases Fl env ah <;> exact id
    refine Po.first p fun ds ah1 ι1 H1 vs e s S rs q => ?_
    have q : Po X.K X.mg E (RvD X.K X.mg) ι1 H1 ((okB (Nat.beq ds.length n) (R.ok (ds, ah1))).bind fun z => reEnv env (m z.1 z.2)) Q := q
    have hl : Nat.beq ds.length n = true := by
      cases e : Nat.beq ds.length n with
      | true => rfl
      | false => rw [e] at q; exact q.elim
    rw [hl] at q
    exact sp_call (a.step s S) rs (Nat.eq_of_beq_eq_true hl) q
  · exact p.elim
end
end Fx

/-! ===== Fx12 -/
set_option Elab.async false
set_option linter.all false
set_option maxRecDepth 100000
set_option maxHeartbeats 4000000
namespace Fx
open PySem PySem.Spec PyProof.Rows L2

/-! ### enumerate(tuple): what the library has for lists -/
section
open AutoSeq1 (wpAny_loadPart')
variable {prog : Program} {w : World} {A : Around} {E : Value → Shared → Prop} {s : Shared}
theorem nextOf_tup_item {it l : Addr} {i : Nat} {items} {x : Value} {Q : Value → Shared → Prop} (hit : s.heap.IsTupleIter it l i)
    (hl : s.heap.IsTuple l items) (hx : items[i]? = some x)
    (hQ : ∀ h', h'.IsTupleIter it l (i + 1) → Heap.SameBut it s.heap h' → Q x { s with heap := h' }) :
    wpAny (model prog w) A (Builtin.SmallTypes.nextOf (.ref it)) Q E s := by
  obtain ⟨o, ho, hc, hd⟩ := id hit
  obtain ⟨ol, hol, _, nl, hdl⟩ := hl
  unfold Builtin.SmallTypes.nextOf
  refine wpAny_bind (wpAny_callSpecial?_slot (name := Str.ofString "__next__") hit.typeIs PySem.F.slot_tuple_iterator_next
    (wpAny_call_entry PySem.F.slot_tuple_iterator_next hit.typeIs PySem.F.entry_tuple_iterator_next ?_ (PySem.F.args_tuple_iterator_next_1 _)))
  show wpAny _ _ (field (.ref it) 0 >>= _) _ _ s
  refine wpAny_bind (wpAny_field ho hd (x := .ref l) rfl ?_)
  show wpAny _ _ (if (Value.ref l == Value.none) = true then _ else _) _ _ s
  rw [if_neg (show ¬ ((Value.ref l == Value.none) = true) from Bool.false_ne_true)]
  show wpAny _ _ (field (.ref it) 1 >>= _) _ _ s
  refine wpAny_bind (wpAny_field ho hd (x := .int i 0) rfl ?_)
  show wpAny _ _ (seqItems? (.ref l) >>= _) _ _ s
  refine wpAny_bind (wpAny_seqItems hol hdl ?_)
  simp only [Int.toNat_natCast, hx]
  refine wpAny_bind (wpAny_setField ho hd (by simp) (wpAny_pure ⟨x, rfl, wpAny_pure (hQ _ ?_ (Heap.SameBut.update ..))⟩))
  exact ⟨_, Heap.get?_update_self _ ho (Obj.isFreed_of_fields (Obj.data_mapFields hd _)), (Obj.cls_mapFields ..).trans hc, by
    rw [Obj.data_mapFields hd]; simp [rawInt]⟩
theorem nextOf_tup_end {it l : Addr} {i : Nat} {items} {Q : Value → Shared → Prop} (hh : A.handled = none)
    (hit : s.heap.IsTupleIter it l i) (hl : s.heap.IsTuple l items) (hx : items[i]? = none)
    (hE : ∀ h' e, Heap.ExtBut it s.heap h' → (∃ o, h'.get? e = some o ∧ o.cls = .type "StopIteration") → E (.ref e) { s with heap := h' }) :
    wpAny (model prog w) A (Builtin.SmallTypes.nextOf (.ref it)) Q E s := by
  obtain ⟨o, ho, hc, hd⟩ := id hit
  obtain ⟨ol, hol, _, nl, hdl⟩ := hl
  unfold Builtin.SmallTypes.nextOf
  refine wpAny_bind (wpAny_callSpecial?_slot (name := Str.ofString "__next__") hit.typeIs PySem.F.slot_tuple_iterator_next
    (wpAny_call_entry PySem.F.slot_tuple_iterator_next hit.typeIs PySem.F.entry_tuple_iterator_next ?_ (PySem.F.args_tuple_iterator_next_1 _)))
  show wpAny _ _ (field (.ref it) 0 >>= _) _ _ s
  refine wpAny_bind (wpAny_field ho hd (x := .ref l) rfl ?_)
  show wpAny _ _ (if (Value.ref l == Value.none) = true then _ else _) _ _ s
  rw [if_neg (show ¬ ((Value.ref l == Value.none) = true) from Bool.false_ne_true)]
  show wpAny _ _ (field (.ref it) 1 >>= _) _ _ s
  refine wpAny_bind (wpAny_field ho hd (x := .int i 0) rfl ?_)
  show wpAny _ _ (seqItems? (.ref l) >>= _) _ _ s
  refine wpAny_bind (wpAny_seqItems hol hdl ?_)
  simp only [Int.toNat_natCast, hx]
  refine wpAny_bind (wpAny_rule (wpAny_bind (wpAny_setField ho hd (by simp) ?_)))
  show wpAny _ _ (newExc (.type "StopIteration") [] >>= _) _ _ _
  refine wpAny_bind ?_
  simp only [newExc, newTuple]
  refine wpAny_bind (wpAny_newObj_type ?_ (by size_fits))
  refine wpAny_bind (m := firstArgMember _ _) (wpAny_of_eq (a := Value.none) (by first | rfl | (simp only [firstArgMember]; rfl)) ?_)
  refine wpAny_newObj_type ?_ (by size_fits)
  simp only [raiseNew]
  refine wpAny_bind (wpAny_handled ?_)
  first | rw [show A.in1.handled = none from hh] | rw [hh]
  refine wpAny_bind (wpAny_pure (wpAny_throw ?_))
  exact hE _ _ (((Heap.SameBut.update ..).extBut.push _).push _) ⟨_, Heap.get?_push_size _ rfl, rfl⟩
theorem drawsT (hh : A.handled = none) (it l : Addr) (hne : l ≠ it) (items : Array Value) :
    Draws prog w A it [it, l] items.size (fun i v => items[i]? = some v) (fun i h => h.IsTupleIter it l i ∧ h.IsTuple l items) where
  live := fun _ _ st => let ⟨o, ho, _⟩ := st.1; ⟨o, ho⟩
  frame := fun _ _ _ st hk => ⟨st.1.at fun o e => hk it (by simp) o e, let ⟨o, ho, r⟩ := st.2; ⟨o, hk l (by simp) o ho, r⟩⟩
  item := fun i s Q E hi st hQ => by
    refine nextOf_tup_item st.1 st.2 (x := items[i]) (by simp [hi]) fun h' hit' hs' => ?_
    exact hQ _ h' s.toks (by simp [hi]) ⟨hit', st.2.extBut hs'.extBut hne⟩ hs'
  done := fun s Q E st hE => nextOf_tup_end hh st.1 st.2 (by simp) hE
theorem meets_enumT (l : Addr) (items : Array Value) (n : Nat) (dct : Option Addr) (sl : Array (Option Value)) :
    Meets (Builtin.«enumerate.__new__» ⟨[.type "enumerate", .ref l], []⟩) (fun _ R s => s.heap.get? l = some { cls := .type "tuple", dict := dct, data := .seq items n, slots := sl } ∧
      R (.ok (.ret (.ref (s.heap.push { cls := .type "tuple_iterator", data := .fields #[.ref l, .int 0 0] }).objs.size)))
        { s with heap := (s.heap.push { cls := .type "tuple_iterator", data := .fields #[.ref l, .int 0 0] }).push { cls := .type "enumerate", data := .fields #[.none, .bool false, .ref s.heap.objs.size, rawInt 0, .none, .none] } }) :=
  .of_wp fun prog w A R s h => by
    obtain ⟨hp, g, d, tk, os⟩ := s; obtain ⟨hl, h⟩ := h
    have hsub := sub_enumerate
    have hL : Heap.IsTuple (Shared.heap ⟨hp, g, d, tk, os⟩) l items := ⟨_, hl, rfl, n, rfl⟩
    wp_walk using wpAny_loadPart' hl
    refine wpAny_stack_any fun st => wpAny_pure ?_
    split
    · rename_i c _ _ _ _ _
      cases (c == Value.type "enumerate")
      · wp_walk using wpAny_loadPart' hl, wpAny_pyIter_tuple hL
        exact ⟨_, rfl, h⟩
      · wp_walk using wpAny_loadPart' hl, wpAny_pyIter_tuple hL
        exact ⟨_, rfl, h⟩
    · wp_walk using wpAny_loadPart' hl, wpAny_pyIter_tuple hL
      exact ⟨_, rfl, h⟩
theorem call_enumT {l : Addr} {items : Array Value} {Q : Value → Shared → Prop} (hL : s.heap.IsTuple l items)
    (h : ∀ h', IsEnum h' (s.heap.objs.size + 1) s.heap.objs.size 0 .none → h'.IsTupleIter s.heap.objs.size l 0 → h'.objs.size = s.heap.objs.size + 2 →
      (∀ b o, s.heap.get? b = some o → h'.get? b = some o) → Q (.ref (s.heap.objs.size + 1)) { s with heap := h' }) :
    wpAny (model prog w) A (call (.type "enumerate") [.ref l]) Q E s := by
  obtain ⟨⟨c, dct, dt, sl⟩, hl, hc, n, hd⟩ := hL
  replace hc : c = .type "tuple" := hc
  replace hd : dt = .seq items n := hd
  subst hc hd
  refine callType_new PySem.F.called_enumerate (by decide) (PySem.F.typeCall_enumerate_1 _) (PySem.F.newCall_enumerate_1 _) (fun obj => PySem.F.args_object_init_2 obj _) PySem.F.entry_enumerate_new
    (meets_enumT l items n dct sl) ⟨hl, ?_⟩
  have hz : (s.heap.push { cls := .type "tuple_iterator", data := .fields #[.ref l, .int 0 0] }).objs.size = s.heap.objs.size + 1 := Heap.size_push ..
  show _ ∧ _
  rw [hz]
  have he : IsEnum ((s.heap.push { cls := .type "tuple_iterator", data := .fields #[.ref l, .int 0 0] }).push
      { cls := .type "enumerate", data := .fields #[.none, .bool false, .ref s.heap.objs.size, rawInt 0, .none, .none] }) (s.heap.objs.size + 1) s.heap.objs.size 0 .none := by
    have := Heap.get?_push_size (s.heap.push { cls := .type "tuple_iterator", data := .fields #[.ref l, .int 0 0] })
      (o := { cls := .type "enumerate", data := .fields #[.none, .bool false, .ref s.heap.objs.size, rawInt 0, .none, .none] }) rfl
    rw [hz] at this; exact this
  refine ⟨⟨_, he, rfl⟩, h _ he ⟨_, Heap.get?_push_of_some _ (Heap.get?_push_size _ rfl), rfl, rfl⟩ (by rw [Heap.size_push, hz]) fun b o x => Heap.get?_push_of_some _ (Heap.get?_push_of_some _ x)⟩
end
/-- the tuple at a, its items in new pairs -/
def IteT (K : PySem.W.Frag) (a : Addr) : It :=
  ⟨fun i H => ∃ (xs : List V) (x : V), SqT K H a xs ∧ xs[i]? = some x, fun i H v H' => ∃ T x, v = .ref T ∧ H T = none ∧ H' = upd H T (.tup [.int (i : Nat), x]) ∧ ∀ xs, SqT K H a xs → xs[i]? = some x, fun i H => ∃ xs : List V, SqT K H a xs ∧ xs.length ≤ i⟩
theorem turn_enumT {P : Program} {w : World} {K : PySem.W.Frag} {elts : List Expr} {kk : Nat} {tpos : Pos} (a e it : Addr) (hai : a ≠ it) (hae : a ≠ e) :
    Turn P w K (.Tuple elts kk tpos) (IteT K a) [e, it] e (fun i h => (∃ old, IsEnum h e it ((i : Nat) : Int) old) ∧ h.IsTupleIter it a i ∧ e ≠ it) where
  mem := by simp
  obj := fun i h st b hb => by
    obtain ⟨⟨old, he⟩, ⟨o, ho, hc, hd⟩, _⟩ := st
    have e' : b = e ∨ b = it := by simpa using hb
    rcases e' with z | z
    · rw [z]; exact ⟨_, he, fun v q => nomatch q⟩
    · rw [z]; exact ⟨o, ho, fun v q => by rw [hd] at q; cases q⟩
  keep := fun i h h' st k => let ⟨⟨old, he⟩, hi, hne⟩ := st; ⟨⟨old, k e (by simp) _ he⟩, hi.at fun o q => k it (by simp) o q, hne⟩
  item := by
    intro X hP hw hK hc i pins s σ H E I hf st hg
    subst hP hw hK
    obtain ⟨⟨old, he⟩, hit, hne⟩ := st
    obtain ⟨xs, x, hq, hx⟩ := hg
    obtain ⟨its, rv, p, hz⟩ := I.tuple hq
    obtain ⟨u, hu, ru⟩ := rv.get hx
    have hel : e < s.heap.objs.size := Heap.lt_size he
    have hil : it < s.heap.objs.size := by obtain ⟨_, q, _⟩ := hit; exact Heap.lt_size q
    have hlt : i < its.toArray.size := by
      have := (List.getElem?_eq_some_iff.mp hu).1
      simpa using this
    refine wpAny_pyNext_enum_itemD (drawsT (A := X.A.in1) (by show X.A.handled = none; exact I.ok.hd hc) it a hai its.toArray) he (show s.heap.IsTupleIter it a i ∧ s.heap.IsTuple a its.toArray from ⟨hit, p⟩) hlt hne (by simp [hne, Ne.symm hae]) fun x' h' tk hx' ho st' hT hsz hk => ?_
    obtain ⟨hit', _⟩ := st'
    have ex : x' = u := by
      have h1 : its.toArray[i]? = some x' := hx'
      have h2 : its.toArray[i]? = some u := by simpa using hu
      rw [h2] at h1
      exact (Option.some.inj h1).symm
    subst ex
    refine ⟨_, rfl, wpAny_letOwnedTupleGo_enum (s := { s with heap := h', toks := tk + 1 }) ho fun h'' he' sb => ?_⟩
    have hT2 : h''.get? s.heap.objs.size = some { cls := .type "tuple", data := .seq #[.int i tk, x'] } := (sb.2 _ (Nat.ne_of_gt hel)).trans hT
    have new : ObjOk X.prog X.w (upd H s.heap.objs.size (.tup [.int (i : Nat), x])) h'' s.heap.objs.size (.tup [.int (i : Nat), x]) :=
      ⟨by show 2 ≤ sizeLine; decide, [.int i tk, x'], .cons ⟨_, rfl⟩ (.cons ru .nil), ⟨_, hT2, rfl, _, rfl⟩⟩
    have I1 : Inv X pins σ (upd H s.heap.objs.size (.tup [.int (i : Nat), x])) { s with heap := h'', toks := tk + 1 } :=
      I.turnedNew (ch := [e, it]) (fun b ob hb q => (sb.2 b (fun z => hb (by simp [z]))).trans (hk b ob (fun z => hb (by simp [z])) (fun z => hb (by simp [z])) q)) hf (Nat.le_refl _) new
    refine ⟨.ref s.heap.objs.size, _, I1, rfl, ⟨_, x, rfl, I.hok.fresh (Nat.le_refl _), rfl, fun ys hy => by rw [I.tuple_inj hy hq]; exact hx⟩, ⟨⟨x', ?_⟩, hit'.at fun o q => (sb.2 it (Ne.symm hne)).trans q, hne⟩, fun b hb => ?_⟩
    · have e1 : ((i + 1 : Nat) : Int) = (i : Int) + 1 := by omega
      rw [e1]; exact he'
    · have hb' : b < s.heap.objs.size := by
        have e' : b = e ∨ b = it := by simpa using hb
        rcases e' with z | z
        · rw [z]; exact hel
        · rw [z]; exact hil
      rw [upd_ne (Nat.ne_of_lt hb')]
      exact (hf b hb).1
  done := by
    intro X hP hw hK hc i pins s σ H E I hf st hg
    subst hP hw hK
    obtain ⟨⟨old, he⟩, hit, hne⟩ := st
    obtain ⟨xs, hq, hx⟩ := hg
    obtain ⟨its, rv, p, hz⟩ := I.tuple hq
    obtain ⟨f0, f1, f2, f3, f4, f5⟩ := hf it (by simp)
    have hl := rv.length
    have hT : s.TypeIs (.ref e) "enumerate" := ⟨_, he, rfl⟩
    unfold pyNext
    refine wpAny_bind (wpAny_attempt (wpAny_callSpecial?_slot (name := Str.ofString "__next__") hT PySem.F.slot_enumerate_next
      (wpAny_call_entry PySem.F.slot_enumerate_next hT PySem.F.entry_enumerate_next ?_ (PySem.F.args_enumerate_next_1 _))))
    show wpAny _ _ (field (.ref e) 2 >>= _) _ _ _
    refine wpAny_bind (wpAny_field he rfl (x := .ref it) rfl ?_)
    refine wpAny_bind (nextOf_tup_end (by show X.A.handled = none; exact I.ok.hd hc) hit (show s.heap.IsTuple a its.toArray from p) (by simp; omega) fun h' x he' hx' => ?_)
    obtain ⟨o, ho, hc'⟩ := hx'
    refine wpAny_bind (wpAny_isInstance (T := "StopIteration") (b := true) ⟨o, ho, hc'⟩ isSubtype_stop ?_)
    exact wpAny_pure ⟨rfl, I.turned (t' := s.toks) (fun b o hb q => he' b o hb q) f0 f1 f3 f4 f5⟩
  self := fun A i s Q E st h => let ⟨⟨_, he⟩, _⟩ := st; wpAny_pyIter_enum he h
def iEnumT (K : PySem.W.Frag) (ta : TA) : TI := fun σ H R => ta σ H fun vs H1 => ∃ a xs, vs = [.ref a] ∧ SqT K H1 a xs ∧ R (IteT K a) H1
theorem pi_enumT {X : Cx} {e : Expr} {ta : TA} {p pos tpos : Pos} {elts : List Expr} {kk : Nat} (hg : Gl X "enumerate") (hm : X.mg "enumerate" = none) (ha : PA X [e] ta) (hs : starEach [e] X.env = [(false, eval e X.env)] := by rfl) :
    PI X (.Tuple elts kk tpos) (.Call (.Name "enumerate" p) [e] [] pos) (iEnumT X.K ta) := by
  refine ⟨fun pins s σ H R I h => ?_⟩
  refine Call_ (ld_blt I hg hm boot_enumerate (PyProof.Rows.callWith_type1 (thn (ha.run pos pins s σ H _ I h) fun us s1 ⟨vs, H1, I1, r1, q1⟩ => ?_) hs rfl))
  obtain ⟨a, xs, ex, hq, q⟩ := q1
  subst ex
  cases r1 with
  | cons r rr =>
    cases rr
    cases r
    obtain ⟨its, rv, p', hz⟩ := I1.tuple hq
    have hlt : a < s1.heap.objs.size := by obtain ⟨o, ho, _⟩ := p'; exact Heap.lt_size ho
    refine call_enumT (show s1.heap.IsTuple a its.toArray from p') fun h' he hit hsz hk => wpAny_pyIter_enum he ?_
    have I2 : Inv X pins σ H1 { s1 with heap := h' } := I1.kept (t' := s1.toks) hk
    refine ⟨s1.heap.objs.size + 1, [s1.heap.objs.size + 1, s1.heap.objs.size], _, _, H1, rfl, I2, turn_enumT a (s1.heap.objs.size + 1) s1.heap.objs.size (Nat.ne_of_lt hlt) (Nat.ne_of_lt (Nat.lt_succ_of_lt hlt)), ⟨⟨.none, he⟩, hit, Nat.succ_ne_self _⟩, fun b hb => ?_, q⟩
    have e' : b = s1.heap.objs.size + 1 ∨ b = s1.heap.objs.size := by simpa using hb
    have hle : s1.heap.objs.size ≤ b := by
      rcases e' with z | z
      · rw [z]; exact Nat.le_add_right _ _
      · rw [z]; exact Nat.le_refl _
    exact I1.fpOk hle (I1.hok.fresh hle)

/-! ### the walks, in the little heap -/
def enD (xs : List D) : List D := (List.range xs.length).map fun i => .tup [.int (i : Nat), xs.getD i .non]
def enSrc (s : Src) : Src := ⟨enD s.items, s.deps⟩
def iEn (l : FL) : FI0 := fun env ah => (l env ah).bind fun z => match z.1 with
  | [d] => okO (seqSrc z.2 d) fun s => .ok (enSrc s, z.2)
  | _ => .stk
section
variable {K : PySem.W.Frag} {mg : Str → Option Value} {E : XW} {ι ι' ι1 : Io} {H H' H1 : Hp} {ah ah' : AH} {d : D} {v : V}
theorem enD_get {xs : List D} {i : Nat} {e : D} (h : (enD xs)[i]? = some e) : ∃ d, xs[i]? = some d ∧ e = .tup [.int (i : Nat), d] := by
  unfold enD at h
  rw [List.getElem?_map] at h
  have lt : i < xs.length := by
    rcases Nat.lt_or_ge i xs.length with z | z
    · exact z
    · rw [List.getElem?_eq_none (by simpa using z)] at h; cases h
  rw [List.getElem?_range lt] at h
  refine ⟨xs[i], by simp [lt], ?_⟩
  have := Option.some.inj h
  rw [← this]
  show D.tup [D.int (i : Nat), xs.getD i D.non] = _
  rw [List.getD_eq_getElem?_getD, List.getElem?_eq_getElem lt]
  rfl
theorem laid_pair (S : SimH K mg ι H ah) {T : Addr} (n : H T = none) {i : Nat} {x : V} (r : Rep K mg ι H d x) : Step ι H ι (upd H T (.tup [.int (i : Nat), x])) ∧ SimH K mg ι (upd H T (.tup [.int (i : Nat), x])) ah ∧ Rep K mg ι (upd H T (.tup [.int (i : Nat), x])) (.tup [.int (i : Nat), d]) (.ref T) := by
  have st : Step ι H ι (upd H T (.tup [.int (i : Nat), x])) := Step.laid n
  refine ⟨st, S.laid n, ?_⟩
  unfold Rep
  exact ⟨T, _, rfl, .inl ⟨S.out n, .inl upd_same⟩, of_cons of_int (of_cons (st.rep d r) of_nil)⟩
theorem wk_enL {a : Addr} {src : Src} (h : ∀ ι1 H1 ah1, Lv ι H ι1 H1 → SimH K mg ι1 H1 ah1 → src.still ah1 = true → ∃ vs1, SqL K H1 a vs1 ∧ Reps K mg ι1 H1 src.items vs1) : Wk K mg ι H (enSrc src) (Ite K a) := fun i ι1 H1 ah1 st S1 sl => by
  obtain ⟨vs, hr, rs⟩ := h ι1 H1 ah1 st S1 sl
  have hq : SqL K H1 a vs := hr
  refine ⟨fun e he => ?_, fun hi => ⟨vs, hq, by rw [reps_len rs]; simpa [enSrc, enD] using hi⟩⟩
  obtain ⟨d, hd, rfl⟩ := enD_get he
  obtain ⟨v, hv, rv⟩ := reps_get rs hd
  refine ⟨⟨vs, v, hq, hv⟩, fun x H' y => ?_⟩
  obtain ⟨T, x0, rfl, hn, rfl, y⟩ := y
  have := y vs hq
  rw [hv] at this
  cases this
  exact laid_pair S1 hn rv
theorem wk_enT {a : Addr} {xs : List D} {vs : List V} (f : FzT K ι H a vs) (r : Reps K mg ι H xs vs) : Wk K mg ι H (enSrc ⟨xs, []⟩) (IteT K a) := fun i ι1 H1 ah1 st S1 sl => by
  have hq : SqT K H1 a vs := (st.fzT f).sq
  have rs := st.reps xs r
  refine ⟨fun e he => ?_, fun hi => ⟨vs, hq, by rw [reps_len rs]; simpa [enSrc, enD] using hi⟩⟩
  obtain ⟨d, hd, rfl⟩ := enD_get he
  obtain ⟨v, hv, rv⟩ := reps_get rs hd
  refine ⟨⟨vs, v, hq, hv⟩, fun x H' y => ?_⟩
  obtain ⟨T, x0, rfl, hn, rfl, y⟩ := y
  have := y vs hq
  rw [hv] at this
  cases this
  exact laid_pair S1 hn rv
end
section
variable {X : Cx} {E : XW} {e : Expr} {elts : List Expr} {kk : Nat} {tpos p pos : Pos} {Fl : FL}
theorem ien (hm : X.mg "enumerate" = none) (ha : FA X E [e] Fl) (hg : Gl X "enumerate" := by rfl) (hs : starEach [e] X.env = [(false, eval e X.env)] := by rfl) : FI X E (.Tuple elts kk tpos) (.Call (.Name "enumerate" p) [e] [] pos) (iEn Fl) :=
  PI.mono (PI.or (pi_enum hg hm ha hs) (pi_enumT hg hm ha hs)) fun σ H R hw => by
    obtain ⟨ι, env, ah, a, p⟩ := hw
    cases hr : Fl env ah with
    | stk => unfold iEn at p; rw [hr] at p; exact p.elim
    | exc x e' h' =>
      unfold iEn at p
      rw [hr] at p
      refine .inl ⟨ι, env, ah, a, ?_⟩
      rw [hr]
      exact p
    | ok z =>
      obtain ⟨ds, ah1⟩ := z
      unfold iEn at p
      rw [hr] at p
      cases ds with
      | nil => exact p.elim
      | cons d t =>
       cases t with
       | cons d2 t2 => exact p.elim
       | nil =>
        have p : PoI X.K X.mg E ι H (okO (seqSrc ah1 d) fun s => Fx.R.ok (enSrc s, ah1)) R := p
        obtain ⟨src, hs, p⟩ := p.okO
        by_cases ht : ∃ xs, d = .tup xs
        · obtain ⟨xs, rfl⟩ := ht
          cases hs
          refine .inr ⟨ι, env, ah, a, ?_⟩
          rw [hr]
          intro ι1 H1 vs s S rs
          obtain ⟨v, t, rfl, rv, rt⟩ := reps_cons rs
          rw [reps_nil rt]
          unfold Rep at rv
          obtain ⟨b, ws, rfl, f, rw'⟩ := rv
          exact ⟨b, ws, rfl, f.sq, (p.later s).here S (wk_enT f rw')⟩
        · refine .inl ⟨ι, env, ah, a, ?_⟩
          rw [hr]
          intro ι1 H1 vs s S rs
          obtain ⟨v, t, rfl, rv, rt⟩ := reps_cons rs
          rw [reps_nil rt]
          obtain ⟨b, ws, e1, e2, e3⟩ := lst_still S rv hs fun xs z => ht ⟨xs, z⟩
          subst e1
          exact ⟨b, ws, rfl, e2, (p.later s).here S (wk_enL e3)⟩
end
end Fx

/-! ===== Fx13 -/
set_option Elab.async false
set_option linter.all false
set_option maxRecDepth 100000
set_option maxHeartbeats 4000000
namespace Fx
open PySem PySem.Spec PyProof.Rows L2

/-! ### set(list of ints) -/
section
variable {P : Program} {w : World} {A : Around} {E : Value → Shared → Prop} {s : Shared}
set_option maxHeartbeats 6400000 in
theorem call_set_lstI {l : Addr} {items : Array Value} (ns : List Int) {Q : Value → Shared → Prop} (hh : A.handled = none) (hl : s.heap.IsList l items) (hit : IntsAre items.toList ns) (hb : ns.length + 1 < scanBound)
    (h : ∀ (h' : Heap) (tk c : Nat), SetR w h' s.heap.objs.size (fun j => decide (j ∈ ns)) c → c ≤ ns.length → (∀ b o, s.heap.get? b = some o → h'.get? b = some o) → Q (.ref s.heap.objs.size) { s with heap := h', toks := tk }) :
    wpAny (model P w) A (call (.type "set") [.ref l]) Q E s := by
  have hisz : items.size = ns.length := by
    have q := IntsAre.length hit
    rw [Array.length_toList] at q
    exact q
  obtain ⟨c, tl, hmro⟩ := F.called_set.mro
  have hmade := F.called_set.made
  have hsub := F.called_set.sub
  refine wpAny_call (codeAny_of_tree ?_)
  show wpAny _ _ (callAny (.type "set") _) _ _ _
  refine wpAny_pure ⟨Code.quiet_builtin _ (by decide +kernel), codeAny_builtin F.entry_type_call ?_⟩
  rw [Around.under_plain (weight_type_call_type "set" [.ref l] []) rfl]
  have h1 := F.called_set.notType
  have h2 := F.called_set.canCreate
  have hct := F.typeCall_set_1 (.ref l)
  repeat (any_goals (first | assumption | wp_step))

  refine codeAny_mono (code_set_led1 (.ref l) (E := E) (Q₁ := fun obj s₁ => obj = .ref s.heap.objs.size ∧ s₁ = { s with heap := s.heap.push { cls := .type "set", dict := none, data := .set #[] 0 (.fresh 0 0 (!w.params.followText "set-order")) } }) ⟨rfl, rfl⟩) fun r s₁ hr => ?_
  cases r with
  | error e => exact hr
  | ok fl =>
    cases fl with
    | ret obj =>
      obtain ⟨rfl, rfl⟩ := hr
      have hS : (s.heap.push { cls := .type "set", dict := none, data := .set #[] 0 (.fresh 0 0 (!w.params.followText "set-order")) }).get? s.heap.objs.size = some { cls := .type "set", dict := none, data := .set #[] 0 (.fresh 0 0 (!w.params.followText "set-order")) } := Heap.get?_push_size _ rfl
      have hT : Shared.TypeIs { s with heap := s.heap.push { cls := .type "set", dict := none, data := .set #[] 0 (.fresh 0 0 (!w.params.followText "set-order")) } } (.ref s.heap.objs.size) "set" := ⟨_, hS, rfl⟩
      have hli := F.called_set.init.lookup
      have hbi := F.called_set.init.bind (.ref s.heap.objs.size)
      repeat (any_goals (first | assumption | wp_step))

      refine codeAny_mono (codeAny_call_builtin (R := wants (fun r s₂ => r = .none ∧ ∃ h' tk c, s₂ = { s with heap := h', toks := tk } ∧ SetR w h' s.heap.objs.size (fun j => decide (j ∈ ns)) c ∧ c ≤ ns.length ∧
          (∀ b o, s.heap.get? b = some o → h'.get? b = some o)) E) F.called_set.init.plain F.entry_set_init (check_set_init_1 hT ?_)) fun r₂ s₂ hr₂ => ?_
      · obtain ⟨ol, hol, hcl, nl, hdl⟩ := hl
        obtain ⟨ocls, odict, odata, oslots⟩ := ol
        simp only at hcl hdl
        subst hcl; subst hdl
        have hol' : (s.heap.push { cls := .type "set", dict := none, data := .set #[] 0 (.fresh 0 0 (!w.params.followText "set-order")) }).get? l = some { cls := .type "list", dict := odict, data := .seq items nl, slots := oslots } := Heap.get?_push_of_some _ hol
        have hsls := F.sub_list_set
        have hslf := F.sub_list_frozenset
        have hne : (Value.type "list" == Value.type "dict") = false := by decide
        have hl1 : (s.heap.push { cls := .type "set", dict := none, data := .set #[] 0 (.fresh 0 0 (!w.params.followText "set-order")) }).IsList l items := ⟨_, hol', rfl, nl, rfl⟩
        unfold Builtin.«set.__init__» noKeywords Builtin.Frozenset.updateFrom
        generalize hPI : pyIter = PI
        wp_walk
        subst hPI

        refine wpAny_pyIter_list hl1 ?_
        refine wpAny_bind (wpAny_runValue ?_)
        have hlS : l < s.heap.objs.size := Heap.lt_size hol
        have hh3 : A.in1.in1.in1.handled = none := by simp [hh]
        have hz1 : (s.heap.push { cls := .type "set", dict := none, data := .set #[] 0 (.fresh 0 0 (!w.params.followText "set-order")) }).objs.size = s.heap.objs.size + 1 := Heap.size_push ..
        have hneI : l ≠ (s.heap.push { cls := .type "set", dict := none, data := .set #[] 0 (.fresh 0 0 (!w.params.followText "set-order")) }).objs.size := by
          rw [Heap.size_push]; exact Nat.ne_of_lt (Nat.lt_succ_of_lt hlS)
        have hSf : s.heap.objs.size ∉ [(s.heap.push { cls := .type "set", dict := none, data := .set #[] 0 (.fresh 0 0 (!w.params.followText "set-order")) }).objs.size, l] := by
          rw [Heap.size_push]; simp only [List.mem_cons, List.mem_singleton, List.not_mem_nil, or_false, not_or]
          exact ⟨Nat.ne_of_lt (Nat.lt_succ_self _), Nat.ne_of_gt hlS⟩
        have hval : ∀ (i : Nat) (v : Value), items[i]? = some v → ∃ k t, ns[i]? = some k ∧ v = .int k t := fun i v hv => by
          have hi : i < ns.length := by rw [← hisz]; exact (Array.getElem?_eq_some_iff.mp hv).1
          obtain ⟨t, e⟩ := PyProof.Rows.IntsAre.int_at hit i v (by rw [Array.getElem?_toList]; exact hv)
          refine ⟨ns[i], t, List.getElem?_eq_getElem hi, ?_⟩
          rw [e, List.getD_eq_getElem?_getD, List.getElem?_eq_getElem hi] <;> rfl
        refine set_update_ints ((Walks.list hh3 _ l hneI items).toS) s.heap.objs.size
          hSf ns hisz hb hval (items.size - 0) 0 _ (by omega) (Nat.zero_le _)
          ⟨⟨_, Heap.get?_push_size _ rfl, rfl, rfl⟩, (hl1.push _)⟩ ?hS0 ?hR
        case hS0 =>
          have hget : ((s.heap.push { cls := .type "set", dict := none, data := .set #[] 0 (.fresh 0 0 (!w.params.followText "set-order")) }).push { cls := .type "list_iterator", data := .fields #[.ref l, .int 0 0] }).get? s.heap.objs.size
              = some { cls := .type "set", dict := none, data := .set #[] 0 (.fresh 0 0 (!w.params.followText "set-order")) } := Heap.get?_push_of_some _ hS
          exact ⟨0, Nat.le_refl 0, setR_new_at hget⟩
        case hR =>
          intro s' c' hm hc' hS'
          obtain ⟨h', g2, d', tk', os'⟩ := s'
          have eg : g2 = s.gens := hm.gens
          have ed : d' = s.drawn := hm.drawn
          have eo : os' = s.os := hm.os
          subst eg; subst ed; subst eo
          show wpAny _ _ _ _ _ _
          refine wpAny_pure ?_
          show wpAny _ _ (ret Value.none) _ _ _
          rw [hisz] at hc'
          refine wpAny_pure ⟨rfl, h', tk', c', rfl, hS', hc', fun b o e => ?_⟩
          have hb0 : b < s.heap.objs.size := Heap.lt_size e
          have hb1 : b ≠ s.heap.objs.size := Nat.ne_of_lt hb0
          have hb2 : b ≠ (s.heap.push { cls := .type "set", dict := none, data := .set #[] 0 (.fresh 0 0 (!w.params.followText "set-order")) }).objs.size := by
            rw [Heap.size_push]; exact Nat.ne_of_lt (Nat.lt_succ_of_lt hb0)
          exact hm.heap b o (by simp only [List.mem_cons, List.mem_singleton, List.not_mem_nil, or_false, not_or]; exact ⟨hb1, hb2⟩) (Heap.get?_push_of_some _ (Heap.get?_push_of_some _ e))

      · cases r₂ with
        | error e => exact hr₂
        | ok fl₂ =>
          cases fl₂ with
          | ret r =>
            obtain ⟨rfl, h', tk, c', rfl, hS', hc', hk'⟩ := hr₂
            repeat (any_goals (first | assumption | wp_step))
            exact h _ _ _ hS' hc' hk'
          | _ => exact hr₂.elim
    | _ => exact hr.elim
end

/-! ### comprehensions of sets of ints -/
section
open PpSet
variable {X : Cx}
theorem addI_ok {pins : List (Addr × Obj)} {σ : L2.St} {H : Hp} {s : Shared} {E : Value → Shared → Prop} {D : Addr} {S : Int → Bool} {n : Nat} {y : Int} {tk : Tok} {Q : Value → Shared → Prop} (I : Inv X pins σ H s) (hD : H D = some (SetO X.w D S n)) (room : n + 1 < scanBound)
    (h : ∀ s', Inv X pins σ (upd H D (SetO X.w D (fun j => S j || decide (j = y)) (if S y = true then n else n + 1))) s' → Q .none s') : wpAny (model X.prog X.w) X.A (call (.builtin "set.add") [.ref D, .int y tk]) Q E s := by
  have R := setO_get I hD
  refine setR_add R room fun h' sb new => ?_
  have he : ∃ u, h'.get? D = some u := by
    have ⟨o, _, _, _, ho, _⟩ := new
    exact ⟨o, ho⟩
  exact h _ (I.write (e := D) (t' := s.toks + 1) (by rw [hD]; trivial) (.inl rfl) (fun b u hb hu => (sb.2 b hb).trans hu) he (setO_new new))
/-- {elt for target in iter if ..}, elt a truth value: D the new set -/
def tScI (w : World) (wi : TI) (g : TG) (tt : TT) (te : TE) (vs : List Nat) : TE := fun σ H Q => wi σ H fun J H1 => ∀ D, H1 D = none → ∃ W : Nat → Nat → Hp → Prop, (∃ m, W 0 m (upd H1 D (SetO w D (fun _ => false) 0))) ∧ ∀ i m H, W i m H →
  (J.stop i H ∧ Q (.ref D) H) ∨ (J.go i H ∧ ∃ Nx : Hp → Prop, (∀ H', Nx H' → ∃ m', m' < m ∧ W (i + 1) m' H') ∧ ∀ x H', J.yld i H x H' → g x (wipe σ vs) H' fun σ2 H2 => wipe σ2 vs = wipe σ vs ∧ tt σ2 H2 fun b H3 =>
    if b = true then te σ2 H3 fun y H4 => ∃ (c : Int) (S : Int → Bool) (n : Nat), y = V.int c ∧ H4 D = some (SetO w D S n) ∧ n + 1 < scanBound ∧ Nx (upd H4 D (SetO w D (fun j => S j || decide (j = c)) (if S c = true then n else n + 1))) else Nx H3)
theorem sc_coreI {pins : List (Addr × Obj)} {s : Shared} {σ : L2.St} {H : Hp} {Q : VK} {elt tg iter : Expr} {ifs : List Expr} {scope : Scope} {own : List (PySem.Str × Nat)} {pos pos' : Pos} {wi : TI} {g : TG} {tt : TT} {te : TE} {use : Option (Value → Sem Unit)} {Qf : Value → Shared → Prop}
    (hc : X.calm = true) (hN : X.N.Nodup) (I : Inv X pins σ H s) (hi : PI X tg iter wi) (ok : BlkOk X.N X.env.scope scope own)
    (hg : ∀ (s : Shared) (H : Hp) (C : Addr) (cl : List (PySem.Str × Addr)) (fp : List Addr), PG (X.blk s H scope (compEnvC scope cl C X.env) fp) tg g) (ht : ∀ (s : Shared) (H : Hp) (C : Addr) (cl : List (PySem.Str × Addr)) (fp : List Addr), PTs (X.blk s H scope (compEnvC scope cl C X.env) fp) ifs tt)
    (he : ∀ (s : Shared) (H : Hp) (C : Addr) (cl : List (PySem.Str × Addr)) (fp : List Addr), PE (X.blk s H scope (compEnvC scope cl C X.env) fp) elt te) (hs : ∀ x, foldedSetIterable iter X.env x = pure x)
    (h : tScI X.w wi g tt te (own.map (·.2)) σ H Q)
    (hRR : ∀ D C s' m H', Inv X pins σ H' s' → Q (.ref D) H' → s'.heap.Ns C m → FpOk X pins H' C → compPost (model X.prog X.w) X.A X.xe use Qf (.ref D) C (.ok .next) s') :
    wpAny (model X.prog X.w) X.A (comprehension (.SetComp elt [⟨tg, iter, ifs, 0⟩] scope pos) scope X.env pos' (newSet (.type "set")) false (eval iter X.env) use) Qf X.xe s := by
  have hfree : ∀ y ∈ scope.names, y.2 = .free → ∃ c, X.env.cells.lookup y.1 = some c := fun y hy e => by
    rcases ok.free y hy e with k | k
    · exact I.ok.has _ (.inl k)
    · exact I.ok.has _ (.inr k)
  refine wpAny_comprehension_free (use := use) rfl hs (closure_ok hfree) ok.kind (fun y hy e => by rw [ok.uniq y hy, e])
    (thn (hi.run pins s σ H _ I h) fun xv s1 hx => thn hx fun itv s2 h2 => ?_)
  obtain ⟨it, fp, tn, J, H2, e, I2, T, st2, f2, q⟩ := h2
  subst e
  refine newSet_ok (newEnv_comp ?_)
  generalize hD : s2.heap.objs.size = D
  have hDn : H2 D = none := I2.hok.fresh (Nat.le_of_eq hD)
  obtain ⟨W, ⟨m0, w0⟩, turn⟩ := q D hDn
  -- the new list
  generalize hs3 : ({ s2 with heap := s2.heap.push { cls := .type "set", dict := none, data := .set #[] 0 (.fresh 0 0 (!X.w.params.followText "set-order")) } } : Shared) = s3
  have I3 : Inv X pins σ (upd H2 D (SetO X.w D (fun _ => false) 0)) s3 := by
    rw [← hs3]
    refine I2.laid (t' := s2.toks) (fun b o e => Heap.get?_push_of_some _ e) (Nat.le_of_eq hD) ?_
    rw [← hD]
    exact setO_new (setR_fresh X.w)
  have h3 : s3.heap = s2.heap.push { cls := .type "set", dict := none, data := .set #[] 0 (.fresh 0 0 (!X.w.params.followText "set-order")) } := by rw [← hs3]
  have sz : ∀ b ∈ fp, b < s2.heap.objs.size := fun b hb => by
    obtain ⟨o, e, _⟩ := T.obj _ _ st2 b hb
    exact Heap.lt_size e
  have f3 : ∀ b ∈ fp, FpOk X pins (upd H2 D (SetO X.w D (fun _ => false) 0)) b ∧ b < s3.heap.objs.size := fun b hb => by
    have hlt := sz b hb
    refine ⟨⟨?_, (f2 b hb).2⟩, by rw [h3, Heap.size_push]; exact Nat.lt_succ_of_lt hlt⟩
    rw [upd_ne (by rw [← hD]; exact Nat.ne_of_lt hlt)]
    exact (f2 b hb).1
  have st3 : tn 0 s3.heap := T.keep _ _ _ st2 fun b _ o e => by rw [h3]; exact Heap.get?_push_of_some _ e
  have I4 := block_start I3 ok hN f3
  have pg := hg s3 (upd H2 D (SetO X.w D (fun _ => false) 0)) s3.heap.objs.size (cellsFrom (s3.heap.objs.size + 1) scope.names (cloFrom X.env.cells scope.names [])) fp
  have pt := ht s3 (upd H2 D (SetO X.w D (fun _ => false) 0)) s3.heap.objs.size (cellsFrom (s3.heap.objs.size + 1) scope.names (cloFrom X.env.cells scope.names [])) fp
  have pe := he s3 (upd H2 D (SetO X.w D (fun _ => false) 0)) s3.heap.objs.size (cellsFrom (s3.heap.objs.size + 1) scope.names (cloFrom X.env.cells scope.names [])) fp
  show codeAny _ _ (.compStart (.SetComp elt [⟨tg, iter, ifs, 0⟩] scope pos) 0 (.ref it) (.ref D) (compEnvC scope (cellsFrom (s3.heap.objs.size + 1) scope.names (cloFrom X.env.cells scope.names [])) s3.heap.objs.size X.env)) (compPost (model X.prog X.w) X.A X.xe use Qf (.ref D) s3.heap.objs.size) { s3 with heap := pushCells (s3.heap.push { cls := .type "dict", data := .dict #[] }) scope.names }
  have nfp : ∀ b ∈ fp, (upd H2 D (SetO X.w D (fun _ => false) 0)) b = none := fun b hb => (f3 b hb).1.1
  generalize hce : compEnvC scope (cellsFrom (s3.heap.objs.size + 1) scope.names (cloFrom X.env.cells scope.names [])) s3.heap.objs.size X.env = ce at I4 pg pt pe ⊢
  have cL : ce.locals = s3.heap.objs.size := by subst hce; rfl
  generalize hH3 : upd H2 D (SetO X.w D (fun _ => false) 0) = H3 at I3 I4 pg pt pe w0 nfp f3
  generalize hs4 : ({ s3 with heap := pushCells (s3.heap.push { cls := .type "dict", data := .dict #[] }) scope.names } : Shared) = s4 at I4 ⊢
  have st4 : tn 0 s4.heap := T.keep _ _ _ st3 fun b _ o e => by rw [← hs4]; exact pushCells_keeps _ _ _ _ (Heap.get?_push_of_some _ e)
  have stat : ∀ {σ' : L2.St} {H' : Hp} {s' : Shared}, Inv (X.blk s3 H3 scope ce fp) [] σ' H' s' → (∀ b ∈ fp, H' b = none) → ∀ b ∈ fp, FpOk (X.blk s3 H3 scope ce fp) [] H' b := fun {σ' H' s'} I' hn b hb =>
    ⟨hn b hb, (I'.ok.exf b hb).1, I'.ok.exfs b hb, .inl hb, fun x c e => (I'.ok.exf b hb).2 x c e, fun p hp => absurd (show p ∈ ([] : List (Addr × Obj)) ++ [] from hp) (by simp)⟩
  have loop : codeAny (model X.prog X.w) X.A (.compLoop (.SetComp elt [⟨tg, iter, ifs, 0⟩] scope pos) 0 (.ref it) (.ref D) ce) (compPost (model X.prog X.w) X.A X.xe use Qf (.ref D) s3.heap.objs.size) s4 := by
    refine compLoopS_any (fun n s' => ∃ i H', Inv (X.blk s3 H3 scope ce fp) [] (wipe σ (own.map (·.2))) H' s' ∧ tn i s'.heap ∧ (∀ b ∈ fp, H' b = none) ∧ W i n H') ?_ m0 ⟨0, H3, I4, st4, nfp, w0⟩
    rintro n s5 ⟨i, H5, I5, st5, n5, w5⟩
    rcases turn i n H5 w5 with ⟨stop, qq⟩ | ⟨go, Nx, hNx, step⟩
    · have td := T.done (X.blk s3 H3 scope ce fp) rfl rfl rfl hc i [] s5 _ H5 (fun _ _ => False) I5 (stat I5 n5) st5 stop
      refine thnF td fun r s6 ⟨hr, I6⟩ => ?_
      subst hr
      -- back in the def's context
      have I7 : Inv X pins σ H5 s6 := I3.call' (ch := fp) I6.os I6.base I6.hok I6.bare fun b hb => ⟨(f3 b hb).1.2.2.2.1, (f3 b hb).1.2.1, (f3 b hb).1.2.2.2.2.1, (f3 b hb).1.2.2.2.2.2⟩
      have nC : H5 s3.heap.objs.size = none := by
        have z : H5 ce.locals = none := I6.free
        rw [cL] at z
        exact z
      obtain ⟨m, hn, _⟩ := I6.loc
      have hn : s6.heap.Ns ce.locals m := hn
      rw [cL] at hn
      exact hRR D s3.heap.objs.size s6 m H5 I7 qq hn (I3.fpOk (Nat.le_refl _) nC)
    · have ti := T.item (X.blk s3 H3 scope ce fp) rfl rfl rfl hc i [] s5 _ H5 (fun _ _ => False) I5 (stat I5 n5) st5 go
      refine thnF ti fun r s6 ⟨u, hr, h6⟩ => ?_
      subst hr
      refine thnF h6 fun _ s7 ⟨x, H7, I7, r7, y7, st7, n7⟩ => ?_
      have I7' := I7.pinned (stat I7 n7) (T.obj _ _ st7)
      refine thnF (pg.run _ s7 _ H7 x u _ I7' r7 (step x H7 y7)) fun _ s8 ⟨σ8, H8, I8, hw8, q8⟩ => ?_
      refine thnF (pt.run _ s8 σ8 H8 _ I8 q8) fun b s9 ⟨H9, I9, q9⟩ => ?_
      -- the turn's end
      have fin : ∀ {s' : Shared} {H' : Hp}, Inv (X.blk s3 H3 scope ce fp) ([] ++ pinsAt fp s7.heap) σ8 H' s' → Nx H' → ∃ m, m < n ∧ ∃ i H', Inv (X.blk s3 H3 scope ce fp) [] (wipe σ (own.map (·.2))) H' s' ∧ tn i s'.heap ∧ (∀ b ∈ fp, H' b = none) ∧ W i m H' := fun {s' H'} I' nx => by
        obtain ⟨m', hm, w'⟩ := hNx H' nx
        have pin' : ∀ b ∈ fp, ∀ o, s7.heap.get? b = some o → s'.heap.get? b = some o ∧ H' b = none := fun b hb o e =>
          let z := I'.pin (b, o) (List.mem_append_right _ (List.mem_append_right _ (mem_pinsAt hb e)))
          ⟨z.1, z.2.1⟩
        have hl : (wipe σ (own.map (·.2))).length = σ8.length := by rw [← hw8, wipe_length]
        refine ⟨m', hm, i + 1, H', (I'.unpinned (pins := [])).weak hl (fun j v e => ?_), T.keep _ _ _ st7 fun b hb o e => (pin' b hb o e).1, fun b hb => ?_, w'⟩
        · rw [← hw8] at e
          exact (wipe_some e).1
        · obtain ⟨o, e, _⟩ := T.obj _ _ st7 b hb
          exact (pin' b hb o e).2
      cases b with
      | false =>
        simp only [Bool.false_eq_true, if_false] at q9 ⊢
        exact fin I9 q9
      | true =>
        simp only [if_true] at q9 ⊢
        refine thnF (pe.run _ s9 σ8 H9 _ I9 q9) fun z s10 ⟨yv, H10, I10, r10, cb, S0, n0, ey, hD10, hz10, nx⟩ => ?_
        subst ey
        obtain ⟨tkz, rfl⟩ := (show ∃ t, z = Value.int cb t from r10)
        exact addI_ok (X := X.blk s3 H3 scope ce fp) I10 hD10 hz10 fun s11 I11 => fin I11 nx
  exact codeAny_compStart_set loop (T.self X.A 0 _ _ _ st4 loop)
/-- as a value -/
theorem pe_scI {elt tg iter : Expr} {ifs : List Expr} {scope : Scope} {own : List (PySem.Str × Nat)} {pos : Pos} {wi : TI} {g : TG} {tt : TT} {te : TE} (hc : X.calm = true) (hN : X.N.Nodup) (hi : PI X tg iter wi) (ok : BlkOk X.N X.env.scope scope own)
    (hg : ∀ (s : Shared) (H : Hp) (C : Addr) (cl : List (PySem.Str × Addr)) (fp : List Addr), PG (X.blk s H scope (compEnvC scope cl C X.env) fp) tg g) (ht : ∀ (s : Shared) (H : Hp) (C : Addr) (cl : List (PySem.Str × Addr)) (fp : List Addr), PTs (X.blk s H scope (compEnvC scope cl C X.env) fp) ifs tt)
    (he : ∀ (s : Shared) (H : Hp) (C : Addr) (cl : List (PySem.Str × Addr)) (fp : List Addr), PE (X.blk s H scope (compEnvC scope cl C X.env) fp) elt te) (hs : ∀ x, foldedSetIterable iter X.env x = pure x := by intro _; rfl) :
    PE X (.SetComp elt [⟨tg, iter, ifs, 0⟩] scope pos) (tScI X.w wi g tt te (own.map (·.2))) := by
  refine ⟨fun pins s σ H Q I h => ?_⟩
  rw [eval_SetComp]
  refine sc_coreI hc hN I hi ok hg ht he hs h fun D C s' m H' I' q hn f => ⟨m, hn, fun h'' sb => ?_⟩
  obtain ⟨f0, f1, f2, f3, f4, f5⟩ := f
  exact ⟨.ref D, H', I'.turned (t' := s'.toks) (fun b o hb e => (sb.2 b hb).trans e) f0 f1 f3 f4 f5, rfl, q⟩
end
end Fx

/-! ===== Fx14 -/
set_option Elab.async false
set_option linter.all false
set_option maxRecDepth 100000
set_option maxHeartbeats 4000000
namespace Fx
open PySem PySem.Spec PyProof.Rows L2

/-! ### the members, once each, in the order met -/
def stepD (l : List Int) (c : Int) : List Int := if l.contains c = true then l else l ++ [c]
def dedL (ns : List Int) : List Int := ns.foldl stepD []
theorem dedL_snoc (ns : List Int) (c : Int) : dedL (ns ++ [c]) = stepD (dedL ns) c := by unfold dedL; rw [List.foldl_append]; rfl
theorem foldD_mem (ns : List Int) : ∀ (l : List Int) (j : Int), j ∈ ns.foldl stepD l ↔ j ∈ l ∨ j ∈ ns := by
  induction ns with
  | nil => simp
  | cons c ns ih =>
    intro l j
    rw [List.foldl_cons, ih]
    unfold stepD
    by_cases h : l.contains c = true
    · rw [if_pos h]
      have hc : c ∈ l := by simpa using h
      simp only [List.mem_cons]
      constructor
      · rintro (a | a)
        · exact .inl a
        · exact .inr (.inr a)
      · rintro (a | rfl | a)
        · exact .inl a
        · exact .inl hc
        · exact .inr a
    · rw [if_neg h]
      simp only [List.mem_append, List.mem_cons, List.not_mem_nil, or_false]
      constructor
      · rintro ((a | a) | a)
        · exact .inl a
        · exact .inr (.inl a)
        · exact .inr (.inr a)
      · rintro (a | a | a)
        · exact .inl (.inl a)
        · exact .inl (.inr a)
        · exact .inr a
theorem dedL_mem {ns : List Int} {j : Int} : j ∈ dedL ns ↔ j ∈ ns := by unfold dedL; rw [foldD_mem]; simp
theorem foldD_nodup (ns : List Int) : ∀ (l : List Int), l.Nodup → (ns.foldl stepD l).Nodup := by
  induction ns with
  | nil => exact fun l h => h
  | cons c ns ih =>
    intro l h
    rw [List.foldl_cons]
    refine ih _ ?_
    unfold stepD
    by_cases hc : l.contains c = true
    · rw [if_pos hc]; exact h
    · rw [if_neg hc]
      rw [List.nodup_append]
      refine ⟨h, by simp, fun a ha b hb => ?_⟩
      rw [List.mem_singleton] at hb
      subst hb
      rintro rfl
      exact hc (by simpa using ha)
theorem dedL_nodup (ns : List Int) : (dedL ns).Nodup := foldD_nodup ns [] List.nodup_nil
theorem nodup_le {α : Type} [DecidableEq α] : ∀ {l m : List α}, l.Nodup → (∀ x ∈ l, x ∈ m) → l.length ≤ m.length
  | [], _, _, _ => Nat.zero_le _
  | a :: l, m, h, s => by
    rw [List.nodup_cons] at h
    have ha := s a List.mem_cons_self
    have ih := nodup_le (m := m.erase a) h.2 fun x hx => (List.mem_erase_of_ne (by rintro rfl; exact h.1 hx)).mpr (s x (List.mem_cons_of_mem _ hx))
    rw [List.length_erase_of_mem ha] at ih
    have : 0 < m.length := List.length_pos_of_mem ha
    rw [List.length_cons]
    omega
theorem nodup_eq {α : Type} [DecidableEq α] {l m : List α} (h : l.Nodup) (h' : m.Nodup) (e : ∀ x, x ∈ l ↔ x ∈ m) : l.length = m.length :=
  Nat.le_antisymm (nodup_le h fun x => (e x).mp) (nodup_le h' fun x => (e x).mpr)
theorem setR_cnt {w : World} {h : Heap} {a : Addr} {ns : List Int} {c : Nat} (R : SetR w h a (fun j => decide (j ∈ ns)) c) : c = (dedL ns).length := by
  obtain ⟨o, es, ep, t, _, _, _, _, nd, hm, _, _, hn, _⟩ := R
  rw [← hn]
  have e : es.size = (es.toList.map L2.keyOf).length := by simp
  rw [e]
  refine nodup_eq nd (dedL_nodup ns) fun x => ?_
  rw [dedL_mem, ← hm x]
  simp
/-! ### sorted -/
def insI (a : Int) : List Int → List Int
  | [] => [a]
  | b :: r => if a ≤ b then a :: b :: r else b :: insI a r
def srtI : List Int → List Int
  | [] => []
  | a :: r => insI a (srtI r)
theorem insI_perm (a : Int) : ∀ l : List Int, (insI a l).Perm (a :: l)
  | [] => .refl _
  | b :: r => by
    unfold insI
    by_cases h : a ≤ b
    · rw [if_pos h]
    · rw [if_neg h]; exact ((insI_perm a r).cons b).trans (.swap ..)
theorem srtI_perm : ∀ l : List Int, (srtI l).Perm l
  | [] => .refl _
  | a :: r => (insI_perm a (srtI r)).trans ((srtI_perm r).cons a)
theorem insI_sorted (a : Int) : ∀ l : List Int, l.Pairwise (· ≤ ·) → (insI a l).Pairwise (· ≤ ·)
  | [], _ => List.pairwise_singleton ..
  | b :: r, h => by
    unfold insI
    rw [List.pairwise_cons] at h
    by_cases hab : a ≤ b
    · rw [if_pos hab, List.pairwise_cons]
      refine ⟨fun x hx => ?_, List.pairwise_cons.mpr h⟩
      rcases List.mem_cons.mp hx with rfl | hx
      · exact hab
      · exact Int.le_trans hab (h.1 x hx)
    · rw [if_neg hab, List.pairwise_cons]
      refine ⟨fun x hx => ?_, insI_sorted a r h.2⟩
      rcases List.mem_cons.mp ((insI_perm a r).mem_iff.mp hx) with rfl | hx
      · omega
      · exact h.1 x hx
theorem srtI_sorted : ∀ l : List Int, (srtI l).Pairwise (· ≤ ·)
  | [] => List.Pairwise.nil
  | a :: r => insI_sorted a _ (srtI_sorted r)
theorem sorted_uniq : ∀ {l m : List Int}, l.Perm m → l.Pairwise (· ≤ ·) → m.Pairwise (· ≤ ·) → l = m
  | [], m, p, _, _ => (List.nil_perm.mp p).symm
  | a :: l, [], p, _, _ => absurd p (by simp)
  | a :: l, b :: m, p, h, h' => by
    rw [List.pairwise_cons] at h h'
    have e : a = b := by
      rcases List.mem_cons.mp (p.mem_iff.mp List.mem_cons_self) with e | e
      · exact e
      · rcases List.mem_cons.mp (p.symm.mem_iff.mp List.mem_cons_self) with e2 | e2
        · exact e2.symm
        · exact Int.le_antisymm (h.1 b e2) (h'.1 a e)
    subst e
    rw [sorted_uniq ((List.perm_cons a).mp p) h.2 h'.2]

def intsO (ah : AH) (d : D) : Option (List Int) := (asS ah d).bind fun ds => mapO asI ds
theorem mapO_int : ∀ {ds : List D} {ns : List Int}, mapO asI ds = some ns → ds = ns.map .int
  | [], ns, e => by cases e; rfl
  | d :: ds, ns, e => by
    unfold mapO at e
    split at e
    · rename_i b t h1 h2
      cases e
      rw [asI_eq h1, mapO_int h2]; rfl
    · cases e
section
variable {K : PySem.W.Frag} {mg : Str → Option Value} {E : XW} {ι ι' : Io} {H H' : Hp} {ah : AH} {d : D} {v : V} {vs : List V}
theorem repsI_eq {ns : List Int} (r : Reps K mg ι H (ns.map .int) vs) : vs = ns.map V.int := by
  induction ns generalizing vs with
  | nil => exact reps_nil r
  | cons a ns ih =>
    obtain ⟨u, s, rfl, p, q⟩ := reps_cons r
    rw [rep_int p, ih q]; rfl
theorem of_ints {ns : List Int} : Reps K mg ι H (ns.map .int) (ns.map V.int) := by
  induction ns with
  | nil => exact of_nil
  | cons a ns ih => exact of_cons of_int ih
theorem intsO_rep (S : SimH K mg ι H ah) (r : Rep K mg ι H d v) {ns : List Int} (h : intsO ah d = some ns) : ∃ a, v = .ref a ∧ (SqL K H a (ns.map V.int) ∨ SqT K H a (ns.map V.int)) := by
  unfold intsO at h
  obtain ⟨ds, h1, h2⟩ := Option.bind_eq_some_iff.mp h
  obtain ⟨a, vs, e, hq, rs⟩ := asS_rep S r h1
  have ed := mapO_int h2
  subst ed
  rw [repsI_eq rs] at hq
  exact ⟨a, e, hq⟩
end
/-! ### set(..), len and sorted of it -/
def rSetI (K : PySem.W.Frag) (w : World) : List V → Hp → VK → Prop := fun xs H Q => ∃ b ns, xs = [.ref b] ∧ (SqL K H b (ns.map V.int) ∨ SqT K H b (ns.map V.int)) ∧ ns.length + 1 < scanBound ∧
  ∀ p, H p = none → Q (.ref p) (upd H p (SetO w p (fun j => decide (j ∈ ns)) (dedL ns).length))
def rLenSt (w : World) : List V → Hp → VK → Prop := fun xs H Q => ∃ (a : Addr) (S : Int → Bool) (n : Nat), xs = [.ref a] ∧ H a = some (SetO w a S n) ∧ Q (.int n) H
section
variable {X : Cx}
theorem call_setI (hc : X.calm = true) : CallR X (.type "set") (rSetI X.K X.w) := by
  intro pins s σ H xs us Q I r h
  obtain ⟨b, ns, rfl, hq, hl, q⟩ := h
  obtain rfl := Vals.ref1 r
  have fin : ∀ (h' : Heap) (tk c : Nat), SetR X.w h' s.heap.objs.size (fun j => decide (j ∈ ns)) c → (∀ b o, s.heap.get? b = some o → h'.get? b = some o) → EP X pins σ Q (.ref s.heap.objs.size) { s with heap := h', toks := tk } := fun h' tk c R k => by
    rw [setR_cnt R] at R
    exact ⟨.ref s.heap.objs.size, _, I.laid (t' := tk) k (Nat.le_refl _) (setO_new R), rfl, q _ (I.hok.fresh (Nat.le_refl _))⟩
  rcases hq with hq | hq
  · obtain ⟨its, rv, pl, hz⟩ := I.list hq
    exact call_set_lstI ns (I.ok.hd hc) pl.isList (by simpa using RZ.intsAre_vals rv) hl fun h' tk c R _ k => fin h' tk c R k
  · obtain ⟨its, rv, pl, hz⟩ := I.tuple hq
    exact call_set_tupI ns (I.ok.hd hc) (show s.heap.IsTuple b its.toArray from pl) (by simpa using RZ.intsAre_vals rv) hl fun h' tk c R _ k => fin h' tk c R k
theorem call_lenSt : CallR X (.builtin "len") (rLenSt X.w) := by
  intro pins s σ H xs us Q I r h
  obtain ⟨a, S, n, rfl, ha, q⟩ := h
  obtain rfl := Vals.ref1 r
  obtain ⟨o, es, ep, t, ho, hex, hd, _, _, _, hb, hf, hn, _⟩ := setO_get I ha
  have hb' : es.size < 2 ^ 62 := Nat.lt_of_lt_of_le hb (by unfold scanBound; decide)
  exact call_len_set ho hex hd hf (by omega) ⟨.int n, H, I.tok _, ⟨_, by rw [hn]⟩, q⟩
end
def sbOk (n : Nat) : Bool := Nat.blt (n + 1) 16777216
def eLenSet (a : FV) : FV := fun env ah => (a env ah).bind fun z => okO (intsO z.2 z.1) fun ns => okB (decide (ns.length + 1 < scanBound)) (.ok (.int (dedL ns).length, z.2))
def eSrtSet (c : Bool) (a : FV) : FV := fun env ah => (a env ah).bind fun z => okO (intsO z.2 z.1) fun ns => okB (decide (ns.length + 1 < scanBound) && Nat.blt (dedL ns).length 64) (mkL c ((srtI (dedL ns)).map .int) z.2)
def bSrtI (c : Bool) : OL := fun ds ah => match ds with
  | [d] => okO (asL ah d) fun xs => okO (mapO asI xs) fun ns => mkL c ((srtI ns).map .int) ah
  | _ => .stk
section
variable {X : Cx} {E : XW} {a : Expr} {Fa : FV} {p p2 q2 pos : Pos}
theorem flset (hm : X.mg "len" = none) (hm2 : X.mg "set" = none) (ha : FE X E a Fa) (hc : X.calm = true := by rfl) (hg : Gl X "len" := by rfl) (hg2 : Gl X "set" := by rfl)
    (na : starEach [a] X.env = (false, eval a X.env) :: starEach [] X.env := by rfl) (nb : starEach [.Call (.Name "set" p2) [a] [] q2] X.env = (false, eval (.Call (.Name "set" p2) [a] [] q2) X.env) :: starEach [] X.env := by rfl)
    (h1 : Pl X a [] q2 := by exact ⟨rfl, rfl⟩) (h2 : Pl X (.Call (.Name "set" p2) [a] [] q2) [] pos := by exact ⟨rfl, rfl⟩) : FE X E (.Call (.Name "len" p) [.Call (.Name "set" p2) [a] [] q2] [] pos) (eLenSet Fa) :=
  PE.mono (pe_callB call_lenSt hg hm PySem.boot_len (pa_cons (pe_callTy (call_setI hc) hg2 hm2 (by decide +kernel) (pa_cons ha pa_nil na) (by decide) (by decide) h1.he h1.hpl) pa_nil nb) (by decide) (by decide) h2.he h2.hpl) fun σ H Q h => by
    obtain ⟨ι, env, ah, a, p⟩ := h
    refine ⟨ι, env, ah, a, Po.first p fun d ah1 ι1 H1 v _ s S rv q => ?_⟩
    obtain ⟨ns, hn, q1⟩ := q.okO
    obtain ⟨hb, q2⟩ := q1.okB
    obtain ⟨b, rfl, hq⟩ := intsO_rep S rv hn
    refine ⟨b, ns, rfl, hq, of_decide_eq_true hb, fun p n => ?_⟩
    exact ⟨p, _, _, rfl, upd_same, q2.ok (Step.laid n) (S.laid n) of_int⟩
theorem fsset (c : Bool) (hm : X.mg "sorted" = none) (hm2 : X.mg "set" = none) (ha : FE X E a Fa) (hc : X.calm = true := by rfl) (hg : Gl X "sorted" := by rfl) (hg2 : Gl X "set" := by rfl)
    (na : starEach [a] X.env = (false, eval a X.env) :: starEach [] X.env := by rfl) (nb : starEach [.Call (.Name "set" p2) [a] [] q2] X.env = (false, eval (.Call (.Name "set" p2) [a] [] q2) X.env) :: starEach [] X.env := by rfl)
    (h1 : Pl X a [] q2 := by exact ⟨rfl, rfl⟩) (h2 : Pl X (.Call (.Name "set" p2) [a] [] q2) [] pos := by exact ⟨rfl, rfl⟩) : FE X E (.Call (.Name "sorted" p) [.Call (.Name "set" p2) [a] [] q2] [] pos) (eSrtSet c Fa) :=
  PE.mono (pe_callB (cr_sortedSet hc) hg hm (by decide +kernel) (pa_cons (pe_callTy (call_setI hc) hg2 hm2 (by decide +kernel) (pa_cons ha pa_nil na) (by decide) (by decide) h1.he h1.hpl) pa_nil nb) (by decide) (by decide) h2.he h2.hpl) fun σ H Q h => by
    obtain ⟨ι, env, ah, a, p⟩ := h
    refine ⟨ι, env, ah, a, Po.first p fun d ah1 ι1 H1 v _ s S rv q => ?_⟩
    obtain ⟨ns, hn, q1⟩ := q.okO
    obtain ⟨hb, q2⟩ := q1.okB
    rw [Bool.and_eq_true] at hb
    obtain ⟨b, rfl, hq⟩ := intsO_rep S rv hn
    refine ⟨b, ns, rfl, hq, of_decide_eq_true hb.1, fun p n => ?_⟩
    refine ⟨p, _, _, rfl, upd_same, by have := Nat.le_of_ble_eq_true hb.2; omega, fun ns' p' hs hm' hl' n' => ?_⟩
    have e : ns' = srtI (dedL ns) := by
      have nd : ns'.Nodup := hs.imp fun h => by omega
      have pm : ns'.Perm (dedL ns) := (List.perm_ext_iff_of_nodup nd (dedL_nodup ns)).mpr fun k => by rw [hm' k, dedL_mem]; simp
      exact sorted_uniq (pm.trans (srtI_perm _).symm) (hs.imp fun h => by omega) (srtI_sorted _)
    subst e
    exact (Po.later (Step.laid n) q2).mkL (c := c) (S.laid n) of_ints p' n'
end
/-- len({elt for target in iter if ..}) -/
def eLenSc (i : FI0) (vs : List Nat) (g : FG0) (t : FB) (e : FV) : FV := fun env ah => (i env ah).bind fun z => okB (Nat.ble (z.1.items.length + 1) 4095) ((lcGo z.1 (wipeE env vs) g t e z.1.items z.2).bx fun w => okO (mapO asI w.1) fun ns => .ok (.int (dedL ns).length, w.2))
theorem mapO_app {α β : Type} {f : α → Option β} : ∀ {l m : List α} {r : List β}, mapO f (l ++ m) = some r → ∃ r1 r2, mapO f l = some r1 ∧ mapO f m = some r2 ∧ r = r1 ++ r2
  | [], m, r, h => ⟨[], r, rfl, h, rfl⟩
  | a :: l, m, r, h => by
    rw [List.cons_append] at h
    unfold mapO at h
    split at h
    · rename_i b t h1 h2
      cases h
      obtain ⟨r1, r2, e1, e2, e3⟩ := mapO_app h2
      refine ⟨b :: r1, r2, ?_, e2, by rw [e3]; rfl⟩
      unfold mapO
      rw [h1, e1]
    · cases h
theorem Po.bx_ok {K : PySem.W.Frag} {mg : Str → Option Value} {E : XW} {ι0 : Io} {H0 : Hp} {r : R (List D × AH)} {k : List D × AH → R (D × AH)} {Q : VK} (p : Po K mg E (RvD K mg) ι0 H0 (r.bx k) Q) : ∃ z, r = .ok z ∧ Po K mg E (RvD K mg) ι0 H0 (k z) Q := by
  cases r with
  | ok z => exact ⟨z, rfl, p⟩
  | exc x e h => exact p.elim
  | stk => exact p.elim
section
variable {K : PySem.W.Frag} {mg : Str → Option Value} {E : XW} {w : World}
theorem Po.endSt {ι0 ι : Io} {H0 H : Hp} {ah : AH} {acc : List Int} {L : Addr} {Q : VK} (p : Po K mg E (RvD K mg) ι0 H0 (Fx.R.ok (.int (dedL acc).length, ah)) Q) (s : Step ι0 H0 ι H) (n : H0 L = none) (n0 : L ∉ ι0.h) (h : L ∈ ι.h) (S : SimH K mg ι H ah) : Q (.int (dedL acc).length) H :=
  p (ι.unhide L) H _ (s.unhide n n0) S.unhide of_int
theorem tfSc {I : FI0} {vs Sl : List Nat} {G : FG0} {T : FB} {Fe : FV} (hv : ∀ i ∈ Sl, i ∈ vs) {σ : L2.St} {H : Hp} {Q : VK} (hw : TF K mg E (eLenSc I vs G T Fe) σ H Q) :
    tScI w (TFi K mg E I) (TFg K mg E0w Sl G) (TFb K mg E0w T) (TF K mg E0w Fe) vs σ H (fun x H1 => rLenSt w [x] H1 Q) := by
  obtain ⟨ι, env, ah, a, p⟩ := hw
  refine ⟨ι, env, ah, a, ?_⟩
  unfold eLenSc at p
  cases hr : I env ah with
  | stk => rw [hr] at p; exact p.elim
  | exc x e' h' => rw [hr] at p; exact p
  | ok z =>
    obtain ⟨src, ah1⟩ := z
    rw [hr] at p
    have p : Po K mg E (RvD K mg) ι H (okB (Nat.ble (src.items.length + 1) 4095) ((lcGo src (wipeE env vs) G T Fe src.items ah1).bx fun w => okO (mapO asI w.1) fun ns => .ok (.int (dedL ns).length, w.2))) Q := p
    obtain ⟨hl, p⟩ := p.okB
    have hl := Nat.le_of_ble_eq_true hl
    intro ι0 H0 J s0 S0 wk L hL
    have a0 : At K mg (wipeE env vs) ah1 ι0 (wipe σ vs) H0 := (a.step s0 S0).wiped vs
    have n0 : L ∉ ι0.h := (S0.out hL).2
    have p := p.later s0
    refine ⟨fun i m H => m = src.items.length - i ∧ i ≤ src.items.length ∧ ∃ ι ah ds acc, Step ι0 H0 ι H ∧ L ∈ ι.h ∧ At K mg (wipeE env vs) ah ι (wipe σ vs) H ∧ H L = some (SetO w L (fun j => decide (j ∈ acc)) (dedL acc).length) ∧ mapO asI ds = some acc ∧ acc.length ≤ i ∧
        Po K mg E (RvD K mg) ι0 H0 ((lcGo src (wipeE env vs) G T Fe (src.items.drop i) ah).bx fun w => okO (mapO asI (ds ++ w.1)) fun ns => .ok (.int (dedL ns).length, w.2)) Q,
      ⟨src.items.length, by simp, Nat.zero_le _, ι0.hide L, ah1, [], [], Step.hide hL, List.mem_cons_self, a0.step (Step.hide hL) (S0.hide hL), by rw [upd_same]; simp [dedL], rfl, Nat.zero_le _, p⟩, ?_⟩
    rintro i m H ⟨rfl, hi, ι, ah, ds, acc, s, hLi, a, hacc, rs, hal, p⟩
    have wkb := wk i ι H ah s.lv a.1
    cases hd : src.items.drop i with
    | nil =>
      have hle : src.items.length ≤ i := by
        rcases Nat.lt_or_ge i src.items.length with z | z
        · rw [List.drop_eq_getElem_cons z] at hd; cases hd
        · exact z
      rw [hd] at p
      unfold lcGo at p
      rw [okB_bx] at p
      obtain ⟨st, p⟩ := p.okB
      refine .inl ⟨(wkb st).2 hle, ?_⟩
      have p : Po K mg E (RvD K mg) ι0 H0 (okO (mapO asI (ds ++ [])) fun ns => Fx.R.ok (.int (dedL ns).length, ah)) Q := p
      rw [List.append_nil, rs] at p
      exact ⟨L, _, _, rfl, hacc, Po.endSt p s hL n0 hLi a.1⟩
    | cons d r =>
      obtain ⟨hg', hd'⟩ := drop_some hd
      have lt : i < src.items.length := (List.getElem?_eq_some_iff.mp hg').1
      rw [hd] at p
      unfold lcGo at p
      rw [okB_bx] at p
      obtain ⟨st, p⟩ := p.okB
      obtain ⟨go, yl⟩ := (wkb st).1 d hg'
      refine .inr ⟨go, fun H' => ∃ ι ah ds acc, Step ι0 H0 ι H' ∧ L ∈ ι.h ∧ At K mg (wipeE env vs) ah ι (wipe σ vs) H' ∧ H' L = some (SetO w L (fun j => decide (j ∈ acc)) (dedL acc).length) ∧ mapO asI ds = some acc ∧ acc.length ≤ i + 1 ∧
        Po K mg E (RvD K mg) ι0 H0 ((lcGo src (wipeE env vs) G T Fe (src.items.drop (i + 1)) ah).bx fun w => okO (mapO asI (ds ++ w.1)) fun ns => .ok (.int (dedL ns).length, w.2)) Q, fun H' q => ⟨src.items.length - (i + 1), by omega, rfl, lt, q⟩, fun x H' y => ?_⟩
      obtain ⟨s1, S1, rx⟩ := yl x H' y
      rw [bx_assoc] at p
      have hLx : L ∉ ι.c := (a.1.hd L hLi).2
      refine ⟨ι, wipeE env vs, ah, d, a.step s1 S1, rx, PoG.X p fun env1 ah2 ι2 σ2 H2 s2 a2 sm q2 => ?_⟩
      rw [bx_assoc] at q2
      refine ⟨by rw [sam_wipe sm hv, wipe_wipe], ι2, env1, ah2, a2, Po.X q2 fun b ah3 ι3 H3 b' _ s3 S3 eb q3 => ?_⟩
      have eb : b = b' := eb
      subst eb
      have s13 := (s1.trans s2).trans s3
      have mem3 : ∀ {ιx : Io} {Hx : Hp}, Step ι H ιx Hx → L ∈ ιx.h := fun {ιx Hx} t => by
        obtain ⟨m, e, _⟩ := t.hid
        rw [e]; exact List.mem_append_right _ hLi
      have base : ∀ {ιx : Io} {Hx : Hp} {ahx : AH}, Step ι H ιx Hx → SimH K mg ιx Hx ahx → At K mg (wipeE env vs) ahx ιx (wipe σ vs) Hx := fun t Sx => a.step t Sx
      cases b with
      | false =>
        refine iteF ⟨ι3, ah3, ds, acc, s.trans s13, mem3 s13, base s13 S3, s13.frame L _ hLx hacc, rs, by omega, ?_⟩
        rw [hd']
        exact q3
      | true =>
        have q3 : Po K mg E (RvD K mg) ι0 H0 (((Fe env1 ah3).bx fun z => (lcGo src (wipeE env vs) G T Fe r z.2).bx fun w => Fx.R.ok (z.1 :: w.1, w.2)).bx fun w => okO (mapO asI (ds ++ w.1)) fun ns => Fx.R.ok (.int (dedL ns).length, w.2)) Q := q3
        rw [bx_assoc] at q3
        refine iteT ⟨ι3, env1, ah3, a2.step s3 S3, Po.X q3 fun y ah4 ι4 H4 v _ s4 S4 ry q4 => ?_⟩
        rw [bx_assoc] at q4
        have s14 := s13.trans s4
        have q4 : Po K mg E (RvD K mg) ι0 H0 ((lcGo src (wipeE env vs) G T Fe r ah4).bx fun a : List D × AH => (Fx.R.ok (y :: a.1, a.2)).bx fun w => okO (mapO asI (ds ++ w.1)) fun ns => Fx.R.ok (.int (dedL ns).length, w.2)) Q := q4
        have e : ∀ w : List D × AH, ((Fx.R.ok (y :: w.1, w.2)).bx fun w => okO (mapO asI (ds ++ w.1)) fun ns => Fx.R.ok (.int (dedL ns).length, w.2)) = okO (mapO asI (ds ++ [y] ++ w.1)) fun ns => Fx.R.ok (D.int (dedL ns).length, w.2) := fun w => by rw [List.append_assoc]; rfl
        have e2 : (fun a : List D × AH => (Fx.R.ok (y :: a.1, a.2)).bx fun w => okO (mapO asI (ds ++ w.1)) fun ns => Fx.R.ok (D.int (dedL ns).length, w.2)) = fun w => okO (mapO asI (ds ++ [y] ++ w.1)) fun ns => Fx.R.ok (D.int (dedL ns).length, w.2) := funext fun w => e w
        rw [e2] at q4
        obtain ⟨zz, hz, q5⟩ := q4.bx_ok
        obtain ⟨ns, hns, _⟩ := q5.okO
        obtain ⟨r1, r2, f1, f2, f3⟩ := mapO_app hns
        obtain ⟨g1, g2, k1, k2, k3⟩ := mapO_app f1
        rw [rs] at k1
        cases k1
        have hy : ∃ c, y = .int c ∧ g2 = [c] := by
          unfold mapO at k2
          split at k2
          · rename_i b t m1 m2
            cases m2
            cases k2
            exact ⟨b, asI_eq m1, rfl⟩
          · cases k2
        obtain ⟨c, rfl, rfl⟩ := hy
        have ry : Rep K mg ι4 H4 (.int c) v := ry
        have hdl : (dedL acc).length ≤ acc.length := nodup_le (dedL_nodup acc) fun x hx => dedL_mem.mp hx
        refine ⟨c, _, _, rep_int ry, s14.frame L _ hLx hacc, by unfold scanBound; omega, ι4, ah4, ds ++ [.int c], acc ++ [c], (s.trans s14).hput hL, mem3 s14, ?_, ?_, by rw [f1, k3], by rw [List.length_append]; simp; omega, ?_⟩
        · have b4 := base s14 S4
          exact ⟨b4.1.hput (mem3 s14), (Lv.hput (mem3 s14)).simE b4.2⟩
        · rw [upd_same]
          congr 1
          have e1 : (fun j => decide (j ∈ acc) || decide (j = c)) = fun j => decide (j ∈ acc ++ [c]) := funext fun j => by simp
          have e3 : (if decide (c ∈ acc) = true then (dedL acc).length else (dedL acc).length + 1) = (dedL (acc ++ [c])).length := by
            rw [dedL_snoc]
            unfold stepD
            by_cases h : c ∈ acc
            · rw [if_pos (by simpa using h), if_pos (by simpa using dedL_mem.mpr h)]
            · rw [if_neg (by simpa using h), if_neg (by simpa using fun z => h (dedL_mem.mp z)), List.length_append]; rfl
          rw [e1, e3]
        · rw [hd']
          exact q4
end
section
variable {X : Cx} {E : XW} {elt tg iter c : Expr} {scope : Scope} {own : List (Str × Nat)} {pos p pos2 : Pos} {I : FI0} {Sl : List Nat} {G : FG0} {T : FB} {Fe : FV} {C : FB}
theorem flsc (own : List (Str × Nat)) {ifs : List Expr} (hm : X.mg "len" = none) (hc : X.calm = true) (hN : X.N.Nodup) (hi : FI X E tg iter I) (ok : BlkOk X.N X.env.scope scope own)
    (hg : ∀ s H C cl fp, FG (Bk X scope s H C cl fp) E0w tg Sl G) (ht : ∀ s H C cl fp, FTs (Bk X scope s H C cl fp) E0w ifs T) (he : ∀ s H C cl fp, FE (Bk X scope s H C cl fp) E0w elt Fe)
    (hv : ∀ i ∈ Sl, i ∈ own.map (·.2) := by decide) (hs : ∀ x, foldedSetIterable iter X.env x = pure x := by intro _; rfl) (hgl : Gl X "len" := by rfl)
    (nb : starEach [.SetComp elt [⟨tg, iter, ifs, 0⟩] scope pos] X.env = (false, eval (.SetComp elt [⟨tg, iter, ifs, 0⟩] scope pos) X.env) :: starEach [] X.env := by rfl) (h2 : Pl X (.SetComp elt [⟨tg, iter, ifs, 0⟩] scope pos) [] pos2 := by exact ⟨rfl, rfl⟩) :
    FE X E (.Call (.Name "len" p) [.SetComp elt [⟨tg, iter, ifs, 0⟩] scope pos] [] pos2) (eLenSc I (own.map (·.2)) G T Fe) :=
  PE.mono (pe_callB call_lenSt hgl hm PySem.boot_len (pa_cons (pe_scI hc hN hi ok hg (fun s H C cl fp => (ht s H C cl fp).to) he hs) pa_nil nb) (by decide) (by decide) h2.he h2.hpl) fun σ H Q h => tfSc hv h
end
section
variable {X : Cx} {E : XW} {a : Expr} {Fa : FV} {p p2 q2 pos : Pos}
theorem ok_srtI {c : Bool} {K : PySem.W.Frag} {mg : Str → Option Value} {E : XW} : OKL K mg E (rSortedI K) (bSrtI c) := fun ι H ah ds vs Q S rs p => by
  unfold bSrtI at p
  split at p
  · rename_i d
    obtain ⟨v, s, rfl, r, q⟩ := reps_cons rs
    rw [reps_nil q]
    obtain ⟨xs, hx, p1⟩ := p.okO
    obtain ⟨ns, hn, p2⟩ := p1.okO
    obtain ⟨b, vs, rfl, hq, rs⟩ := asL_rep S r hx
    have ed := mapO_int hn
    subst ed
    rw [repsI_eq rs] at hq
    have hq := hq.sq
    refine ⟨b, ns, rfl, hq, fun ns' p' pm hs n => ?_⟩
    obtain rfl : ns' = srtI ns := sorted_uniq (pm.trans (srtI_perm _).symm) hs (srtI_sorted _)
    exact p2.mkL (c := c) S of_ints p' n
  · exact p.elim
theorem fsrtI (c : Bool) (hm : X.mg "sorted" = none) {Fl : FL} (ha : FA X E [a] Fl) (hg : Gl X "sorted" := by rfl) (hp : Pl X a [] pos := by exact ⟨rfl, rfl⟩) : FE X E (.Call (.Name "sorted" p) [a] [] pos) (eL (bSrtI c) Fl) :=
  fcb cr_sortedI ok_srtI hm (by decide +kernel) ha hg hp
end
end Fx

/-! ===== Fx15 -/
set_option Elab.async false
set_option linter.all false
set_option maxRecDepth 100000
set_option maxHeartbeats 4000000
namespace Fx
open PySem PySem.Spec PyProof.Rows L2

/-! ### two fors in one comprehension -/
def lc2Go (src : Src) (env : Env) (g : FG0) (t : FB) (i1 : FI0) (vs1 : List Nat) (g1 : FG0) (t1 : FB) (e : FV) : List D → AH → R (List D × AH)
  | [], ah => okB (src.still ah) (.ok ([], ah))
  | d :: r, ah => okB (src.still ah) ((g d env ah).bx fun y => (t y.1 y.2).bx fun b => match b.1 with
    | true => (i1 y.1 b.2).bx fun z => (lcGo z.1 (wipeE y.1 vs1) g1 t1 e z.1.items z.2).bx fun w => (lc2Go src env g t i1 vs1 g1 t1 e r w.2).bx fun u => .ok (w.1 ++ u.1, u.2)
    | false => lc2Go src env g t i1 vs1 g1 t1 e r b.2)
def eLc2 (c : Bool) (i : FI0) (vs : List Nat) (g : FG0) (t : FB) (i1 : FI0) (vs1 : List Nat) (g1 : FG0) (t1 : FB) (e : FV) : FV := fun env ah => (i env ah).bind fun z =>
  (lc2Go z.1 (wipeE env vs) g t i1 vs1 g1 t1 e z.1.items z.2).bx fun w => okB (lenOk w.1.length) (mkL c w.1 w.2)
section
variable {K : PySem.W.Frag} {mg : Str → Option Value} {E : XW}
theorem PoI.X {γ δ : Type} {Rw : Io → Hp → γ → δ → Prop} {ι0 ι : Io} {H0 H : Hp} {r : R (Src × AH)} {k : Src × AH → R (γ × AH)} {Q : δ → Hp → Prop} {Q' : It → Hp → Prop}
    (p : Po K mg E Rw ι0 H0 (r.bx k) Q)
    (h : ∀ src ah1 ι1 H1 J, Step ι H ι1 H1 → SimH K mg ι1 H1 ah1 → Wk K mg ι1 H1 src J → Po K mg E Rw ι0 H0 (k (src, ah1)) Q → Q' J H1) : PoI K mg E0w ι H r Q' := by
  cases r with
  | ok z => obtain ⟨src, ah⟩ := z; exact fun ι' H' J t S wk => h src ah ι' H' J t S wk p
  | exc x e h => exact p.elim
  | stk => exact p.elim
theorem Lv.trans {ι ι1 ι2 : Io} {H H1 H2 : Hp} (s : Lv ι H ι1 H1) (t : Lv ι1 H1 ι2 H2) : Lv ι H ι2 H2 := ⟨fun a u n e => t.out a u (s.out a u n e).1 (s.out a u n e).2, fun n a e => t.get n a (s.get n a e)⟩
theorem wiped_same {vs : List Nat} {σ2 σ : L2.St} (h : wipe σ2 vs = wipe σ vs) : wipe σ2 vs = wipe σ vs := h
theorem At.wiped' {env : Env} {ah : AH} {ι : Io} {σ : L2.St} {H : Hp} (a : At K mg env ah ι σ H) (vs : List Nat) : At K mg (wipeE env vs) ah ι (wipe σ vs) H := a.wiped vs
theorem tfLc2 {I : FI0} {vs Sl : List Nat} {G : FG0} {T : FB} {I1 : FI0} {vs1 Sl1 : List Nat} {G1 : FG0} {T1 : FB} {Fe : FV} {c : Bool} (hv : ∀ i ∈ Sl, i ∈ vs) (hv1 : ∀ i ∈ Sl1, i ∈ vs1) {σ : L2.St} {H : Hp} {Q : VK} (hw : TF K mg E (eLc2 c I vs G T I1 vs1 G1 T1 Fe) σ H Q) :
    tLc2 (TFi K mg E I) (TFg K mg E0w Sl G) (TFb K mg E0w T) (TFi K mg E0w I1) (TFg K mg E0w Sl1 G1) (TFb K mg E0w T1) (TF K mg E0w Fe) vs vs1 σ H Q := by
  obtain ⟨ι, env, ah, a, p⟩ := hw
  refine ⟨ι, env, ah, a, ?_⟩
  unfold eLc2 at p
  cases hr : I env ah with
  | stk => rw [hr] at p; exact p.elim
  | exc x e' h' => rw [hr] at p; exact p
  | ok z =>
    obtain ⟨src, ah1⟩ := z
    rw [hr] at p
    have p : Po K mg E (RvD K mg) ι H ((lc2Go src (wipeE env vs) G T I1 vs1 G1 T1 Fe src.items ah1).bx fun w => okB (lenOk w.1.length) (mkL c w.1 w.2)) Q := p
    intro ι0 H0 J s0 S0 wk L hL
    have a0 : At K mg (wipeE env vs) ah1 ι0 (wipe σ vs) H0 := (a.step s0 S0).wiped vs
    have n0 : L ∉ ι0.h := (S0.out hL).2
    have p := p.later s0
    refine ⟨fun i m H => m = src.items.length - i ∧ i ≤ src.items.length ∧ ∃ ι ah ds acc, Step ι0 H0 ι H ∧ L ∈ ι.h ∧ At K mg (wipeE env vs) ah ι (wipe σ vs) H ∧ H L = some (.lst acc) ∧ Reps K mg ι H ds acc ∧
        Po K mg E (RvD K mg) ι0 H0 ((lc2Go src (wipeE env vs) G T I1 vs1 G1 T1 Fe (src.items.drop i) ah).bx fun w => okB (lenOk (ds ++ w.1).length) (mkL c (ds ++ w.1) w.2)) Q,
      ⟨src.items.length, by simp, Nat.zero_le _, ι0.hide L, ah1, [], [], Step.hide hL, List.mem_cons_self, a0.step (Step.hide hL) (S0.hide hL), upd_same, of_nil, p⟩, ?_⟩
    rintro i m H ⟨rfl, hi, ι, ah, ds, acc, s, hLi, a, hacc, rs, p⟩
    have wkb := wk i ι H ah s.lv a.1
    cases hd : src.items.drop i with
    | nil =>
      have hl : src.items.length ≤ i := by
        rcases Nat.lt_or_ge i src.items.length with z | z
        · rw [List.drop_eq_getElem_cons z] at hd; cases hd
        · exact z
      rw [hd] at p
      unfold lc2Go at p
      rw [okB_bx] at p
      obtain ⟨st, p⟩ := p.okB
      refine .inl ⟨(wkb st).2 hl, ?_⟩
      have p : Po K mg E (RvD K mg) ι0 H0 (okB (lenOk (ds ++ []).length) (Fx.mkL c (ds ++ []) ah)) Q := p
      rw [List.append_nil] at p
      obtain ⟨_, p⟩ := p.okB
      exact p.mkLh s hL n0 hLi a.1 hacc rs
    | cons d r =>
      obtain ⟨hg', hd'⟩ := drop_some hd
      have lt : i < src.items.length := (List.getElem?_eq_some_iff.mp hg').1
      rw [hd] at p
      unfold lc2Go at p
      rw [okB_bx] at p
      obtain ⟨st, p⟩ := p.okB
      obtain ⟨go, yl⟩ := (wkb st).1 d hg'
      refine .inr ⟨go, fun H' => ∃ ι ah ds acc, Step ι0 H0 ι H' ∧ L ∈ ι.h ∧ At K mg (wipeE env vs) ah ι (wipe σ vs) H' ∧ H' L = some (.lst acc) ∧ Reps K mg ι H' ds acc ∧
        Po K mg E (RvD K mg) ι0 H0 ((lc2Go src (wipeE env vs) G T I1 vs1 G1 T1 Fe (src.items.drop (i + 1)) ah).bx fun w => okB (lenOk (ds ++ w.1).length) (mkL c (ds ++ w.1) w.2)) Q, fun H' q => ⟨src.items.length - (i + 1), by omega, rfl, lt, q⟩, fun x H' y => ?_⟩
      obtain ⟨s1, S1, rx⟩ := yl x H' y
      rw [bx_assoc] at p
      have hLx : L ∉ ι.c := (a.1.hd L hLi).2
      refine ⟨ι, wipeE env vs, ah, d, a.step s1 S1, rx, PoG.X p fun env1 ah2 ι2 σ2 H2 s2 a2 sm q2 => ?_⟩
      rw [bx_assoc] at q2
      refine ⟨by rw [sam_wipe sm hv, wipe_wipe], ι2, env1, ah2, a2, Po.X q2 fun b ah3 ι3 H3 b' _ s3 S3 eb q3 => ?_⟩
      have eb : b = b' := eb
      subst eb
      have s13 := (s1.trans s2).trans s3
      have mem3 : ∀ {ιx : Io} {Hx : Hp}, Step ι H ιx Hx → L ∈ ιx.h := fun {ιx Hx} t => by
        obtain ⟨m, e, _⟩ := t.hid
        rw [e]; exact List.mem_append_right _ hLi
      have base : ∀ {ιx : Io} {Hx : Hp} {ahx : AH}, Step ι H ιx Hx → SimH K mg ιx Hx ahx → At K mg (wipeE env vs) ahx ιx (wipe σ vs) Hx := fun t Sx => a.step t Sx
      cases b with
      | false =>
        refine iteF ⟨ι3, ah3, ds, acc, s.trans s13, mem3 s13, base s13 S3, s13.frame L _ hLx hacc, s13.reps ds rs, ?_⟩
        rw [hd']
        exact q3
      | true =>
        have q3 : Po K mg E (RvD K mg) ι0 H0 (((I1 env1 ah3).bx fun z => (lcGo z.1 (wipeE env1 vs1) G1 T1 Fe z.1.items z.2).bx fun w => (lc2Go src (wipeE env vs) G T I1 vs1 G1 T1 Fe r w.2).bx fun u => Fx.R.ok (w.1 ++ u.1, u.2)).bx fun w => okB (lenOk (ds ++ w.1).length) (Fx.mkL c (ds ++ w.1) w.2)) Q := q3
        rw [bx_assoc] at q3
        have a3 : At K mg env1 ah3 ι3 σ2 H3 := a2.step s3 S3
        refine iteT ⟨ι3, env1, ah3, a3, PoI.X q3 fun src1 ah4 ι4 H4 J1 s4 S4 wk1 q4 => ?_⟩
        have s14 := s13.trans s4
        have a4 : At K mg (wipeE env1 vs1) ah4 ι4 (wipe σ2 vs1) H4 := (a3.step s4 S4).wiped vs1
        -- the inner walk
        refine ⟨fun j k H => k = src1.items.length - j ∧ j ≤ src1.items.length ∧ ∃ ιi ahi dsi acci, Lv ι4 H4 ιi H ∧ L ∈ ιi.h ∧ SimH K mg ιi H ahi ∧ H L = some (.lst acci) ∧ Reps K mg ιi H dsi acci ∧ Step ι0 H0 ιi H ∧
            At K mg (wipeE env1 vs1) ahi ιi (wipe σ2 vs1) H ∧ At K mg (wipeE env vs) ahi ιi (wipe σ vs) H ∧
            Po K mg E (RvD K mg) ι0 H0 (((lcGo src1 (wipeE env1 vs1) G1 T1 Fe (src1.items.drop j) ahi).bx fun w => (lc2Go src (wipeE env vs) G T I1 vs1 G1 T1 Fe r w.2).bx fun u => Fx.R.ok (w.1 ++ u.1, u.2)).bx fun w => okB (lenOk (dsi ++ w.1).length) (Fx.mkL c (dsi ++ w.1) w.2)) Q, ?_, ?_⟩
        · exact ⟨src1.items.length, by simp, Nat.zero_le _, ι4, ah4, ds, acc, Step.refl.lv, mem3 s14, S4, s14.frame L _ hLx hacc, s14.reps ds rs, s.trans s14, a4, base s14 S4, q4⟩
        rintro j k Hj ⟨rfl, hj, ιi, ahi, dsi, acci, si, hLi2, Si, hacc2, rs2, s0i, ai, aB, pi⟩
        have wkb1 := wk1 j ιi Hj ahi si Si
        cases hd1 : src1.items.drop j with
        | nil =>
          have hl : src1.items.length ≤ j := by
            rcases Nat.lt_or_ge j src1.items.length with z | z
            · rw [List.drop_eq_getElem_cons z] at hd1; cases hd1
            · exact z
          rw [hd1] at pi
          unfold lcGo at pi
          rw [bx_assoc, okB_bx] at pi
          obtain ⟨st, pi⟩ := pi.okB
          refine .inl ⟨(wkb1 st).2 hl, ιi, ahi, dsi, acci, s0i, hLi2, aB, hacc2, rs2, ?_⟩
          rw [hd']
          have pi : Po K mg E (RvD K mg) ι0 H0 (((lc2Go src (wipeE env vs) G T I1 vs1 G1 T1 Fe r ahi).bx fun u => Fx.R.ok (([] : List D) ++ u.1, u.2)).bx fun w => okB (lenOk (dsi ++ w.1).length) (Fx.mkL c (dsi ++ w.1) w.2)) Q := pi
          rw [bx_assoc] at pi
          exact pi
        | cons e r1 =>
          obtain ⟨hg1, hd1'⟩ := drop_some hd1
          have lt1 : j < src1.items.length := (List.getElem?_eq_some_iff.mp hg1).1
          rw [hd1] at pi
          unfold lcGo at pi
          rw [bx_assoc, okB_bx] at pi
          obtain ⟨st, pi⟩ := pi.okB
          obtain ⟨go1, yl1⟩ := (wkb1 st).1 e hg1
          refine .inr ⟨go1, fun H' => ∃ ιi ahi dsi acci, Lv ι4 H4 ιi H' ∧ L ∈ ιi.h ∧ SimH K mg ιi H' ahi ∧ H' L = some (.lst acci) ∧ Reps K mg ιi H' dsi acci ∧ Step ι0 H0 ιi H' ∧
            At K mg (wipeE env1 vs1) ahi ιi (wipe σ2 vs1) H' ∧ At K mg (wipeE env vs) ahi ιi (wipe σ vs) H' ∧
            Po K mg E (RvD K mg) ι0 H0 (((lcGo src1 (wipeE env1 vs1) G1 T1 Fe (src1.items.drop (j + 1)) ahi).bx fun w => (lc2Go src (wipeE env vs) G T I1 vs1 G1 T1 Fe r w.2).bx fun u => Fx.R.ok (w.1 ++ u.1, u.2)).bx fun w => okB (lenOk (dsi ++ w.1).length) (Fx.mkL c (dsi ++ w.1) w.2)) Q, fun H' q => ⟨src1.items.length - (j + 1), by omega, rfl, lt1, q⟩, fun x H' y => ?_⟩
          obtain ⟨t1, U1, ry1⟩ := yl1 x H' y
          rw [bx_assoc] at pi
          have hLy : L ∉ ιi.c := (Si.hd L hLi2).2
          refine ⟨ιi, wipeE env1 vs1, ahi, e, ai.step t1 U1, ry1, PoG.X pi fun env2 ah5 ι5 σ5 H5 t2 a5 sm5 p5 => ?_⟩
          rw [bx_assoc] at p5
          refine ⟨by rw [sam_wipe sm5 hv1, wipe_wipe], ι5, env2, ah5, a5, Po.X p5 fun b ah6 ι6 H6 b' _ t3 U6 eb p6 => ?_⟩
          have eb : b = b' := eb
          subst eb
          have t13 := (t1.trans t2).trans t3
          have mem4 : ∀ {ιx : Io} {Hx : Hp}, Step ιi Hj ιx Hx → L ∈ ιx.h := fun {ιx Hx} t => by
            obtain ⟨m, e, _⟩ := t.hid
            rw [e]; exact List.mem_append_right _ hLi2
          cases b with
          | false =>
            refine iteF ⟨ι6, ah6, dsi, acci, si.trans t13.lv, mem4 t13, U6, t13.frame L _ hLy hacc2, t13.reps dsi rs2, s0i.trans t13, ai.step t13 U6, aB.step t13 U6, ?_⟩
            rw [hd1', bx_assoc]
            exact p6
          | true =>
            have p6 : Po K mg E (RvD K mg) ι0 H0 (((Fe env2 ah6).bx fun z => (lcGo src1 (wipeE env1 vs1) G1 T1 Fe r1 z.2).bx fun w => Fx.R.ok (z.1 :: w.1, w.2)).bx fun w => ((lc2Go src (wipeE env vs) G T I1 vs1 G1 T1 Fe r w.2).bx fun u => Fx.R.ok (w.1 ++ u.1, u.2)).bx fun w => okB (lenOk (dsi ++ w.1).length) (Fx.mkL c (dsi ++ w.1) w.2)) Q := p6
            rw [bx_assoc] at p6
            refine iteT ⟨ι6, env2, ah6, a5.step t3 U6, Po.X p6 fun yv ah7 ι7 H7 v _ t4 U7 ryv p7 => ?_⟩
            have t14 := t13.trans t4
            rw [bx_assoc] at p7
            have eq1 : ∀ w : List D × AH, ((Fx.R.ok (yv :: w.1, w.2)).bx fun w => ((lc2Go src (wipeE env vs) G T I1 vs1 G1 T1 Fe r w.2).bx fun u => Fx.R.ok (w.1 ++ u.1, u.2)).bx fun w => okB (lenOk (dsi ++ w.1).length) (Fx.mkL c (dsi ++ w.1) w.2)) = ((lc2Go src (wipeE env vs) G T I1 vs1 G1 T1 Fe r w.2).bx fun u => Fx.R.ok (w.1 ++ u.1, u.2)).bx fun w => okB (lenOk (dsi ++ [yv] ++ w.1).length) (Fx.mkL c (dsi ++ [yv] ++ w.1) w.2) := fun w => by
              show ((lc2Go src (wipeE env vs) G T I1 vs1 G1 T1 Fe r w.2).bx fun u => Fx.R.ok (yv :: w.1 ++ u.1, u.2)).bx _ = _
              rw [bx_assoc, bx_assoc]
              congr 1
              funext u
              show okB (lenOk (dsi ++ (yv :: w.1 ++ u.1)).length) (Fx.mkL c (dsi ++ (yv :: w.1 ++ u.1)) u.2) = okB (lenOk (dsi ++ [yv] ++ (w.1 ++ u.1)).length) (Fx.mkL c (dsi ++ [yv] ++ (w.1 ++ u.1)) u.2)
              rw [List.append_assoc dsi [yv]]
              rfl
            have p8 : Po K mg E (RvD K mg) ι0 H0 ((lcGo src1 (wipeE env1 vs1) G1 T1 Fe r1 ah7).bx fun w => ((lc2Go src (wipeE env vs) G T I1 vs1 G1 T1 Fe r w.2).bx fun u => Fx.R.ok (w.1 ++ u.1, u.2)).bx fun w => okB (lenOk (dsi ++ [yv] ++ w.1).length) (Fx.mkL c (dsi ++ [yv] ++ w.1) w.2)) Q := by
              have e9 : (fun a : List D × AH => (Fx.R.ok (yv :: a.1, a.2)).bx fun w => ((lc2Go src (wipeE env vs) G T I1 vs1 G1 T1 Fe r w.2).bx fun u => Fx.R.ok (w.1 ++ u.1, u.2)).bx fun w => okB (lenOk (dsi ++ w.1).length) (Fx.mkL c (dsi ++ w.1) w.2)) = fun w => ((lc2Go src (wipeE env vs) G T I1 vs1 G1 T1 Fe r w.2).bx fun u => Fx.R.ok (w.1 ++ u.1, u.2)).bx fun w => okB (lenOk (dsi ++ [yv] ++ w.1).length) (Fx.mkL c (dsi ++ [yv] ++ w.1) w.2) := funext eq1
              rw [← e9]
              exact p7
            have hlen : acci.length < sizeLine := by
              obtain ⟨z1, _, q1⟩ := p8.bx_ok
              rw [bx_assoc] at q1
              obtain ⟨z2, _, q2⟩ := q1.bx_ok
              have q2 : Po K mg E (RvD K mg) ι0 H0 (okB (lenOk (dsi ++ [yv] ++ (z1.1 ++ z2.1)).length) (Fx.mkL c (dsi ++ [yv] ++ (z1.1 ++ z2.1)) z2.2)) Q := q2
              obtain ⟨hb, _⟩ := q2.okB
              have := lenOk_le hb
              rw [reps_len rs2]
              simp only [List.length_append, List.length_cons, List.length_nil] at this
              omega
            refine ⟨acci, t14.frame L _ hLy hacc2, hlen, ι7, ah7, dsi ++ [yv], acci ++ [v], ?_, mem4 t14, U7.hput (mem4 t14), upd_same, (Lv.hput (mem4 t14)).reps _ ((t14.reps dsi rs2).snoc ryv), (s0i.trans t14).hput hL, ?_, ?_, ?_⟩
            · exact (si.trans t14.lv).trans (Lv.hput (mem4 t14))
            · have b4 := ai.step t14 U7
              exact ⟨b4.1.hput (mem4 t14), (Lv.hput (mem4 t14)).simE b4.2⟩
            · have b4 := aB.step t14 U7
              exact ⟨b4.1.hput (mem4 t14), (Lv.hput (mem4 t14)).simE b4.2⟩
            · rw [hd1', bx_assoc]
              exact p8
end
end Fx

/-! ===== Fx16 -/
set_option Elab.async false
set_option linter.all false
set_option maxRecDepth 100000
set_option maxHeartbeats 4000000
namespace Fx
open PySem PySem.Spec PyProof.Rows L2
section
variable {X : Cx} {E : XW} {elt tg iter tg1 iter1 c : Expr} {scope : Scope} {pos : Pos} {I I1 : FI0} {Sl Sl1 : List Nat} {G G1 : FG0} {T T1 : FB} {Fe : FV}
theorem flc2 (cc : Bool) (own : List (Str × Nat)) (vs1 : List Nat) {ifs ifs1 : List Expr} (hc : X.calm = true) (hN : X.N.Nodup) (hi : FI X E tg iter I) (ok : BlkOk X.N X.env.scope scope own)
    (hg : ∀ s H C cl fp, FG (Bk X scope s H C cl fp) E0w tg Sl G) (ht : ∀ s H C cl fp, FTs (Bk X scope s H C cl fp) E0w ifs T) (hi1 : ∀ s H C cl fp, FI (Bk X scope s H C cl fp) E0w tg1 iter1 I1)
    (hg1 : ∀ s H C cl fp, FG (Bk X scope s H C cl fp) E0w tg1 Sl1 G1) (ht1 : ∀ s H C cl fp, FTs (Bk X scope s H C cl fp) E0w ifs1 T1) (he : ∀ s H C cl fp, FE (Bk X scope s H C cl fp) E0w elt Fe)
    (hv : ∀ i ∈ Sl, i ∈ own.map (·.2) := by decide) (hv1 : ∀ i ∈ Sl1, i ∈ vs1 := by decide) (hv2 : ∀ i ∈ vs1, i ∈ own.map (·.2) := by decide) (hs : ∀ x, foldedSetIterable iter X.env x = pure x := by intro _; rfl) (hs1 : ∀ env x, foldedSetIterable iter1 env x = pure x := by intro _ _; rfl) :
    FE X E (.ListComp elt [⟨tg, iter, ifs, 0⟩, ⟨tg1, iter1, ifs1, 0⟩] scope pos) (eLc2 cc I (own.map (·.2)) G T I1 vs1 G1 T1 Fe) :=
  PE.mono (pe_lc2 hc hN hi ok hv2 hg (fun s H C cl fp => (ht s H C cl fp).to) hi1 hg1 (fun s H C cl fp => (ht1 s H C cl fp).to) he hs hs1) fun _ _ _ h => tfLc2 hv hv1 h
theorem slc2 (i : Nat) (cc : Bool) (own : List (Str × Nat)) (vs1 : List Nat) {ifs ifs1 : List Expr} {y : Str} {py spos : Pos} (hc : X.calm = true) (hN : X.N.Nodup) (hi : FI X E tg iter I) (ok : BlkOk X.N X.env.scope scope own)
    (hg : ∀ s H C cl fp, FG (Bk X scope s H C cl fp) E0w tg Sl G) (ht : ∀ s H C cl fp, FTs (Bk X scope s H C cl fp) E0w ifs T) (hi1 : ∀ s H C cl fp, FI (Bk X scope s H C cl fp) E0w tg1 iter1 I1)
    (hg1 : ∀ s H C cl fp, FG (Bk X scope s H C cl fp) E0w tg1 Sl1 G1) (ht1 : ∀ s H C cl fp, FTs (Bk X scope s H C cl fp) E0w ifs1 T1) (he : ∀ s H C cl fp, FE (Bk X scope s H C cl fp) E0w elt Fe)
    (hsw : swapsWith (.ListComp elt [⟨tg, iter, ifs, 0⟩, ⟨tg1, iter1, ifs1, 0⟩] scope pos) (some (.Name y py)) spos.line X.env = pure true)
    (hy : X.N[i]? = some y := by rfl) (hyl : X.env.scope.names.lookup y = some .local := by rfl)
    (hv : ∀ i ∈ Sl, i ∈ own.map (·.2) := by decide) (hv1 : ∀ i ∈ Sl1, i ∈ vs1 := by decide) (hv2 : ∀ i ∈ vs1, i ∈ own.map (·.2) := by decide) (hs : ∀ x, foldedSetIterable iter X.env x = pure x := by intro _; rfl) (hs1 : ∀ env x, foldedSetIterable iter1 env x = pure x := by intro _ _; rfl) :
    FS X E (.Assign [.Name y py] (.ListComp elt [⟨tg, iter, ifs, 0⟩, ⟨tg1, iter1, ifs1, 0⟩] scope pos) spos) (sSet i (eLc2 cc I (own.map (·.2)) G T I1 vs1 G1 T1 Fe)) :=
  PS.mono (ps_setLc2 hc hN hy hyl hsw hi ok hv2 hg (fun s H C cl fp => (ht s H C cl fp).to) hi1 hg1 (fun s H C cl fp => (ht1 s H C cl fp).to) he hs hs1) fun Dn σ H h => by
    obtain ⟨ι, env, ah, a, p⟩ := h
    refine tfLc2 hv hv1 ⟨ι, env, ah, a, Po.firstS p fun d ah1 ι1 H1 v _ s S rv q => ?_⟩
    exact q.ou ((a.step s S).set i rv)
end

/-! ### slices of lists with a step -/
def pickA {α : Type} (xs : List α) (lo hi st : Option Int) : List α := (sliceRange (sliceBounds lo hi st xs.length).1 (sliceBounds lo hi st xs.length).2.1 (sliceBounds lo hi st xs.length).2.2).filterMap (xs[·]?)
theorem pick_toList (us : List Value) (lo hi st : Option Int) : (slicePick us.toArray lo hi st).toList = pickA us lo hi st := by simp [slicePick, pickA]
theorem reps_places {K : PySem.W.Frag} {mg : Str → Option Value} {ι : Io} {H : Hp} {ds : List D} {vs : List V} (r : Reps K mg ι H ds vs) : ∀ l : List Nat, Reps K mg ι H (l.filterMap (ds[·]?)) (l.filterMap (vs[·]?))
  | [] => of_nil
  | i :: l => by
    have ih := reps_places r l
    rw [List.filterMap_cons, List.filterMap_cons]
    cases e : ds[i]? with
    | none =>
      have : vs[i]? = none := by
        rw [List.getElem?_eq_none_iff] at e ⊢
        rw [reps_len r]; exact e
      rw [this]
      exact ih
    | some d =>
      obtain ⟨v, hv, rv⟩ := reps_get r e
      rw [hv]
      exact of_cons rv ih
theorem reps_pick {K : PySem.W.Frag} {mg : Str → Option Value} {ι : Io} {H : Hp} {ds : List D} {vs : List V} (r : Reps K mg ι H ds vs) (lo hi st : Option Int) : Reps K mg ι H (pickA ds lo hi st) (pickA vs lo hi st) := by
  unfold pickA
  rw [reps_len r]
  exact reps_places r _
theorem vals_places {vs : List V} {us : List Value} (r : Vals vs us) : ∀ l : List Nat, Vals (l.filterMap (vs[·]?)) (l.filterMap (us[·]?))
  | [] => .nil
  | i :: l => by
    have ih := vals_places r l
    rw [List.filterMap_cons, List.filterMap_cons]
    cases e : vs[i]? with
    | none =>
      have : us[i]? = none := by
        rw [List.getElem?_eq_none_iff] at e ⊢
        rw [← r.length]; exact e
      rw [this]
      exact ih
    | some d =>
      obtain ⟨v, hv, rv⟩ := r.get e
      rw [hv]
      exact .cons rv ih
theorem vals_pick {vs : List V} {us : List Value} (r : Vals vs us) (lo hi st : Option Int) : Vals (pickA vs lo hi st) (pickA us lo hi st) := by
  unfold pickA
  rw [r.length]
  exact vals_places r _
def tSlx (K : PySem.W.Frag) (te : TE) (tl th ts : TO) : TE := fun σ H Q => te σ H fun x H1 => tl σ H1 fun l H2 => th σ H2 fun u H3 => ts σ H3 fun st H4 => ∃ a xs, x = .ref a ∧ SqL K H4 a xs ∧ st ≠ some 0 ∧ ∀ p, H4 p = none → Q (.ref p) (upd H4 p (.lst (pickA xs l u st)))
theorem pe_slx {X : Cx} {e se : Expr} {lo hi : Option Expr} {te : TE} {tl th ts : TO} {p2 pos : Pos} (he : PE X e te) (hl : PO X lo tl) (hh : PO X hi th) (hst : PO X (some se) ts) : PE X (.Subscript e (.Slice lo hi (some se) p2) pos) (tSlx X.K te tl th ts) := by
  refine ⟨fun pins s σ H Q I h => ?_⟩
  refine Subscript_ (thn (he.run pins s σ H _ I h) fun v s1 ⟨x, H1, I1, r1, q1⟩ => ?_)
  refine wpAny_Slice (thn (hl.run pins s1 σ H1 _ I1 q1) fun vl s2 ⟨l, H2, I2, pl, q2⟩ => thn (hh.run pins s2 σ H2 _ I2 q2) fun vu s3 ⟨u, H3, I3, pu, q3⟩ => thn (hst.run pins s3 σ H3 _ I3 q3) fun vs s4 ⟨o, H4, I4, ps, q4⟩ => ?_)
  obtain ⟨a, xs, rfl, hx, h0, q⟩ := q4
  cases r1
  have I5 : Inv X pins σ H4 { s4 with heap := s4.heap.push { cls := .type "slice", data := .fields #[vl, vu, vs] } } := I4.kept (t' := s4.toks) fun b ob q => Heap.get?_push_of_some _ q
  obtain ⟨its, r, ht, hz⟩ := I5.list hx
  have hlen := r.length
  show wpAny (model X.prog X.w) X.A (subscriptTail e (.Slice lo hi (some se) p2) (.ref a) (.ref s4.heap.objs.size)) (EP X pins σ Q) X.xe { s4 with heap := s4.heap.push { cls := .type "slice", data := .fields #[vl, vu, vs] } }
  refine tail_any (ops := [.ref a, .ref s4.heap.objs.size]) ht.isList.typeIs (PySem.slot_list_getitem.lookup) ?_ (by with_unfolding_all rfl)
  refine wpAny_getItem_list_slice ht.isList (Heap.IsSliceOf.new _ vl vu vs) pl pu ps h0 ?_ (by rw [List.size_toArray]; omega)
  have e1 : (slicePick its.toArray l u o) = (pickA its l u o).toArray := by rw [← pick_toList]
  have hz2 : (pickA xs l u o).length ≤ sizeLine := by
    have h2 := slicePick_size_le its.toArray l u o
    have h5 : its.toArray.size = its.length := by simp
    have h3 : (pickA its l u o).length = (slicePick its.toArray l u o).toList.length := by rw [← pick_toList]
    rw [(vals_pick r l u o).length, h3]
    have h4 : (slicePick its.toArray l u o).toList.length = (slicePick its.toArray l u o).size := Array.length_toList
    omega
  refine ⟨.ref _, _, I5.laid (t' := s4.toks) (o := .lst (pickA xs l u o)) (fun b ob q => Heap.get?_push_of_some _ q) (Nat.le_refl _) ?_, rfl, q _ (I5.hok.fresh (Nat.le_refl _))⟩
  exact ⟨hz2, pickA its l u o, 0, vals_pick r l u o, by rw [e1]; exact Heap.get?_push_size _ rfl⟩
def eSlx (c : Bool) (a : FV) (l h st : FOI) : FV := fun env ah => (a env ah).bind fun z => (l env z.2).bind fun y => (h env y.2).bind fun w => (st env w.2).bind fun u => okO (asL u.2 z.1) fun xs => okB (!(u.1 == some 0)) (mkL c (pickA xs y.1 w.1 u.1) u.2)
theorem fslx {X : Cx} {E : XW} {a se : Expr} {Fa : FV} {Fl Fh Fs : FOI} {lo hi : Option Expr} {pos p2 : Pos} (c : Bool) (ha : FE X E a Fa) (hl : PO X lo (TFp X.K X.mg E Fl)) (hh : PO X hi (TFp X.K X.mg E Fh)) (hst : PO X (some se) (TFp X.K X.mg E Fs)) :
    FE X E (.Subscript a (.Slice lo hi (some se) p2) pos) (eSlx c Fa Fl Fh Fs) := PE.mono (pe_slx ha hl hh hst) fun σ H Q h => by
  obtain ⟨ι, env, ah, a, p⟩ := h
  refine ⟨ι, env, ah, a, Po.first p fun d ah1 ι1 H1 v _ s S rv q => ?_⟩
  refine ⟨ι1, env, ah1, a.step s S, Po.first q fun l ah2 ι2 H2 l' _ t T el q2 => ?_⟩
  subst el
  refine ⟨ι2, env, ah2, (a.step s S).step t T, Po.first q2 fun u ah3 ι3 H3 u' _ t' T' eu q3 => ?_⟩
  subst eu
  refine ⟨ι3, env, ah3, ((a.step s S).step t T).step t' T', Po.first q3 fun w ah4 ι4 H4 w' _ t4 T4 ew q4 => ?_⟩
  subst ew
  obtain ⟨xs, hx, q5⟩ := q4.okO
  obtain ⟨h0, q6⟩ := q5.okB
  obtain ⟨b, vs, e, hq, rs⟩ := asL_rep T4 (((t.trans t').trans t4).rep d rv) hx
  refine ⟨b, vs, e, hq.sq, fun z => by rw [z] at h0; simp at h0, q6.mkL (c := c) T4 (reps_pick rs l u w)⟩
/-- range(a, b, c) -/
def iRg3 (l : FL) : FI0 := fun env ah => (l env ah).bind fun z => match z.1 with
  | [.int i, .int j, .int c] => okB (decide (c ≠ 0) && Nat.blt c.natAbs 1073741824 && Builtin.Range.small i j c && decide (Builtin.Range.rangeSize i j c = ((Builtin.Range.rangeSize i j c).toNat : Int))) (.ok (⟨rngC i c (Builtin.Range.rangeSize i j c).toNat, []⟩, z.2))
  | _ => .stk
theorem irg3 {X : Cx} {E : XW} {tg a b c : Expr} {Fl : FL} {pos p : Pos} (hm : X.mg "range" = none) (ha : FA X E [a, b, c] Fl) (hg : Gl X "range" := by rfl)
    (hs : starEach [a, b, c] X.env = (false, eval a X.env) :: starEach [b, c] X.env := by rfl) (hpl : (backTo pos (starEach [b, c] X.env)).any (·.1) = false := by rfl) : FI X E tg (.Call (.Name "range" p) [a, b, c] [] pos) (iRg3 Fl) :=
  PI.mono (pi_range3 hg hm ha hs hpl) fun σ H R hw => by
    obtain ⟨ι, env, ah, a, p⟩ := hw
    refine ⟨ι, env, ah, a, Po.firstI p fun ds ah1 ι1 H1 vs _ s S rs q => ?_⟩
    split at q
    · rename_i i j k hd
      have hd : ds = [.int i, .int j, .int k] := hd
      subst hd
      obtain ⟨hb, q⟩ := q.okB
      obtain ⟨v1, t1, rfl, r1, rt⟩ := reps_cons rs
      obtain ⟨v2, t2, rfl, r2, rt⟩ := reps_cons rt
      obtain ⟨v3, t3, rfl, r3, rt⟩ := reps_cons rt
      rw [reps_nil rt, rep_int r1, rep_int r2, rep_int r3]
      simp only [Bool.and_eq_true, decide_eq_true_eq] at hb
      have h2 := Nat.le_of_ble_eq_true hb.1.1.2
      exact ⟨i, j, k, _, rfl, ⟨hb.1.1.1, by omega, hb.1.2, hb.2⟩, q.here S wk_rngC⟩
    · exact q.elim
end Fx

/-! ===== Fx17 -/
set_option Elab.async false
set_option linter.all false
set_option maxRecDepth 100000
set_option maxHeartbeats 4000000
namespace Fx
open PySem PySem.Spec PyProof.Rows L2

/-! ### a def of the text keeps its promise -/
section
variable {P : Program} {w : World} {K : PySem.W.Frag} {mg : Str → Option Value} {base : Heap}
theorem okD {x qual : Str} {st : Stmt} {dvs : List V} {kws : List (Str × V)} {f : Addr} {fd : FuncData} {N ps : List Str} {k n m : Nat} {B : FO} (F : FunD K x qual (defArgs st) (defBody st) (defScope st) dvs kws f fd) (S : FnScope N ps (defScope st)) (hn : ps.length = n) (hm : N.length = n + m)
    (hbody : ∀ (cdv : Value) (A : Around) (outer : List PySem.Env) (s : Shared) (H : Hp) (E : XK), RG k (A.deeper (envOfC qual (defScope st) s.heap.objs.size f cdv)) →
      FSs (cxOf (L2.CX P w) P w K mg base N qual (defScope st) f cdv A outer s H E) (fun c d _ H => E c d H) (defBody st) B) : FnG P w K mg base (L2.CX P w) (k + 1) f fd ps (spT K mg n (runB n m B)) := by
  obtain ⟨oc, od, dV, kV, doc, pm, an, cdv, ct, osl, rfl, lk, hcd, _, _⟩ := F.ex
  refine fnG_of lk hcd S (fun vs H Q E h => ?_) fun A outer s H vs Q E hr h => ?_
  · obtain ⟨ι, ah, ds, _, r, l, _⟩ := h
    rw [reps_len r, l, hn]
  · obtain ⟨ι, ah, ds, S0, r, l, p⟩ := h
    refine ⟨_, hbody cdv A outer s H E hr, ?_⟩
    unfold runB at p
    obtain ⟨_, p⟩ := p.okB
    refine ⟨ι, ds.map some ++ List.replicate m none, ah, ⟨S0, start_simE r (by omega)⟩, ?_⟩
    show PoS K mg (fun c d _ H => E c d H) ι H (B (ds.map some ++ List.replicate m none) ah) _
    revert p
    generalize B (ds.map some ++ List.replicate m none) ah = res
    intro p
    cases res with
    | stk => exact p.elim
    | exc x e h => exact p
    | ok z =>
      obtain ⟨o, e, h⟩ := z
      intro ι' σ' H' st a
      cases o with
      | nx => exact p ι' H' .non st a.1 of_non
      | rt d => exact fun v rv => p ι' H' v st a.1 rv
      | bk => exact p.elim
      | ct => exact p.elim
theorem dk_of {x qual : Str} {st : Stmt} {kws : List (Str × V)} {f : Addr} {fd : FuncData} {ps : List Str} {k n : Nat} {m : Mf} (F : FunD K x qual (defArgs st) (defBody st) (defScope st) [] kws f fd) (hm : mg x = some (.ref f))
    (hb : ∀ (kV doc pm : Value) (an : Option Addr) (cdv ct : Value) (us : List Value), us.length = ps.length → bindArgs (PySem.W.fnOf x qual (defArgs st) (defBody st) (defScope st) .none kV doc pm an cdv ct) ⟨us, []⟩ = pure (ps.zip us))
    (G : FnG P w K mg base (L2.CX P w) k f fd ps (spT K mg n m)) : Dk P w K mg base k x n m := ⟨f, fd, ps, G, hm, F.kp, F.bindsN hb⟩
end
theorem hu_r {k : Nat} {A : Around} (h : RG k A) : A.units + 64 < cLine := by have := h.r.un; omega
theorem hu_r5 {k : Nat} {A : Around} (h : RG k A) : A.units + 65 < cLine := by have := h.r.un; omega

/-! ### the built-ins that the text names, free in the module -/
structure Bs (mg : Str → Option Value) : Prop where
  all_ : ∀ x ∈ bltN, mg x = none
theorem Bs.n {mg : Str → Option Value} (b : Bs mg) (x : Str) (h : x ∈ bltN := by decide +kernel) : mg x = none := b.all_ x h

/-! ### constants of the module -/
section
variable {K : PySem.W.Frag} {mg : Str → Option Value} {h : Heap}
mutual
theorem relD_ok (X : K.In h) (G : h.Ns mainGlobals mg) : ∀ (d : D) (u : Value), relD K d u = true → ∃ v, RelV v u ∧ ∀ ι H, Rep K mg ι H d v
  | .non, u, e => by
    cases u <;> first | exact ⟨.non, rfl, fun ι H => of_non⟩ | cases e
  | .bl b, u, e => by
    cases u <;> try (cases e; done)
    rename_i c
    unfold relD at e
    have : b = c := eq_of_beq e
    subst this
    exact ⟨.bl b, rfl, fun ι H => of_bl⟩
  | .int i, u, e => by
    cases u <;> try (cases e; done)
    rename_i c t
    unfold relD at e
    have : i = c := of_decide_eq_true e
    subst this
    exact ⟨.int i, ⟨t, rfl⟩, fun ι H => of_int⟩
  | .str x, u, e => by
    cases u <;> try (cases e; done)
    rename_i c t
    unfold relD at e
    have : x = c := of_decide_eq_true e
    subst this
    exact ⟨.str x, ⟨t, rfl⟩, fun ι H => of_str⟩
  | .tup ds, u, e => by
    cases u <;> try (cases e; done)
    rename_i a
    unfold relD at e
    split at e
    · rename_i c od its n sl hl
      rw [Bool.and_eq_true, Bool.and_eq_true] at e
      obtain ⟨e1, e2, e3⟩ := e
      have e1 : c = "tuple" := of_decide_eq_true e1
      subst e1
      obtain ⟨vs, r, q⟩ := relDs_ok X G ds its.toList e3
      refine ⟨.ref a, rfl, fun ι H => ?_⟩
      unfold Rep
      exact ⟨a, vs, rfl, .inr (.inr ⟨_, its, n, hl, rfl, rfl, of_decide_eq_true e2, r⟩), q ι H⟩
    · cases e
  | .fn x, u, e => by
    cases u <;> try (cases e; done)
    rename_i f
    unfold relD at e
    refine ⟨.ref f, rfl, fun ι H => ?_⟩
    unfold Rep
    exact ⟨f, rfl, PySem.W.mg_of X G (of_decide_eq_true e)⟩
  | .lst ds, u, e => by cases u <;> cases e
  | .dic t kvs, u, e => by cases u <;> cases e
  | .rng lo hi, u, e => by cases u <;> cases e
  | .ref n, u, e => by cases u <;> cases e
theorem relDs_ok (X : K.In h) (G : h.Ns mainGlobals mg) : ∀ (ds : List D) (us : List Value), relDs K ds us = true → ∃ vs, Vals vs us ∧ ∀ ι H, Reps K mg ι H ds vs
  | [], [], _ => ⟨[], .nil, fun ι H => of_nil⟩
  | [], _ :: _, e => by cases e
  | _ :: _, [], e => by cases e
  | d :: ds, u :: us, e => by
    unfold relDs at e
    rw [Bool.and_eq_true] at e
    obtain ⟨v, r, q⟩ := relD_ok X G d u e.1
    obtain ⟨vs, r2, q2⟩ := relDs_ok X G ds us e.2
    exact ⟨v :: vs, .cons r r2, fun ι H => of_cons (q ι H) (q2 ι H)⟩
end
theorem conB_ok (X : K.In h) (G : h.Ns mainGlobals mg) {x : Str} {d : D} (e : conB K x d = true) : GlD K mg x d := by
  unfold conB at e
  split at e
  · rename_i u hu
    obtain ⟨v, r, q⟩ := relD_ok X G d u e
    exact ⟨u, v, PySem.W.mg_of X G hu, r, q⟩
  · cases e
theorem sLook_mem : ∀ {kvs : List (Str × D)} {z : Str} {d : D}, sLook kvs z = some d → (z, d) ∈ kvs
  | [], _, _, e => by cases e
  | (k, d') :: r, z, d, e => by
    unfold sLook at e
    by_cases hk : k = z
    · rw [if_pos hk] at e
      cases e
      rw [hk]; exact List.mem_cons_self
    · rw [if_neg hk] at e
      exact List.mem_cons_of_mem _ (sLook_mem e)
theorem sLook_none : ∀ {kvs : List (Str × D)} {z : Str}, sLook kvs z = none → z ∉ kvs.map (·.1)
  | [], _, _ => by simp
  | (k, d') :: r, z, e => by
    unfold sLook at e
    by_cases hk : k = z
    · rw [if_pos hk] at e; cases e
    · rw [if_neg hk] at e
      rw [List.map_cons, List.mem_cons]
      rintro (q | q)
      · exact hk q.symm
      · exact sLook_none e q
theorem keys_none {w : World} : ∀ {l : List DictEntry} {ks : List Str} {z : Str}, l.map He.keyOf = He.keysIn w.params ks → z ∉ ks → l.find? (·.key.isStr z) = none ∧ l.any (·.refKey) = false
  | [], ks, z, e, hz => ⟨rfl, rfl⟩
  | en :: l, [], z, e, hz => by cases e
  | en :: l, k :: ks, z, e, hz => by
    have h1 : He.keyOf en :: l.map He.keyOf = some (k, PyData.keyHash w.params k) :: He.keysIn w.params ks := e
    injection h1 with h2 h3
    rw [List.mem_cons, not_or] at hz
    obtain ⟨i1, i2⟩ := keys_none h3 hz.2
    unfold He.keyOf at h2
    split at h2
    · rename_i y t hy
      have h4 := Option.some.inj h2
      obtain ⟨h5, _⟩ := Prod.mk.inj h4
      subst h5
      have n1 : en.key.isStr z = false := by
        rw [hy]
        show (y == z) = false
        exact beq_eq_false_iff_ne.mpr fun q => hz.1 q.symm
      have n2 : en.refKey = false := by
        unfold DictEntry.refKey
        rw [hy]
      exact ⟨by rw [List.find?_cons, n1]; exact i1, by rw [List.any_cons, n2, i2]; rfl⟩
    · cases h2
theorem dicB_ok (X : K.In h) (G : h.Ns mainGlobals mg) {w : World} {x : Str} {kvs : List (Str × D)} (e : dicB K x kvs = true) (t : He.dicW K (He.ga K x) = some (He.keysIn w.params (kvs.map (·.1)))) : KDc K w mg x kvs := by
  unfold dicB at e
  rw [Bool.and_eq_true] at e
  obtain ⟨es, n, D⟩ := He.dicW_ok t
  refine ⟨He.ga K x, es, n, PySem.W.mg_of X G (of_decide_eq_true e.1), D, fun z d hz => ?_, fun z hz => ?_⟩
  · have q := List.all_eq_true.mp e.2 (z, d) (sLook_mem hz)
    simp only at q
    split at q
    · rename_i u hu
      obtain ⟨v, r, q⟩ := relD_ok X G d u q
      exact ⟨u, v, hu, r, q⟩
    · cases q
  · have hk : es.toList.map He.keyOf = He.keysIn w.params (kvs.map (·.1)) := by
      unfold He.dicW at t
      rw [D.at_] at t
      simp only at t
      split at t
      · exact Option.some.inj t
      · cases t
    obtain ⟨q1, q2⟩ := keys_none hk (sLook_none hz)
    unfold PySem.W.nsIn
    rw [D.at_]
    simp only
    rw [q1]
    simp only
    rw [q2]
    rfl
end

end Fx
namespace Fx
open PySem PySem.Spec PyProof.Rows L2
/-! ### a call, with the cells only where the arguments name cells -/
def dCall (m : Mf) (l : FL) : FV := fun env ah => (l env ah).bind fun z => match argsOk z.2 z.1 with
  | true => pureR env z.2 (m z.1 [])
  | false => reEnv env (m z.1 z.2)
theorem sp_dyn {K : PySem.W.Frag} {mg : Str → Option Value} {E : XW} {ι : Io} {H : Hp} {ah : AH} {env : Env} {σ : L2.St} {n : Nat} {m : Mf} {ds : List D} {vs : List V} {Q : VK} (a : At K mg env ah ι σ H) (r : Reps K mg ι H ds vs)
    (p : Po K mg E (RvD K mg) ι H (okB (Nat.beq ds.length n) (match argsOk ah ds with
      | true => pureR env ah (m ds [])
      | false => reEnv env (m ds ah))) Q) : spT K mg n m vs H Q (WE E σ) := by
  obtain ⟨hl, p⟩ := p.okB
  cases ho : argsOk ah ds with
  | true => rw [ho] at p; exact sp_pure a r (Nat.eq_of_beq_eq_true hl) ho p
  | false => rw [ho] at p; exact sp_call a r (Nat.eq_of_beq_eq_true hl) p
theorem len_bind {α : Type} {n : Nat} {l : R (List D × AH)} {f : List D × AH → R α} : ((l.bind fun z => okB (Nat.beq z.1.length n) (R.ok z)).bind f) = l.bind fun z => okB (Nat.beq z.1.length n) (f z) := by
  cases l with
  | ok z =>
    show (okB (Nat.beq z.1.length n) (R.ok z)).bind f = okB (Nat.beq z.1.length n) (f z)
    cases Nat.beq z.1.length n <;> rfl
  | exc x e h => rfl
  | stk => rfl
section
variable {X : Cx} {E : XW} {a : Expr} {as : List Expr} {Fl : FL} {k n : Nat} {x : Str} {m : Mf} {p pos : Pos} {tb : Str → Option Mf}
theorem fdcall (d : Df X k x n m) (hr : RG k X.A) (tk : ∀ σ, PassesAt (L2.CX X.prog X.w) X σ (WE E σ)) (ha : FA X E (a :: as) Fl) (hg : Gl X x := by rfl) (hp : Pl X a as pos := by exact ⟨rfl, rfl⟩) (hdb : (x == ("__debug__" : Str)) = false := by decide)
    : FE X E (.Call (.Name x p) (a :: as) [] pos) (dCall m (lenB n Fl)) := by
  obtain ⟨f, fd, ps, F, hm, hk, hb⟩ := d.to
  refine PE.mono (pe_callG F hr hg hm hk hb .nil tk ha hdb hp.he hp.hpl) fun σ H Q h => ?_
  obtain ⟨ι, env, ah, a, p⟩ := h
  unfold dCall lenB at p
  rw [len_bind] at p
  refine ⟨ι, env, ah, a, Po.first p fun ds ah1 ι1 H1 vs e s S rs q => ?_⟩
  exact sp_dyn (a.step s S) (by rw [List.append_nil]; exact rs) q
def vdCall (i : Nat) (n : Nat) (tb : Str → Option Mf) (l : FL) : FV := fun env ah => match env[i]? with
  | some (some (.fn g)) => okO (tb g) fun m => dCall m (lenB n l) env ah
  | _ => .stk
theorem fvdcall (i : Nat) (hd : ∀ g m, tb g = some m → Df X k g n m) (hr : RG k X.A) (tk : ∀ σ, PassesAt (L2.CX X.prog X.w) X σ (WE E σ)) (ha : FA X E (a :: as) Fl) (hN : X.N[i]? = some x := by rfl) (hv : Vis X.env.scope x := by first | exact Or.inl rfl | exact Or.inr (Or.inl rfl) | exact Or.inr (Or.inr rfl))
    (hp : Pl X a as pos := by exact ⟨rfl, rfl⟩) (hdb : (x == ("__debug__" : Str)) = false := by decide) (hcd : (x == ("__classdict__" : Str)) = false := by decide) : FE X E (.Call (.Name x p) (a :: as) [] pos) (vdCall i n tb Fl) := by
  refine PE.mono (pe_vG hr tk hN hv ha hdb hcd hp.he hp.hpl) fun σ H Q h => ?_
  obtain ⟨ι, env, ah, a, p⟩ := h
  unfold vdCall at p
  split at p
  · rename_i g hg
    obtain ⟨m, hm, p⟩ := p.okO
    obtain ⟨v, hv', rv⟩ := a.2.var i _ hg
    unfold Rep at rv
    obtain ⟨f, rfl, hf⟩ := rv
    obtain ⟨f', fd, ps, F, hmg, hk, hb⟩ := (hd g m hm).to
    rw [hf] at hmg
    cases hmg
    unfold dCall lenB at p
    rw [len_bind] at p
    refine ⟨f, fd, ps, _, hv', F, hk, hb, ι, env, ah, a, Po.first p fun ds ah1 ι1 H1 vs e s S rs q => ?_⟩
    exact sp_dyn (a.step s S) rs q
  · exact p.elim
end
/-! ### names of built-ins -/
section
variable {mg : Str → Option Value} (b : Bs mg)
include b
theorem Bs.len : mg "len" = none := b.n "len"
theorem Bs.max : mg "max" = none := b.n "max"
theorem Bs.min : mg "min" = none := b.n "min"
theorem Bs.list : mg "list" = none := b.n "list"
theorem Bs.tuple : mg "tuple" = none := b.n "tuple"
theorem Bs.sum : mg "sum" = none := b.n "sum"
theorem Bs.any : mg "any" = none := b.n "any"
theorem Bs.all : mg "all" = none := b.n "all"
theorem Bs.range : mg "range" = none := b.n "range"
theorem Bs.isinstance : mg "isinstance" = none := b.n "isinstance"
theorem Bs.int : mg "int" = none := b.n "int"
theorem Bs.str : mg "str" = none := b.n "str"
theorem Bs.bool : mg "bool" = none := b.n "bool"
theorem Bs.dict : mg "dict" = none := b.n "dict"
theorem Bs.set : mg "set" = none := b.n "set"
theorem Bs.sorted : mg "sorted" = none := b.n "sorted"
theorem Bs.enumerate : mg "enumerate" = none := b.n "enumerate"
theorem Bs.zip : mg "zip" = none := b.n "zip"
theorem Bs.repr : mg "repr" = none := b.n "repr"
end
theorem bt_int : bootBuiltins "int" = some (.type Ty.int.nm) := by decide +kernel
theorem bt_bool : bootBuiltins "bool" = some (.type Ty.bool.nm) := by decide +kernel
theorem bt_str : bootBuiltins "str" = some (.type Ty.str.nm) := by decide +kernel
theorem bt_tuple : bootBuiltins "tuple" = some (.type Ty.tuple.nm) := by decide +kernel
theorem bt_list : bootBuiltins "list" = some (.type Ty.list.nm) := by decide +kernel
theorem bt_dict : bootBuiltins "dict" = some (.type Ty.dict.nm) := by decide +kernel
end Fx

/-! ===== Fx18 -/
set_option Elab.async false
set_option linter.all false
set_option maxRecDepth 100000
set_option maxHeartbeats 4000000
namespace Fx
open PySem PySem.Spec PyProof.Rows L2
/-- a def of the text, as the head finds it -/
def FDk (K : PySem.W.Frag) (mg : Str → Option Value) (x : Str) (st : Stmt) : Prop := ∃ f fd, FunD K x x (defArgs st) (defBody st) (defScope st) [] [] f fd ∧ mg x = some (.ref f)
theorem spLaw_ok {K : PySem.W.Frag} {mg : Str → Option Value} {m : Mf} {H : Hp} {a : Addr} {ns : List Int} (hS : RdL K H a (ns.map V.int)) (hm : ∃ ah, m [.lst (ns.map .int)] [] = .ok (.bl true, ah)) :
    spT K mg 1 m [.ref a] H (fun v _ => v = .bl true) (fun _ _ _ => False) := by
  obtain ⟨ah, hm⟩ := hm
  refine ⟨⟨[], []⟩, [], [.lst (ns.map .int)], ⟨rfl, List.nodup_nil, fun i c a e _ => by simp at e, fun a h => by simp at h⟩, of_cons ?_ of_nil, rfl, ?_⟩
  · unfold Rep
    refine ⟨a, _, rfl, ?_, of_ints⟩
    rcases hS with h | h
    · exact .inl ⟨⟨by simp, by simp⟩, h⟩
    · exact .inr h
  · rw [hm]
    exact fun ι' H' v s S rv => rep_bl rv
theorem noCX {P : Program} {w : World} (H : Hp) (s : Shared) (e : Value) (s' : Shared) (h : L2.CX P w [] H s (fun _ _ _ => False) e s') : False := by
  obtain ⟨_, _, _, _, _, _, _, _, _, _, _, _, z⟩ := h
  exact z.elim
section
open He
variable {fa : List Fa} {fn : List DefD} {ts : List Tab} {w : World} {K : PySem.W.Frag}
theorem saysMem (c : SaysD fa fn K) {f : Fa} (h : f ∈ fa) : f.ok K = true := by
  have c1 := (ba (show ((fa.all fun f => f.ok K) && fn.all fun d => d.ok K) = true from congrArg (fun z : AlD => z.1) c)).1
  exact List.all_eq_true.mp c1 f h
theorem saysTab (c : SaysT fa fn ts w K) (i : Nat) {t : Tab} (h : ts[i]? = some t) : dicW K (t.1 K) = some (keysIn w.params t.2) := by
  have e : ts.map (fun t => dicW K (t.1 K)) = ts.map fun t => some (keysIn w.params t.2) := congrArg (fun z : AlT => z.2) c
  have e2 : (ts.map fun t => dicW K (t.1 K))[i]? = (ts.map fun t => some (keysIn w.params t.2))[i]? := by rw [e]
  rw [List.getElem?_map, List.getElem?_map, h] at e2
  exact Option.some.inj e2
theorem bs_of {mg : Str → Option Value} {h : Heap} (X : K.In h) (G : h.Ns mainGlobals mg) (c : SaysD fa fn K) (hb : ∀ x ∈ bltN, Fa.free x ∈ fa) : Bs mg := ⟨fun x hx => free_ok X G (saysMem c (hb x hx))⟩
theorem fd_of {mg : Str → Option Value} {h : Heap} (X : K.In h) (G : h.Ns mainGlobals mg) (c : SaysD fa fn K) (i : Nat) {x : Str} {st : Stmt} (hd : fn[i]? = some ⟨(x, none), x, x, defArgs st, defBody st, defScope st, [], []⟩) (hg : Fa.glo x ∈ fa) : FDk K mg x st := by
  obtain ⟨fd, F⟩ := c.def_ i hd
  exact ⟨_, fd, F, glo_ok X G (saysMem c hg)⟩
end
end Fx

/-! ===== Fx19 -/
set_option Elab.async false
set_option linter.all false
set_option maxRecDepth 100000
set_option maxHeartbeats 4000000
namespace Fx
open PySem PySem.Spec PyProof.Rows L2

/-! ### a call with the cells that its arguments name, and no others -/
def subRefs : List D → List Nat
  | [] => []
  | .ref n :: r => n :: subRefs r
  | _ :: r => subRefs r
def subRen : Nat → List D → List D
  | _, [] => []
  | k, .ref _ :: r => .ref k :: subRen (k + 1) r
  | k, d :: r => d :: subRen k r
def argNr : D → Bool
  | .ref _ => true
  | d => D.nr d
def cellNr : Cell → Bool
  | .lst xs => D.nrs xs
  | .dic _ kvs => D.nrk kvs
  | .ins _ _ => false
def noDup : List Nat → Bool
  | [] => true
  | a :: r => !(r.contains a) && noDup r
def subCells (ah : AH) : List Nat → Option AH
  | [] => some []
  | n :: r => match ah[n]?, subCells ah r with
    | some c, some s => if cellNr c = true then some (c :: s) else none
    | _, _ => none
def subBack (ah : AH) : List Nat → AH → Option AH
  | [], _ => some ah
  | n :: r, c :: h => if cellNr c = true then subBack (ah.set n c) r h else none
  | _ :: _, [] => none
def sCall (m : Mf) (l : FL) : FV := fun env ah => (l env ah).bind fun z => okB (z.1.all argNr && noDup (subRefs z.1)) (okO (subCells z.2 (subRefs z.1)) fun ah0 => match m (subRen 0 z.1) ah0 with
  | .ok (d, h) => okB (D.nr d) (okO (subBack z.2 (subRefs z.1) h) fun ah2 => .ok (d, ah2))
  | _ => .stk)
section
variable {K : PySem.W.Frag} {mg : Str → Option Value} {E : XW} {ι ι' : Io} {H H' : Hp} {ah ah0 ah2 : AH} {d : D} {v : V} {env : Env} {σ : L2.St} {n : Nat} {m : Mf} {ds : List D} {vs : List V} {Q : VK}
theorem noDup_nd : ∀ {l : List Nat}, noDup l = true → l.Nodup
  | [], _ => List.nodup_nil
  | a :: r, h => by
    unfold noDup at h
    rw [Bool.and_eq_true] at h
    rw [List.nodup_cons]
    exact ⟨by simpa using h.1, noDup_nd h.2⟩
/-- the addresses of the named cells -/
def adrs (ι : Io) (rs : List Nat) : List Addr := rs.map fun n => ι.c.getD n 0
theorem adr_get {i : Nat} (h : i < ι.c.length) : ι.c[i]? = some (ι.c.getD i 0) := by
  rw [List.getD_eq_getElem?_getD, List.getElem?_eq_getElem h]; rfl
theorem subCells_get : ∀ {rs : List Nat} {ah0 : AH}, subCells ah rs = some ah0 → ah0.length = rs.length ∧ ∀ (k n : Nat), rs[k]? = some n → ∃ c, ah[n]? = some c ∧ ah0[k]? = some c ∧ cellNr c = true
  | [], ah0, h => by cases h; exact ⟨rfl, fun k n e => by simp at e⟩
  | a :: r, ah0, h => by
    unfold subCells at h
    split at h
    · rename_i c s h1 h2
      split at h
      · rename_i hc
        cases h
        obtain ⟨i1, i2⟩ := subCells_get h2
        refine ⟨by simp [i1], fun k n e => ?_⟩
        cases k with
        | zero => simp at e; subst e; exact ⟨c, h1, rfl, hc⟩
        | succ k =>
          rw [List.getElem?_cons_succ] at e
          obtain ⟨c', e1, e2, e3⟩ := i2 k n e
          exact ⟨c', e1, by rw [List.getElem?_cons_succ]; exact e2, e3⟩
      · cases h
    · cases h
theorem subBack_get : ∀ {rs : List Nat} {ah h ah2 : AH}, rs.Nodup → subBack ah rs h = some ah2 → ah2.length = ah.length ∧ (∀ (k n : Nat), rs[k]? = some n → n < ah.length → ∃ c, ah2[n]? = some c ∧ h[k]? = some c ∧ cellNr c = true) ∧ ∀ n, n ∉ rs → ah2[n]? = ah[n]?
  | [], ah, h, ah2, _, e => by
    have e : some ah = some ah2 := by cases h <;> exact e
    cases e
    exact ⟨rfl, fun k n e => by simp at e, fun _ _ => rfl⟩
  | a :: r, ah, [], ah2, _, e => by cases e
  | a :: r, ah, c :: h, ah2, nd, e => by
    unfold subBack at e
    split at e
    · rename_i hc
      rw [List.nodup_cons] at nd
      obtain ⟨i1, i2, i3⟩ := subBack_get nd.2 e
      rw [List.length_set] at i1
      refine ⟨i1, fun k n e2 hn => ?_, fun n hn => ?_⟩
      · cases k with
        | zero =>
          simp at e2; subst e2
          refine ⟨c, ?_, rfl, hc⟩
          rw [i3 a nd.1, List.getElem?_set_self hn]
        | succ k =>
          rw [List.getElem?_cons_succ] at e2
          obtain ⟨c', e3, e4, e5⟩ := i2 k n e2 (by rw [List.length_set]; exact hn)
          exact ⟨c', e3, by rw [List.getElem?_cons_succ]; exact e4, e5⟩
      · rw [List.mem_cons, not_or] at hn
        rw [i3 n hn.2, List.getElem?_set_ne fun z => hn.1 z.symm]
    · cases e
theorem Lw.crep (s : Lw ι H ι' H') {a : Addr} {c : Cell} (hc : cellNr c = true) (e : H' a = H a) (h : CRep K mg ι H a c) : CRep K mg ι' H' a c := by
  cases c with
  | lst xs => obtain ⟨vs, e1, e2⟩ := h; exact ⟨vs, e.trans e1, s.reps xs hc e2⟩
  | dic t kvs => obtain ⟨ws, o, e1, e2, e3⟩ := h; exact ⟨ws, o, e.trans e1, e2, s.repV kvs hc e3⟩
  | ins C fs => cases hc
theorem subRen_reps (lw : Lw ι H ι' H) : ∀ {ds : List D} {vs : List V} (k : Nat), ds.all argNr = true → Reps K mg ι H ds vs → (∀ j n, (subRefs ds)[j]? = some n → ∀ a, ι.c[n]? = some a → ι'.c[k + j]? = some a) → Reps K mg ι' H (subRen k ds) vs
  | [], vs, k, _, r, _ => by rw [reps_nil r]; exact of_nil
  | d :: ds, vs, k, ha, r, h => by
    obtain ⟨v, s, rfl, p, q⟩ := reps_cons r
    rw [List.all_cons, Bool.and_eq_true] at ha
    by_cases hd : ∃ n, d = .ref n
    · obtain ⟨n, rfl⟩ := hd
      obtain ⟨a, rfl, g⟩ := rep_ref p
      have h0 := h 0 n (by unfold subRefs; rfl) a g
      show Reps K mg ι' H (.ref k :: subRen (k + 1) ds) _
      refine of_cons ?_ (subRen_reps lw (k + 1) ha.2 q fun j n' e a' g' => ?_)
      · unfold Rep
        exact ⟨a, rfl, h0⟩
      · have := h (j + 1) n' (by unfold subRefs; rw [List.getElem?_cons_succ]; exact e) a' g'
        have e3 : k + (j + 1) = k + 1 + j := by omega
        rw [e3] at this
        exact this
    · have e1 : subRen k (d :: ds) = d :: subRen k ds := by cases d <;> first | rfl | exact absurd ⟨_, rfl⟩ hd
      have e2 : subRefs (d :: ds) = subRefs ds := by cases d <;> first | rfl | exact absurd ⟨_, rfl⟩ hd
      have e3 : D.nr d = true := by
        have := ha.1
        cases d <;> first | exact this | exact absurd ⟨_, rfl⟩ hd
      rw [e1]
      exact of_cons (lw.rep d e3 p) (subRen_reps lw k ha.2 q fun j n e a g => h j n (by rw [e2]; exact e) a g)
theorem subRefs_ok (S : SimH K mg ι H ah) : ∀ {ds : List D} {vs : List V}, Reps K mg ι H ds vs → ∀ n ∈ subRefs ds, n < ι.c.length
  | [], _, _ => fun n h => by cases h
  | d :: ds, _, r => fun n h => by
    obtain ⟨v, s, rfl, p, q⟩ := reps_cons r
    by_cases hd : ∃ k, d = .ref k
    · obtain ⟨k, rfl⟩ := hd
      obtain ⟨a, _, g⟩ := rep_ref p
      have h : n ∈ k :: subRefs ds := h
      rcases List.mem_cons.mp h with rfl | h
      · exact (List.getElem?_eq_some_iff.mp g).1
      · exact subRefs_ok S q n h
    · have e2 : subRefs (d :: ds) = subRefs ds := by cases d <;> first | rfl | exact absurd ⟨_, rfl⟩ hd
      rw [e2] at h
      exact subRefs_ok S q n h
theorem sp_sub (a : At K mg env ah ι σ H) (r : Reps K mg ι H ds vs) (hl : ds.length = n) (hok : ds.all argNr = true) (hnd : noDup (subRefs ds) = true) (hc : subCells ah (subRefs ds) = some ah0)
    (p : Po K mg E (RvD K mg) ι H (match m (subRen 0 ds) ah0 with
      | .ok (d, h) => okB (D.nr d) (okO (subBack ah (subRefs ds) h) fun ah2 => .ok (d, ah2))
      | _ => .stk) Q) : spT K mg n m vs H Q (WE E σ) := by
  have S := a.1
  have nd := noDup_nd hnd
  have lt := subRefs_ok S r
  obtain ⟨c1, c2⟩ := subCells_get hc
  generalize hrs : subRefs ds = rs at *
  have cg : ∀ (k n : Nat), rs[k]? = some n → ∃ a, ι.c[n]? = some a ∧ (adrs ι rs)[k]? = some a := fun k n e => by
    refine ⟨ι.c.getD n 0, adr_get (lt n (List.mem_of_getElem? e)), ?_⟩
    unfold adrs
    rw [List.getElem?_map, e]; rfl
  have cin : ∀ b ∈ adrs ι rs, ∃ n ∈ rs, ι.c[n]? = some b := fun b hb => by
    unfold adrs at hb
    obtain ⟨n, hn, e⟩ := List.mem_map.mp hb
    exact ⟨n, hn, by rw [← e]; exact adr_get (lt n hn)⟩
  have inc : ∀ b ∈ adrs ι rs, b ∈ ι.c := fun b hb => by
    obtain ⟨n, _, e⟩ := cin b hb
    exact List.mem_of_getElem? e
  have uniq : ∀ (i j : Nat) (b : Addr), ι.c[i]? = some b → ι.c[j]? = some b → i = j := fun i j b e1 e2 => by
    have h1 := (List.getElem?_eq_some_iff.mp e1).1
    have h2 := (List.getElem?_eq_some_iff.mp e2).1
    exact (List.getElem?_inj h1 S.nd).mp (e1.trans e2.symm)
  let ι0 : Io := ⟨adrs ι rs, (ι.c.filter fun b => !(adrs ι rs).contains b) ++ ι.h⟩
  have rest : ∀ b, b ∈ ι0.h ↔ (b ∈ ι.c ∧ b ∉ adrs ι rs) ∨ b ∈ ι.h := fun b => by
    show b ∈ (ι.c.filter fun b => !(adrs ι rs).contains b) ++ ι.h ↔ _
    rw [List.mem_append, List.mem_filter]
    simp
  have lw : Lw ι H ι0 H := ⟨fun b u n e => ⟨⟨fun z => n.1 (inc b z), fun z => by
    rcases (rest b).mp z with z | z
    · exact n.1 z.1
    · exact n.2 z⟩, e⟩⟩
  have nd0 : (adrs ι rs).Nodup := by
    unfold adrs
    rw [List.Nodup, List.pairwise_map]
    refine nd.imp_of_mem fun {x y} hx hy hne e => hne ?_
    have e1 := adr_get (lt x hx)
    have e2 := adr_get (lt y hy)
    rw [← e] at e2
    exact uniq x y _ e1 e2
  have S0 : SimH K mg ι0 H ah0 := by
    refine ⟨by show (adrs ι rs).length = _; unfold adrs; rw [List.length_map, c1], nd0, fun i c b e1 e2 => ?_, fun b hb => ?_⟩
    · have e2 : (adrs ι rs)[i]? = some b := e2
      have hi : i < rs.length := by have := (List.getElem?_eq_some_iff.mp e1).1; omega
      obtain ⟨c', f1, f2, f3⟩ := c2 i rs[i] (List.getElem?_eq_getElem hi)
      rw [e1] at f2
      cases f2
      obtain ⟨b', g1, g2⟩ := cg i rs[i] (List.getElem?_eq_getElem hi)
      rw [e2] at g2
      cases g2
      exact lw.crep f3 rfl (S.cell _ _ _ f1 g1)
    · rcases (rest b).mp hb with z | z
      · exact ⟨S.there z.1, z.2⟩
      · exact ⟨(S.hd b z).1, fun y => (S.hd b z).2 (inc b y)⟩
  have r0 : Reps K mg ι0 H (subRen 0 ds) vs := subRen_reps lw 0 hok r fun j n e a' g' => by
    rw [hrs] at e
    obtain ⟨b, g1, g2⟩ := cg j n e
    rw [g'] at g1
    cases g1
    rw [Nat.zero_add]
    exact g2
  refine ⟨ι0, ah0, subRen 0 ds, S0, r0, ?_, ?_⟩
  · have : ∀ (l : List D) (k : Nat), (subRen k l).length = l.length := fun l => by
      induction l with
      | nil => intro k; rfl
      | cons d l ih =>
        intro k
        by_cases hd : ∃ n, d = .ref n
        · obtain ⟨n, rfl⟩ := hd
          show (D.ref k :: subRen (k + 1) l).length = _
          rw [List.length_cons, ih, List.length_cons]
        · have e1 : subRen k (d :: l) = d :: subRen k l := by cases d <;> first | rfl | exact absurd ⟨_, rfl⟩ hd
          rw [e1, List.length_cons, ih, List.length_cons]
    rw [this, hl]
  revert p
  generalize m (subRen 0 ds) ah0 = res
  intro p
  cases res with
  | stk => exact p.elim
  | exc x e h => exact p.elim
  | ok z =>
    obtain ⟨d, h⟩ := z
    have p : Po K mg E (RvD K mg) ι H (okB (D.nr d) (okO (subBack ah rs h) fun ah2 => .ok (d, ah2))) Q := p
    obtain ⟨hd, p⟩ := p.okB
    obtain ⟨ah2, hb, p⟩ := p.okO
    obtain ⟨b1, b2, b3⟩ := subBack_get nd hb
    intro ι' H' v s S' rv
    obtain ⟨new, en, _⟩ := s.pre
    obtain ⟨more, em, _⟩ := s.hid
    have st : Step ι H ι H' := ⟨⟨[], by simp, by simp⟩, ⟨[], by simp, by simp⟩, fun b u nb e => s.frame b u (fun z => nb (inc b z)) e, s.dom⟩
    have lz : Lw ι' H' ι H' := ⟨fun b u nb e => ⟨⟨fun z => by
      by_cases y : b ∈ adrs ι rs
      · exact nb.1 (by rw [en]; exact List.mem_append_left _ y)
      · exact nb.2 (by rw [em]; exact List.mem_append_right _ ((rest b).mpr (.inl ⟨z, y⟩))), fun z => nb.2 (by rw [em]; exact List.mem_append_right _ ((rest b).mpr (.inr z)))⟩, e⟩⟩
    refine p ι H' v st ⟨by rw [b1]; exact S.len, S.nd, fun i c b e1 e2 => ?_, fun b hb => ⟨fun z => (S.hd b hb).1 (st.dom b z), (S.hd b hb).2⟩⟩ (lz.rep d hd rv)
    by_cases hi : i ∈ rs
    · obtain ⟨k, hk⟩ := List.mem_iff_getElem?.mp hi
      obtain ⟨c', f1, f2, f3⟩ := b2 k i hk (by rw [← S.len]; exact lt i hi)
      rw [e1] at f1
      cases f1
      obtain ⟨b', g1, g2⟩ := cg k i hk
      rw [e2] at g1
      cases g1
      have g3 : ι'.c[k]? = some b := by
        rw [en, List.getElem?_append_left (List.getElem?_eq_some_iff.mp g2).1]
        exact g2
      exact lz.crep f3 rfl (S'.cell k c b f2 g3)
    · rw [b3 i hi] at e1
      have hb' : b ∉ adrs ι rs := fun z => by
        obtain ⟨n, hn, g⟩ := cin b z
        exact hi (by rw [uniq i n b e2 g]; exact hn)
      have cr := S.cell i c b e1 e2
      obtain ⟨o, ho⟩ := cr.some
      refine st.lv.crep ?_ cr
      rw [ho]
      exact s.frame b o hb' ho
end
section
variable {X : Cx} {E : XW} {a : Expr} {as : List Expr} {Fl : FL} {k n : Nat} {x : Str} {m : Mf} {p pos : Pos}
theorem fscall (d : Df X k x n m) (hr : RG k X.A) (tk : ∀ σ, PassesAt (L2.CX X.prog X.w) X σ (WE E σ)) (ha : FA X E (a :: as) Fl) (hg : Gl X x := by rfl) (hp : Pl X a as pos := by exact ⟨rfl, rfl⟩) (hdb : (x == ("__debug__" : Str)) = false := by decide)
    : FE X E (.Call (.Name x p) (a :: as) [] pos) (sCall m (lenB n Fl)) := by
  obtain ⟨f, fd, ps, F, hm, hk, hb⟩ := d.to
  refine PE.mono (pe_callG F hr hg hm hk hb .nil tk ha hdb hp.he hp.hpl) fun σ H Q h => ?_
  obtain ⟨ι, env, ah, a, p⟩ := h
  unfold sCall lenB at p
  rw [len_bind] at p
  refine ⟨ι, env, ah, a, Po.first p fun ds ah1 ι1 H1 vs e s S rs q => ?_⟩
  obtain ⟨hl, q⟩ := q.okB
  obtain ⟨h1, q⟩ := q.okB
  obtain ⟨ah0, h2, q⟩ := q.okO
  rw [Bool.and_eq_true] at h1
  exact sp_sub (a.step s S) (by rw [List.append_nil]; exact rs) (Nat.eq_of_beq_eq_true hl) h1.1 h1.2 h2 q
end
end Fx

/-! ===== Fx20 -/
set_option Elab.async false
set_option linter.all false
set_option maxRecDepth 100000
set_option maxHeartbeats 4000000
namespace Fx
open PySem PySem.Spec PyProof.Rows L2
/-! ### a call that only reads what cells the arguments name, and answers with a flat value -/
def D.scal : D → Bool
  | .non => true
  | .bl _ => true
  | .int _ => true
  | .str _ => true
  | _ => false
def kRes (env : Env) (ah : AH) (r : R (D × AH)) : R (D × AH) := match r with
  | .ok (d, _) => okB (D.scal d) (.ok (d, ah))
  | .exc x _ _ => okB (x.fs.all fun p => D.scal p.2) (.exc x env ah)
  | .stk => .stk
def kCall (m : Mf) (l : FL) : FV := fun env ah => (l env ah).bind fun z => okO (mapO (frz z.2 8) z.1) fun ds => kRes env z.2 (m ds [])
section
variable {K : PySem.W.Frag} {mg : Str → Option Value} {E : XW} {ι ι' : Io} {H H' : Hp} {ah : AH} {d : D} {v : V} {env : Env} {σ : L2.St} {n : Nat} {m : Mf} {ds ds' : List D} {vs : List V} {Q : VK}
theorem scal_rep (h : D.scal d = true) (r : Rep K mg ι H d v) : Rep K mg ι' H' d v := by
  cases d <;> first | (cases h; done) | (unfold Rep at r ⊢; exact r)
theorem scal_fs : ∀ {fs : List (Str × D)} {gs : List (Str × V)}, (fs.all fun p => D.scal p.2) = true → RepF K mg ι H fs gs → RepF K mg ι' H' fs gs
  | [], _, _, r => r
  | (x, d) :: fs, _, h, r => by
    rw [List.all_cons, Bool.and_eq_true] at h
    obtain ⟨v, s, rfl, p, q⟩ := r
    exact ⟨v, s, rfl, scal_rep h.1 p, scal_fs h.2 q⟩
theorem mapO_len {α β : Type} {f : α → Option β} : ∀ {l : List α} {r : List β}, mapO f l = some r → r.length = l.length
  | [], _, e => by cases e; rfl
  | a :: l, _, e => by
    unfold mapO at e
    split at e
    · rename_i h1 h2
      cases e
      rw [List.length_cons, List.length_cons, mapO_len h2]
    · cases e
theorem sp_read (a : At K mg env ah ι σ H) (r : Reps K mg ι H ds vs) (hl : ds.length = n) (hf : mapO (frz ah 8) ds = some ds') (p : Po K mg E (RvD K mg) ι H (kRes env ah (m ds' [])) Q) : spT K mg n m vs H Q (WE E σ) := by
  have S := a.1
  have lz : Lz ι H ⟨[], ι.h⟩ := ⟨fun b u n e => ⟨by simp, n.2⟩, fun b hb => ⟨by simp, fun z => (S.hd b z).2 hb⟩⟩
  have r' : Reps K mg ⟨[], ι.h⟩ H ds' vs := mapO_frz (fun d d' v rd e => frz_rep S lz 8 d d' v rd e) r hf
  have S0 : SimH K mg ⟨[], ι.h⟩ H [] := ⟨rfl, List.nodup_nil, fun i c b e _ => by simp at e, fun b hb => ⟨(S.hd b hb).1, by simp⟩⟩
  refine ⟨⟨[], ι.h⟩, [], ds', S0, r', by rw [mapO_len hf]; exact hl, ?_⟩
  have back : ∀ {ι' : Io} {H' : Hp}, Step ⟨[], ι.h⟩ H ι' H' → Step ι H ι H' ∧ SimH K mg ι H' ah ∧ (∀ b u, ι'.out b → H' b = some u → ι.out b ∨ ∃ w, H b = some w) := fun {ι' H'} s => by
    have fr : ∀ b u, H b = some u → H' b = some u := fun b u e => s.frame b u (by simp) e
    have st : Step ι H ι H' := ⟨⟨[], by simp, by simp⟩, ⟨[], by simp, by simp⟩, fun b u _ e => fr b u e, s.dom⟩
    refine ⟨st, S.same st fun b hb => ?_, fun b u n e => ?_⟩
    · cases q : H b with
      | none => exact absurd q (S.there hb)
      | some u => exact fr b u q
    · cases q : H b with
      | none => exact .inl (S.out q)
      | some w => exact .inr ⟨w, rfl⟩
  revert p
  generalize m ds' [] = res
  intro p
  cases res with
  | stk => exact p.elim
  | ok z =>
    obtain ⟨d, h⟩ := z
    unfold kRes at p
    obtain ⟨hd, p⟩ := p.okB
    intro ι' H' v s S' rv
    obtain ⟨st, Sb, _⟩ := back s
    exact p ι H' v st Sb (scal_rep hd rv)
  | exc x e h =>
    unfold kRes at p
    obtain ⟨hf2, p⟩ := p.okB
    intro ι' σ' H' cv dO s b xr
    obtain ⟨st, Sb, _⟩ := back s
    refine p ι σ H' cv dO st ⟨Sb, st.simE a.2⟩ ?_
    obtain ⟨C, e1, e2, xr⟩ := xr
    refine ⟨C, e1, e2, ?_⟩
    rcases xr with ⟨e3, e4⟩ | ⟨dd, gs, e3, e4, e5, e6⟩
    · exact .inl ⟨e3, e4⟩
    · refine .inr ⟨dd, gs, e3, ⟨fun z => ?_, fun z => ?_⟩, e5, scal_fs hf2 e6⟩
      · obtain ⟨i, hi⟩ := List.mem_iff_getElem?.mp z
        have lt : i < ah.length := by rw [← Sb.len]; exact (List.getElem?_eq_some_iff.mp hi).1
        have cr := Sb.cell i ah[i] dd (by simp [lt]) hi
        generalize ah[i] = c at cr
        cases c with
        | lst xs => obtain ⟨_, q, _⟩ := cr; rw [e5] at q; cases q
        | dic t kvs =>
          obtain ⟨ws, o, q, w, _⟩ := cr
          rw [e5] at q
          cases q
          cases t <;> (obtain ⟨_, _, w⟩ := w; cases w)
        | ins C fs => obtain ⟨_, _, _, _, q, _⟩ := cr; rw [e5] at q; cases q
      · obtain ⟨more, em, _⟩ := s.hid
        exact e4.2 (by rw [em]; exact List.mem_append_right _ z)
end
section
variable {X : Cx} {E : XW} {a : Expr} {as : List Expr} {Fl : FL} {k n : Nat} {x : Str} {m : Mf} {p pos : Pos} {tb : Str → Option Mf}
theorem fkcall (d : Df X k x n m) (hr : RG k X.A) (tk : ∀ σ, PassesAt (L2.CX X.prog X.w) X σ (WE E σ)) (ha : FA X E (a :: as) Fl) (hg : Gl X x := by rfl) (hp : Pl X a as pos := by exact ⟨rfl, rfl⟩) (hdb : (x == ("__debug__" : Str)) = false := by decide)
    : FE X E (.Call (.Name x p) (a :: as) [] pos) (kCall m (lenB n Fl)) := by
  obtain ⟨f, fd, ps, F, hm, hk, hb⟩ := d.to
  refine PE.mono (pe_callG F hr hg hm hk hb .nil tk ha hdb hp.he hp.hpl) fun σ H Q h => ?_
  obtain ⟨ι, env, ah, a, p⟩ := h
  unfold kCall lenB at p
  rw [len_bind] at p
  refine ⟨ι, env, ah, a, Po.first p fun ds ah1 ι1 H1 vs e s S rs q => ?_⟩
  obtain ⟨hl, q⟩ := q.okB
  obtain ⟨ds', h2, q⟩ := q.okO
  exact sp_read (a.step s S) (by rw [List.append_nil]; exact rs) (Nat.eq_of_beq_eq_true hl) h2 q
end
end Fx

/-! ===== Fx21 -/
set_option Elab.async false
set_option linter.all false
set_option maxRecDepth 100000
set_option maxHeartbeats 4000000
namespace Fx
open PySem PySem.Spec PyProof.Rows L2
/-! ### a call over no cells, whose new cells come behind those that stand -/
mutual
def D.sh (k : Nat) : D → D
  | .tup xs => .tup (D.shs k xs)
  | .lst xs => .lst (D.shs k xs)
  | .dic t kvs => .dic t (D.shk k kvs)
  | .ref n => .ref (k + n)
  | d => d
def D.shs (k : Nat) : List D → List D
  | [] => []
  | d :: r => D.sh k d :: D.shs k r
def D.shk (k : Nat) : List (DKey × D) → List (DKey × D)
  | [] => []
  | (x, d) :: r => (x, D.sh k d) :: D.shk k r
end
def shF (k : Nat) : List (Str × D) → List (Str × D)
  | [] => []
  | (x, d) :: r => (x, D.sh k d) :: shF k r
def Cell.sh (k : Nat) : Cell → Cell
  | .lst xs => .lst (D.shs k xs)
  | .dic t kvs => .dic t (D.shk k kvs)
  | .ins C fs => .ins C (shF k fs)
def frR (env : Env) (ah : AH) (r : R (D × AH)) : R (D × AH) := match r with
  | .ok (d, h) => .ok (D.sh ah.length d, ah ++ h.map (Cell.sh ah.length))
  | .exc x _ h => okO (mapO (fun p : Str × D => (frzT h p.2).map fun d => (p.1, d)) x.fs) fun fs => .exc ⟨x.cls, fs⟩ env ah
  | .stk => .stk
def fCall (m : Mf) (l : FL) : FV := fun env ah => (l env ah).bind fun z => okB (D.nrs z.1) (frR env z.2 (m z.1 []))
section
variable {K : PySem.W.Frag} {mg : Str → Option Value} {E : XW} {ι ι' : Io} {H H' : Hp} {ah : AH} {d : D} {v : V} {env : Env} {σ : L2.St} {n : Nat} {m : Mf} {ds ds' : List D} {vs : List V} {Q : VK}
/-- the same heap, the cells k places further on -/
structure Ls (k : Nat) (ι : Io) (H : Hp) (ι' : Io) : Prop where
  out : ∀ a u, ι.out a → H a = some u → ι'.out a
  cel : ∀ n a, ι.c[n]? = some a → ι'.c[k + n]? = some a
theorem Ls.rd {k : Nat} (s : Ls k ι H ι') {a : Addr} {u : HO} (n : ι.out a) (r : Rd H a u) : ι'.out a := by
  rcases r with r | ⟨o, r⟩
  · exact s.out a _ n r
  · exact s.out a _ n r
mutual
theorem Ls.rep {k : Nat} (s : Ls k ι H ι') : ∀ (d : D) {v : V}, Rep K mg ι H d v → Rep K mg ι' H (D.sh k d) v
  | .non, _, h => h
  | .bl _, _, h => h
  | .int _, _, h => h
  | .str _, _, h => h
  | .tup ds, _, h => by
    unfold D.sh
    unfold Rep at h ⊢
    obtain ⟨a, vs, e, f, r⟩ := h
    refine ⟨a, vs, e, ?_, Ls.reps s ds r⟩
    rcases f with ⟨x, y⟩ | y
    · exact .inl ⟨s.rd x y, y⟩
    · exact .inr y
  | .lst ds, _, h => by
    unfold D.sh
    unfold Rep at h ⊢
    obtain ⟨a, vs, e, f, r⟩ := h
    refine ⟨a, vs, e, ?_, Ls.reps s ds r⟩
    rcases f with ⟨x, y⟩ | y
    · exact .inl ⟨s.rd x y, y⟩
    · exact .inr y
  | .dic t kvs, _, h => by
    unfold D.sh
    unfold Rep at h ⊢
    obtain ⟨a, ws, o, e, x, hd, r, q⟩ := h
    obtain ⟨q1, q2⟩ := Ls.repV s kvs q
    exact ⟨a, ws, o, e, s.rd x r, by rw [q2]; exact hd, r, q1⟩
  | .rng lo hi, _, h => by
    unfold D.sh
    unfold Rep at h ⊢
    obtain ⟨a, e, n, g⟩ := h
    exact ⟨a, e, s.out a _ n g, g⟩
  | .ref n, _, h => by
    unfold D.sh
    unfold Rep at h ⊢
    obtain ⟨a, e, g⟩ := h
    exact ⟨a, e, s.cel n a g⟩
  | .fn x, _, h => by
    unfold D.sh
    unfold Rep at h ⊢
    exact h
theorem Ls.reps {k : Nat} (s : Ls k ι H ι') : ∀ (ds : List D) {vs : List V}, Reps K mg ι H ds vs → Reps K mg ι' H (D.shs k ds) vs
  | [], _, h => by unfold D.shs; unfold Reps at h ⊢; exact h
  | d :: ds, _, h => by
    unfold D.shs
    unfold Reps at h ⊢
    obtain ⟨v, r, e, h1, h2⟩ := h
    exact ⟨v, r, e, Ls.rep s d h1, Ls.reps s ds h2⟩
theorem Ls.repV {k : Nat} (s : Ls k ι H ι') : ∀ (ds : List (DKey × D)) {vs : List V}, RepV K mg ι H ds vs → RepV K mg ι' H (D.shk k ds) vs ∧ (D.shk k ds).map (·.1) = ds.map (·.1)
  | [], _, h => by unfold D.shk; unfold RepV at h ⊢; exact ⟨h, rfl⟩
  | (x, d) :: ds, _, h => by
    unfold D.shk
    unfold RepV at h ⊢
    obtain ⟨v, r, e, h1, h2⟩ := h
    obtain ⟨q1, q2⟩ := Ls.repV s ds h2
    exact ⟨⟨v, r, e, Ls.rep s d h1, q1⟩, by rw [List.map_cons, List.map_cons, q2]⟩
end
theorem Ls.repF {k : Nat} (s : Ls k ι H ι') : ∀ (ds : List (Str × D)) {fs : List (Str × V)}, RepF K mg ι H ds fs → RepF K mg ι' H (shF k ds) fs
  | [], _, h => h
  | (_, d) :: ds, _, h => by
    obtain ⟨v, r, e, h1, h2⟩ := h
    exact ⟨v, r, e, s.rep d h1, s.repF ds h2⟩
theorem Ls.crep {k : Nat} (s : Ls k ι H ι') {a : Addr} {c : Cell} (h : CRep K mg ι H a c) : CRep K mg ι' H a (c.sh k) := by
  cases c with
  | lst xs => obtain ⟨vs, e1, e2⟩ := h; exact ⟨vs, e1, s.reps xs e2⟩
  | dic t kvs =>
    obtain ⟨ws, o, e1, e2, e3⟩ := h
    obtain ⟨q1, q2⟩ := s.repV kvs e3
    exact ⟨ws, o, e1, by rw [q2]; exact e2, q1⟩
  | ins C fs => obtain ⟨Ca, dx, gs, e1, e2, e3⟩ := h; exact ⟨Ca, dx, gs, e1, e2, s.repF fs e3⟩
theorem sp_fresh (a : At K mg env ah ι σ H) (r : Reps K mg ι H ds vs) (hl : ds.length = n) (hn : D.nrs ds = true) (p : Po K mg E (RvD K mg) ι H (frR env ah (m ds [])) Q) : spT K mg n m vs H Q (WE E σ) := by
  have S := a.1
  have hh : ∀ b ∈ ι.c ++ ι.h, H b ≠ none := fun b hb => by
    rcases List.mem_append.mp hb with z | z
    · exact S.there z
    · exact (S.hd b z).1
  have lw : Lw ι H ⟨[], ι.c ++ ι.h⟩ H := ⟨fun b u n e => ⟨⟨by simp, fun z => (List.mem_append.mp z).elim n.1 n.2⟩, e⟩⟩
  have S0 : SimH K mg ⟨[], ι.c ++ ι.h⟩ H [] := ⟨rfl, List.nodup_nil, fun i c b e _ => by simp at e, fun b hb => ⟨hh b hb, by simp⟩⟩
  refine ⟨⟨[], ι.c ++ ι.h⟩, [], ds, S0, lw.reps ds hn r, hl, ?_⟩
  have fr : ∀ {ι' : Io} {H' : Hp}, Step ⟨[], ι.c ++ ι.h⟩ H ι' H' → ∀ b u, H b = some u → H' b = some u := fun {ι' H'} s b u e => s.frame b u (by simp) e
  have back : ∀ {ι' : Io} {H' : Hp}, Step ⟨[], ι.c ++ ι.h⟩ H ι' H' → Step ι H ι H' ∧ SimH K mg ι H' ah ∧ Lz ι' H' ι := fun {ι' H'} s => by
    have st : Step ι H ι H' := ⟨⟨[], by simp, by simp⟩, ⟨[], by simp, by simp⟩, fun b u _ e => fr s b u e, s.dom⟩
    refine ⟨st, S.same st fun b hb => ?_, fun b u n e => ?_, fun b hb => ?_⟩
    · cases q : H b with
      | none => exact absurd q (S.there hb)
      | some u => exact fr s b u q
    · obtain ⟨more, e1, _⟩ := s.hid
      have nn : b ∉ ι.c ++ ι.h := fun z => n.2 (by rw [e1]; exact List.mem_append_right _ z)
      exact ⟨fun z => nn (List.mem_append_left _ z), fun z => nn (List.mem_append_right _ z)⟩
    · obtain ⟨new, e1, f⟩ := s.pre
      rw [e1] at hb
      exact S.out (f b (by simpa using hb))
  revert p
  generalize m ds [] = res
  intro p
  cases res with
  | stk => exact p.elim
  | ok z =>
    obtain ⟨d, h⟩ := z
    intro ι' H' v s S' rv
    obtain ⟨st, Sb, _⟩ := back s
    obtain ⟨new, e1, f⟩ := s.pre
    obtain ⟨more, e2, _⟩ := s.hid
    rw [List.nil_append] at e1
    have ls : Ls ah.length ι' H' ⟨ι.c ++ new, ι.h⟩ := ⟨fun b u n e => ⟨fun z => by
      rcases List.mem_append.mp z with z | z
      · exact n.2 (by rw [e2]; exact List.mem_append_right _ (List.mem_append_left _ z))
      · exact n.1 (by rw [e1]; exact z), fun z => n.2 (by rw [e2]; exact List.mem_append_right _ (List.mem_append_right _ z))⟩, fun n b g => by
      rw [e1] at g
      show (ι.c ++ new)[ah.length + n]? = some b
      rw [← S.len, List.getElem?_append_right (by omega)]
      rw [Nat.add_sub_cancel_left]
      exact g⟩
    have st2 : Step ι H ⟨ι.c ++ new, ι.h⟩ H' := ⟨⟨new, rfl, fun b hb => f b hb⟩, ⟨[], rfl, by simp⟩, fun b u _ e => fr s b u e, s.dom⟩
    refine p ⟨ι.c ++ new, ι.h⟩ H' v st2 ⟨?_, ?_, fun i c b g1 g2 => ?_, fun b hb => ⟨(Sb.hd b hb).1, fun z => ?_⟩⟩ (ls.rep d rv)
    · show (ι.c ++ new).length = _
      have := S'.len
      rw [e1] at this
      rw [List.length_append, List.length_append, List.length_map, S.len, this]
    · have nd := S'.nd
      rw [e1] at nd
      show (ι.c ++ new).Nodup
      rw [List.nodup_append]
      exact ⟨S.nd, nd, fun x hx y hy e => S.there hx (by rw [e]; exact f y hy)⟩
    · have g2 : (ι.c ++ new)[i]? = some b := g2
      by_cases lt : i < ah.length
      · rw [List.getElem?_append_left lt] at g1
        rw [List.getElem?_append_left (by rw [S.len]; exact lt)] at g2
        exact st2.lv.crep (by
          cases q : H b with
          | none => exact absurd q (S.there (List.mem_of_getElem? g2))
          | some u => exact fr s b u q) (S.cell i c b g1 g2)
      · rw [List.getElem?_append_right (by omega)] at g1
        rw [List.getElem?_append_right (by rw [S.len]; omega)] at g2
        rw [List.getElem?_map] at g1
        obtain ⟨c0, h1, h2⟩ := Option.map_eq_some_iff.mp g1
        subst h2
        rw [S.len] at g2
        exact ls.crep (S'.cell _ c0 b h1 (by rw [e1]; exact g2))
    · rcases List.mem_append.mp z with z | z
      · exact (S.hd b hb).2 z
      · exact (S.hd b hb).1 (f b z)
  | exc x e h =>
    unfold frR at p
    obtain ⟨fs, hf, p⟩ := p.okO
    intro ι' σ' H' cv dO s b xr
    obtain ⟨st, Sb, lz⟩ := back s
    refine p ι σ H' cv dO st ⟨Sb, st.simE a.2⟩ ?_
    obtain ⟨C, e1, e2, xr⟩ := xr
    refine ⟨C, e1, e2, ?_⟩
    rcases xr with ⟨e3, e4⟩ | ⟨dd, gs, e3, e4, e5, e6⟩
    · left
      rw [e3] at hf
      cases hf
      exact ⟨rfl, e4⟩
    · exact .inr ⟨dd, gs, e3, lz.out dd _ e4 e5, e5, frz_fs b.1 lz e6 hf⟩
end
section
variable {X : Cx} {E : XW} {a : Expr} {as : List Expr} {Fl : FL} {k n : Nat} {x : Str} {m : Mf} {p pos : Pos} {tb : Str → Option Mf}
theorem ffcall (d : Df X k x n m) (hr : RG k X.A) (tk : ∀ σ, PassesAt (L2.CX X.prog X.w) X σ (WE E σ)) (ha : FA X E (a :: as) Fl) (hg : Gl X x := by rfl) (hp : Pl X a as pos := by exact ⟨rfl, rfl⟩) (hdb : (x == ("__debug__" : Str)) = false := by decide)
    : FE X E (.Call (.Name x p) (a :: as) [] pos) (fCall m (lenB n Fl)) := by
  obtain ⟨f, fd, ps, F, hm, hk, hb⟩ := d.to
  refine PE.mono (pe_callG F hr hg hm hk hb .nil tk ha hdb hp.he hp.hpl) fun σ H Q h => ?_
  obtain ⟨ι, env, ah, a, p⟩ := h
  unfold fCall lenB at p
  rw [len_bind] at p
  refine ⟨ι, env, ah, a, Po.first p fun ds ah1 ι1 H1 vs e s S rs q => ?_⟩
  obtain ⟨hl, q⟩ := q.okB
  obtain ⟨hn, q⟩ := q.okB
  exact sp_fresh (a.step s S) (by rw [List.append_nil]; exact rs) (Nat.eq_of_beq_eq_true hl) hn q
end
end Fx

/-! ===== Fx22 -/
set_option Elab.async false
set_option linter.all false
set_option maxRecDepth 100000
set_option maxHeartbeats 4000000
namespace Fx
open PySem PySem.Spec PyProof.Rows L2
/-! ### instances: fields -/
def fPut (f : Str) (d : D) : List (Str × D) → List (Str × D)
  | [] => [(f, d)]
  | (g, x) :: r => if g = f then (g, d) :: r else (g, x) :: fPut f d r
def fGet (f : Str) : List (Str × D) → Option D
  | [] => none
  | (g, x) :: r => if g = f then some x else fGet f r
/-- a class whose instances have the field f -/
structure FdK (K : PySem.W.Frag) (mg : Str → Option Value) (C f : Str) : Prop where
  to : ∃ Ca, mg C = some (.ref Ca) ∧ Cls K Ca ∧ NoAttr K Ca f
section
variable {K : PySem.W.Frag} {mg : Str → Option Value} {E : XW} {ι ι' : Io} {H H' : Hp} {ah : AH} {d : D} {v : V}
theorem repF_get {f : Str} : ∀ {fs : List (Str × D)} {gs : List (Str × V)}, RepF K mg ι H fs gs → fGet f fs = some d → ∃ v, gs.lookup f = some v ∧ Rep K mg ι H d v
  | [], _, _, e => by cases e
  | (x, c) :: fs, _, r, e => by
    obtain ⟨v, s, rfl, p, q⟩ := r
    unfold fGet at e
    by_cases h : x = f
    · rw [if_pos h] at e
      cases e
      subst h
      exact ⟨v, by simp [List.lookup], p⟩
    · rw [if_neg h] at e
      obtain ⟨w, g1, g2⟩ := repF_get q e
      have hb : (f == x) = false := by simpa using fun z => h z.symm
      exact ⟨w, by simp [List.lookup, hb, g1], g2⟩
theorem repF_none {f : Str} : ∀ {fs : List (Str × D)} {gs : List (Str × V)}, RepF K mg ι H fs gs → fGet f fs = none → gs.lookup f = none
  | [], _, r, _ => by rw [show _ = [] from r]; rfl
  | (x, c) :: fs, _, r, e => by
    obtain ⟨v, s, rfl, p, q⟩ := r
    unfold fGet at e
    by_cases h : x = f
    · rw [if_pos h] at e; cases e
    · rw [if_neg h] at e
      have hb : (f == x) = false := by simpa using fun z => h z.symm
      simp [List.lookup, hb, repF_none q e]
theorem repF_put {f : Str} (rv : Rep K mg ι H d v) : ∀ {fs : List (Str × D)} {gs : List (Str × V)}, RepF K mg ι H fs gs → RepF K mg ι H (fPut f d fs) (putF f v gs)
  | [], _, r => by
    rw [show _ = [] from r]
    exact ⟨v, [], rfl, rv, rfl⟩
  | (x, c) :: fs, _, r => by
    obtain ⟨w, s, rfl, p, q⟩ := r
    unfold fPut putF
    by_cases h : x = f
    · rw [if_pos h, if_pos h]
      exact ⟨v, s, rfl, rv, q⟩
    · rw [if_neg h, if_neg h]
      exact ⟨w, _, rfl, p, repF_put rv q⟩
theorem repF_len : ∀ {fs : List (Str × D)} {gs : List (Str × V)}, RepF K mg ι H fs gs → gs.length = fs.length
  | [], _, r => by rw [show _ = [] from r]; rfl
  | (x, c) :: fs, _, r => by
    obtain ⟨w, s, rfl, p, q⟩ := r
    rw [List.length_cons, List.length_cons, repF_len q]
theorem SimH.ins (S : SimH K mg ι H ah) {n : Nat} {a : Addr} {C : Str} {fs : List (Str × D)} (e : ah[n]? = some (.ins C fs)) (g : ι.c[n]? = some a) : ∃ Ca dx gs, mg C = some (.ref Ca) ∧ H a = some (.ins Ca dx gs) ∧ RepF K mg ι H fs gs := S.cell n _ a e g
end
/-- o.f -/
def insO (ah : AH) (d : D) : Option (Nat × Str × List (Str × D)) := match d with
  | .ref n => match ah[n]? with
    | some (.ins C fs) => some (n, C, fs)
    | _ => none
  | _ => none
def eFld (cf : Str → Str → Bool) (f : Str) (a : FV) : FV := fun env ah => (a env ah).bind fun z => okO (insO z.2 z.1) fun o => okB (cf o.2.1 f) (okO (fGet f o.2.2) fun d => .ok (d, z.2))
/-- o.f = e: first e, then o -/
def sFld (cf : Str → Str → Bool) (f : Str) (o e : FV) : FO := fun env ah => (e env ah).bind fun y => (o env y.2).bind fun x => okO (insO x.2 x.1) fun p => okB (cf p.2.1 f && Nat.blt p.2.2.length 900) (.ok (.nx, env, x.2.set p.1 (.ins p.2.1 (fPut f y.1 p.2.2))))
/-- o.f += e -/
def sFldA (cf : Str → Str → Bool) (f : Str) (g : Int → Int → Int) (o e : FV) : FO := fun env ah => (o env ah).bind fun x => okO (insO x.2 x.1) fun p => okB (cf p.2.1 f) (okO ((fGet f p.2.2).bind asI) fun i => (e env x.2).bind fun y => okO (asI y.1) fun j =>
  okO (insO y.2 x.1) fun q => okB (Nat.blt q.2.2.length 900 && decide (q.2.1 = p.2.1)) (.ok (.nx, env, y.2.set q.1 (.ins q.2.1 (fPut f (.int (g i j)) q.2.2)))))
theorem insO_eq {ah : AH} {d : D} {o : Nat × Str × List (Str × D)} (h : insO ah d = some o) : d = .ref o.1 ∧ ah[o.1]? = some (.ins o.2.1 o.2.2) := by
  unfold insO at h
  split at h
  · split at h
    · rename_i e
      cases h
      exact ⟨rfl, e⟩
    · cases h
  · cases h
section
variable {X : Cx} {E : XW} {o e a : Expr} {Fo Fe Fa : FV} {f : Str} {pos pos' tpos : Pos} {cf : Str → Str → Bool}
theorem ffld (hf : ∀ C f, cf C f = true → FdK X.K X.mg C f) (ha : FE X E a Fa) (hb : attributeBase a f X.env (eval a X.env) = eval a X.env := by rfl) : FE X E (.Attribute a f pos) (eFld cf f Fa) := PE.mono (pe_fld ha hb) fun σ H Q h => by
  obtain ⟨ι, env, ah, a, p⟩ := h
  refine ⟨ι, env, ah, a, Po.first p fun d ah1 ι1 H1 v _ s S rv q => ?_⟩
  obtain ⟨o, ho, q⟩ := q.okO
  obtain ⟨hc, q⟩ := q.okB
  obtain ⟨c, hg, q⟩ := q.okO
  obtain ⟨e1, e2⟩ := insO_eq ho
  have rv : Rep X.K X.mg ι1 H1 d v := rv
  have e1 : d = .ref o.1 := e1
  rw [e1] at rv
  obtain ⟨b, eb, g⟩ := rep_ref rv
  obtain ⟨Ca, dx, gs, m1, hH, rf⟩ := S.ins e2 g
  obtain ⟨Ca', m2, cl, na⟩ := (hf _ _ hc).to
  rw [m1] at m2
  cases m2
  obtain ⟨w, hw, rw'⟩ := repF_get rf hg
  exact ⟨b, Ca, dx, gs, w, eb, hH, cl, na, hw, Po.here q S rw'⟩
theorem sfld (hf : ∀ C f, cf C f = true → FdK X.K X.mg C f) (ho : FE X E o Fo) (he : FE X E e Fe) (hs : swapsWith e (some (.Attribute o f pos')) pos.line X.env = pure false := by rfl) : FS X E (.Assign [.Attribute o f pos'] e pos) (sFld cf f Fo Fe) := PS.mono (ps_fld ho he hs) fun Dn σ H h => by
  obtain ⟨ι, env, ah, a, p⟩ := h
  refine ⟨ι, env, ah, a, Po.firstS p fun d ah1 ι1 H1 v _ s S rv q => ?_⟩
  refine ⟨ι1, env, ah1, a.step s S, Po.firstS q fun c ah2 ι2 H2 u _ t T ru q => ?_⟩
  obtain ⟨o, ho, q⟩ := q.okO
  obtain ⟨hc, q⟩ := q.okB
  rw [Bool.and_eq_true] at hc
  obtain ⟨e1, e2⟩ := insO_eq ho
  have ru : Rep X.K X.mg ι2 H2 c u := ru
  have e1 : c = .ref o.1 := e1
  rw [e1] at ru
  obtain ⟨b, eb, g⟩ := rep_ref ru
  obtain ⟨Ca, dx, gs, m1, hH, rf⟩ := T.ins e2 g
  obtain ⟨Ca', m2, cl, na⟩ := (hf _ _ hc.1).to
  rw [m1] at m2
  cases m2
  have l1 := repF_len rf
  have l2 := Nat.le_of_ble_eq_true hc.2
  refine ⟨b, Ca, dx, gs, eb, hH, cl, na, by omega, ?_⟩
  have lv : Lv ι2 H2 ι2 (upd H2 b (.ins Ca dx (putF f v gs))) := (Step.put (List.mem_of_getElem? g) (by rw [hH]; simp)).lv
  obtain ⟨st, T'⟩ := T.cellPut (o := .ins Ca dx (putF f v gs)) (c := .ins o.2.1 (fPut f d o.2.2)) g ⟨Ca, dx, _, m1, upd_same, lv.repF _ (repF_put (t.rep d rv) rf)⟩
  exact q ι2 σ _ st (((a.step s S).step t T).step st T')
theorem sflda {op : Operator} {g : Int → Int → Int} {rd : V → V → Hp → VK → Prop} (hop : InOp X op rd) (hrd : ∀ i j H Q, Q (.int (g i j)) H → rd (.int i) (.int j) H Q) (hf : ∀ C f, cf C f = true → FdK X.K X.mg C f) (ho : FE X E o Fo) (he : FE X E e Fe) : FS X E (.AugAssign (.Attribute o f tpos) op e pos) (sFldA cf f g Fo Fe) := PS.mono (ps_fldaug ho he hop) fun Dn σ H h => by
  obtain ⟨ι, env, ah, a, p⟩ := h
  refine ⟨ι, env, ah, a, Po.firstS p fun d ah1 ι1 H1 v _ s S rv q => ?_⟩
  obtain ⟨o, ho, q⟩ := q.okO
  obtain ⟨hc, q⟩ := q.okB
  obtain ⟨i, hi, q⟩ := q.okO
  obtain ⟨e1, e2⟩ := insO_eq ho
  have rv : Rep X.K X.mg ι1 H1 d v := rv
  have e1 : d = .ref o.1 := e1
  rw [e1] at rv
  obtain ⟨b, eb, gb⟩ := rep_ref rv
  obtain ⟨Ca, dx, gs, m1, hH, rf⟩ := S.ins e2 gb
  obtain ⟨Ca', m2, cl, na⟩ := (hf _ _ hc).to
  rw [m1] at m2
  cases m2
  obtain ⟨di, hdi, hi⟩ := Option.bind_eq_some_iff.mp hi
  obtain ⟨w, hw, rw'⟩ := repF_get rf hdi
  rw [asI_eq hi] at rw'
  refine ⟨b, Ca, dx, gs, w, eb, hH, cl, na, hw, ι1, env, ah1, a.step s S, Po.firstS q fun c ah2 ι2 H2 u _ t T ru q => ?_⟩
  obtain ⟨j, hj, q⟩ := q.okO
  obtain ⟨o2, ho2, q⟩ := q.okO
  obtain ⟨hl, q⟩ := q.okB
  have ru : Rep X.K X.mg ι2 H2 c u := ru
  rw [asI_eq (show asI c = some j from hj)] at ru
  rw [rep_int rw', rep_int ru]
  refine hrd i j H2 _ ?_
  rw [Bool.and_eq_true, decide_eq_true_eq] at hl
  obtain ⟨e3, e4⟩ := insO_eq ho2
  have e3 : d = .ref o2.1 := e3
  have g2 := t.get gb
  have en : o2.1 = o.1 := by
    rw [e1] at e3
    injection e3 with e3
    exact e3.symm
  rw [en] at e4
  obtain ⟨Ca2, dx2, gs2, m3, hH2, rf2⟩ := T.ins e4 g2
  rw [hl.2, m1] at m3
  cases m3
  have l1 := repF_len rf2
  have l2 := Nat.le_of_ble_eq_true hl.1
  rw [en] at q
  have lv : Lv ι2 H2 ι2 (upd H2 b (.ins Ca dx2 (putF f (.int (g i j)) gs2))) := (Step.put (List.mem_of_getElem? g2) (by rw [hH2]; simp)).lv
  obtain ⟨st, T'⟩ := T.cellPut (o := .ins Ca dx2 (putF f (.int (g i j)) gs2)) (c := .ins o2.2.1 (fPut f (.int (g i j)) o2.2.2)) g2 ⟨Ca, dx2, _, by rw [hl.2]; exact m1, upd_same, lv.repF _ (repF_put of_int rf2)⟩
  exact ⟨dx2, gs2, hH2, by omega, q ι2 σ _ st (((a.step s S).step t T).step st T')⟩
end
/-! ### methods -/
/-- a method of a class: n parameters besides self -/
structure Dm (P : Program) (w : World) (K : PySem.W.Frag) (mg : Str → Option Value) (base : Heap) (k : Nat) (C nm : Str) (n : Nat) (m : Mf) : Prop where
  to : ∃ Ca f fd ps, mg C = some (.ref Ca) ∧ Cls K Ca ∧ Meth K Ca nm f ∧ FnG P w K mg base (L2.CX P w) k f fd ps (spT K mg (n + 1) m) ∧ Binds K fd ps []
theorem Dm.mono {P : Program} {w : World} {K : PySem.W.Frag} {mg : Str → Option Value} {base : Heap} {j k : Nat} {C nm : Str} {n : Nat} {m : Mf} (d : Dm P w K mg base j C nm n m) (h : j ≤ k) : Dm P w K mg base k C nm n m := by
  obtain ⟨Ca, f, fd, ps, h1, h2, h3, F, b⟩ := d.to
  exact ⟨Ca, f, fd, ps, h1, h2, h3, F.mono h, b⟩
/-- a class that can be made, by its __init__ -/
structure Di (P : Program) (w : World) (K : PySem.W.Frag) (mg : Str → Option Value) (base : Heap) (k : Nat) (C : Str) (n : Nat) (m : Mf) : Prop where
  to : ∃ Ca f fd ps, mg C = some (.ref Ca) ∧ Mk K Ca f ∧ FnG P w K mg base (L2.CX P w) k f fd ps (spT K mg (n + 1) m) ∧ Binds K fd ps []
theorem Di.mono {P : Program} {w : World} {K : PySem.W.Frag} {mg : Str → Option Value} {base : Heap} {j k : Nat} {C : Str} {n : Nat} {m : Mf} (d : Di P w K mg base j C n m) (h : j ≤ k) : Di P w K mg base k C n m := by
  obtain ⟨Ca, f, fd, ps, h1, h2, F, b⟩ := d.to
  exact ⟨Ca, f, fd, ps, h1, h2, F.mono h, b⟩
abbrev MtT := Str → Option Mf
def eMeth (nm : Str) (n : Nat) (mt : MtT) (a : FV) (l : FL) : FV := fun env ah => (a env ah).bind fun z => okO (insO z.2 z.1) fun o => okO (mt o.2.1) fun m => okB (fGet nm o.2.2).isNone ((l env z.2).bind fun y => okB (Nat.beq y.1.length n) (reEnv env (m (z.1 :: y.1) y.2)))
def eMake (C : Str) (n : Nat) (m : Mf) (l : FL) : FV := fun env ah => (l env ah).bind fun y => okB (Nat.beq y.1.length n) ((reEnv env (m (.ref y.2.length :: y.1) (y.2 ++ [.ins C []]))).bind fun r => match r.1 with
  | .non => .ok (.ref y.2.length, r.2)
  | _ => .stk)
/-- o.m(..) of an instance whose class is met -/
def tMethG (m : Str) (cl : Addr → Addr → Sp → Prop) (E : L2.St → XK) (ta : TE) (t : TA) : TE := fun σ H Q => ta σ H fun x H1 => ∃ a C dx fs f sp, x = .ref a ∧ H1 a = some (.ins C dx fs) ∧ cl C f sp ∧ fs.lookup m = none ∧ t σ H1 fun vs H2 => sp (x :: vs) H2 Q (E σ)
section
variable {X : Cx} {CX : CXT} {k : Nat} {E : L2.St → XK} {m : Str} {p pos apos : Pos} {e o : Expr} {es : List Expr} {ta : TE} {t : TA} {cl : Addr → Addr → Sp → Prop}
theorem pe_methG {pl : Sem Bool} (he : PE X o ta) (hc : ∀ C f sp, cl C f sp → Cls X.K C ∧ Meth X.K C m f ∧ ∃ fd ps, FnG X.prog X.w X.K X.mg X.base CX k f fd ps sp ∧ Binds X.K fd ps []) (hr : RG k X.A) (hx : ∀ σ, PassesAt CX X σ (E σ)) (ha : PA X (e :: es) t)
    (hst : starEach (e :: es) X.env = (false, eval e X.env) :: starEach es X.env := by rfl) (hpl : (backTo pos (starEach es X.env)).any (·.1) = false := by rfl)
    (ht : eval (.Call (.Attribute o m apos) (e :: es) [] pos) X.env = (do
      let ov ← eval o X.env
      standAt apos.atName
      let (f, first) ← holding [ov] (getMethod ov m pl)
      callWith pos f first (backTo pos (starEach (e :: es) X.env)) (backToKw pos (keywordEach [] X.env))) := by rfl) :
    PE X (.Call (.Attribute o m apos) (e :: es) [] pos) (tMethG m cl E ta t) := by
  refine ⟨fun pins s σ H Q I h => ?_⟩
  refine PySem.W.methodCall_KW (pl := pl) (thn (he.run pins s σ H _ I h) fun u s1 ⟨x, H1, I1, rx, a, C, dx, fs, f, sp, ex, ea, hcl, l, q⟩ => ?_) ht
  subst ex
  obtain rfl : u = Value.ref a := rx
  obtain ⟨c, hm, fd, ps, F, hb⟩ := hc C f sp hcl
  refine getmeth_ok I1 ea c hm l ?_
  refine PySem.W.callWith_K (first := [.ref a]) (h₀ := X.base) I.ok.mod.kin hm.kp (thn (ha.run pos pins s1 σ H1 _ I1 q) fun us s2 ⟨vs, H2, I2, r, q2⟩ => ⟨I2.kIn, ?_⟩) hst hpl
  exact runG (us := .ref a :: us) (vs := .ref a :: vs) F hr hb .nil (hx σ) I2 (.cons rfl r) (by rw [List.append_nil]; exact q2)
theorem pe_methG0 {pl : Sem Bool} (he : PE X o ta) (hc : ∀ C f sp, cl C f sp → Cls X.K C ∧ Meth X.K C m f ∧ ∃ fd ps, FnG X.prog X.w X.K X.mg X.base CX k f fd ps sp ∧ Binds X.K fd ps []) (hr : RG k X.A) (hx : ∀ σ, PassesAt CX X σ (E σ))
    (ht : eval (.Call (.Attribute o m apos) [] [] pos) X.env = (do
      let ov ← eval o X.env
      standAt apos.atName
      let (f, first) ← holding [ov] (getMethod ov m pl)
      callWith pos f first (backTo pos (starEach [] X.env)) (backToKw pos (keywordEach [] X.env))) := by rfl) :
    PE X (.Call (.Attribute o m apos) [] [] pos) (tMethG m cl E ta tNil) := by
  refine ⟨fun pins s σ H Q I h => ?_⟩
  refine PySem.W.methodCall_KW (pl := pl) (thn (he.run pins s σ H _ I h) fun u s1 ⟨x, H1, I1, rx, a, C, dx, fs, f, sp, ex, ea, hcl, l, q⟩ => ?_) ht
  subst ex
  obtain rfl : u = Value.ref a := rx
  obtain ⟨c, hm, fd, ps, F, hb⟩ := hc C f sp hcl
  refine getmeth_ok I1 ea c hm l ?_
  exact PySem.W.callWith_K0 (first := [.ref a]) I1.kIn hm.kp (runG (us := [.ref a]) (vs := [.ref a]) F hr hb .nil (hx σ) I1 (.cons rfl .nil) (show sp ([.ref a] ++ []) H1 Q (E σ) from q))
end
section
variable {X : Cx} {E : XW} {o e : Expr} {es : List Expr} {Fo : FV} {Fl : FL} {nm : Str} {k n : Nat} {mt : MtT} {p pos apos : Pos}
abbrev clF (X : Cx) (k n : Nat) (nm : Str) (mt : MtT) : Addr → Addr → Sp → Prop := fun Ca f sp => ∃ C m fd ps, X.mg C = some (.ref Ca) ∧ mt C = some m ∧ sp = spT X.K X.mg (n + 1) m ∧ Cls X.K Ca ∧ Meth X.K Ca nm f ∧ FnG X.prog X.w X.K X.mg X.base (L2.CX X.prog X.w) k f fd ps sp ∧ Binds X.K fd ps []
theorem tf_meth {t : TA} (ht : ∀ σ H Q, TFl X.K X.mg E Fl σ H Q → t σ H Q) (hd : ∀ C m, mt C = some m → Dm X.prog X.w X.K X.mg X.base k C nm n m) {σ : L2.St} {H : Hp} {Q : VK} (h : TF X.K X.mg E (eMeth nm n mt Fo Fl) σ H Q) : tMethG nm (clF X k n nm mt) (WE E) (TF X.K X.mg E Fo) t σ H Q := by
  obtain ⟨ι, env, ah, a, p⟩ := h
  refine ⟨ι, env, ah, a, Po.first p fun d ah1 ι1 H1 v _ s S rv q => ?_⟩
  obtain ⟨o, ho, q⟩ := q.okO
  obtain ⟨m, hm, q⟩ := q.okO
  obtain ⟨hn, q⟩ := q.okB
  obtain ⟨e1, e2⟩ := insO_eq ho
  have rv : Rep X.K X.mg ι1 H1 d v := rv
  have e1 : d = .ref o.1 := e1
  rw [e1] at rv
  obtain ⟨b, eb, g⟩ := rep_ref rv
  obtain ⟨Ca, dx, gs, m1, hH, rf⟩ := S.ins e2 g
  obtain ⟨Ca', f, fd, ps, m2, cl, me, F, hb⟩ := (hd _ m hm).to
  rw [m1] at m2
  cases m2
  refine ⟨b, Ca, dx, gs, f, _, eb, hH, ⟨o.2.1, m, fd, ps, m1, hm, rfl, cl, me, F, hb⟩, repF_none rf (Option.isNone_iff_eq_none.mp hn), ht _ _ _ ⟨ι1, env, ah1, a.step s S, Po.first q fun ds ah2 ι2 H2 vs _ t T rs q2 => ?_⟩⟩
  obtain ⟨hl, q2⟩ := q2.okB
  have hl := Nat.eq_of_beq_eq_true hl
  have q2 : Po X.K X.mg E (RvD X.K X.mg) ι2 H2 (reEnv env (m (.ref o.1 :: ds) ah2)) Q := by
    have e : d = .ref o.1 := e1
    rw [← e]; exact q2
  refine sp_call ((a.step s S).step t T) (of_cons ?_ rs) (by rw [List.length_cons, hl]) q2
  rw [eb]
  unfold Rep
  exact ⟨b, rfl, t.get g⟩
theorem fmeth (hd : ∀ C m, mt C = some m → Dm X.prog X.w X.K X.mg X.base k C nm n m) (hr : RG k X.A) (tk : ∀ σ, PassesAt (L2.CX X.prog X.w) X σ (WE E σ)) (ho : FE X E o Fo) (ha : FA X E (e :: es) Fl) {pl : Sem Bool}
    (hst : starEach (e :: es) X.env = (false, eval e X.env) :: starEach es X.env := by rfl) (hpl : (backTo pos (starEach es X.env)).any (·.1) = false := by rfl)
    (ht : eval (.Call (.Attribute o nm apos) (e :: es) [] pos) X.env = (do
      let ov ← eval o X.env
      standAt apos.atName
      let (f, first) ← holding [ov] (getMethod ov nm pl)
      callWith pos f first (backTo pos (starEach (e :: es) X.env)) (backToKw pos (keywordEach [] X.env))) := by rfl) : FE X E (.Call (.Attribute o nm apos) (e :: es) [] pos) (eMeth nm n mt Fo Fl) :=
  PE.mono (pe_methG (cl := clF X k n nm mt) ho (fun C f sp ⟨_, _, fd, ps, _, _, _, c, me, F, b⟩ => ⟨c, me, fd, ps, F, b⟩) hr tk ha hst hpl ht) fun σ H Q h => tf_meth (fun _ _ _ h => h) hd h
theorem fmeth0 (hd : ∀ C m, mt C = some m → Dm X.prog X.w X.K X.mg X.base k C nm 0 m) (hr : RG k X.A) (tk : ∀ σ, PassesAt (L2.CX X.prog X.w) X σ (WE E σ)) (ho : FE X E o Fo) {pl : Sem Bool}
    (ht : eval (.Call (.Attribute o nm apos) [] [] pos) X.env = (do
      let ov ← eval o X.env
      standAt apos.atName
      let (f, first) ← holding [ov] (getMethod ov nm pl)
      callWith pos f first (backTo pos (starEach [] X.env)) (backToKw pos (keywordEach [] X.env))) := by rfl) : FE X E (.Call (.Attribute o nm apos) [] [] pos) (eMeth nm 0 mt Fo lNil) :=
  PE.mono (pe_methG0 (cl := clF X k 0 nm mt) ho (fun C f sp ⟨_, _, fd, ps, _, _, _, c, me, F, b⟩ => ⟨c, me, fd, ps, F, b⟩) hr tk ht) fun σ H Q h => tf_meth (Fl := lNil) (t := tNil) (fun σ H Q h => by
    obtain ⟨ι, env, ah, a, p⟩ := h
    exact Po.here p a.1 of_nil) hd h
end
/-! ### making -/
section
variable {X : Cx} {CX : CXT} {k : Nat} {f C : Addr} {fd : FuncData} {ps : List Str} {sp : Sp} {E : L2.St → XK} {x : Str} {p pos : Pos} {e : Expr} {es : List Expr} {t : TA}
theorem run_makeG {pins : List (Addr × Obj)} {σ : L2.St} {H : Hp} {s : Shared} {Q : VK} {us : List Value} {vs : List V} (M : Mk X.K C f) (F : FnG X.prog X.w X.K X.mg X.base CX k f fd ps sp) (hr : RG (k + 1) X.A) (hb : Binds X.K fd ps [])
    (hx : PassesAt CX X σ (E σ)) (I : Inv X pins σ H s) (r : Vals vs us)
    (h : ∀ x dx, H x = none → H dx = none → dx ≠ x → sp (.ref x :: vs) (upd (upd H dx (.own x)) x (.ins C dx [])) (fun v H2 => v = .non ∧ Q (.ref x) H2) (E σ)) :
    wpAny (model X.prog X.w) X.A (call (.ref C) us) (EP X pins σ Q) X.xe s := by
  have hq := h (s.heap.objs.size + 1) s.heap.objs.size (I.hok.fresh (Nat.le_succ _)) (I.hok.fresh (Nat.le_refl _)) (Nat.ne_of_lt (Nat.lt_succ_self _))
  have I2 := Inv.made (C := C) I
  have r2 : Vals (V.ref (s.heap.objs.size + 1) :: vs) (Value.ref (s.heap.objs.size + 1) :: us) := .cons rfl r
  have hl : (Value.ref (s.heap.objs.size + 1) :: us ++ []).length = ps.length := by
    rw [List.append_nil, ← r2.length]
    exact F.len _ _ _ _ hq
  have b0 := hb _ (Value.ref (s.heap.objs.size + 1) :: us) I2.kIn hl
  rw [List.append_nil] at b0
  refine wpAny_call (make_map (f := f) I.kIn M.makes M.init (beq_iff_eq.mp M.fn) (codeAny_mono (F.run _ X.stack _ _ ⟨Value.ref (s.heap.objs.size + 1) :: us, []⟩ (Value.ref (s.heap.objs.size + 1) :: us) _ _ (E σ) ⟨hr.r.make C us [], hr.g⟩
    (I2.env0.make C us []) b0 r2 hq) fun r s' hq' => ?_))
  cases r with
  | error e => exact hx pins _ _ e s' I2 hq'
  | ok fl =>
    cases fl with
    | ret u =>
      obtain ⟨v, H', I3, rv, ev, q3⟩ := I2.after hq'
      subst ev
      exact ⟨rv, ⟨V.ref (s.heap.objs.size + 1), H', I3, rfl, q3⟩⟩
    | next => exact False.elim hq'
    | brk => exact False.elim hq'
    | cont => exact False.elim hq'
def tMakeG (C : Addr) (sp : Sp) (E : L2.St → XK) (t : TA) : TE := fun σ H Q => t σ H fun vs H1 => ∀ x dx, H1 x = none → H1 dx = none → dx ≠ x →
  sp (.ref x :: vs) (upd (upd H1 dx (.own x)) x (.ins C dx [])) (fun v H2 => v = .non ∧ Q (.ref x) H2) (E σ)
theorem pe_makeG (M : Mk X.K C f) (F : FnG X.prog X.w X.K X.mg X.base CX k f fd ps sp) (hr : RG (k + 1) X.A) (hg : Gl X x) (hm : X.mg x = some (.ref C)) (hb : Binds X.K fd ps []) (hx : ∀ σ, PassesAt CX X σ (E σ))
    (ha : PA X (e :: es) t) (hdb : (x == ("__debug__" : Str)) = false := by decide) (he : starEach (e :: es) X.env = (false, eval e X.env) :: starEach es X.env := by rfl) (hpl : (backTo pos (starEach es X.env)).any (·.1) = false := by rfl) :
    PE X (.Call (.Name x p) (e :: es) [] pos) (tMakeG C sp E t) := by
  refine ⟨fun pins s σ H Q I h => ?_⟩
  refine wpAny_Call_Name_kw (ld_glob I hg hm ?_ hdb)
  refine PySem.W.callWith_K (h₀ := X.base) I.ok.mod.kin M.kp (thn (ha.run pos pins s σ H _ I h) fun us s1 ⟨vs, H1, I1, r, q⟩ => ⟨I1.kIn, ?_⟩) he hpl
  exact run_makeG M F hr hb (hx σ) I1 r q
theorem pe_makeG0 (M : Mk X.K C f) (F : FnG X.prog X.w X.K X.mg X.base CX k f fd ps sp) (hr : RG (k + 1) X.A) (hg : Gl X x) (hm : X.mg x = some (.ref C)) (hb : Binds X.K fd ps []) (hx : ∀ σ, PassesAt CX X σ (E σ))
    (hdb : (x == ("__debug__" : Str)) = false := by decide) : PE X (.Call (.Name x p) [] [] pos) (tMakeG C sp E tNil) := by
  refine ⟨fun pins s σ H Q I h => ?_⟩
  refine wpAny_Call_Name_kw (ld_glob I hg hm ?_ hdb)
  exact PySem.W.callWith_K0 I.kIn M.kp (run_makeG (us := []) M F hr hb (hx σ) I .nil h)
end
section
variable {X : Cx} {E : XW} {e : Expr} {es : List Expr} {Fl : FL} {k n : Nat} {m : Mf} {p pos : Pos} {C : Str}
theorem tf_make {t : TA} {Ca : Addr} (mc : X.mg C = some (.ref Ca)) (ht : ∀ σ H Q, TFl X.K X.mg E Fl σ H Q → t σ H Q) {σ : L2.St} {H : Hp} {Q : VK} (h : TF X.K X.mg E (eMake C n m Fl) σ H Q) : tMakeG Ca (spT X.K X.mg (n + 1) m) (WE E) t σ H Q := by
  obtain ⟨ι, env, ah, a, p⟩ := h
  refine ht _ _ _ ⟨ι, env, ah, a, Po.first p fun ds ah1 ι1 H1 vs _ s S rs q => ?_⟩
  obtain ⟨hl, q⟩ := q.okB
  have hl := Nat.eq_of_beq_eq_true hl
  intro x dx nx ndx ne
  have rs : Reps X.K X.mg ι1 H1 ds vs := rs
  have S1 : SimH X.K X.mg ι1 (upd H1 dx (.own x)) ah1 := S.laid ndx
  have t1 : Step ι1 H1 ι1 (upd H1 dx (.own x)) := Step.laid ndx
  have nx1 : (upd H1 dx (.own x)) x = none := by rw [upd_ne (fun z => ne z.symm)]; exact nx
  have t2 : Step ι1 (upd H1 dx (.own x)) (ι1.add x) (upd (upd H1 dx (.own x)) x (.ins Ca dx [])) := Step.cell nx1
  have S2 := S1.cellNew (p := x) (o := .ins Ca dx []) (c := .ins C []) nx1 ⟨Ca, dx, [], mc, upd_same, rfl⟩
  have tt := t1.trans t2
  have a2 : At X.K X.mg env (ah1 ++ [.ins C []]) (ι1.add x) σ (upd (upd H1 dx (.own x)) x (.ins Ca dx [])) := (a.step s S).step tt S2
  have gx : (ι1.add x).c[ah1.length]? = some x := by
    show (ι1.c ++ [x])[ah1.length]? = some x
    rw [← S.len]
    simp
  refine sp_call a2 (of_cons (v := .ref x) (d := .ref ah1.length) (by unfold Rep; exact ⟨x, rfl, gx⟩) (tt.reps ds rs)) (by rw [List.length_cons, hl]) ?_
  refine Po.first (Po.later tt q) fun d ah2 ι2 H2 v _ t3 T rv q2 => ?_
  cases d with
  | non =>
    refine ⟨rep_non rv, Po.here q2 T ?_⟩
    unfold Rep
    exact ⟨x, rfl, t3.get gx⟩
  | _ => exact False.elim q2
theorem fmake (d : Di X.prog X.w X.K X.mg X.base k C n m) (hr : RG (k + 1) X.A) (tk : ∀ σ, PassesAt (L2.CX X.prog X.w) X σ (WE E σ)) (ha : FA X E (e :: es) Fl) (hg : Gl X C := by rfl) (hp : Pl X e es pos := by exact ⟨rfl, rfl⟩) (hdb : (C == ("__debug__" : Str)) = false := by decide) :
    FE X E (.Call (.Name C p) (e :: es) [] pos) (eMake C n m Fl) := by
  obtain ⟨Ca, f, fd, ps, mc, M, F, hb⟩ := d.to
  exact PE.mono (pe_makeG M F hr hg mc hb tk ha hdb hp.he hp.hpl) fun σ H Q h => tf_make mc (fun _ _ _ h => h) h
theorem fmake0 (d : Di X.prog X.w X.K X.mg X.base k C 0 m) (hr : RG (k + 1) X.A) (tk : ∀ σ, PassesAt (L2.CX X.prog X.w) X σ (WE E σ)) (hg : Gl X C := by rfl) (hdb : (C == ("__debug__" : Str)) = false := by decide) :
    FE X E (.Call (.Name C p) [] [] pos) (eMake C 0 m lNil) := by
  obtain ⟨Ca, f, fd, ps, mc, M, F, hb⟩ := d.to
  exact PE.mono (pe_makeG0 M F hr hg mc hb tk hdb) fun σ H Q h => tf_make (Fl := lNil) (t := tNil) mc (fun σ H Q h => by
    obtain ⟨ι, env, ah, a, p⟩ := h
    exact Po.here p a.1 of_nil) h
end
end Fx

/-! ===== Fx23 -/
set_option Elab.async false
set_option linter.all false
set_option maxRecDepth 100000
set_option maxHeartbeats 4000000
namespace Fx
open PySem PySem.Spec PyProof.Rows L2
/-! ### methods and makings, as the head finds them -/
def FDm (K : PySem.W.Frag) (mg : Str → Option Value) (C nm q : Str) (st : Stmt) : Prop := ∃ f fd, FunD K nm q (defArgs st) (defBody st) (defScope st) [] [] f fd ∧ ∃ Ca, mg C = some (.ref Ca) ∧ Cls K Ca ∧ Meth K Ca nm f
def FDi (K : PySem.W.Frag) (mg : Str → Option Value) (C q : Str) (st : Stmt) : Prop := ∃ f fd, FunD K "__init__" q (defArgs st) (defBody st) (defScope st) [] [] f fd ∧ ∃ Ca, mg C = some (.ref Ca) ∧ Mk K Ca f
section
variable {P : Program} {w : World} {K : PySem.W.Frag} {mg : Str → Option Value} {base : Heap} {C nm q : Str} {st : Stmt} {kws : List (Str × V)} {f : Addr} {fd : FuncData} {ps : List Str} {k n : Nat} {m : Mf}
theorem dm_of (F : FunD K nm q (defArgs st) (defBody st) (defScope st) [] kws f fd) (hm : ∃ Ca, mg C = some (.ref Ca) ∧ Cls K Ca ∧ Meth K Ca nm f)
    (hb : ∀ (kV doc pm : Value) (an : Option Addr) (cdv ct : Value) (us : List Value), us.length = ps.length → bindArgs (PySem.W.fnOf nm q (defArgs st) (defBody st) (defScope st) .none kV doc pm an cdv ct) ⟨us, []⟩ = pure (ps.zip us))
    (G : FnG P w K mg base (L2.CX P w) k f fd ps (spT K mg (n + 1) m)) : Dm P w K mg base k C nm n m := by
  obtain ⟨Ca, h1, h2, h3⟩ := hm
  exact ⟨Ca, f, fd, ps, h1, h2, h3, G, F.bindsN hb⟩
theorem di_of (F : FunD K nm q (defArgs st) (defBody st) (defScope st) [] kws f fd) (hm : ∃ Ca, mg C = some (.ref Ca) ∧ Mk K Ca f)
    (hb : ∀ (kV doc pm : Value) (an : Option Addr) (cdv ct : Value) (us : List Value), us.length = ps.length → bindArgs (PySem.W.fnOf nm q (defArgs st) (defBody st) (defScope st) .none kV doc pm an cdv ct) ⟨us, []⟩ = pure (ps.zip us))
    (G : FnG P w K mg base (L2.CX P w) k f fd ps (spT K mg (n + 1) m)) : Di P w K mg base k C n m := by
  obtain ⟨Ca, h1, h2⟩ := hm
  exact ⟨Ca, f, fd, ps, h1, h2, G, F.bindsN hb⟩
end
section
open He
variable {fa : List Fa} {fn : List DefD} {ts : List Tab} {w : World} {K : PySem.W.Frag} {mg : Str → Option Value} {h : Heap}
theorem fm_of (X : K.In h) (G : h.Ns mainGlobals mg) (c : SaysD fa fn K) (i : Nat) {C nm q : Str} {st : Stmt} (hd : fn[i]? = some ⟨(C, some nm), nm, q, defArgs st, defBody st, defScope st, [], []⟩) (hg : Fa.glo C ∈ fa) (hc : Fa.cls C ∈ fa) (hm : Fa.meth C nm ∈ fa) : FDm K mg C nm q st := by
  obtain ⟨fd, F⟩ := c.def_ i hd
  exact ⟨_, fd, F, _, glo_ok X G (saysMem c hg), cls_ok (saysMem c hc), meth_ok (saysMem c hm)⟩
theorem fi_of (X : K.In h) (G : h.Ns mainGlobals mg) (c : SaysD fa fn K) (i : Nat) {C q : Str} {st : Stmt} (hd : fn[i]? = some ⟨(C, some "__init__"), "__init__", q, defArgs st, defBody st, defScope st, [], []⟩) (hg : Fa.glo C ∈ fa) (hm : Fa.mkr C ∈ fa) : FDi K mg C q st := by
  obtain ⟨fd, F⟩ := c.def_ i hd
  exact ⟨_, fd, F, _, glo_ok X G (saysMem c hg), mkr_ok (saysMem c hm)⟩
theorem cfl_ok (X : K.In h) (G : h.Ns mainGlobals mg) {L : List (Str × Str)} (e : cfB K L = true) : ∀ C f, (L.any fun p => decide (p.1 = C) && decide (p.2 = f)) = true → FdK K mg C f := fun C f q => by
  obtain ⟨p, hp, q⟩ := List.any_eq_true.mp q
  rw [Bool.and_eq_true, decide_eq_true_eq, decide_eq_true_eq] at q
  obtain ⟨rfl, rfl⟩ := q
  obtain ⟨e1, e⟩ := ba (List.all_eq_true.mp e p hp)
  obtain ⟨e2, e3⟩ := ba e
  exact ⟨_, glo_ok X G e1, cls_ok e2, noat_ok e3⟩
end
end Fx

/-! ===== Fx24 -/
set_option Elab.async false
set_option linter.all false
set_option maxRecDepth 100000
set_option maxHeartbeats 4000000
namespace Fx
open PySem PySem.Spec PyProof.Rows L2
/-! ### {k: v for target in iter if ..}, keys ints or texts -/
def dcGo (src : Src) (env : Env) (g : FG0) (t : FB) (fk fv : FV) : List D → List (DKey × D) → AH → R (List (DKey × D) × AH)
  | [], acc, ah => okB (src.still ah) (.ok (acc, ah))
  | d :: r, acc, ah => okB (src.still ah) ((g d env ah).bx fun y => (t y.1 y.2).bx fun b => match b.1 with
    | true => (fk y.1 b.2).bx fun x => (fv y.1 x.2).bx fun z => okO (keyOf x.1) fun κ => okB (flatK κ) (dcGo src env g t fk fv r (dPut acc κ z.1) z.2)
    | false => dcGo src env g t fk fv r acc b.2)
def eDc (c : Bool) (i : FI0) (vs : List Nat) (g : FG0) (t : FB) (fk fv : FV) : FV := fun env ah => (i env ah).bind fun z => okB (lenOk (z.1.items.length + 1)) ((dcGo z.1 (wipeE env vs) g t fk fv z.1.items [] z.2).bx fun w => mkD c false w.1 w.2)
theorem dPut_len (kvs : List (DKey × D)) (k : DKey) (d : D) : (dPut kvs k d).length ≤ kvs.length + 1 := by
  unfold dPut
  split
  · rw [List.length_map]; omega
  · rw [List.length_append]; simp
section
variable {K : PySem.W.Frag} {mg : Str → Option Value} {E : XW}
theorem okO_bx {α β γ : Type} {o : Option α} {f : α → R β} {k : β → R γ} : (okO o f).bx k = okO o fun a => (f a).bx k := by cases o <;> rfl
theorem tfDc {I : FI0} {vs Sl : List Nat} {G : FG0} {T : FB} {Fk Fv : FV} {c : Bool} (hv : ∀ i ∈ Sl, i ∈ vs) {σ : L2.St} {H : Hp} {Q : VK} (hw : TF K mg E (eDc c I vs G T Fk Fv) σ H Q) :
    tDc (TFi K mg E I) (TFg K mg E0w Sl G) (TFb K mg E0w T) (TF K mg E0w Fk) (TF K mg E0w Fv) vs σ H Q := by
  obtain ⟨ι, env, ah, a, p⟩ := hw
  refine ⟨ι, env, ah, a, ?_⟩
  unfold eDc at p
  cases hr : I env ah with
  | stk => rw [hr] at p; exact p.elim
  | exc x e' h' => rw [hr] at p; exact p
  | ok z =>
    obtain ⟨src, ah1⟩ := z
    rw [hr] at p
    have p : Po K mg E (RvD K mg) ι H (okB (lenOk (src.items.length + 1)) ((dcGo src (wipeE env vs) G T Fk Fv src.items [] ah1).bx fun w => mkD c false w.1 w.2)) Q := p
    obtain ⟨hl, p⟩ := p.okB
    intro ι0 H0 J s0 S0 wk L hL
    have a0 : At K mg (wipeE env vs) ah1 ι0 (wipe σ vs) H0 := (a.step s0 S0).wiped vs
    have n0 : L ∉ ι0.h := (S0.out hL).2
    have p := p.later s0
    refine ⟨fun i m H => m = src.items.length - i ∧ i ≤ src.items.length ∧ ∃ ι ah acc, ∃ (kk : List Key) (ws : List V), Step ι0 H0 ι H ∧ L ∈ ι.h ∧ At K mg (wipeE env vs) ah ι (wipe σ vs) H ∧ H L = some (.dK (kk.zip ws)) ∧ (acc.map (·.1)).map toK = kk.map some ∧ RepV K mg ι H acc ws ∧ acc.length ≤ i ∧
        Po K mg E (RvD K mg) ι0 H0 ((dcGo src (wipeE env vs) G T Fk Fv (src.items.drop i) acc ah).bx fun w => mkD c false w.1 w.2) Q,
      ⟨src.items.length, by simp, Nat.zero_le _, ι0.hide L, ah1, [], [], [], Step.hide hL, List.mem_cons_self, a0.step (Step.hide hL) (S0.hide hL), upd_same, rfl, of_vnil, Nat.zero_le _, p⟩, ?_⟩
    rintro i m H ⟨rfl, hi, ι, ah, acc, kk, ws, s, hLi, a, hacc, hk, rs, hal, p⟩
    have wkb := wk i ι H ah s.lv a.1
    cases hd : src.items.drop i with
    | nil =>
      have hl : src.items.length ≤ i := by
        rcases Nat.lt_or_ge i src.items.length with z | z
        · rw [List.drop_eq_getElem_cons z] at hd; cases hd
        · exact z
      rw [hd] at p
      unfold dcGo at p
      rw [okB_bx] at p
      obtain ⟨st, p⟩ := p.okB
      refine .inl ⟨(wkb st).2 hl, ?_⟩
      exact Po.mkDh p s hL n0 hLi a.1 hacc ⟨kk, hk, rfl⟩ rs
    | cons d r =>
      obtain ⟨hg', hd'⟩ := drop_some hd
      have lt : i < src.items.length := (List.getElem?_eq_some_iff.mp hg').1
      rw [hd] at p
      unfold dcGo at p
      rw [okB_bx] at p
      obtain ⟨st, p⟩ := p.okB
      obtain ⟨go, yl⟩ := (wkb st).1 d hg'
      refine .inr ⟨go, fun H' => ∃ ι ah acc, ∃ (kk : List Key) (ws : List V), Step ι0 H0 ι H' ∧ L ∈ ι.h ∧ At K mg (wipeE env vs) ah ι (wipe σ vs) H' ∧ H' L = some (.dK (kk.zip ws)) ∧ (acc.map (·.1)).map toK = kk.map some ∧ RepV K mg ι H' acc ws ∧ acc.length ≤ i + 1 ∧
        Po K mg E (RvD K mg) ι0 H0 ((dcGo src (wipeE env vs) G T Fk Fv (src.items.drop (i + 1)) acc ah).bx fun w => mkD c false w.1 w.2) Q, fun H' q => ⟨src.items.length - (i + 1), by omega, rfl, lt, q⟩, fun x H' y => ?_⟩
      obtain ⟨s1, S1, rx⟩ := yl x H' y
      rw [bx_assoc] at p
      have hLx : L ∉ ι.c := (a.1.hd L hLi).2
      refine ⟨ι, wipeE env vs, ah, d, a.step s1 S1, rx, PoG.X p fun env1 ah2 ι2 σ2 H2 s2 a2 sm q2 => ?_⟩
      rw [bx_assoc] at q2
      refine ⟨by rw [sam_wipe sm hv, wipe_wipe], ι2, env1, ah2, a2, Po.X q2 fun b ah3 ι3 H3 b' _ s3 S3 eb q3 => ?_⟩
      have eb : b = b' := eb
      subst eb
      have s13 := (s1.trans s2).trans s3
      have mem3 : ∀ {ιx : Io} {Hx : Hp}, Step ι H ιx Hx → L ∈ ιx.h := fun {ιx Hx} t => by
        obtain ⟨m, e, _⟩ := t.hid
        rw [e]; exact List.mem_append_right _ hLi
      have base : ∀ {ιx : Io} {Hx : Hp} {ahx : AH}, Step ι H ιx Hx → SimH K mg ιx Hx ahx → At K mg (wipeE env vs) ahx ιx (wipe σ vs) Hx := fun t Sx => a.step t Sx
      cases b with
      | false =>
        refine iteF ⟨ι3, ah3, acc, kk, ws, s.trans s13, mem3 s13, base s13 S3, s13.frame L _ hLx hacc, hk, s13.repV acc rs, by omega, ?_⟩
        rw [hd']
        exact q3
      | true =>
        have q3 : Po K mg E (RvD K mg) ι0 H0 (((Fk env1 ah3).bx fun x => (Fv env1 x.2).bx fun z => okO (keyOf x.1) fun κ => okB (flatK κ) (dcGo src (wipeE env vs) G T Fk Fv r (dPut acc κ z.1) z.2)).bx fun w => mkD c false w.1 w.2) Q := q3
        rw [bx_assoc] at q3
        refine iteT ⟨ι3, env1, ah3, a2.step s3 S3, Po.X q3 fun y ah4 ι4 H4 v _ s4 S4 ry q4 => ?_⟩
        rw [bx_assoc] at q4
        refine ⟨ι4, env1, ah4, (a2.step s3 S3).step s4 S4, Po.X q4 fun z ah5 ι5 H5 u _ s5 S5 rz q5 => ?_⟩
        rw [okO_bx] at q5
        obtain ⟨κ, hκ, q5⟩ := q5.okO
        rw [okB_bx] at q5
        obtain ⟨hf, q5⟩ := q5.okB
        have s15 := (s13.trans s4).trans s5
        have hkk : ∃ k', toK κ = some k' := by cases κ <;> first | exact ⟨_, rfl⟩ | cases hf
        obtain ⟨k', hk'⟩ := hkk
        have ry : Rep K mg ι4 H4 y v := ry
        have ev : v = kV k' := by
          rcases key_rep ry hκ with ⟨k2, b1, b2⟩ | ⟨kt, b, b1, _⟩
          · rw [hk'] at b1; cases b1; exact b2
          · cases κ <;> first | (cases b1; done) | (cases hk'; done)
        have rz : Rep K mg ι5 H5 z u := rz
        obtain ⟨kk', ws', f1, f2, f3⟩ := put_zip toK_inj hk' rz hk (s15.repV acc rs)
        have zl : (kk.zip ws).length ≤ acc.length := by
          have := congrArg List.length hk
          simp at this
          rw [List.length_zip]
          omega
        refine ⟨kk.zip ws, k', ev, s15.frame L _ hLx hacc, ?_, ι5, ah5, dPut acc κ z, kk', ws', (s.trans s15).hput hL, mem3 s15, ?_, by rw [upd_same, f3], f1, (Lv.hput (mem3 s15)).repV _ f2, by have := dPut_len acc κ z; omega, ?_⟩
        · have := lenOk_le hl
          omega
        · have b5 := base s15 S5
          exact ⟨b5.1.hput (mem3 s15), (Lv.hput (mem3 s15)).simE b5.2⟩
        · rw [hd']
          exact q5
end
section
variable {X : Cx} {E : XW} {kx vx tg iter c : Expr} {scope : Scope} {own : List (Str × Nat)} {pos : Pos} {I : FI0} {Sl : List Nat} {G : FG0} {T : FB} {Fk Fv : FV}
theorem fdc (cc : Bool) (own : List (Str × Nat)) {ifs : List Expr} (hc : X.calm = true) (hN : X.N.Nodup) (hi : FI X E tg iter I) (ok : BlkOk X.N X.env.scope scope own)
    (hg : ∀ s H C cl fp, FG (Bk X scope s H C cl fp) E0w tg Sl G) (ht : ∀ s H C cl fp, FTs (Bk X scope s H C cl fp) E0w ifs T) (hk : ∀ s H C cl fp, FE (Bk X scope s H C cl fp) E0w kx Fk) (he : ∀ s H C cl fp, FE (Bk X scope s H C cl fp) E0w vx Fv)
    (hv : ∀ i ∈ Sl, i ∈ own.map (·.2) := by decide) (hs : ∀ x, foldedSetIterable iter X.env x = pure x := by intro _; rfl) :
    FE X E (.DictComp kx vx [⟨tg, iter, ifs, 0⟩] scope pos) (eDc cc I (own.map (·.2)) G T Fk Fv) :=
  PE.mono (pe_dc hc hN hi ok hg (fun s H C cl fp => (ht s H C cl fp).to) hk he hs) fun _ _ _ h => tfDc hv h
end
end Fx

/-! ===== Fx25 -/
set_option Elab.async false
set_option linter.all false
set_option maxRecDepth 100000
set_option maxHeartbeats 4000000
namespace Fx
open PySem PySem.Spec PyProof.Rows PySem.Calls L2
/-! ### sorted(a dict), its keys ints -/
def rSortedDK : List V → Hp → VK → Prop := fun vs H Q => ∃ (a : Addr) (kvs : List (L2.Key × V)) (ns : List Int), vs = [V.ref a] ∧ Rd H a (.dK kvs) ∧ kvs.map (·.1) = ns.map Sum.inl ∧
  ∀ (ns' : List Int) (p : Addr), ns'.Perm ns → ns'.Pairwise (· ≤ ·) → H p = none → Q (.ref p) (upd H p (.lst (ns'.map V.int)))
theorem zip_fst {α β : Type} : ∀ {a : List α} {b : List β}, a.length = b.length → (a.zip b).map (·.1) = a
  | [], [], _ => rfl
  | [], _ :: _, h => by cases h
  | _ :: _, [], h => by cases h
  | a :: as, b :: bs, h => by rw [List.zip_cons_cons, List.map_cons, zip_fst (Nat.succ.inj h)]
theorem kv_keys {κ : Type} : ∀ {kvs : List (κ × V)} {vs : List (κ × Value)}, KV kvs vs → kvs.map (·.1) = vs.map (·.1)
  | [], [], _ => rfl
  | [], _ :: _, h => by cases h
  | _ :: _, [], h => by cases h
  | a :: as, b :: bs, h => by
    cases h with
    | cons h1 h2 => rw [List.map_cons, List.map_cons, h1.1, kv_keys h2]
theorem intsAre_of : ∀ {vs : List Value} {ns : List Int}, vs.length = ns.length → (∀ (j : Nat) v, vs[j]? = some v → ∃ (n : Int) (t : Tok), ns[j]? = some n ∧ v = .int n t) → PyProof.Rows.IntsAre vs ns
  | [], [], _, _ => .nil
  | [], _ :: _, h, _ => by cases h
  | _ :: _, [], h, _ => by cases h
  | v :: vs, n :: ns, h, f => by
    obtain ⟨m, t, e1, e2⟩ := f 0 v rfl
    cases e1
    rw [e2]
    exact .cons _ t (intsAre_of (Nat.succ.inj h) fun j u e => f (j + 1) u e)
theorem objOk_some {P : Program} {w : World} {H : Hp} {h : Heap} {a : Addr} {o : HO} (x : ObjOk P w H h a o) : ∃ u, h.get? a = some u := by
  induction o with
  | lst xs => obtain ⟨z, its, n, r, e⟩ := x; exact ⟨_, e⟩
  | tup xs => obtain ⟨z, its, r, ob, e, c⟩ := x; exact ⟨_, e⟩
  | dK kvs => obtain ⟨z, y, vs, r, ob, es, ep, e, c⟩ := x; exact ⟨_, e⟩
  | dT kvs => obtain ⟨z, y, xs, r, ob, es, ep, e, c⟩ := x; exact ⟨_, e⟩
  | set S n => obtain ⟨ob, es, ep, t, e, c⟩ := x; exact ⟨_, e⟩
  | ins C dx fs => obtain ⟨d, z, ne, e, _⟩ := x; exact ⟨_, e⟩
  | own y => obtain ⟨ob, e⟩ := x; exact ⟨_, e⟩
  | xd fs => obtain ⟨mA, ⟨od, es, ep, e, c⟩, r⟩ := x; exact ⟨_, e⟩
  | rng lo hi => obtain ⟨t, u, v, e⟩ := x; exact ⟨_, e⟩
  | frz ob u ih => obtain ⟨e, q⟩ := x; exact ⟨_, e⟩
  | tbl ps => exact ⟨_, show h.get? a = some { cls := .none, data := .fields ps } from x⟩
  | met f y => exact ⟨_, show h.get? a = some (PySem.W.methodObj (.ref f) (.ref y)) from x⟩
  | ext φ => obtain ⟨p, ⟨o, e⟩, st⟩ := x; exact ⟨_, e⟩
theorem cr_sortedDK {X : Cx} (hc : X.calm = true) : CallR X (.builtin "sorted") rSortedDK := by
  intro pins s σ H vs us Q I r h
  obtain ⟨a, kvs, ns, rfl, hs, hk, q⟩ := h
  rw [Vals.ref1 r]
  obtain ⟨z, hd, xs, rel, dd⟩ := dk_rd I.hok hs
  obtain ⟨ep, hat⟩ := dd.dictAt
  have lx := rel.length
  have hn : xs.length ≤ sizeLine := by omega
  refine call_function_entry PyProof.Rows.kind_sorted PyProof.Rows.plain_sorted PyProof.Rows.entry_sorted (PyProof.Rows.args_sorted1 _) ?_
  unfold Builtin.«sorted»
  refine wpAny_bind (m := checkCount "sorted" 1 1 _) (wpAny_pure ?_)
  refine wpAny_bind (PySem.W.kdu_collect (A := X.A.in1) (PySem.W.kdl_dict (knd := mixKind X.prog X.w) (kvs := xs) (ep := ep) hd) (I.ok.hd hc) hat hn fun h' tk acc hk' hacc => ?_)
  have hl : acc.toList.length = xs.length := by rw [Array.length_toList]; exact hacc.1
  have hi : PyProof.Rows.IntsAre acc.toList ns := by
    have hk2 : xs.map (·.1) = ns.map Sum.inl := by rw [← hk]; exact (kv_keys rel).symm
    refine intsAre_of (by rw [hl]; simpa using congrArg List.length hk2) fun j v e => ?_
    obtain ⟨k, x, hx, hkv⟩ := hacc.2 j v (by rw [← Array.getElem?_toList]; exact e)
    have e1 : (xs.map (·.1))[j]? = some k := by rw [List.getElem?_map, hx]; rfl
    rw [hk2, List.getElem?_map] at e1
    obtain ⟨n, e2, e3⟩ := Option.map_eq_some_iff.mp e1
    subst e3
    rcases keyIs_shape (show keyIs (.inl n) v = true from hkv) with ⟨i, t, b1, b2⟩ | ⟨x, t, b1, _⟩
    · cases b1; exact ⟨n, t, e2, b2⟩
    · cases b1
  refine wpAny_bind (wpAny_newList ?_ (by rw [hl]; exact hn))
  have hoL : (h'.push (PyProof.Rows.seqObj "list" acc.toList.toArray 0)).get? h'.objs.size = some (PyProof.Rows.seqObj "list" acc.toList.toArray 0) := Heap.get?_push_size _ rfl
  refine wpAny_bind (wpAny_holding (wpAny_call_entry PyProof.Rows.slot_list_sort ⟨_, hoL, rfl⟩ PyProof.Rows.entry_list_sort (SrtO.list_sort_ord SrtO.swo_int hoL (by rw [hl]; exact hn) (fun h2 => SrtO.ints_sortable hi h2) fun out h1 h2 => ⟨_, rfl, ?_⟩) (PyProof.Rows.args_list_sort _)))
  refine wpAny_pure ⟨_, rfl, ?_⟩
  obtain ⟨k1, k2, k3⟩ := SrtO.ints_out hi h1 h2
  obtain ⟨ep2, he'⟩ := PyProof.Rows.sortedHeap_at (vs := acc.toList) (out := out.toArray) hoL
  have hlen : ((out.map SrtO.iv).map V.int).length ≤ sizeLine := by
    rw [List.length_map, k2.length_eq]
    have := congrArg List.length hk
    simp at this
    omega
  have hp : s.heap.get? h'.objs.size = none := by
    cases e : s.heap.get? h'.objs.size with
    | none => rfl
    | some o => exact absurd (Heap.lt_size (hk' _ _ e)) (Nat.lt_irrefl _)
  have hn2 : H h'.objs.size = none := by
    cases e : H h'.objs.size with
    | none => rfl
    | some o =>
      obtain ⟨u, e2⟩ := objOk_some (I.hok _ _ e)
      rw [hp] at e2
      cases e2
  exact ⟨.ref _, upd H h'.objs.size (.lst ((out.map SrtO.iv).map V.int)), I.laidN (t' := tk) (fun b o e => by
    have e1 := hk' _ _ e
    rw [PyProof.Rows.sortedHeap_old (Nat.ne_of_lt (Heap.lt_size e1)) (Nat.lt_succ_of_lt (Heap.lt_size e1) |> fun z => by simpa using z)]
    exact Heap.get?_push_of_some _ e1) hp hn2 ⟨hlen, out, ep2, vals_of_ints k1, he'⟩, rfl, q _ _ k2 k3 hn2⟩
def kI : DKey → Option Int
  | .i k => some k
  | _ => none
def bSrtDK (c : Bool) : OL := fun ds ah => match ds with
  | [d] => okO (asD ah d) fun p => okB (!p.1) (okO (mapO kI (p.2.map (·.1))) fun ns => mkL c ((srtI ns).map .int) ah)
  | _ => .stk
theorem mapO_kI : ∀ {ks : List DKey} {ns : List Int}, mapO kI ks = some ns → ks.map toK = (ns.map Sum.inl).map some
  | [], ns, e => by cases e; rfl
  | k :: ks, ns, e => by
    unfold mapO at e
    split at e
    · rename_i b t h1 h2
      cases e
      cases k <;> first | (cases h1; done) | (cases h1; rw [List.map_cons, mapO_kI h2]; rfl)
    · cases e
theorem map_some_inj {α : Type} : ∀ {a b : List α}, a.map some = b.map some → a = b
  | [], [], _ => rfl
  | [], _ :: _, h => by cases h
  | _ :: _, [], h => by cases h
  | a :: as, b :: bs, h => by
    rw [List.map_cons, List.map_cons, List.cons.injEq] at h
    rw [Option.some.inj h.1, map_some_inj h.2]
theorem ok_srtDK {c : Bool} {K : PySem.W.Frag} {mg : Str → Option Value} {E : XW} : OKL K mg E rSortedDK (bSrtDK c) := fun ι H ah ds vs Q S rs p => by
  unfold bSrtDK at p
  split at p
  · rename_i d
    obtain ⟨v, s, rfl, r, q⟩ := reps_cons rs
    rw [reps_nil q]
    obtain ⟨⟨t, kvs⟩, hx, p1⟩ := p.okO
    obtain ⟨ht, p1⟩ := p1.okB
    obtain ⟨ns, hn, p2⟩ := p1.okO
    obtain ⟨b, ws, o, rfl, ho, hr, rv⟩ := asD_rep S r hx
    cases t with
    | true => cases ht
    | false =>
    obtain ⟨kk, hk, rfl⟩ := ho
    have e1 : kk = ns.map Sum.inl := map_some_inj (hk.symm.trans (mapO_kI hn))
    have hl : kk.length = ws.length := by
      have := congrArg List.length hk
      simp at this
      rw [← this, repV_len rv]
    refine ⟨b, kk.zip ws, ns, rfl, hr, by rw [zip_fst hl, e1], fun ns' p' pm hs n => ?_⟩
    obtain rfl : ns' = srtI ns := sorted_uniq (pm.trans (srtI_perm _).symm) hs (srtI_sorted _)
    exact p2.mkL (c := c) S of_ints p' n
  · exact p.elim
section
variable {X : Cx} {E : XW} {a : Expr} {p pos : Pos}
theorem fsrtDK (c : Bool) (hm : X.mg "sorted" = none) {Fl : FL} (ha : FA X E [a] Fl) (hc : X.calm = true := by rfl) (hg : Gl X "sorted" := by rfl) (hp : Pl X a [] pos := by exact ⟨rfl, rfl⟩) : FE X E (.Call (.Name "sorted" p) [a] [] pos) (eL (bSrtDK c) Fl) :=
  fcb (cr_sortedDK hc) ok_srtDK hm (by decide +kernel) ha hg hp
end
end Fx

/-! ===== Fx26 -/
set_option Elab.async false
set_option linter.all false
set_option maxRecDepth 100000
set_option maxHeartbeats 4000000
namespace Fx
open PySem PySem.Spec PyProof.Rows L2
/-! ### tuples of ints compared -/
def lxT (r : Int → Int → Bool) (z : Nat → Nat → Bool) : List Int → List Int → Bool
  | x :: xs, y :: ys => if x = y then lxT r z xs ys else r x y
  | xs, ys => z xs.length ys.length
theorem lexAt_sh {e r : Nat → Bool} {z : Bool} : ∀ {k i : Nat}, Ob.lexAt e r z (i + 1) k = Ob.lexAt (fun j => e (j + 1)) (fun j => r (j + 1)) z i k
  | 0, _ => rfl
  | k + 1, i => by rw [Ob.lexAt_succ, Ob.lexAt_succ, lexAt_sh]
theorem lexAt_lx (r : Int → Int → Bool) (z : Nat → Nat → Bool) (hz : ∀ a b, z (a + 1) (b + 1) = z a b) : ∀ ns ms : List Int,
    Ob.lexAt (fun j => decide (ns.getD j 0 = ms.getD j 0)) (fun j => r (ns.getD j 0) (ms.getD j 0)) (z ns.length ms.length) 0 (min ns.length ms.length) = lxT r z ns ms
  | [], ms => by rw [List.length_nil, Nat.zero_min]; cases ms <;> rfl
  | n :: ns, [] => by rw [List.length_nil, Nat.min_zero]; rfl
  | n :: ns, m :: ms => by
    rw [List.length_cons, List.length_cons, Nat.add_min_add_right, Ob.lexAt_succ, lexAt_sh]
    have ih := lexAt_lx r z hz ns ms
    rw [hz]
    by_cases h : n = m
    · have : lxT r z (n :: ns) (m :: ms) = lxT r z ns ms := by show (if n = m then _ else _) = _; rw [if_pos h]
      rw [this, ← ih, if_pos (by simpa using h)]
      rfl
    · have : lxT r z (n :: ns) (m :: ms) = r n m := by show (if n = m then _ else _) = _; rw [if_neg h]
      rw [this, if_neg (by simpa using h)]
      rfl
def rCT (K : PySem.W.Frag) (r : Int → Int → Bool) (z : Nat → Nat → Bool) : R2 := fun x y H Q => ∃ (a b : Addr) (ns ms : List Int), x = .ref a ∧ y = .ref b ∧ SqT K H a (ns.map V.int) ∧ SqT K H b (ms.map V.int) ∧ Q (.bl (lxT r z ns ms)) H
theorem op_cT {X : Cx} {op : CmpOp} {r : Int → Int → Bool} {z : Nat → Nat → Bool} (hz : ∀ a b, z (a + 1) (b + 1) = z a b)
    (hco : ∀ {x y : Value} {P : Value → Shared → Prop} {s : Shared} {bb : Bool}, Ob.RcOp op X.A s x y bb → P (.bool bb) s → wpAny (model X.prog X.w) X.A (compareOp op x y) P X.xe s)
    (hint : ∀ (A : Around) (s : Shared) (a b : Int) (t u : Tok), Ob.RcOp op A s (.int a t) (.int b u) (r a b))
    (htup : ∀ {s : Shared} {l b : Addr} {items items2 : Array Value} {e q : Nat → Bool}, s.heap.IsTuple l items → s.heap.IsTuple b items2 →
      (∀ j (h1 : j < items.size) (h2 : j < items2.size), SeqAt.EqAt X.A.in1 s items[j] items2[j] (e j)) →
      (∀ j (h1 : j < items.size) (h2 : j < items2.size), e j = false → Ob.RcOp op X.A.in1 s items[j] items2[j] (q j)) →
      Ob.RcOp op X.A s (.ref l) (.ref b) (Ob.lexAt e q (z items.size items2.size) 0 (min items.size items2.size))) : OpR X (compareOp op) (rCT X.K r z) := by
  intro pins s σ H x y v u Q I rx ry h
  obtain ⟨a, b, ns, ms, rfl, rfl, ha, hb, q⟩ := h
  cases rx
  cases ry
  obtain ⟨its, r1, p1, _⟩ := I.tuple ha
  obtain ⟨its2, r2, p2, _⟩ := I.tuple hb
  have i1 : PyProof.Rows.IntsAre its ns := Vals.ints r1
  have i2 : PyProof.Rows.IntsAre its2 ms := Vals.ints r2
  have e1 : its.toArray.size = ns.length := by rw [List.size_toArray]; exact i1.length
  have e2 : its2.toArray.size = ms.length := by rw [List.size_toArray]; exact i2.length
  have at1 : ∀ j (h1 : j < its.toArray.size), ∃ t, its.toArray[j] = .int (ns.getD j 0) t := fun j h1 => PyProof.Rows.IntsAre.int_at i1 _ _ (by simp at h1; simp [h1])
  have at2 : ∀ j (h1 : j < its2.toArray.size), ∃ t, its2.toArray[j] = .int (ms.getD j 0) t := fun j h1 => PyProof.Rows.IntsAre.int_at i2 _ _ (by simp at h1; simp [h1])
  have R := htup (s := s) (e := fun j => decide (ns.getD j 0 = ms.getD j 0)) (q := fun j => r (ns.getD j 0) (ms.getD j 0)) p1 p2 (fun j h1 h2 => by
    obtain ⟨t, et⟩ := at1 j h1
    obtain ⟨t', et'⟩ := at2 j h2
    rw [et, et']
    have z : (ns.getD j 0 == ms.getD j 0) = decide (ns.getD j 0 = ms.getD j 0) := by
      by_cases q : ns.getD j 0 = ms.getD j 0
      · rw [decide_eq_true q]; exact beq_iff_eq.mpr q
      · rw [decide_eq_false q]; exact beq_eq_false_iff_ne.mpr q
    rw [← z]
    exact SeqAt.EqAt.int_int _ _ _ _) (fun j h1 h2 _ => by
    obtain ⟨t, et⟩ := at1 j h1
    obtain ⟨t', et'⟩ := at2 j h2
    rw [et, et']
    exact hint _ _ _ _ _ _)
  rw [e1, e2, lexAt_lx r z hz] at R
  exact hco R ⟨.bl _, H, I, rfl, q⟩
theorem op_gtT {X : Cx} (hu : X.A.units < cLine) : OpR X (compareOp .Gt) (rCT X.K (fun a b => decide (b < a)) (fun a b => decide (a > b))) :=
  op_cT (fun a b => by simp) (fun R h => R _ _ _ _ h) (fun _ _ a b t u => Ob.RcOp.gt_int a b t u) fun h1 h2 h3 h4 => Ob.RcOp.tuples_gt h1 h2 hu h3 h4
theorem op_ltT2 {X : Cx} (hu : X.A.units < cLine) : OpR X (compareOp .Lt) (rCT X.K (fun a b => decide (a < b)) (fun a b => decide (a < b))) :=
  op_cT (fun a b => by simp) (fun R h => R _ _ _ _ h) (fun _ _ a b t u => Ob.RcOp.lt_int a b t u) fun h1 h2 h3 h4 => Ob.RcOp.tuples_lt h1 h2 hu h3 h4
theorem op_leT2 {X : Cx} (hu : X.A.units < cLine) : OpR X (compareOp .LtE) (rCT X.K (fun a b => decide (a ≤ b)) (fun a b => decide (a ≤ b))) :=
  op_cT (fun a b => by simp) (fun R h => R _ _ _ _ h) (fun _ _ a b t u => Ob.RcOp.le_int a b t u) fun h1 h2 h3 h4 => Ob.RcOp.tuples_le h1 h2 hu h3 h4
theorem op_geT {X : Cx} (hu : X.A.units < cLine) : OpR X (compareOp .GtE) (rCT X.K (fun a b => decide (b ≤ a)) (fun a b => decide (a ≥ b))) :=
  op_cT (fun a b => by simp) (fun R h => R _ _ _ _ h) (fun _ _ a b t u => Ob.RcOp.ge_int a b t u) fun h1 h2 h3 h4 => Ob.RcOp.tuples_ge h1 h2 hu h3 h4
def oCT (r : Int → Int → Bool) (z : Nat → Nat → Bool) : O2 := fun x y ah => okO (asT x) fun xs => okO (mapO asI xs) fun ns => okO (asT y) fun ys => okO (mapO asI ys) fun ms => .ok (.bl (lxT r z ns ms), ah)
theorem ok_cT {K : PySem.W.Frag} {mg : Str → Option Value} {E : XW} {r : Int → Int → Bool} {z : Nat → Nat → Bool} : OK2 K mg E (rCT K r z) (oCT r z) := fun ι H ah d v e u Q S rv ru p => by
  unfold oCT at p
  obtain ⟨xs, h1, p⟩ := p.okO
  obtain ⟨ns, h2, p⟩ := p.okO
  obtain ⟨ys, h3, p⟩ := p.okO
  obtain ⟨ms, h4, p⟩ := p.okO
  obtain ⟨a, vs, e1, q1, r1⟩ := asT_rep rv h1
  obtain ⟨b, us, e2, q2, r2⟩ := asT_rep ru h3
  rw [mapO_int h2] at r1
  rw [mapO_int h4] at r2
  rw [repsI_eq r1] at q1
  rw [repsI_eq r2] at q2
  exact ⟨a, b, ns, ms, e1, e2, q1, q2, p.here S of_bl⟩
def oGtT : O2 := oCT (fun a b => decide (b < a)) (fun a b => decide (a > b))
def oLtT : O2 := oCT (fun a b => decide (a < b)) (fun a b => decide (a < b))
def oLeT : O2 := oCT (fun a b => decide (a ≤ b)) (fun a b => decide (a ≤ b))
def oGeT : O2 := oCT (fun a b => decide (b ≤ a)) (fun a b => decide (a ≥ b))
section
variable {X : Cx} {E : XW} {a b : Expr} {Fa Fb : FV} {pos : Pos}
theorem fgtT (hu : X.A.units + 64 < cLine) (ha : FE X E a Fa) (hb : FE X E b Fb) : FE X E (.Compare a [.Gt] [b] pos) (e2 oGtT Fa Fb) := fcmp (op_gtT (by omega)) ok_cT ha hb (nomark _)
theorem fltT (hu : X.A.units + 64 < cLine) (ha : FE X E a Fa) (hb : FE X E b Fb) : FE X E (.Compare a [.Lt] [b] pos) (e2 oLtT Fa Fb) := fcmp (op_ltT2 (by omega)) ok_cT ha hb (nomark _)
theorem fleT (hu : X.A.units + 64 < cLine) (ha : FE X E a Fa) (hb : FE X E b Fb) : FE X E (.Compare a [.LtE] [b] pos) (e2 oLeT Fa Fb) := fcmp (op_leT2 (by omega)) ok_cT ha hb (nomark _)
theorem fgeT (hu : X.A.units + 64 < cLine) (ha : FE X E a Fa) (hb : FE X E b Fb) : FE X E (.Compare a [.GtE] [b] pos) (e2 oGeT Fa Fb) := fcmp (op_geT (by omega)) ok_cT ha hb (nomark _)
theorem tgtT (hu : X.A.units + 64 < cLine) (ha : FE X E a Fa) (hb : FE X E b Fb) : FT X E (.Compare a [.Gt] [b] pos) (bT (e2 oGtT Fa Fb)) := tcmp (op_gtT (by omega)) ok_cT ha hb (nomark _)
theorem tltT (hu : X.A.units + 64 < cLine) (ha : FE X E a Fa) (hb : FE X E b Fb) : FT X E (.Compare a [.Lt] [b] pos) (bT (e2 oLtT Fa Fb)) := tcmp (op_ltT2 (by omega)) ok_cT ha hb (nomark _)
theorem tleT (hu : X.A.units + 64 < cLine) (ha : FE X E a Fa) (hb : FE X E b Fb) : FT X E (.Compare a [.LtE] [b] pos) (bT (e2 oLeT Fa Fb)) := tcmp (op_leT2 (by omega)) ok_cT ha hb (nomark _)
theorem tgeT (hu : X.A.units + 64 < cLine) (ha : FE X E a Fa) (hb : FE X E b Fb) : FT X E (.Compare a [.GtE] [b] pos) (bT (e2 oGeT Fa Fb)) := tcmp (op_geT (by omega)) ok_cT ha hb (nomark _)
end
end Fx

/-! ===== Fx27 -/
set_option Elab.async false
set_option linter.all false
set_option maxRecDepth 100000
set_option maxHeartbeats 4000000
namespace Fx
open PySem PySem.Spec PyProof.Rows L2
/-! ### a def called with defaults left out, or by keywords -/
section
variable (P : Program) (w : World) (K : PySem.W.Frag) (mg : Str → Option Value) (base : Heap)
structure Dkd (k : Nat) (x : Str) (n : Nat) (m : Mf) : Prop where
  to : ∃ f fd ps ds dvs sp, FnG P w K mg base (L2.CX P w) k f fd ps sp ∧ mg x = some (.ref f) ∧ PySem.W.keepIn K (.ref f) = true ∧ Binds K fd ps ds ∧ Vals dvs ds ∧ ∀ vs H Q E, spT K mg n m vs H Q E → sp (vs ++ dvs) H Q E
structure Dkw (k : Nat) (x : Str) (np : Nat) (ks : List Str) (n : Nat) (m : Mf) : Prop where
  to : ∃ f fd ps g gV sp, FnG P w K mg base (L2.CX P w) k f fd ps sp ∧ mg x = some (.ref f) ∧ PySem.W.keepIn K (.ref f) = true ∧ KBn K fd ps np ks g gV ∧ ∀ vs zs H Q E, vs.length = np → zs.length = ks.length → spT K mg n m (vs ++ zs) H Q E → sp (gV vs zs) H Q E
end
section
variable {P : Program} {w : World} {K : PySem.W.Frag} {mg : Str → Option Value} {base : Heap} {j k n np : Nat} {ks : List Str} {m : Mf} {x : Str}
theorem Dkd.mono (d : Dkd P w K mg base j x n m) (h : j ≤ k) : Dkd P w K mg base k x n m := by
  obtain ⟨f, fd, ps, ds, dvs, sp, F, r⟩ := d.to
  exact ⟨f, fd, ps, ds, dvs, sp, F.mono h, r⟩
theorem Dkw.mono (d : Dkw P w K mg base j x np ks n m) (h : j ≤ k) : Dkw P w K mg base k x np ks n m := by
  obtain ⟨f, fd, ps, g, gV, sp, F, r⟩ := d.to
  exact ⟨f, fd, ps, g, gV, sp, F.mono h, r⟩
/-- a def with keyword-only defaults, known by its own promise -/
structure Dko (P : Program) (w : World) (K : PySem.W.Frag) (mg : Str → Option Value) (base : Heap) (k : Nat) (x : Str) (st : Stmt) (kws : List (Str × V)) (ps : List Str) (n : Nat) (m : Mf) : Prop where
  to : ∃ f fd, FunD K x x (defArgs st) (defBody st) (defScope st) [] kws f fd ∧ mg x = some (.ref f) ∧ FnG P w K mg base (L2.CX P w) k f fd ps (spT K mg n m)
theorem Dko.mono {st : Stmt} {kws : List (Str × V)} {ps : List Str} (d : Dko P w K mg base j x st kws ps n m) (h : j ≤ k) : Dko P w K mg base k x st kws ps n m := by
  obtain ⟨f, fd, F, hm, G⟩ := d.to
  exact ⟨f, fd, F, hm, G.mono h⟩
theorem sp_app {dds : List D} {dvs : List V} (hd : ∀ ι H, Reps K mg ι H dds dvs) {vs : List V} {H : Hp} {Q : VK} {E : XK} (h : spT K mg n (fun ds ah => m (ds ++ dds) ah) vs H Q E) : spT K mg (n + dds.length) m (vs ++ dvs) H Q E := by
  obtain ⟨ι, ah, ds, S, rs, hl, p⟩ := h
  exact ⟨ι, ah, ds ++ dds, S, reps_app rs (hd ι H), by rw [List.length_append, hl], p⟩
theorem Dko.dfl {st : Stmt} {kws : List (Str × V)} {ps : List Str} (d : Dko P w K mg base k x st kws ps (n + dds.length) m) (hk : kws ≠ []) (hn : n + kws.length = ps.length) (hd : ∀ ι H, Reps K mg ι H dds (kws.map (·.2)))
    (h : ∀ (D : Addr) (doc pm : Value) (an : Option Addr) (cdv ct : Value) (us ks : List Value), us.length = n → ks.length = kws.length →
      KwChain D ((kws.map (·.1)).zip ks) (bindArgs (PySem.W.fnOf x x (defArgs st) (defBody st) (defScope st) .none (.ref D) doc pm an cdv ct) ⟨us, []⟩) (ps.zip (us ++ ks))) : Dkd P w K mg base k x n (fun ds ah => m (ds ++ dds) ah) := by
  obtain ⟨f, fd, F, hm, G⟩ := d.to
  obtain ⟨ds, r, b⟩ := F.binds0 n hk hn h
  exact ⟨f, fd, ps, ds, _, _, G, hm, F.kp, b, r, fun vs H Q E h => sp_app hd h⟩
theorem Dko.kw {st : Stmt} {kws : List (Str × V)} {ps : List Str} (d : Dko P w K mg base k x st kws ps n m) (np : Nat) (ks : List Str) (hk : kws ≠ [])
    (h : ∀ (D : Addr) (doc pm : Value) (an : Option Addr) (cdv ct : Value) (us mv ws : List Value), us.length = np → mv.length = 0 → ws.length = ks.length →
      KwChain D ((([] : List (Str × V)).map (·.1)).zip mv) (bindArgs (PySem.W.fnOf x x (defArgs st) (defBody st) (defScope st) .none (.ref D) doc pm an cdv ct) ⟨us, ks.zip ws⟩) (ps.zip (us ++ ws))) : Dkw P w K mg base k x np ks n m := by
  obtain ⟨f, fd, F, hm, G⟩ := d.to
  obtain ⟨mv, b⟩ := F.kbinds0 np ks [] (fun vs _ zs => vs ++ zs) hk (fun q hq => by cases hq) (fun r1 _ r2 => r1.append r2) h
  exact ⟨f, fd, ps, _, _, _, G, hm, F.kp, b, fun vs zs H Q E _ _ h => h⟩
end
abbrev FK (X : Cx) (E : XW) (e : List Keyword) (F : FL) : Prop := PK X e (TFl X.K X.mg E F)
theorem PK.mono {X : Cx} {e : List Keyword} {t t' : TA} (h : PK X e t) (w : ∀ σ H Q, t' σ H Q → t σ H Q) : PK X e t' := ⟨fun pos pins s σ H Q I q => h.run pos pins s σ H Q I (w _ _ _ q)⟩
section
variable {X : Cx} {E : XW} {a : Expr} {as : List Expr} {kws : List Keyword} {Fa : FV} {Fl Fk Fr : FL} {k n np : Nat} {x : Str} {m : Mf} {p pos kpos : Pos} {ks : List Str} {nm : Option Str}
theorem fknil : FK X E [] lNil := PK.mono pk_nil fun σ H Q h => by
  obtain ⟨ι, env, ah, a, p⟩ := h
  exact p.here a.1 of_nil
theorem fkcons (ha : FE X E a Fa) (hr : FK X E kws Fr) : FK X E (⟨nm, a, kpos⟩ :: kws) (lCons Fa Fr) := PK.mono (pk_cons ha hr) fun σ H Q h => by
  obtain ⟨ι, env, ah, a, p⟩ := h
  refine ⟨ι, env, ah, a, Po.first p fun d ah1 ι1 H1 v _ s S rv q => ?_⟩
  refine ⟨ι1, env, ah1, a.step s S, Po.first q fun ds ah2 ι2 H2 vs _ t T rs q2 => ?_⟩
  exact q2.here T (of_cons (t.rep d rv) rs)
/-- left out: the defaults -/
theorem fdcallD (d : Dkd X.prog X.w X.K X.mg X.base k x n m) (hr : RG k X.A) (tk : ∀ σ, PassesAt (L2.CX X.prog X.w) X σ (WE E σ)) (ha : FA X E (a :: as) Fl) (hg : Gl X x := by rfl) (hp : Pl X a as pos := by exact ⟨rfl, rfl⟩) (hdb : (x == ("__debug__" : Str)) = false := by decide)
    : FE X E (.Call (.Name x p) (a :: as) [] pos) (dCall m (lenB n Fl)) := by
  obtain ⟨f, fd, ps, ds0, dvs, sp, F, hm, hk, hb, hd, hs⟩ := d.to
  refine PE.mono (pe_callG F hr hg hm hk hb hd tk ha hdb hp.he hp.hpl) fun σ H Q h => ?_
  obtain ⟨ι, env, ah, a, p⟩ := h
  unfold dCall lenB at p
  rw [len_bind] at p
  refine ⟨ι, env, ah, a, Po.first p fun ds ah1 ι1 H1 vs e s S rs q => ?_⟩
  exact hs _ _ _ _ (sp_dyn (a.step s S) rs q)
def lApp (np nk : Nat) (l lk : FL) : FL := fun env ah => (l env ah).bind fun z => okB (Nat.beq z.1.length np) ((lk env z.2).bind fun y => okB (Nat.beq y.1.length nk) (.ok (z.1 ++ y.1, y.2)))
def tCallW (np nk : Nat) (sp : Sp) (gV : List V → List V → List V) (E : L2.St → XK) (t tk : TA) : TE := fun σ H Q => t σ H fun vs H1 => tk σ H1 fun zs H2 => vs.length = np ∧ zs.length = nk ∧ sp (gV vs zs) H2 Q (E σ)
theorem pe_callW {CX : CXT} {f : Addr} {fd : FuncData} {ps : List Str} {sp : Sp} {E : L2.St → XK} {t tk : TA} {g : List Value → List Value → List Value} {gV : List V → List V → List V} (F : FnG X.prog X.w X.K X.mg X.base CX k f fd ps sp) (hr : RG k X.A) (hg : Gl X x) (hm : X.mg x = some (.ref f)) (hk : PySem.W.keepIn X.K (.ref f) = true) (hb : KBn X.K fd ps n ks g gV) (hx : ∀ σ, PassesAt CX X σ (E σ))
    (ha : PA X (a :: as) t) (hkw : PK X kws tk) (hall : (backToKw pos (keywordEach kws X.env)).all (·.1.isSome) = true := by rfl) (hks : (backToKw pos (keywordEach kws X.env)).filterMap (·.1) = ks := by rfl)
    (hdb : (x == ("__debug__" : Str)) = false := by decide) (he : starEach (a :: as) X.env = (false, eval a X.env) :: starEach as X.env := by rfl)
    (hpl : ((backTo pos (starEach (a :: as) X.env)).any (·.1) || (backToKw pos (keywordEach kws X.env)).any (·.1.isNone)) = false := by rfl) :
    PE X (.Call (.Name x p) (a :: as) kws pos) (tCallW n ks.length sp gV E t tk) := by
  refine ⟨fun pins s σ H Q I h => ?_⟩
  refine wpAny_Call_Name_kw (ld_glob I hg hm ?_ hdb)
  refine PySem.W.callWith_KW (h₀ := X.base) I.ok.mod.kin hk hall (thn (ha.run pos pins s σ H _ I h) fun us s1 ⟨vs, H1, I1, r, q⟩ => ?_) hpl he
  refine thn (hkw.run pos pins s1 σ H1 _ I1 q) fun ws s2 ⟨zs, H2, I2, rz, l1, l2, q2⟩ => ⟨I2.kIn, ?_⟩
  rw [hks]
  have r2 := hb.rel r rz
  refine wpAny_call (codeAny_mono (F.run X.A X.stack s2 H2 ⟨us, ks.zip ws⟩ (g us ws) (gV vs zs) Q (E σ) hr I2.env0 (hb.to s2 us ws I2.kIn (r.length.symm.trans l1) (rz.length.symm.trans l2)) r2 q2) fun r s' hq => ?_)
  cases r with
  | error e => exact hx σ pins H2 s2 e s' I2 hq
  | ok fl =>
    cases fl with
    | ret u => exact I2.after hq
    | next => exact False.elim hq
    | brk => exact False.elim hq
    | cont => exact False.elim hq
theorem lApp_bind {α : Type} {nk : Nat} {l lk : FL} {env : Env} {ah : AH} {f : List D × AH → R α} : (lApp np nk l lk env ah).bind f = (l env ah).bind fun z => okB (Nat.beq z.1.length np) ((lk env z.2).bind fun y => okB (Nat.beq y.1.length nk) (f (z.1 ++ y.1, y.2))) := by
  unfold lApp
  cases l env ah with
  | stk => rfl
  | exc x e h => rfl
  | ok z =>
    show (okB (Nat.beq z.1.length np) _ : R _).bind _ = okB (Nat.beq z.1.length np) _
    cases Nat.beq z.1.length np with
    | false => rfl
    | true =>
      show ((lk env z.2).bind _).bind _ = (lk env z.2).bind _
      cases lk env z.2 with
      | stk => rfl
      | exc x e h => rfl
      | ok y =>
        show (okB (Nat.beq y.1.length nk) _ : R _).bind _ = okB (Nat.beq y.1.length nk) _
        cases Nat.beq y.1.length nk <;> rfl
theorem fdcallW (d : Dkw X.prog X.w X.K X.mg X.base k x np ks n m) (hr : RG k X.A) (tk : ∀ σ, PassesAt (L2.CX X.prog X.w) X σ (WE E σ)) (ha : FA X E (a :: as) Fl) (hkw : FK X E kws Fk) (hg : Gl X x := by rfl)
    (hall : (backToKw pos (keywordEach kws X.env)).all (·.1.isSome) = true := by rfl) (hks : (backToKw pos (keywordEach kws X.env)).filterMap (·.1) = ks := by rfl)
    (hdb : (x == ("__debug__" : Str)) = false := by decide) (he : starEach (a :: as) X.env = (false, eval a X.env) :: starEach as X.env := by rfl)
    (hpl : ((backTo pos (starEach (a :: as) X.env)).any (·.1) || (backToKw pos (keywordEach kws X.env)).any (·.1.isNone)) = false := by rfl)
    : FE X E (.Call (.Name x p) (a :: as) kws pos) (dCall m (lenB n (lApp np ks.length Fl Fk))) := by
  obtain ⟨f, fd, ps, g, gV, sp, F, hm, hk, hb, hs⟩ := d.to
  refine PE.mono (pe_callW F hr hg hm hk hb tk ha hkw hall hks hdb he hpl) fun σ H Q h => ?_
  obtain ⟨ι, env, ah, a, p⟩ := h
  unfold dCall lenB at p
  rw [len_bind] at p
  rw [lApp_bind] at p
  refine ⟨ι, env, ah, a, Po.first p fun ds ah1 ι1 H1 vs e s S rs q => ?_⟩
  obtain ⟨l1, q⟩ := q.okB
  refine ⟨ι1, env, ah1, a.step s S, Po.first q fun es ah2 ι2 H2 us e2 t T rt q => ?_⟩
  obtain ⟨l2, q⟩ := q.okB
  refine ⟨by rw [reps_len rs]; exact Nat.eq_of_beq_eq_true l1, by rw [reps_len rt]; exact Nat.eq_of_beq_eq_true l2, hs _ _ _ _ _ (by rw [reps_len rs]; exact Nat.eq_of_beq_eq_true l1) (by rw [reps_len rt]; exact Nat.eq_of_beq_eq_true l2) ?_⟩
  exact sp_dyn ((a.step s S).step t T) (reps_app (t.reps ds rs) rt) q
end
/-! ### such defs, as the head finds them -/
def FDo (K : PySem.W.Frag) (mg : Str → Option Value) (x : Str) (st : Stmt) (kws : List (Str × V)) : Prop := ∃ f fd, FunD K x x (defArgs st) (defBody st) (defScope st) [] kws f fd ∧ mg x = some (.ref f)
section
open He
variable {fa : List Fa} {fn : List DefD} {ts : List Tab} {w : World} {K : PySem.W.Frag} {mg : Str → Option Value} {h : Heap}
theorem fo_of (X : K.In h) (G : h.Ns mainGlobals mg) (c : SaysD fa fn K) (i : Nat) {x : Str} {st : Stmt} {kwd : List (Str × Dv)} {kws : List (Str × V)} (hd : fn[i]? = some ⟨(x, none), x, x, defArgs st, defBody st, defScope st, [], kwd⟩) (hg : Fa.glo x ∈ fa) (hq : kwd.map (fun q => (q.1, q.2.v K)) = kws) : FDo K mg x st kws := by
  obtain ⟨fd, F⟩ := c.def_ i hd
  subst hq
  exact ⟨_, fd, F, glo_ok X G (saysMem c hg)⟩
end
end Fx

/-! ===== Fx28 -/
set_option Elab.async false
set_option linter.all false
set_option maxRecDepth 100000
set_option maxHeartbeats 4000000
namespace Fx
open PySem PySem.Spec PyProof.Rows L2
/-! ### name = {k: v for ..} -/
theorem ps_setDc {X : Cx} {i : Nat} {y : Str} {py : Pos} {kx vx tg iter : Expr} {ifs : List Expr} {scope : Scope} {own : List (Str × Nat)} {pos spos : Pos} {wi : TI} {g : TG} {tt : TT} {tk tv : TE} (hc : X.calm = true) (hN : X.N.Nodup) (hy : X.N[i]? = some y) (hyl : X.env.scope.names.lookup y = some .local)
    (hsw : swapsWith (.DictComp kx vx [⟨tg, iter, ifs, 0⟩] scope pos) (some (.Name y py)) spos.line X.env = pure true) (hi : PI X tg iter wi) (ok : BlkOk X.N X.env.scope scope own)
    (hg : ∀ (s : Shared) (H : Hp) (C : Addr) (cl : List (Str × Addr)) (fp : List Addr), PG (X.blk s H scope (compEnvC scope cl C X.env) fp) tg g) (ht : ∀ (s : Shared) (H : Hp) (C : Addr) (cl : List (Str × Addr)) (fp : List Addr), PTs (X.blk s H scope (compEnvC scope cl C X.env) fp) ifs tt)
    (hk : ∀ (s : Shared) (H : Hp) (C : Addr) (cl : List (Str × Addr)) (fp : List Addr), PE (X.blk s H scope (compEnvC scope cl C X.env) fp) kx tk)
    (he : ∀ (s : Shared) (H : Hp) (C : Addr) (cl : List (Str × Addr)) (fp : List Addr), PE (X.blk s H scope (compEnvC scope cl C X.env) fp) vx tv) (hs : ∀ x, foldedSetIterable iter X.env x = pure x := by intro _; rfl) :
    PS X (.Assign [.Name y py] (.DictComp kx vx [⟨tg, iter, ifs, 0⟩] scope pos) spos) (tAsg (tDc wi g tt tk tv (own.map (·.2))) (gName i)) := by
  refine ⟨fun pins s σ H D I h => ?_⟩
  rw [exec_Assign_Name_used _ _ _ _ hsw]
  refine wpAny_bind (wpAny_standAt (wpAny_bind ?_))
  show wpAny _ X.A (do let _ ← comprehension (.DictComp kx vx [⟨tg, iter, ifs, 0⟩] scope pos) scope X.env (firstIterPos [⟨tg, iter, ifs, 0⟩] pos) newDict false (eval iter X.env) (some (assign (.Name y py) X.env))) _ _ s
  have h : tDc wi g tt tk tv (own.map (·.2)) σ H (fun x H1 => gName i x σ H1 D.nx) := h
  refine wpAny_bind (thn (dc_core (Qf := fun _ s' => SP X pins D .next s') hc hN I hi ok hg ht hk he hs h fun L C s' m H' I' q hn f => ?_) fun _ s' hq => wpAny_pure (wpAny_pure hq))
  show wpAny _ _ (assign (.Name y py) X.env (.ref L)) _ _ _
  refine wpAny_assign_Name (store_ok2 (v := V.ref L) I' hN hy (.inl hyl) rfl (fun s2 I2 ⟨a, sb, ha⟩ => ?_) (.inr hyl))
  obtain ⟨f0, f1, f2, f3, f4, f5⟩ := f
  have haC : C ≠ a := by
    rcases ha with z | z
    · rw [z]; exact f1
    · exact fun e => f4 y a z e.symm
  refine ⟨m, hn.sameBut sb haC, fun h3 sb3 => ?_⟩
  exact ⟨_, H', I2.turned (t' := s2.toks) (fun b o hb e => (sb3.2 b hb).trans e) f0 f1 f3 f4 f5, q⟩
theorem sw_trueD {kx vx : Expr} {gs : List Comprehension} {scope : Scope} {pos py : Pos} {y : Str} {l : Nat} {env : PySem.Env} (hk : env.scope.kind = .function) (hy : env.scope.names.lookup y = some .local) (hl : (py.line == pos.line) = true)
    (ha : (scope.names.any fun (n, k) => n == y && (k == .local || k == .cell)) = false) : swapsWith (.DictComp kx vx gs scope pos) (some (.Name y py)) l env = pure true := by
  have ky : env.kindOf y = some .local := hy
  have hb : env.blockKind = .function := by unfold PySem.Env.blockKind; rw [hk]; rfl
  unfold swapsWith
  simp only [hb, ky, ha, Expr.pos, hl]
  rfl
section
variable {X : Cx} {E : XW} {kx vx tg iter : Expr} {scope : Scope} {pos : Pos} {I : FI0} {Sl : List Nat} {G : FG0} {T : FB} {Fk Fv : FV}
theorem sdc (i : Nat) (cc : Bool) (own : List (Str × Nat)) {ifs : List Expr} {y : Str} {py spos : Pos} (hc : X.calm = true) (hN : X.N.Nodup) (hi : FI X E tg iter I) (ok : BlkOk X.N X.env.scope scope own)
    (hg : ∀ s H C cl fp, FG (Bk X scope s H C cl fp) E0w tg Sl G) (ht : ∀ s H C cl fp, FTs (Bk X scope s H C cl fp) E0w ifs T) (hk : ∀ s H C cl fp, FE (Bk X scope s H C cl fp) E0w kx Fk) (he : ∀ s H C cl fp, FE (Bk X scope s H C cl fp) E0w vx Fv)
    (hsw : swapsWith (.DictComp kx vx [⟨tg, iter, ifs, 0⟩] scope pos) (some (.Name y py)) spos.line X.env = pure true)
    (hy : X.N[i]? = some y := by rfl) (hyl : X.env.scope.names.lookup y = some .local := by rfl) (hv : ∀ i ∈ Sl, i ∈ own.map (·.2) := by decide) (hs : ∀ x, foldedSetIterable iter X.env x = pure x := by intro _; rfl) :
    FS X E (.Assign [.Name y py] (.DictComp kx vx [⟨tg, iter, ifs, 0⟩] scope pos) spos) (sSet i (eDc cc I (own.map (·.2)) G T Fk Fv)) :=
  PS.mono (ps_setDc hc hN hy hyl hsw hi ok hg (fun s H C cl fp => (ht s H C cl fp).to) hk he hs) fun Dn σ H h => by
    obtain ⟨ι, env, ah, a, p⟩ := h
    refine tfDc hv ⟨ι, env, ah, a, Po.firstS p fun d ah1 ι1 H1 v _ s S rv q => ?_⟩
    exact q.ou ((a.step s S).set i rv)
end
end Fx

/-! ===== Fx30 -/
set_option Elab.async false
set_option linter.all false
set_option maxRecDepth 100000
set_option maxHeartbeats 4000000
namespace Fx
open PySem PySem.Spec PyProof.Rows L2
/-! ### exceptions of any base: what is asked of the built-in classes -/
/-- T.__init__ -/
structure InF (T initT : String) : Prop where
  pl : Slot T "__init__" initT
  en : entryFor table initT = some Builtin.«BaseException.__init__»
  sp : splitId initT = some (T, "__init__")
  ki : builtinKind initT = some .slot
  row : Manifest.signature? initT = some ⟨.positional, "*", T, .self, [⟨"args", .varPos, false⟩]⟩
  ns : (T != "*") = true
theorem InF.of {B newId initId : String} {bm : List Value} (F : ExcBaseFacts B newId initId bm) : InF B initId := ⟨F.init, F.initEntry, F.initSplit, F.initKind, F.initRow, F.noStar⟩
theorem inKey : InF "KeyError" "KeyError.__init__" := by
  refine ⟨?_, ?_, ?_, ?_, ?_, ?_⟩
  · exact .of (owner := "KeyError") (n := "__init__") (by rw [typeLookup_type, builtinLookup_eq_fast]; kernel_rfl) (by decide +kernel) (by decide +kernel) (by decide +kernel) (by first | exact .inl (by decide +kernel) | exact .inr (by decide +kernel)) (by rw [isSubtype_type]; kernel_rfl)
  · exact entryFor_alias (id' := "BaseException.__init__") (by rw [fastTable_eq_tree]; kernel_rfl) (by first | rfl | decide +kernel) (by decide +kernel) (by rw [fastTable_eq_tree]; kernel_rfl)
  · kernel_rfl
  · kernel_rfl
  · kernel_rfl
  · decide +kernel
theorem rfT_ind {tl : List Value} {p : List Value → Prop} (h0 : p tl) (h1 : ∀ c r, p r → p (.ref c :: r)) : ∀ l : List Value, rfT tl l = true → p l := by
  intro l
  induction l with
  | nil => intro e; have := of_decide_eq_true (show decide (tl = []) = true from e); rw [this] at h0; exact h0
  | cons a r ih =>
    intro e
    rcases Bool.or_eq_true_iff.mp (show (decide (a :: r = tl) || (isRf a && rfT tl r)) = true from e) with z | z
    · rw [of_decide_eq_true z]; exact h0
    · obtain ⟨z1, z2⟩ := Bool.and_eq_true_iff.mp z
      cases a with
      | ref c => exact h1 c r (ih z2)
      | _ => cases z1
theorem rfT_has {tl : List Value} (T : String) {b : Bool} (ht : tl.contains (.type T) = b) {l : List Value} (h : rfT tl l = true) : l.contains (.type T) = b :=
  rfT_ind (p := fun l => l.contains (.type T) = b) ht (fun c r ih => by rw [List.contains_cons, ih]; rfl) l h
theorem rfT_ref {tl : List Value} {sv : Value} (ht : refuseLoop sv "__setattr__" tl = pure ()) {l : List Value} (h : rfT tl l = true) : refuseLoop sv "__setattr__" l = pure () :=
  rfT_ind (p := fun l => refuseLoop sv "__setattr__" l = pure ()) ht (fun c r ih => by rw [refuseLoop_ref]; exact ih) l h
theorem rfT_ne {tl : List Value} (ht : tl.isEmpty = false) {l : List Value} (h : rfT tl l = true) : l.isEmpty = false :=
  rfT_ind (p := fun l => l.isEmpty = false) ht (fun _ _ _ => rfl) l h
/-- what is asked of the built-in base: made by newId (of the class B), T its last own class, with T.__init__ -/
structure BaF (B newId T initT : String) (tl : List Value) : Prop where
  nw : ∃ i0 m0, ExcBaseFacts B newId i0 m0
  ini : InF T initT
  hB : tl.contains (.type B) = true
  hT : tl.contains (.type T) = true
  hA : tl.contains (.type "AttributeError") = false
  hN : tl.contains (.type "NameError") = false
  hO : tl.contains (.type "object") = true
  ne : tl.isEmpty = false
  pas : ∀ sv : Value, refuseLoop sv "__setattr__" tl = pure ()
theorem baVal : BaF "ValueError" "ValueError.__new__" "ValueError" "ValueError.__init__" PySem.HandSPX.veTail := by
  refine ⟨⟨_, _, PySem.F.excBase_ValueError⟩, .of PySem.F.excBase_ValueError, ?_, ?_, ?_, ?_, ?_, ?_, fun sv => PySem.F.store_ValueError.passes sv⟩ <;> decide +kernel
theorem baKey : BaF "LookupError" "LookupError.__new__" "KeyError" "KeyError.__init__" keTl := by
  refine ⟨⟨_, _, PySem.F.excBase_LookupError⟩, inKey, ?_, ?_, ?_, ?_, ?_, ?_, fun sv => by kernel_rfl⟩ <;> decide +kernel
theorem baLook : BaF "LookupError" "LookupError.__new__" "LookupError" "LookupError.__init__" [.type "LookupError", .type "Exception", .type "BaseException", .type "object"] := by
  refine ⟨⟨_, _, PySem.F.excBase_LookupError⟩, .of PySem.F.excBase_LookupError, ?_, ?_, ?_, ?_, ?_, ?_, fun sv => PySem.F.store_LookupError.passes sv⟩ <;> decide +kernel
theorem baOver : BaF "OverflowError" "OverflowError.__new__" "OverflowError" "OverflowError.__init__" [.type "OverflowError", .type "ArithmeticError", .type "Exception", .type "BaseException", .type "object"] := by
  refine ⟨⟨_, _, PySem.F.excBase_OverflowError⟩, .of PySem.F.excBase_OverflowError, ?_, ?_, ?_, ?_, ?_, ?_, fun sv => PySem.F.store_OverflowError.passes sv⟩ <;> decide +kernel
theorem baRun : BaF "RuntimeError" "RuntimeError.__new__" "RuntimeError" "RuntimeError.__init__" [.type "RuntimeError", .type "Exception", .type "BaseException", .type "object"] := by
  refine ⟨⟨_, _, PySem.F.excBase_RuntimeError⟩, .of PySem.F.excBase_RuntimeError, ?_, ?_, ?_, ?_, ?_, ?_, fun sv => PySem.F.store_RuntimeError.passes sv⟩ <;> decide +kernel
end Fx

/-! ===== Fx31 -/
set_option Elab.async false
set_option linter.all false
set_option maxRecDepth 100000
set_option maxHeartbeats 4000000
namespace PySem
namespace FxE
open Builtin Builtin.ObjectAttr Fx
/-! ### making one -/
section
variable {B newId T initT : String} {tl : List Value}
variable {nm q : Str} {C N : Addr} {bs bm : List Value} {sn : List Str} {sub : List Value} {ab : Bool} {col : Option Bool} {dd : Option Addr} {k0 k1 k2 k3 k5 : Option Value}
/-- C's class object, of such a base -/
abbrev clO (nm q : Str) (C N : Addr) (bs bm : List Value) (sn : List Str) (sub : List Value) (ab : Bool) (col : Option Bool) (dd : Option Addr) (k0 k1 k2 k3 k5 : Option Value) (newId : String) : Obj := excClassObj nm q C N bs bm true sn sub ab col dd k0 k1 k2 k3 k5 newId
section
variable {M : Model} {A : Around} {Ex : Value → Shared → Prop} {hp : Heap} {gs : Array GenState} {dr : Drawn} {tk : Nat} {os : OsState}
theorem new_check (F : BaF B newId T initT tl) (hb : rfT tl bm = true) {as : List Value} {Q : Unit → Shared → Prop} (hC : hp.get? C = some (clO nm q C N bs bm sn sub ab col dd k0 k1 k2 k3 k5 newId)) (hq : Q () ⟨hp, gs, dr, tk, os⟩) :
    wpAny M A (checkBuiltinCall newId ⟨.ref C :: as, []⟩) Q Ex ⟨hp, gs, dr, tk, os⟩ := by
  obtain ⟨i0, m0, F0⟩ := F.nw
  have hin : (Value.ref C :: bm).contains (.type B) = true := by rw [List.contains_cons, rfT_has B F.hB hb, Bool.or_true]
  have hns := F0.noStar
  simp only [checkBuiltinCall, F0.newKind, F0.newSplit, F0.newRow]
  repeat (first | refine wpAny_loadPart_at hC ?_ | (refine wpAny_isSubtype_exc hC ?_; rw [hin]) | refine wpAny_staticBase_exc hC ?_ | refine wpAny_madeBy_exc hC ?_ | simp only [bne_self_eq_false, Bool.false_eq_true, if_false] | wp_step)
  exact hq
theorem ini_check (F : BaF B newId T initT tl) (hb : rfT tl bm = true) {e : Addr} {oe : Obj} {as : List Value} {Q : Unit → Shared → Prop} (hC : hp.get? C = some (clO nm q C N bs bm sn sub ab col dd k0 k1 k2 k3 k5 newId))
    (he : hp.get? e = some oe) (hk : oe.cls = .ref C) (hq : Q () ⟨hp, gs, dr, tk, os⟩) : wpAny M A (checkBuiltinCall initT ⟨.ref e :: as, []⟩) Q Ex ⟨hp, gs, dr, tk, os⟩ := by
  have hin : (Value.ref C :: bm).contains (.type T) = true := by rw [List.contains_cons, rfT_has T F.hT hb, Bool.or_true]
  have hns := F.ini.ns
  simp only [checkBuiltinCall, F.ini.ki, F.ini.sp, F.ini.row]
  repeat (first | (with_reducible refine wpAny_loadPart_at he ?_; rw [hk]) | with_reducible refine wpAny_loadPart_at hC ?_ | (with_reducible refine wpAny_isSubtype_exc hC ?_; rw [hin]) | wp_step)
  refine wpAny_onRaise ?_
  have st : ∀ (x y : String) (n : Nat), Bind.check ⟨.positional, "*", T, .self, [⟨"args", .varPos, false⟩]⟩ x y n (List.map (fun z => z.fst) ({ pos := Value.ref e :: as } : Args).kw) = pure () := fun x y n => check_star_args _ _ _ _ _ _
  rw [st]
  exact wpAny_pure hq
end
section
variable {pr : Program} {w : World} {A : Around} {Ex : Value → Shared → Prop} {R : Result → Shared → Prop} {hp : Heap} {gs : Array GenState} {dr : Drawn} {tk : Nat} {os : OsState}
theorem new_run (F : BaF B newId T initT tl) (hb : rfT tl bm = true) {as : List Value} (hC : hp.get? C = some (clO nm q C N bs bm sn sub ab col dd k0 k1 k2 k3 k5 newId)) (hl : as.length ≤ sizeLine)
    (hq : R (.ok (.ret (.ref (hp.objs.size + 1)))) ⟨(hp.push (PySem.W.kdv_tup as)).push (PySem.HandSPX.excO C hp.objs.size), gs, dr, tk, os⟩) : codeAny (model pr w) A (.builtin newId ⟨.ref C :: as, []⟩) R ⟨hp, gs, dr, tk, os⟩ := by
  obtain ⟨i0, m0, F0⟩ := F.nw
  have hends := F0.ends
  have inB : (Value.ref C :: bm).contains (.type B) = true := by rw [List.contains_cons, rfT_has B F.hB hb, Bool.or_true]
  have inA : (Value.ref C :: bm).contains (.type "AttributeError") = false := by rw [List.contains_cons, rfT_has "AttributeError" F.hA hb]; rfl
  have inN : (Value.ref C :: bm).contains (.type "NameError") = false := by rw [List.contains_cons, rfT_has "NameError" F.hN hb]; rfl
  refine codeAny_builtinAt F0.entry ?_
  unfold Builtin.«BaseException.__new__»
  refine wpAt_bind ?_
  show wpAt _ _ _ (stack >>= _) _ _ _
  refine wpAt_bind (wpAt_stack fun p below => wpAt_of_wpAny ?_)
  wp_walk
  refine wpAt_of_wpAny ?_
  rw [F0.owner]
  repeat (first | with_reducible refine wpAny_madeHere_exc F0.canon hC ?_ | with_reducible refine wpAny_loadPart_at hC ?_ | (with_reducible refine wpAny_isSubtype_exc hC ?_; first | rw [inB] | rw [inA] | rw [inN]) | wp_step)
  show R _ _
  rw [Heap.size_push]
  exact hq
theorem typ_call (F : BaF B newId T initT tl) (hb : rfT tl bm = true) {as : List Value} {fI : Addr} {Q : Fin → Shared → Prop} (hC : hp.get? C = some (clO nm q C N bs bm sn sub ab col dd k0 k1 k2 k3 k5 newId))
    (hi : PySem.W.Looks (model pr w) hp (typeLookup (.ref C) "__init__") (some (.ref fI))) (hbd : ∀ sv, PySem.W.Looks (model pr w) hp (bindSpecial (.ref fI) sv) (.ref fI, [sv])) (hl : as.length ≤ sizeLine)
    (hq : codeAny (model pr w) A (.call (.ref fI) ⟨.ref (hp.objs.size + 1) :: as, []⟩) (fun r s' => match r with | .ok (.ret v) => v = .none ∧ Q (.done (.ret (.ref (hp.objs.size + 1)))) s' | .ok _ => False | .error e => Ex e s')
      ⟨(hp.push (PySem.W.kdv_tup as)).push (PySem.HandSPX.excO C hp.objs.size), gs, dr, tk, os⟩) : wpAny (model pr w) A (Builtin.«type.__call__» ⟨.ref C :: as, []⟩) Q Ex ⟨hp, gs, dr, tk, os⟩ := by
  obtain ⟨i0, m0, F0⟩ := F.nw
  repeat (first | with_reducible refine wpAny_loadPart_at hC ?_ | with_reducible refine wpAny_madeBy_exc hC ?_ | wp_step)
  refine codeAny_call_builtin_code (Code.quiet_builtin _ F0.quiet) (new_check F hb hC ?_)
  refine new_run F hb hC hl ?_
  show wpAny _ _ _ _ _ _
  have kp : ∀ b o, hp.get? b = some o → ((hp.push (PySem.W.kdv_tup as)).push (PySem.HandSPX.excO C hp.objs.size)).get? b = some o := fun b o e => Heap.get?_push_of_some _ (Heap.get?_push_of_some _ e)
  have hC2 := kp _ _ hC
  have hg : ((hp.push (PySem.W.kdv_tup as)).push (PySem.HandSPX.excO C hp.objs.size)).get? (hp.objs.size + 1) = some (PySem.HandSPX.excO C hp.objs.size) := by heap_get
  have inC : (Value.ref C :: bm).contains (.ref C) = true := by simp
  have i1 := hi.keeps kp
  have b1 := (hbd (.ref (hp.objs.size + 1))).keeps kp
  unfold isInstance
  repeat (first | with_reducible refine wpAny_loadPart_at hg ?_ | (with_reducible refine wpAny_isSubtype_exc hC2 ?_; rw [inC]) | wp_step)
  show wpAny _ _ (typeLookup (.ref C) _) _ _ _
  refine i1.at ?_
  refine wpAny_holding (wpAny_bind (b1.at ?_))
  refine wpAny_bind (wpAny_call (codeAny_mono hq fun r s' z => ?_))
  rcases r with e | (v | _ | _ | _) <;> first | exact z | exact z.elim | skip
  obtain ⟨rfl, z⟩ := z
  first
    | exact wpAny_pure (wpAny_pure z)
    | (wp_walk; exact z)
theorem cls_call (F : BaF B newId T initT tl) (hb : rfT tl bm = true) {as : List Value} {fI : Addr} (hC : hp.get? C = some (clO nm q C N bs bm sn sub ab col dd k0 k1 k2 k3 k5 newId))
    (hi : PySem.W.Looks (model pr w) hp (typeLookup (.ref C) "__init__") (some (.ref fI))) (hbd : ∀ sv, PySem.W.Looks (model pr w) hp (bindSpecial (.ref fI) sv) (.ref fI, [sv])) (hl : as.length ≤ sizeLine)
    (hq : codeAny (model pr w) (A.under (.builtin "type.__call__" ⟨.ref C :: as, []⟩)) (.call (.ref fI) ⟨.ref (hp.objs.size + 1) :: as, []⟩) (PySem.W.InitBack (hp.objs.size + 1) R)
      ⟨(hp.push (PySem.W.kdv_tup as)).push (PySem.HandSPX.excO C hp.objs.size), gs, dr, tk, os⟩) : codeAny (model pr w) A (.call (.ref C) ⟨as, []⟩) R ⟨hp, gs, dr, tk, os⟩ := by
  have f1 := tc_lookup
  have f2 := tc_bind (.ref C)
  have hTy : (⟨hp, gs, dr, tk, os⟩ : Shared).TypeIs (.ref C) "type" := ⟨_, hC, rfl⟩
  refine codeAny_of_tree ?_
  show wpAny _ _ (callAny (.ref C) _) _ _ _
  repeat (any_goals (first | assumption | with_reducible refine wpAny_loadPart_at hC ?_ | wp_step))
  refine ⟨rfl, ?_⟩
  refine codeAny_call_builtin_at (Code.quiet_builtin _ (by decide +kernel)) entry_typeCall (wpAny_check_type_call_sub hC (typ_call F hb hC hi hbd hl ?_))
  refine codeAny_mono hq fun r s' z => ?_
  rcases r with e | (v | _ | _ | _) <;> exact z
/-- T.__init__(e, ..): its args are laid anew -/
theorem ini_run (F : BaF B newId T initT tl) (hb : rfT tl bm = true) {e t0 : Addr} {as : List Value} (hC : hp.get? C = some (clO nm q C N bs bm sn sub ab col dd k0 k1 k2 k3 k5 newId)) (he : hp.get? e = some (PySem.HandSPX.excO C t0)) (hl : as.length ≤ sizeLine)
    (hq : ∀ h' t1, (∀ b o, b ≠ e → hp.get? b = some o → h'.get? b = some o) → h'.get? e = some (PySem.HandSPX.excO C t1) → R (.ok (.ret .none)) ⟨h', gs, dr, tk, os⟩) : codeAny (model pr w) A (.call (.builtin initT) ⟨.ref e :: as, []⟩) R ⟨hp, gs, dr, tk, os⟩ := by
  refine codeAny_call_builtin F.ini.pl.plain F.ini.en (ini_check F hb hC he rfl ?_)
  wp_walk
  refine hq _ hp.objs.size (fun b o hne ho => ?_) ?_
  · rw [Heap.get?_update_other _ _ (Ne.symm hne)]; exact Heap.get?_push_of_some _ ho
  · rw [Heap.get?_update_self _ (Heap.get?_push_of_some _ he) rfl]; rfl
end
end
end FxE
end PySem

/-! ===== Fx32 -/
set_option Elab.async false
set_option linter.all false
set_option maxRecDepth 100000
set_option maxHeartbeats 4000000
/-! ### self.f = v on such an exception -/
namespace PySem
namespace FxE
open Builtin Builtin.ObjectAttr Fx
/-- what the class's mro must bear for a store -/
structure MroS (l : List Value) : Prop where
  pas : ∀ sv : Value, refuseLoop sv "__setattr__" l = pure ()
  hO : l.contains (.type "object") = true
  ne : l.isEmpty = false
theorem mroS {B newId T initT : String} {tl bm : List Value} {C : Addr} (F : BaF B newId T initT tl) (hb : rfT tl bm = true) : MroS (.ref C :: bm) :=
  ⟨fun sv => by rw [refuseLoop_ref]; exact rfT_ref (F.pas sv) hb, by rw [List.contains_cons, rfT_has "object" F.hO hb, Bool.or_true], rfl⟩
section
variable {pr : Program} {w : World} {A : Around} {Ex : Value → Shared → Prop} {R : Result → Shared → Prop} {hp : Heap} {gs : Array GenState} {dr : Drawn} {tk0 : Nat} {os : OsState}
variable {K : W.Frag} {nm : Str} {tk : Tok} {v : Value} {x C dx : Addr} {fv : Array Value} {cd : ClassData}
/-- the first field: its dict is laid -/
theorem sto_new (X : K.In hp) (hx : hp.get? x = some { cls := .ref C, data := .fields fv }) (hcd : W.clsIn K C = some cd) (hm : MroS cd.mro) (hh : cd.hasDict = true) (ha : W.findIn K (.ref C) nm = some none)
    (hq : ∀ h' tk' dx, (∀ b o, b ≠ x → hp.get? b = some o → h'.get? b = some o) → hp.objs.size ≤ dx → dx ≠ x → h'.get? x = some { cls := .ref C, dict := some dx, data := .fields fv } →
      h'.Ns1 dx (fun y => if y = nm then some v else none) → R (.ok (.ret .none)) ⟨h', gs, dr, tk', os⟩) : codeAny (model pr w) A (.call (.builtin "object.__setattr__") ⟨[.ref x, .str nm tk, v], []⟩) R ⟨hp, gs, dr, tk0, os⟩ := by
  have I : W.InstAt hp x { cls := .ref C, data := .fields fv } C none := ⟨hx, rfl, rfl, trivial⟩
  have so := F.store_object
  have hxs : x ≠ hp.objs.size := Nat.ne_of_lt (Heap.lt_size hx)
  have isO : W.Looks (model pr w) hp (isInstance (.ref x) (.type "object")) true := I.type.andThen (W.looks_mroIn X (by unfold W.mroIn; rw [hcd, Option.bind_some, if_neg (by rw [hm.ne]; decide), hm.hO]))
  refine codeAny_call_builtin so.slot.plain so.entry (@W.check_slot (model pr w) _ _ ⟨hp, gs, dr, tk0, os⟩ "object.__setattr__" "object" "__setattr__" (.ref x) [.str nm tk, v] [] _ so.kind so.split isO (so.args (.ref x) (.str nm tk) v) ?_)
  have l1 : W.Looks (model pr w) hp (mroOf (.ref C)) cd.mro := (W.looks_clsIn X hcd).andThen .now
  have l2 : W.Looks (model pr w) hp (storeTaker? none) none := .now
  have l3 : W.Looks (model pr w) hp (classData C) cd := W.looks_clsIn X hcd
  rw [W.osa_eq, refuse_eq]
  refine wpAny_bind (wpAny_bind (I.type.at (wpAny_bind (l1.at ?_))))
  rw [hm.pas]
  refine wpAny_pure (wpAny_bind (I.type.at (wpAny_bind ((W.looks_findIn X ha).at (wpAny_bind (l2.at ?_))))))
  show wpAny _ _ (storeInOwnDict (.ref x) (.ref C) (.str nm tk) nm v false) _ _ _
  obtain ⟨z1, z2, z3, z4, z5, hd, z6, z7, z8, z9, z10⟩ := cd
  dsimp only at hh
  subst hh
  unfold storeInOwnDict ownDictForStores
  repeat (first | with_reducible refine PySem.HandSPX.store_in_new ?_ ?_ | with_reducible refine wpAny_loadPart_at hx ?_ | with_reducible refine l3.at ?_ | wp_step)
  · exact ⟨_, #[], _, (Heap.get?_update_ne _ _ _ _ hxs.symm).trans (Heap.get?_push_at rfl rfl), rfl, fun e he => absurd he (by simp), fun _ => rfl⟩
  · intro h' tk' hn' hs
    have hx2 : (hp.push { cls := .type "dict", data := .dict #[] }).get? x = some { cls := .ref C, data := .fields fv } := Heap.get?_push_of_some _ hx
    refine hq h' tk' hp.objs.size (fun b o hne ho => ?_) (Nat.le_refl _) hxs.symm ?_ hn'
    · exact (hs.2 b (Nat.ne_of_lt (Heap.lt_size ho))).trans ((Heap.get?_update_ne _ _ _ _ hne).trans (Heap.get?_push_of_some _ ho))
    · exact (hs.2 x hxs).trans (Heap.get?_update_self _ hx2 rfl)
/-- a further field -/
theorem sto_old {m0 : Str → Option Value} {nl : List Str} (X : K.In hp) (hx : hp.get? x = some { cls := .ref C, dict := some dx, data := .fields fv }) (hns : hp.Ns1 dx m0) (hw : Within m0 nl) (hz : nl.length ≤ 1000) (hcd : W.clsIn K C = some cd) (hm : MroS cd.mro)
    (hh : cd.hasDict = true) (ha : W.findIn K (.ref C) nm = some none)
    (hq : ∀ h' tk', (∀ b o, b ≠ dx → hp.get? b = some o → h'.get? b = some o) → h'.Ns1 dx (fun y => if y = nm then some v else m0 y) → R (.ok (.ret .none)) ⟨h', gs, dr, tk', os⟩) :
    codeAny (model pr w) A (.call (.builtin "object.__setattr__") ⟨[.ref x, .str nm tk, v], []⟩) R ⟨hp, gs, dr, tk0, os⟩ := by
  obtain ⟨oD, esD, epD, hoD, hdD, _⟩ := hns.count hw
  have I : W.InstAt hp x { cls := .ref C, dict := some dx, data := .fields fv } C (some oD) := ⟨hx, rfl, rfl, hoD⟩
  have so := F.store_object
  have isO : W.Looks (model pr w) hp (isInstance (.ref x) (.type "object")) true := I.type.andThen (W.looks_mroIn X (by unfold W.mroIn; rw [hcd, Option.bind_some, if_neg (by rw [hm.ne]; decide), hm.hO]))
  refine codeAny_call_builtin so.slot.plain so.entry (@W.check_slot (model pr w) _ _ ⟨hp, gs, dr, tk0, os⟩ "object.__setattr__" "object" "__setattr__" (.ref x) [.str nm tk, v] [] _ so.kind so.split isO (so.args (.ref x) (.str nm tk) v) ?_)
  have l1 : W.Looks (model pr w) hp (mroOf (.ref C)) cd.mro := (W.looks_clsIn X hcd).andThen .now
  have l2 : W.Looks (model pr w) hp (storeTaker? none) none := .now
  have l3 : W.Looks (model pr w) hp (classData C) cd := W.looks_clsIn X hcd
  rw [W.osa_eq, refuse_eq]
  refine wpAny_bind (wpAny_bind (I.type.at (wpAny_bind (l1.at ?_))))
  rw [hm.pas]
  refine wpAny_pure (wpAny_bind (I.type.at (wpAny_bind ((W.looks_findIn X ha).at (wpAny_bind (l2.at ?_))))))
  show wpAny _ _ (storeInOwnDict (.ref x) (.ref C) (.str nm tk) nm v false) _ _ _
  obtain ⟨z1, z2, z3, z4, z5, hd, z6, z7, z8, z9, z10⟩ := cd
  dsimp only at hh
  subst hh
  unfold storeInOwnDict ownDictForStores
  repeat (first | with_reducible refine PySem.OEX.store_in_old hns hw hz ?_ | with_reducible refine wpAny_loadPart_at hx ?_ | with_reducible refine l3.at ?_ | wp_step)
  intro h' tk' hn' hs
  exact hq h' tk' (fun b o hb ho => (hs.2 b hb).trans ho) hn'
end
end FxE
end PySem
namespace Fx
open PySem PySem.Spec PyProof.Rows L2
/-- what the written part says of an exception's class C with its last own base's __init__ -/
structure XcK (K : PySem.W.Frag) (C : Addr) (initT : String) : Prop where
  cls : ∃ nm q N bs bm sn sub ab col dd k0 k1 k2 k3 k5 B newId T tl, K.lookup C = some (PySem.FxE.clO nm q C N bs bm sn sub ab col dd k0 k1 k2 k3 k5 newId) ∧ rfT tl bm = true ∧ BaF B newId T initT tl
  sa : PySem.W.findIn K (.ref C) "__setattr__" = some (some (.builtin "object.__setattr__"))
  exC : PySem.W.subIn K (.ref C) (.type "BaseException") = some true
  tyC : PySem.W.typeIn K (.ref C) = some (.type "type")
  kC : PySem.W.keepIn K (.ref C) = true
section
variable {X : Cx} {pins : List (Addr × Obj)} {σ : L2.St} {H : Hp} {s : Shared} {a C dx : Addr} {f : Str} {y : V} {u : Value} {fs : List (Str × V)} {Q : Unit → Shared → Prop} {Ex : Value → Shared → Prop} {A : Around} {iT : String}
theorem xst_new (T : XcK X.K C iT) (I : Inv X pins σ H s) (e : H a = some (exo a C none)) (hno : PySem.W.findIn X.K (.ref C) f = some none) (ry : RelV y u)
    (h : ∀ dx s', H dx = none → dx ≠ a → Inv X pins σ (upd (upd H dx (exd dx [(f, y)])) a (exo a C (some dx))) s' → Q () s') : wpAny (model X.prog X.w) A (setAttr (.ref a) f u) Q Ex s := by
  obtain ⟨nm, q, N, bs, bm, sn, sub, ab, col, dd, k0, k1, k2, k3, k5, B, newId, T0, tl, hC, hbm, F⟩ := T.cls
  have hcl : PySem.W.clsIn X.K C = some { name := nm, bases := bs, mro := .ref C :: bm, ns := N, qualname := q, hasDict := true, slotNames := sn, subclasses := sub, abstract := ab, collection := col, hasDel := false } := by unfold PySem.W.clsIn; rw [hC] <;> rfl
  obtain ⟨t1, ho⟩ := exo_at I.hok e
  obtain ⟨hp, g, d, t, os⟩ := s
  refine PySem.W.set_plain I.kIn (ox := { cls := .ref C, dict := none, data := .fields #[.ref t1, .none, .none, .none, .bool false, .none] }) (od := none) ⟨ho, rfl, rfl, trivial⟩ T.sa ?_
  refine PySem.FxE.sto_new I.kIn ho hcl (PySem.FxE.mroS F hbm) rfl hno (fun h' tk' dx k dn dne hx hn => ?_)
  have hnd : H dx = none := I.hok.fresh dn
  have nd : ∀ {b : Addr} {o : Obj}, hp.get? b = some o → b ≠ dx := fun {b o} z => Nat.ne_of_lt (Nat.lt_of_lt_of_le (Heap.lt_size z) dn)
  have na : ∀ {b : Addr}, H b = none → b ≠ a := fun {b} n z => by rw [z, e] at n; cases n
  have U : Un X.fs [] H (upd (upd H dx (exd dx [(f, y)])) a (exo a C (some dx))) hp h' := by
    refine ⟨?_, ?_, ?_, ?_, ?_, ?_, ?_⟩
    · exact fun b o z n _ _ => k b o (na n) z
    · exact fun b o z n _ _ => ⟨o.slots, k b o (na n) z⟩
    · exact fun b o z n _ => by rw [upd_ne (na n), upd_ne (nd z)]; exact n
    · exact fun b o z _ => by
        by_cases hb : b = a
        · exact ⟨_, by rw [hb]; exact hx⟩
        · exact ⟨o, k b o hb z⟩
    · exact fun b xs z => by rw [upd_ne (at_ne e z exo_tup), upd_ne (ne_of_none z hnd)]; exact z
    · exact fun b o v z => by rw [upd_ne (at_ne e z exo_frz), upd_ne (ne_of_none z hnd)]; exact z
    · exact fun b ps z => ⟨#[], by rw [upd_ne (at_ne e z exo_tbl), upd_ne (ne_of_none z hnd), z]; simp⟩
  refine h dx _ hnd dne (I.un (t' := tk') U fun b o z => ?_)
  by_cases hb : b = a
  · subst hb; rw [upd_same] at z; cases z; exact exo_ok hx
  · rw [upd_ne hb] at z
    by_cases hd : b = dx
    · subst hd; rw [upd_same] at z; cases z
      exact exd_ok hn (relO_put (fs := []) ry fun g => True.intro)
    · rw [upd_ne hd] at z
      exact (I.hok b o z).stay (fun c v hc zz => k c v (by
          rcases hc with hc | hc
          · rw [hc]; exact hb
          · exact at_ne e hc exo_own) zz)
        (fun c hc => by rw [upd_ne (at_ne e hc exo_own), upd_ne (ne_of_none hc hnd)]; exact hc) (fun c xs hc => by rw [upd_ne (at_ne e hc exo_tup), upd_ne (ne_of_none hc hnd)]; exact hc)
theorem xst_old (T : XcK X.K C iT) (I : Inv X pins σ H s) (e : H a = some (exo a C (some dx))) (ed : H dx = some (exd dx fs)) (hl : fs.length ≤ 900) (hno : PySem.W.findIn X.K (.ref C) f = some none) (ry : RelV y u)
    (h : ∀ s', Inv X pins σ (upd H dx (exd dx ((f, y) :: fs))) s' → Q () s') : wpAny (model X.prog X.w) A (setAttr (.ref a) f u) Q Ex s := by
  obtain ⟨nm, q, N, bs, bm, sn, sub, ab, col, dd, k0, k1, k2, k3, k5, B, newId, T0, tl, hC, hbm, F⟩ := T.cls
  have hcl : PySem.W.clsIn X.K C = some { name := nm, bases := bs, mro := .ref C :: bm, ns := N, qualname := q, hasDict := true, slotNames := sn, subclasses := sub, abstract := ab, collection := col, hasDel := false } := by unfold PySem.W.clsIn; rw [hC] <;> rfl
  obtain ⟨t1, ho⟩ := exo_at I.hok e
  obtain ⟨mA, hns, rel⟩ := exd_at I.hok ed
  have hw := within_of rel
  obtain ⟨hp, g, d, t, os⟩ := s
  obtain ⟨oD, _, _, hoD, _, _⟩ := hns.count hw
  refine PySem.W.set_plain I.kIn (ox := { cls := .ref C, dict := some dx, data := .fields #[.ref t1, .none, .none, .none, .bool false, .none] }) (od := some oD) ⟨ho, rfl, rfl, hoD⟩ T.sa ?_
  refine PySem.FxE.sto_old I.kIn ho hns hw (by rw [List.length_map]; omega) hcl (PySem.FxE.mroS F hbm) rfl hno (fun h' tk' k hn => ?_)
  have hd : ∃ o, h'.get? dx = some o := by obtain ⟨o, _, _, e', _⟩ := hn; exact ⟨o, e'⟩
  exact h _ (I.write (t' := tk') (x := dx) (e := dx) (o := exd dx ((f, y) :: fs)) (by rw [ed]; exact True.intro) (.inl rfl) k hd (exd_ok hn (relO_put ry rel)))
theorem xin_ok {us : List Value} {Q : Value → Shared → Prop} (T : XcK X.K C iT) (I : Inv X pins σ H s) (e : H a = some (exo a C none)) (hl : us.length ≤ sizeLine) (h : ∀ s', Inv X pins σ H s' → Q .none s') :
    wpAny (model X.prog X.w) A (call (.builtin iT) (.ref a :: us)) Q Ex s := by
  obtain ⟨nm, q, N, bs, bm, sn, sub, ab, col, dd, k0, k1, k2, k3, k5, B, newId, T0, tl, hC, hbm, F⟩ := T.cls
  obtain ⟨t1, ho⟩ := exo_at I.hok e
  obtain ⟨hp, g, d, t, os⟩ := s
  refine wpAny_call (PySem.FxE.ini_run F hbm (I.kIn _ _ hC) ho hl fun h' t2 k hx => ?_)
  have J := I.write (t' := t) (x := a) (e := a) (o := exo a C none) (by rw [e]; exact True.intro) (.inl rfl) k ⟨_, hx⟩ (exo_ok hx)
  have eu : upd H a (exo a C none) = H := by
    funext b
    by_cases hb : b = a
    · rw [hb, upd_same, e]
    · rw [upd_ne hb]
  rw [eu] at J
  exact h _ J
end
end Fx

/-! ===== Fx33 -/
set_option Elab.async false
set_option linter.all false
set_option maxRecDepth 100000
set_option maxHeartbeats 4000000
namespace Fx
open PySem PySem.Spec PyProof.Rows L2
/-! ### B.__init__(self, ..) in an own exception's __init__ -/
/-- B's __init__ is the built-in one called iT -/
inductive Bin (K : PySem.W.Frag) (mg : Str → Option Value) (B : Str) (iT : String) : Prop where
  | blt (T : String) (hm : mg B = none) (hv : bootBuiltins B = some (.type T)) (hn : B ≠ "__name__") (ht : typeOf (.type T) = pure (.type "type")) (hs : Manifest.isStub T = false) (hf : PySem.W.findCls K (.type T) (.type "type") "__init__" = some (.val (.builtin iT)))
  | own (C : Addr) (hm : mg B = some (.ref C)) (hg : PySem.W.specialIn K (.ref C) "__getattribute__" = some (some (.builtin "type.__getattribute__"))) (hr : PySem.W.readsIn K C (.type "type") = true) (hf : PySem.W.findCls K (.ref C) (.type "type") "__init__" = some (.val (.builtin iT)))
def tBin (K : PySem.W.Frag) (iT : String) (ta : TA) : TE := fun σ H Q => ta σ H fun vs H1 => ∃ (a C : Addr) (ws : List V), vs = .ref a :: ws ∧ ws.length ≤ 1000 ∧ XcK K C iT ∧ H1 a = some (exo a C none) ∧ Q .non H1
/-- self.f = e -/
def tXst (K : PySem.W.Frag) (iT : String) (f : Str) (to te : TE) : TS := fun D σ H => te σ H fun y H1 => to σ H1 fun x H2 => ∃ a C : Addr, x = .ref a ∧ XcK K C iT ∧ PySem.W.findIn K (.ref C) f = some none ∧
  ((H2 a = some (exo a C none) ∧ ∀ dx, H2 dx = none → dx ≠ a → D.nx σ (upd (upd H2 dx (exd dx [(f, y)])) a (exo a C (some dx)))) ∨
    ∃ (dx : Addr) (fs : List (Str × V)), H2 a = some (exo a C (some dx)) ∧ H2 dx = some (exd dx fs) ∧ fs.length ≤ 900 ∧ D.nx σ (upd H2 dx (exd dx ((f, y) :: fs))))
section
variable {X : Cx} {o e : Expr} {es : List Expr} {to te : TE} {ta : TA} {f B : Str} {p p' p1 p2 pos : Pos} {iT : String}
theorem pe_bin {pl : Sem Bool} (b : Bin X.K X.mg B iT) (hg : Gl X B) (ha : PA X (e :: es) ta) (hdb : (B == ("__debug__" : Str)) = false) (hh : PySem.W.handedIn (.builtin iT) = true)
    (hc : eval (.Call (.Attribute (.Name B p1) "__init__" p2) (e :: es) [] pos) X.env = (do
      let ov ← eval (.Name B p1) X.env
      standAt p2.atName
      let (f, first) ← holding [ov] (getMethod ov "__init__" pl)
      callWith pos f first (backTo pos (starEach (e :: es) X.env)) (backToKw pos (keywordEach [] X.env))) := by rfl)
    (he : starEach (e :: es) X.env = (false, eval e X.env) :: starEach es X.env := by rfl) (hpl : (backTo pos (starEach es X.env)).any (·.1) = false := by rfl) :
    PE X (.Call (.Attribute (.Name B p1) "__init__" p2) (e :: es) [] pos) (tBin X.K iT ta) := by
  refine ⟨fun pins s σ H Q I h => ?_⟩
  have fin : ∀ s0, Inv X pins σ H s0 → wpAny (model X.prog X.w) X.A (callWith pos (Value.builtin iT) [] (backTo pos (starEach (e :: es) X.env)) []) (EP X pins σ Q) X.xe s0 := fun s0 I0 => by
    refine PyProof.Rows.callWith_method1 (thn (ha.run pos pins _ σ H _ I0 h) fun us s1 ⟨vs, H1, I1, r1, a, C, ws, ev, hl, T, ea, q⟩ => ?_) he hpl
    subst ev
    cases r1 with
    | @cons _ u0 _ ur ra rw' =>
      obtain rfl : u0 = Value.ref a := ra
      have hlen : ur.length ≤ sizeLine := by rw [← Paired.length rw', sizeLine_eq]; omega
      exact xin_ok T I1 ea hlen fun s' J => ⟨.non, H1, J, rfl, q⟩
  cases b with
  | blt T hm hv hn ht hs hf =>
    refine PySem.W.methodCall_KW (ld_blt I hg hm hv ?_ hn hdb) hc
    obtain ⟨m, fr⟩ := I.fr
    exact PySem.W.method_type fr I.ok.mod.kin ht hs hf hh (fin _ (I.tok _))
  | own C hm hgt hr hf =>
    refine PySem.W.methodCall_KW (ld_glob I hg hm ?_ hdb) hc
    exact PySem.W.method_cls I.kIn hgt (PySem.W.cls_value I.kIn hr hf hh (fin _ (I.tok _)))
theorem ps_xst (ho : PE X o to) (he : PE X e te) (hs : swapsWith e (some (.Attribute o f p')) pos.line X.env = pure false := by rfl) : PS X (.Assign [.Attribute o f p'] e pos) (tXst X.K iT f to te) := by
  refine ⟨fun pins s σ H D I h => ?_⟩
  refine plainObj_wpAny_Assign_Attribute (thn (he.run pins s σ H _ I h) fun v s1 ⟨y, H1, I1, r1, q1⟩ => thn (ho.run pins s1 σ H1 _ I1 q1) fun u s2 ⟨x, H2, I2, r2, a, C, ex, T, hno, q⟩ => ?_) hs
  subst ex
  obtain rfl : u = Value.ref a := r2
  rcases q with ⟨ea, q⟩ | ⟨dx, fs, ea, ed, hl, q⟩
  · exact xst_new T I2 ea hno r1 fun dx s' n ne J => ⟨σ, _, J, q dx n ne⟩
  · exact xst_old T I2 ea ed hl hno r1 fun s' J => ⟨σ, _, J, q⟩
end
/-! ### an own exception's __init__: self and n things, stored as the fields fn -/
def spXi (K : PySem.W.Frag) (iT : String) (fn : List Str) : Sp := fun vs H Q _ => ∃ (a C : Addr) (as : List V), vs = .ref a :: as ∧ as.length = fn.length ∧ XcK K C iT ∧ (∀ f ∈ fn, PySem.W.findIn K (.ref C) f = some none) ∧ H a = some (exo a C none) ∧
  ∀ dx H2, H dx = none → dx ≠ a → H2 a = some (exo a C (some dx)) → H2 dx = some (exd dx (fn.zip as).reverse) → (∀ b, b ≠ a → b ≠ dx → H2 b = H b) → Q .non H2
theorem spXi_len {K : PySem.W.Frag} {iT : String} {fn ps : List Str} (h : ps.length = fn.length + 1) : ∀ vs H Q E, spXi K iT fn vs H Q E → vs.length = ps.length := fun vs H Q E ⟨a, C, as, e, l, _⟩ => by rw [e, List.length_cons, l, h]
section
variable {P : Program} {w : World} {K : PySem.W.Frag} {mg : Str → Option Value} {base : Heap} {qual B f1 f2 x1 x2 m : Str} {params : Arguments} {scope : Scope} {f : Addr} {fd : FuncData} {dvs : List V} {kws : List (Str × V)} {CX : CXT} {k j : Nat} {iT : String}
variable {p1 p2 p3 p4 p5 p6 q1 q2 q3 q4 r1 r2 r3 r4 : Pos}
abbrev tXi0 (K : PySem.W.Frag) (iT : String) (m : Str) : TS := tDrop (tBin K iT (tCons (tVar 0) (tCons (tC (.str m)) tNil)))
theorem xi1_ok {body : List Stmt} (F : FunD K "__init__" qual params body scope dvs kws f fd) (S : FnScope ["self", x1] ["self", x1] scope)
    (hw : ∀ cdv A outer s H E, PSs (cxOf CX P w K mg base ["self", x1] qual scope f cdv A outer s H E) body (tSeq (tXi0 K iT m) (tSeq (tXst K iT f1 (tVar 0) (tVar 1)) tNext))) :
    FnOk P w K mg base CX (k + 1) f fd ["self", x1] (spXi K iT [f1]) := by
  refine F.ok S (spXi_len rfl) fun cdv A outer s H vs Q E hr hsp => ⟨_, hw cdv A outer s H E, ?_⟩
  obtain ⟨a, C, as, rfl, hl, T, hno, ea, q⟩ := hsp
  obtain ⟨y, rfl⟩ := List.length_eq_one_iff.mp hl
  show ∃ v, _ ∧ _
  refine ⟨.ref a, rfl, a, C, [.str m], rfl, by simp, T, ea, ?_⟩
  show ∃ v, _ ∧ ∃ v2, _ ∧ _
  refine ⟨y, rfl, .ref a, rfl, a, C, rfl, T, hno f1 List.mem_cons_self, .inl ⟨ea, fun dx hn hne => ?_⟩⟩
  refine q dx _ hn hne upd_same ?_ fun b n1 n2 => ?_
  · rw [upd_ne hne, upd_same]; rfl
  · rw [upd_ne n1, upd_ne n2]
theorem xi2_ok {body : List Stmt} (F : FunD K "__init__" qual params body scope dvs kws f fd) (S : FnScope ["self", x1, x2] ["self", x1, x2] scope)
    (hw : ∀ cdv A outer s H E, PSs (cxOf CX P w K mg base ["self", x1, x2] qual scope f cdv A outer s H E) body (tSeq (tXi0 K iT m) (tSeq (tXst K iT f1 (tVar 0) (tVar 1)) (tSeq (tXst K iT f2 (tVar 0) (tVar 2)) tNext)))) :
    FnOk P w K mg base CX (k + 1) f fd ["self", x1, x2] (spXi K iT [f1, f2]) := by
  refine F.ok S (spXi_len rfl) fun cdv A outer s H vs Q E hr hsp => ⟨_, hw cdv A outer s H E, ?_⟩
  obtain ⟨a, C, as, rfl, hl, T, hno, ea, q⟩ := hsp
  match as, hl with
  | [y, z], _ =>
    show ∃ v, _ ∧ _
    refine ⟨.ref a, rfl, a, C, [.str m], rfl, by simp, T, ea, ?_⟩
    show ∃ v, _ ∧ ∃ v2, _ ∧ _
    refine ⟨y, rfl, .ref a, rfl, a, C, rfl, T, hno f1 List.mem_cons_self, .inl ⟨ea, fun dx hn hne => ?_⟩⟩
    show ∃ v, _ ∧ ∃ v2, _ ∧ _
    refine ⟨z, rfl, .ref a, rfl, a, C, rfl, T, hno f2 (by simp), .inr ⟨dx, [(f1, y)], upd_same, by rw [upd_ne hne, upd_same], by simp, ?_⟩⟩
    refine q dx _ hn hne ?_ upd_same fun b n1 n2 => ?_
    · rw [upd_ne (Ne.symm hne), upd_same]
    · rw [upd_ne n2, upd_ne n1, upd_ne n2]
end
/-! ### raise C(..) -/
/-- C's own __init__ is known -/
structure Dx (P : Program) (w : World) (K : PySem.W.Frag) (mg : Str → Option Value) (base : Heap) (k : Nat) (x : Str) (fn : List Str) (dd : List D) : Prop where
  to : ∃ (C fI : Addr) (fd : FuncData) (ps : List Str) (iT : String) (dvs : List V) (ds : List Value), mg x = some (.ref C) ∧ XcK K C iT ∧ PySem.W.findIn K (.ref C) "__init__" = some (some (.ref fI)) ∧ PySem.W.typeIn K (.ref fI) = some (.type "function") ∧
    FnOk P w K mg base (L2.CX P w) k fI fd ps (spXi K iT fn) ∧ Binds K fd ps ds ∧ Vals dvs ds ∧ (∀ f ∈ fn, PySem.W.findIn K (.ref C) f = some none) ∧ ∀ ι H, Reps K mg ι H dd dvs
def sRaise (C : Str) (fn : List Str) (dd : List D) (l : FL) : FO := fun env ah => (l env ah).bind fun z => okB (Nat.beq (z.1 ++ dd).length fn.length) (.exc ⟨C, (fn.zip (z.1 ++ dd)).reverse⟩ env z.2)
theorem noX {X : Cx} : Passes (L2.CX X.prog X.w) X (fun _ _ _ => False) := fun pins σ H s e s' I h => by
  obtain ⟨_, _, _, _, _, _, _, _, _, _, _, _, z⟩ := h
  exact z.elim
theorem repF_append {K : PySem.W.Frag} {mg : Str → Option Value} {ι : Io} {H : Hp} (l' : List (Str × D)) (g' : List (Str × V)) (h' : RepF K mg ι H l' g') : ∀ (l : List (Str × D)) (g : List (Str × V)), RepF K mg ι H l g → RepF K mg ι H (l ++ l') (g ++ g')
  | [], g, h => by
    have e : g = [] := h
    subst e
    exact h'
  | (x, d) :: l, g, h => by
    obtain ⟨v, s, rfl, r1, r2⟩ := h
    exact ⟨v, _, rfl, r1, repF_append l' g' h' l s r2⟩
theorem repF_zip {K : PySem.W.Frag} {mg : Str → Option Value} {ι : Io} {H : Hp} : ∀ (fn : List Str) (ds : List D) (vs : List V), Reps K mg ι H ds vs → RepF K mg ι H (fn.zip ds).reverse (fn.zip vs).reverse
  | [], _, _, _ => by simp [RepF]
  | x :: fn, [], vs, h => by
    have e : vs = [] := by unfold Reps at h; exact h
    subst e
    simp [RepF]
  | x :: fn, d :: ds, _, h => by
    unfold Reps at h
    obtain ⟨v, r, rfl, r1, r2⟩ := h
    rw [List.zip_cons_cons, List.zip_cons_cons, List.reverse_cons, List.reverse_cons]
    exact repF_append [(x, d)] [(x, v)] (show RepF K mg ι H [(x, d)] [(x, v)] from ⟨v, [], rfl, r1, rfl⟩) _ _ (repF_zip fn ds r r2)
section
variable {X : Cx} {E : XW} {e : Expr} {es : List Expr} {Fl : FL} {k : Nat} {x : Str} {fn : List Str} {dd : List D} {p pos pos' : Pos}
/-- the making: x(e, ..) -/
theorem pmk_xc {CX : CXT} {ta : TA} {C fI : Addr} {fd : FuncData} {ps : List Str} {sp : Sp} {ds : List Value} {dvs : List V} {iT : String} (T : XcK X.K C iT) (iC : PySem.W.findIn X.K (.ref C) "__init__" = some (some (.ref fI))) (tI : PySem.W.typeIn X.K (.ref fI) = some (.type "function"))
    (F1 : FnOk X.prog X.w X.K X.mg X.base CX k fI fd ps sp) (hr : Room (k + 1) X.A) (hb : Binds X.K fd ps ds) (hd : Vals dvs ds) (hx : Passes CX X (fun _ _ _ => False)) (hg : Gl X x) (hm : X.mg x = some (.ref C)) (ha : PA X (e :: es) ta)
    (hdb : (x == ("__debug__" : Str)) = false := by decide) (he : starEach (e :: es) X.env = (false, eval e X.env) :: starEach es X.env := by rfl) (hpl : (backTo pos (starEach es X.env)).any (·.1) = false := by rfl) :
    PMk X (.Call (.Name x p) (e :: es) [] pos) (tMkO C sp dvs ta) := by
  intro pins s σ H Q I h
  obtain ⟨nm, q, N, bs, bm, sn, sub, ab, col, dd, k0, k1, k2, k3, k5, B, newId, T0, tl, hC, hbm, F⟩ := T.cls
  refine wpAny_Call_Name_kw (ld_glob I hg hm ?_ hdb)
  refine PySem.W.callWith_K (h₀ := X.base) I.ok.mod.kin T.kC (thn (ha.run pos pins s σ H _ I h) fun us s1 ⟨vs, H1, I1, rv, hz, q1⟩ => ⟨I1.kIn, ?_⟩) he hpl
  show wpAny _ _ (call (.ref C) us) _ _ _
  obtain ⟨hp, gg, dr, tk, os⟩ := s1
  have hsz : hp.objs.size ≤ hp.objs.size + 1 := Nat.le_succ _
  have hn : H1 (hp.objs.size + 1) = none := I1.hok.fresh hsz
  have hq := q1 (hp.objs.size + 1) hn
  have kk : ∀ b o, hp.get? b = some o → ((hp.push (PySem.W.kdv_tup us)).push (PySem.HandSPX.excO C hp.objs.size)).get? b = some o := fun b o z => Heap.get?_push_of_some _ (Heap.get?_push_of_some _ z)
  have hget : ((hp.push (PySem.W.kdv_tup us)).push (PySem.HandSPX.excO C hp.objs.size)).get? (hp.objs.size + 1) = some (PySem.HandSPX.excO C hp.objs.size) := by heap_get
  have I2 : Inv X pins σ (upd H1 (hp.objs.size + 1) (exo (hp.objs.size + 1) C none)) ⟨(hp.push (PySem.W.kdv_tup us)).push (PySem.HandSPX.excO C hp.objs.size), gg, dr, tk, os⟩ := I1.laid (t' := tk) (a := hp.objs.size + 1) (o := exo (hp.objs.size + 1) C none) kk hsz (exo_ok hget)
  have r2 : Vals (V.ref (hp.objs.size + 1) :: (vs ++ dvs)) (Value.ref (hp.objs.size + 1) :: (us ++ ds)) := .cons rfl (rv.append hd)
  have hl : (Value.ref (hp.objs.size + 1) :: us ++ ds).length = ps.length := by
    have z := r2.length
    rw [F1.len _ _ _ _ hq] at z
    exact z.symm
  have hus : us.length ≤ sizeLine := by rw [← Paired.length rv, sizeLine_eq]; omega
  refine wpAny_call (PySem.FxE.cls_call F hbm (I1.kIn _ _ hC) (PySem.W.looks_findIn I1.kIn iC) (fun self => PySem.W.bind_fn I1.kIn self tI) hus ?_)
  refine codeAny_mono (F1.run _ X.stack _ _ ⟨Value.ref (hp.objs.size + 1) :: us, []⟩ (Value.ref (hp.objs.size + 1) :: (us ++ ds)) _ _ (fun _ _ _ => False) (hr.make C us []) (I2.env0.make C us []) (hb _ (Value.ref (hp.objs.size + 1) :: us) I2.kIn hl) r2 hq) fun r s' hq' => ?_
  cases r with
  | error er => exact hx pins σ _ _ er s' I2 hq'
  | ok fl =>
    cases fl with
    | ret u =>
      obtain ⟨v, H2, os2, bare2, un2, hok2, rv, ev, d, fs, ea, ed, hd1, q2⟩ := hq'
      subst ev
      obtain ⟨h2, g2, d2, t2, os'⟩ := s'
      exact ⟨rv, mk_end (raises_own T.exC T.tyC) I1 hsz kk un2 hok2 os2 bare2 ea ed hd1 q2⟩
    | next => exact False.elim hq'
    | brk => exact False.elim hq'
    | cont => exact False.elim hq'
theorem sraise (d : Dx X.prog X.w X.K X.mg X.base k x fn dd) (hc : X.calm = true) (hr : RG (k + 1) X.A) (tk : Takes X E) (ha : FA X E (e :: es) Fl) (hf : fn.length ≤ 900 := by decide) (hg : Gl X x := by rfl) (hp : Pl X e es pos := by exact ⟨rfl, rfl⟩) (hdb : (x == ("__debug__" : Str)) = false := by decide) :
    FS X E (.Raise (some (.Call (.Name x p) (e :: es) [] pos)) none pos') (sRaise x fn dd Fl) := by
  obtain ⟨C, fI, fd, ps, iT, dvs, ds, hm, T, iC, tI, F1, hb, hd, hno, hdd⟩ := d.to
  refine PS.mono (ps_raise hc tk (pmk_xc T iC tI F1 hr.r hb hd noX hg hm ha hdb hp.he hp.hpl)) fun Dn σ H h => ?_
  obtain ⟨ι, env, ah, a, pq⟩ := h
  unfold sRaise at pq
  refine ⟨ι, env, ah, a, Po.firstS pq fun dsx ah1 ι1 H1 vs e1 st S rs q => ?_⟩
  obtain ⟨hlen, q⟩ := q.okB
  have hlen : dsx.length + dd.length = fn.length := by
    have z := Nat.eq_of_beq_eq_true hlen
    rw [List.length_append] at z
    exact z
  have lv := reps_len rs
  have ld := reps_len (hdd ι1 H1)
  refine ⟨by omega, fun ax hax => ⟨ax, C, vs ++ dvs, rfl, by rw [List.length_append]; omega, T, hno, upd_same, fun dx H2 hdx hne h2a h2d hoth => ⟨rfl, dx, _, h2a, h2d, ?_, ?_⟩⟩⟩
  · rw [upd_ne hne] at hdx; exact hdx
  · rw [upd_ne hne] at hdx
    have eH : upd (del H2 ax) dx (.xd (fn.zip (vs ++ dvs)).reverse) = upd H1 dx (.xd (fn.zip (vs ++ dvs)).reverse) := by
      funext b
      by_cases hbd : b = dx
      · rw [hbd, upd_same, upd_same]
      · rw [upd_ne hbd, upd_ne hbd]
        by_cases hba : b = ax
        · rw [hba, del_same, hax]
        · rw [del_ne hba, hoth b hba hbd, upd_ne hba]
    rw [eH]
    refine q ι1 σ _ (.ref C) (some dx) (Step.laid hdx) ⟨S.laid hdx, (Step.laid hdx).simE (st.simE a.2)⟩ ⟨C, rfl, hm, .inr ⟨dx, _, rfl, S.out hdx, upd_same, ?_⟩⟩
    exact (Step.laid hdx).repF _ (repF_zip fn _ _ (reps_app rs (hdd ι1 H1)))
end
end Fx

/-! ===== Fx34 -/
set_option Elab.async false
set_option linter.all false
set_option maxRecDepth 100000
set_option maxHeartbeats 4000000
namespace Fx
open PySem PySem.Spec PyProof.Rows L2
/-! ### try: several clauses, with a name or without -/
abbrev HG := Value × Option Nat × (Addr → Value → Option Addr → TS)
def goneD (D : Ends) (i : Nat) : Ends := { nx := fun σ' H' => D.nx (σ'.set i none) H', rt := D.rt, bk := fun σ' H' => D.bk (σ'.set i none) H', ct := fun σ' H' => D.ct (σ'.set i none) H' }
def ofG (ts : Addr → Value → Option Addr → TS) (a : Addr) (cls : Value) (d : Option Addr) (D : Ends) (σ : L2.St) (H : Hp) : Option Nat → Prop
  | none => ts a cls d D σ H
  | some i => ts a cls d (goneD D i) (σ.set i (some (.ref a))) H
def wG (K : PySem.W.Frag) (Wout : WX) (D : Ends) : List HG → WX
  | [] => Wout
  | (c, o, ts) :: r => fun cls d σ H => ∃ b, PySem.W.exmOne K cls c = some b ∧ (b = true → ∀ a, H a = none → ofG ts a cls d D σ H o) ∧ (b = false → wG K Wout D r cls d σ H)
abbrev suOk (X : Cx) (st : List Stmt) (ts : Addr → Value → Option Addr → TS) : Prop := ∀ (a : Addr) (oe : Obj) (cls : Value) (d : Option Addr) (pn : List (Addr × Obj)), Zc cls d oe → (∃ vs, oe.data = .fields vs) → PSs (X.suite a ((a, oe) :: pn)) st (ts a cls d)
inductive HdG (X : Cx) : List ExceptHandler → List HG → Prop
  | nil : HdG X [] []
  | one {x : Str} {c : Value} {ts : Addr → Value → Option Addr → TS} {b₀ : Stmt} {su : List Stmt} {np p' : Pos} {hds : List ExceptHandler} {l : List HG} (hc : Names X x c) (hsu : suOk X (b₀ :: su) ts) (r : HdG X hds l) : HdG X (.ExceptHandler (some (.Name x np)) none (b₀ :: su) p' :: hds) ((c, none, ts) :: l)
  | nam {x n : Str} {i : Nat} {c : Value} {ts : Addr → Value → Option Addr → TS} {b₀ : Stmt} {su : List Stmt} {np p' : Pos} {hds : List ExceptHandler} {l : List HG} (hN : X.N.Nodup) (hi : X.N[i]? = some n) (hl : X.env.kindOf n = some .local) (hc : Names X x c) (hsu : suOk X (b₀ :: su) ts) (r : HdG X hds l) :
      HdG X (.ExceptHandler (some (.Name x np)) (some n) (b₀ :: su) p' :: hds) ((c, some i, ts) :: l)
section
variable {X : Cx} {body : List Stmt} {h₀ : ExceptHandler} {hds : List ExceptHandler} {l : List HG} {pos : Pos} {tb : WX → TS} {Wout : WX}
theorem ps_tryG (hs : X.stack = X.env :: X.outer) (hf : X.env.frame = some X.env.locals) (tk : Takes X Wout)
    (hb : ∀ (W : WX) (pn : List (Addr × Obj)) (xe : Value → Shared → Prop), Takes (X.tr pn xe) W → PassesOwn (model X.prog X.w) X.A X.env xe → PSs (X.tr pn xe) body (tb W))
    (hh : HdG X (h₀ :: hds) l) : PS X (.Try body (h₀ :: hds) [] [] pos) (fun D σ H => tb (wG X.K Wout D l) D σ H) := by
  refine ⟨fun pins s σ H D I h => ?_⟩
  have ok := I.ok
  have hfr : X.A.frames = some (X.env :: X.outer) := by rw [ok.frames, hs]
  refine wpAny_Try_except ?_
  refine wpAny_mono ((hb (wG X.K Wout D l) (X.pn ++ pins) (fun e t₁ => wpAny (model X.prog X.w) X.A (noteFrame e X.env) (fun _ t₂ => wpAny (model X.prog X.w) X.A (setFlight e none) (fun _ t₃ =>
    wpAny (model X.prog X.w) X.A (handleBy e X.env (h₀ :: hds)) (SP X pins D) X.xe t₃) X.xe t₂) X.xe t₁) (fun u s' xx => ?_) PassesOwn.looking).run [] s σ H D (I.toTry _) h) (fun f s1 hsp => ?_) (fun e s1 he => he)
  · obtain ⟨a, B, sI, pins', σ', H', cls, d, rfl, J', nb, up, sky, na, os, ag, w⟩ := xx
    have J : Inv X pins σ' H' sI := J'.ofTry ok
    have sk : Sky B (X.env :: X.outer) a (Zc cls d) X.env.locals s'.heap := by rw [← hs]; exact sky
    show wpAny (model X.prog X.w) X.A (noteFrame (.ref a) X.env) _ _ _
    refine Sky.land Zc.steady hfr hf sk fun h3 fl3 up3 => ?_
    have J3 : Inv X pins σ' H' { s' with heap := h3 } := J.landed nb fl3.1 (up.trans up3) os ag
    obtain ⟨oe3, vs3, he3, hz3, hd3⟩ := fl3.there
    have nfr : a ∉ frs (X.env :: X.outer) := fun hm => by
      obtain ⟨_, o', e', hnf⟩ := fl3.2.2.1.mem hm
      rw [he3] at e'; cases e'
      exact hnf _ hd3
    have nL : a ≠ X.env.locals := fun z => nfr (List.mem_filterMap.mpr ⟨X.env, List.mem_cons_self, by rw [hf, z]⟩)
    have nF : a ∉ X.fs := fun hm => by
      obtain ⟨e, he, q⟩ := List.mem_filterMap.mp hm
      exact nfr (List.mem_filterMap.mpr ⟨e, List.mem_cons_of_mem _ he, q⟩)
    have S3 := J3.suite he3 hd3 na nL nF
    have tst : ∀ (x : Str) (c : Value) (np : Pos), Names X x c → ∀ (Q : Value → Shared → Prop) (E : Value → Shared → Prop), Q c { s' with heap := h3 } → wpAny (model X.prog X.w) (X.A.mark (some (.ref a))) (eval (.Name x np) X.env) Q E { s' with heap := h3 } := by
      intro x c np hc Q E q
      obtain ⟨hg, hdbg, hm⟩ := hc
      rcases hm with hm | ⟨hm, hv, hnn⟩
      · exact ld_glob (X := X.suite a ((a, oe3) :: (X.pn ++ pins))) S3 hg hm q hdbg
      · exact ld_blt (X := X.suite a ((a, oe3) :: (X.pn ++ pins))) S3 hg hm hv q hnn hdbg
    have LT : PySem.W.Looks (model X.prog X.w) h3 (typeOf (.ref a)) cls := fun A Q E s k q => wpAny_typeOf_ref (k _ _ he3) (by rw [hz3.1]; exact q)
    have go : ∀ {hds' : List ExceptHandler} {l' : List HG}, HdG X hds' l' → wG X.K Wout D l' cls d σ' H' → wpAny (model X.prog X.w) X.A (handleBy (.ref a) X.env hds') (SP X pins D) X.xe { s' with heap := h3 } := by
      intro hds' l' hk
      induction hk with
      | nil =>
        intro w
        refine wpAny_handleBy_nil ?_
        obtain ⟨k1, k2, k3, oe, vs, T, oT, ts', he, hz, hd, h1, hr⟩ := id fl3
        unfold PySem.passOn
        refine wpAny_bind (wpAny_field he hd h1 ?_)
        rw [if_neg (show ¬ ((Value.ref T == Value.none) = true) from by simp)]
        have fin : wpAny (model X.prog X.w) X.A (setFlight (.ref a) X.env.frame) (fun _ s4 => wpAny (model X.prog X.w) X.A (throw (.ref a) : Sem Flow) (SP X pins D) X.xe s4) X.xe { s' with heap := h3 } := by
          rw [hf]
          refine HandSPX.setFlight_upZ fl3 fun h4 hh4 up4 => wpAny_throw (tk _ _ ?_)
          exact ⟨a, B, sI, pins, σ', H', cls, d, rfl, J, nb, (up.trans up3).trans up4, .inr (.inr (by rw [hs]; exact hh4)), na, os, ag, w⟩
        first
          | exact wpAny_bind (wpAny_pure (wpAny_bind fin))
          | exact wpAny_bind fin
      | @one x c ts b₀ su np p' hds2 l2 hc hsu r ih =>
        intro w
        obtain ⟨b, hb1, hyes, hno⟩ := w
        refine wpAny_handleBy_cons (codeAny_handlers_test ?_) (by intro q; cases q)
        refine tst _ _ _ hc _ _ ((PySem.W.exm_one (M := model X.prog X.w) (J3.kIn) LT hb1).here ?_)
        cases b with
        | false =>
          show wpAny _ X.A (handleBy (.ref a) X.env hds2) _ _ _
          exact ih (hno rfl)
        | true =>
          refine codeAny_handlers_suite ?_
          refine HandSPX.lands_againZ fl3 fun h4 fl4 up4 => ?_
          have J4 : Inv X pins σ' H' { s' with heap := h4 } := J.landed nb fl4.1 ((up.trans up3).trans up4) os ag
          obtain ⟨oe4, vs4, he4, hz4, hd4⟩ := fl4.there
          have S4 := J4.suite he4 hd4 na nL nF
          refine wpAny_mono ((hsu a oe4 cls d (X.pn ++ pins) hz4 ⟨_, hd4⟩).run [] _ _ H' _ S4 (hyes rfl a na)) (fun f s6 hsp => ?_) (fun _ _ z => False.elim z)
          cases f with
          | ret u =>
            obtain ⟨v6, σ6, H6, S6, r6, q6⟩ := hsp
            exact ⟨_, _, _, S6.unsuite ok, r6, q6⟩
          | next => obtain ⟨σ6, H6, S6, q6⟩ := hsp; exact ⟨_, _, S6.unsuite ok, q6⟩
          | brk => obtain ⟨σ6, H6, S6, q6⟩ := hsp; exact ⟨_, _, S6.unsuite ok, q6⟩
          | cont => obtain ⟨σ6, H6, S6, q6⟩ := hsp; exact ⟨_, _, S6.unsuite ok, q6⟩
      | @nam x n i c ts b₀ su np p' hds2 l2 hN hi hl hc hsu r ih =>
        intro w
        obtain ⟨b, hb1, hyes, hno⟩ := w
        refine wpAny_handleBy_cons (codeAny_handlers_test ?_) (by intro q; cases q)
        refine tst _ _ _ hc _ _ ((PySem.W.exm_one (M := model X.prog X.w) (J3.kIn) LT hb1).here ?_)
        cases b with
        | false =>
          show wpAny _ X.A (handleBy (.ref a) X.env hds2) _ _ _
          exact ih (hno rfl)
        | true =>
          refine codeAny_handlers_suite_as ?_
          refine HandSPX.lands_againZ fl3 fun h4 fl4 up4 => ?_
          have J4 : Inv X pins σ' H' { s' with heap := h4 } := J.landed nb fl4.1 ((up.trans up3).trans up4) os ag
          obtain ⟨oe4, vs4, he4, hz4, hd4⟩ := fl4.there
          have S4 := J4.suite he4 hd4 na nL nF
          refine store_ok (X := X.suite a ((a, oe4) :: (X.pn ++ pins))) (v := .ref a) S4 hN hi (.inl hl) rfl (fun s5 S5 => ?_) (.inr hl)
          refine wpAny_mono ((hsu a oe4 cls d (X.pn ++ pins) hz4 ⟨_, hd4⟩).run [] s5 _ H' _ S5 (hyes rfl a na)) (fun f s6 hsp => ?_) (fun _ _ z => False.elim z)
          have gone : ∀ {σ6 : L2.St} {H6 : Hp} {Q : Shared → Prop}, Inv (X.suite a ((a, oe4) :: (X.pn ++ pins))) [] σ6 H6 s6 → (∀ s7, Inv X pins (σ6.set i none) H6 s7 → Q s7) → wpAny (model X.prog X.w) X.A (do bindName X.env n .none; unbindBehindTheSuite X.env n p') (fun _ s7 => Q s7) X.xe s6 :=
            fun {σ6 H6 Q} S6 hq => gone_ok (S6.unsuite ok) hN hi hl hq
          cases f with
          | ret u =>
            obtain ⟨v6, σ6, H6, S6, r6, q6⟩ := hsp
            exact gone S6 fun s7 J7 => ⟨_, _, _, J7, r6, q6⟩
          | next => obtain ⟨σ6, H6, S6, q6⟩ := hsp; exact gone S6 fun s7 J7 => ⟨_, _, J7, q6⟩
          | brk => obtain ⟨σ6, H6, S6, q6⟩ := hsp; exact gone S6 fun s7 J7 => ⟨_, _, J7, q6⟩
          | cont => obtain ⟨σ6, H6, S6, q6⟩ := hsp; exact gone S6 fun s7 J7 => ⟨_, _, J7, q6⟩
    exact go hh w
  · cases f with
    | ret u => obtain ⟨v, σ', H', J', r, q⟩ := hsp; exact ⟨v, σ', H', J'.ofTry ok, r, q⟩
    | next => obtain ⟨σ', H', J', q⟩ := hsp; exact wpAny_execs_nil ⟨σ', H', J'.ofTry ok, q⟩
    | brk => obtain ⟨σ', H', J', q⟩ := hsp; exact ⟨σ', H', J'.ofTry ok, q⟩
    | cont => obtain ⟨σ', H', J', q⟩ := hsp; exact ⟨σ', H', J'.ofTry ok, q⟩
end
/-! ### in a suite: what is known of the exception beside -/
abbrev noE : XW := fun _ _ _ _ => False
abbrev JJ := Io → L2.St → Hp → Prop
def JSt (J : JJ) : Prop := ∀ ι H ι' H' σ, Step ι H ι' H' → J ι σ H → J ι' σ H'
section
variable (K : PySem.W.Frag) (mg : Str → Option Value) (J : JJ)
def TJ (F : FV) : TE := fun σ H Q => ∃ ι env ah, At K mg env ah ι σ H ∧ J ι σ H ∧ Po K mg noE (RvD K mg) ι H (F env ah) Q
def TJl (F : FL) : TA := fun σ H Q => ∃ ι env ah, At K mg env ah ι σ H ∧ J ι σ H ∧ Po K mg noE (RvL K mg) ι H (F env ah) Q
def TJs (F : FO) : TS := fun Dn σ H => ∃ ι env ah, At K mg env ah ι σ H ∧ J ι σ H ∧ PoS K mg noE ι H (F env ah) Dn
end
abbrev JE (X : Cx) (J : JJ) (e : Expr) (F : FV) : Prop := PE X e (TJ X.K X.mg J F)
abbrev JA (X : Cx) (J : JJ) (e : List Expr) (F : FL) : Prop := PA X e (TJl X.K X.mg J F)
abbrev JS (X : Cx) (J : JJ) (e : List Stmt) (F : FO) : Prop := PSs X e (TJs X.K X.mg J F)
section
variable {X : Cx} {J : JJ} {a b e o : Expr} {as rest : List Expr} {Fa Fb Fo : FV} {Fr Fl : FL} {pos : Pos}
theorem jl (h : FE X noE e Fa) : JE X J e Fa := PE.mono h fun σ H Q ⟨ι, env, ah, a, _, p⟩ => ⟨ι, env, ah, a, p⟩
theorem jnil : JA X J [] lNil := PA.mono pa_nil fun σ H Q ⟨ι, env, ah, a, _, p⟩ => p.here a.1 of_nil
theorem jcons (hJ : JSt J) (ha : JE X J a Fa) (hr : JA X J as Fr) (hs : starEach (a :: as) X.env = (false, eval a X.env) :: starEach as X.env := by rfl) : JA X J (a :: as) (lCons Fa Fr) := PA.mono (pa_cons ha hr hs) fun σ H Q h => by
  obtain ⟨ι, env, ah, a, j, p⟩ := h
  refine ⟨ι, env, ah, a, j, Po.first p fun d ah1 ι1 H1 v _ s S rv q => ?_⟩
  refine ⟨ι1, env, ah1, a.step s S, hJ _ _ _ _ _ s j, Po.first q fun ds ah2 ι2 H2 vs _ t T rs q2 => ?_⟩
  exact q2.here T (of_cons (t.rep d rv) rs)
theorem jlst (c : Bool) (h : JA X J as Fr) : JE X J (.List as pos) (eLst c Fr) := PE.mono (pe_lst h) fun σ H Q h => by
  obtain ⟨ι, env, ah, a, j, p⟩ := h
  refine ⟨ι, env, ah, a, j, Po.first p fun ds ah1 ι1 H1 vs _ s S rs q => ?_⟩
  obtain ⟨hl, q⟩ := q.okB
  exact ⟨by rw [reps_len rs]; exact lenOk_le hl, q.mkL S rs⟩
theorem jcb {x : Str} {p : Pos} {id : String} {r : List V → Hp → VK → Prop} {o : OL} (hc : CallR X (.builtin id) r) (ho : OKL X.K X.mg noE r o) (hm : X.mg x = none) (hv : bootBuiltins x = some (.builtin id)) (ha : JA X J (a :: as) Fr) (hg : Gl X x := by rfl)
    (hp : Pl X a as pos := by exact ⟨rfl, rfl⟩) (hn : x ≠ "__name__" := by decide) (hdb : (x == ("__debug__" : Str)) = false := by decide) : JE X J (.Call (.Name x p) (a :: as) [] pos) (eL o Fr) := PE.mono (pe_callB hc hg hm hv ha hn hdb hp.he hp.hpl) fun σ H Q h => by
  obtain ⟨ι, env, ah, a, j, p⟩ := h
  exact ⟨ι, env, ah, a, j, Po.first p fun ds ah1 ι1 H1 vs _ s S rs q => ho ι1 H1 ah1 ds vs Q S rs q⟩
theorem jrepr {p : Pos} {k : Nat} (hm : X.mg "repr" = none) (hr : X.A.units + 16 * k + 200 < cLine ∧ Gd X.A) (ha : JA X J [a] Fl) (hg : Gl X "repr" := by rfl) (hp : Pl X a [] pos := by exact ⟨rfl, rfl⟩) : JE X J (.Call (.Name "repr" p) [a] [] pos) (eL bRepr Fl) :=
  jcb (call_reprD (by have := hr.1; omega) hr.2) ok_repr hm (by decide +kernel) ha hg hp
theorem jone {op} (h : JE X J a Fa) : JE X J (.BoolOp op [a] pos) Fa := pe_one h
theorem jand (hJ : JSt J) (ha : JE X J a Fa) (hb : JE X J (.BoolOp .And (b :: rest) pos) Fb) : JE X J (.BoolOp .And (a :: b :: rest) pos) (eAnd Fa Fb) := PE.mono (pe_and ha hb) fun σ H Q h => by
  obtain ⟨ι, env, ah, a, j, p⟩ := h
  refine ⟨ι, env, ah, a, j, Po.first p fun d ah1 ι1 H1 v _ s S rv q => ?_⟩
  obtain ⟨c, hc, q⟩ := q.okO
  have rv : Rep X.K X.mg ι1 H1 d v := rv
  rw [asB_eq (show asB d = some c from hc)] at rv
  refine ⟨c, rep_bl rv, ?_⟩
  cases c with
  | true => exact iteT ⟨ι1, env, ah1, a.step s S, hJ _ _ _ _ _ s j, q⟩
  | false => exact iteF (Po.here q S of_bl)
theorem jnot (ha : JE X J a Fa) : JE X J (.UnaryOp .Not a pos) (eNot Fa) := PE.mono (pe_not ha) fun σ H Q h => by
  obtain ⟨ι, env, ah, a, j, p⟩ := h
  refine ⟨ι, env, ah, a, j, Po.first p fun d ah1 ι1 H1 v _ s S rv q => ?_⟩
  obtain ⟨c, hc, q⟩ := q.okO
  have rv : Rep X.K X.mg ι1 H1 d v := rv
  rw [asB_eq (show asB d = some c from hc)] at rv
  exact ⟨c, rep_bl rv, Po.here q S of_bl⟩
theorem jret (he : JE X J e Fa) : PS X (.Return (some e) pos) (TJs X.K X.mg J (sRet Fa)) := PS.mono (ps_ret he) fun Dn σ H h => by
  obtain ⟨ι, env, ah, a, j, p⟩ := h
  refine ⟨ι, env, ah, a, j, Po.firstS p fun d ah1 ι1 H1 v _ s S rv q => ?_⟩
  exact (q.ou (a.step s S)) v rv
theorem jexpr (he : JE X J e Fa) (hs : swapsWith e none pos.line X.env = pure false := by rfl) : PS X (.Expr e pos) (TJs X.K X.mg J (sDrop Fa)) := PS.mono (ps_expr he hs) fun Dn σ H h => by
  obtain ⟨ι, env, ah, a, j, p⟩ := h
  refine ⟨ι, env, ah, a, j, Po.firstS p fun d ah1 ι1 H1 v _ s S rv q => ?_⟩
  exact q.ou (a.step s S)
/-- one statement alone -/
theorem jlast {st : Stmt} {S : FO} (h : PS X st (TJs X.K X.mg J S)) : JS X J [st] S := PSs.mono (pss_cons h pss_nil) fun Dn σ H h => h
theorem jbm {m : Str} {id : String} {r : V → List V → Hp → VK → Prop} {om : OM} {apos cpos : Pos} (hJ : JSt J) (slot : Slot "list" m id) (hty : typeOf (.builtin id) = pure (.type "method_descriptor")) (hm : MtR X id r) (hk : OKM X.K X.mg noE r om) (ho : JE X J o Fo) (ha : JA X J (a :: as) Fl) (h : MOk X o m apos a as cpos) :
    JE X J (.Call (.Attribute o m apos) (a :: as) [] cpos) (eLm om Fo Fl) := PE.mono (pe_bm PySem.F.plainAttrs_list slot hty hm ho ha h.base h.few h.line h.star h.plain) fun σ H Q hw => by
  obtain ⟨ι, env, ah, a, j, p⟩ := hw
  refine ⟨ι, env, ah, a, j, Po.first p fun d ah1 ι1 H1 v _ s S rv q => ?_⟩
  obtain ⟨hl, q⟩ := q.okB
  refine ⟨isLc_ty S rv hl, ι1, env, ah1, a.step s S, hJ _ _ _ _ _ s j, Po.first q fun ds ah2 ι2 H2 vs _ s2 S2 rs q2 => ?_⟩
  exact hk ι2 H2 ah2 d v ds vs Q S2 (s2.rep d rv) rs q2
theorem japp {apos cpos : Pos} (hJ : JSt J) (ho : JE X J o Fo) (ha : JA X J [a] Fl) (h : MOk X o "append" apos a [] cpos := by exact ⟨rfl, rfl, rfl, rfl, rfl⟩) : JE X J (.Call (.Attribute o "append" apos) [a] [] cpos) (eLm mApp Fo Fl) := jbm hJ PySem.F.slot_list_append PySem.F.type_list_append mt_append ok_app ho ha h
end
end Fx

/-! ===== Fx35 -/
set_option Elab.async false
set_option linter.all false
set_option maxRecDepth 100000
set_option maxHeartbeats 4000000
/-! ### isinstance of an exception that has a dict -/
namespace PySem.W
open PySem PySem.Spec PySem.Calls PyProof.Rows
section
variable {prog : Program} {w : World} {A : Around} {E : Value → Shared → Prop} {s : Shared} {K : Frag} {x D : Addr} {ox : Obj} {od : Option Obj}
theorem xcl_find {C : Addr} {name : Str} {a g : Value} (hc : (clsIn K C).isSome = true) (ha : findIn K (.ref C) name = some (some a)) (hg : specialIn K a "__get__" = some (some g)) (ht : takesIn K a = some true) : findObj K C od name = some (.bind g a) := by
  obtain ⟨cd, hc⟩ := Option.isSome_iff_exists.mp hc
  unfold findObj
  rw [hc, Option.bind_some, ha, Option.bind_some]
  simp [hg, ht]
theorem xcl_class {Q : Option Value → Shared → Prop} (h1 : findIn K (.ref D) "__getattribute__" = some (some (.builtin "BaseException.__getattribute__"))) (h2 : findIn K (.ref D) "__getattr__" = some none) (h3 : subIn K (.ref D) (.type "BaseException") = some true)
    (h4 : hasDictIn K D = true) (h5 : findIn K (.ref D) "__class__" = some (some (.builtin "object.__class__"))) (h6 : specialIn K (.builtin "object.__class__") "__get__" = some (some (.builtin "getset_descriptor.__get__"))) (h7 : takesIn K (.builtin "object.__class__") = some true)
    (h8 : mroIn K D (.type "object") = some true) (X : K.In s.heap) (I : InstAt s.heap x ox D od) (h : Q (some (.ref D)) { s with toks := s.toks + 1 }) : wpAny (model prog w) A (getAttr? (.ref x) "__class__") Q E s := by
  have hf : findObj K D od "__class__" = some (.bind (.builtin "getset_descriptor.__get__") (.builtin "object.__class__")) := xcl_find (by obtain ⟨cd, hc, _⟩ := any_some h4; rw [hc]; rfl) h5 h6 h7
  obtain ⟨hp, g, d, t, os⟩ := s
  have L0 := I.type (M := model prog w)
  have L1 := looks_findIn (M := model prog w) X h1
  have L2 := looks_findIn (M := model prog w) X h2
  have L3 := looks_find (M := model prog w) X I hf
  have isB : Looks (model prog w) hp (isInstance (.ref x) (.type "BaseException")) true := L0.andThen (looks_subIn X h3)
  have n0 : (false && onTheHeap (Value.builtin "BaseException.__getattribute__")) = false := rfl
  have n2 : (Value.builtin "BaseException.__getattribute__" == Value.builtin "object.__getattribute__") = false := by decide +kernel
  have n1 : (onTheHeap (Value.ref D) && Value.builtin "BaseException.__getattribute__" == Value.builtin "object.__getattribute__") = false := by rw [n2]; rfl
  unfold getAttr? getAttrBy? getAttrBy
  refine wpAny_bind (wpAny_mkText (wpAny_bind (wpAny_attempt (wpAny_holding (wpAny_bind (L0.at (wpAny_bind (L1.at ?_))))))))
  show wpAny _ _ (if (onTheHeap (Value.ref D) && Value.builtin "BaseException.__getattribute__" == Value.builtin "object.__getattribute__") = true then _ else _) _ _ _
  rw [n1, if_neg Bool.false_ne_true]
  unfold getAttrByItsOwn hookBefore
  refine wpAny_bind ?_
  rw [if_pos (show onTheHeap (Value.ref D) = true from rfl)]
  refine L2.at ?_
  refine wpAny_bind (wpAny_attempt (wpAny_holding ?_))
  unfold callGetattribute
  rw [n0, if_neg Bool.false_ne_true]
  unfold boundAndCalled
  rw [PySem.F.excAttr_ValueError.ga.bind (.ref x)]
  refine wpAny_bind (wpAny_pure ?_)
  show wpAny _ _ (call (.builtin "BaseException.__getattribute__") [.ref x, .str "__class__" t]) _ _ _
  refine wpAny_call (codeAny_call_builtin PySem.F.excAttr_ValueError.ga.plain PySem.F.entry_bexc_ga ?_)
  refine @check_slot (model prog w) _ _ ⟨hp, g, d, t + 1, os⟩ "BaseException.__getattribute__" "BaseException" "__getattribute__" (.ref x) [.str "__class__" t] [] _ (by decide +kernel) (by decide +kernel) isB (PySem.F.args_bexc_ga (.ref x) (.str "__class__" t)) ?_
  unfold Builtin.«object.__getattribute__»
  refine wpAny_bind (wpAny_of_eq (a := ((Value.ref x : Value), [Value.str "__class__" t])) (by first | rfl | (simp only [slotArgs]; rfl)) ?_)
  refine wpAny_bind (wpAny_pure (wpAny_bind (L0.at (wpAny_bind (L3.at ?_)))))
  show wpAny _ _ (holding [Value.builtin "object.__class__"] (call (.builtin "getset_descriptor.__get__") [.builtin "object.__class__", .ref x, .ref D]) >>= ret) _ _ _
  refine wpAny_bind (wpAny_holding (wpAny_call (class_get (s := ⟨hp, g, d, t + 1, os⟩) (ox := ox) (od := od) X I h8 ?_)))
  refine wpAny_pure ?_
  show wpAny _ _ (handedOut (.ref D)) _ _ _
  rw [handedOut_of (v := .ref D) rfl]
  first
    | exact wpAny_pure (wpAny_pure h)
    | exact wpAny_pure h
    | exact wpAny_pure (wpAny_bind (wpAny_pure (wpAny_pure h)))
theorem xcl_kit (h1 : findIn K (.ref D) "__getattribute__" = some (some (.builtin "BaseException.__getattribute__"))) (h2 : findIn K (.ref D) "__getattr__" = some none) (h3 : subIn K (.ref D) (.type "BaseException") = some true) (h4 : hasDictIn K D = true) (h5 : findIn K (.ref D) "__class__" = some (some (.builtin "object.__class__")))
    (h6 : specialIn K (.builtin "object.__class__") "__get__" = some (some (.builtin "getset_descriptor.__get__"))) (h7 : takesIn K (.builtin "object.__class__") = some true) (h8 : mroIn K D (.type "object") = some true) : KitX K (.ref x) (.ref D) (fun h => InstAt h x ox D od) := by
  refine ⟨fun _ _ _ I => I.type, fun _ _ X _ => ?_, fun h tp dd its n sl X htp => ?_, fun X I k => xcl_class h1 h2 h3 h4 h5 h6 h7 h8 X I k⟩
  · obtain ⟨cdD, hcD, _⟩ := any_some h4
    unfold clsIn at hcD
    split at hcD
    · rename_i c' d' cd' sl' ho
      intro A' Q' E' s' k q
      unfold isType loadHead
      exact wpAny_bind (wpAny_loadPart (k _ _ (X _ _ ho)) (wpAny_pure q))
    · cases hcD
  · obtain ⟨cdD, hcD, _⟩ := any_some h4
    refine Bool.eq_false_iff.mpr fun q => ?_
    have e : D = tp := Value.ref.inj (beq_iff_eq.mp q)
    subst e
    unfold clsIn at hcD
    split at hcD
    · rename_i c' d' cd' sl' ho
      have z := (X _ _ ho).symm.trans htp
      cases z
    · cases hcD
end
end PySem.W
namespace Fx
open PySem PySem.Spec PyProof.Rows L2
def rIsG (K : PySem.W.Frag) (D a : Addr) (d : Option Addr) : List V → Hp → VK → Prop := fun xs H Q => ∃ (c : V) (cv : Value) (b : Bool), xs = [.ref a, c] ∧ (∀ u, RelV c u → u = cv) ∧ PySem.W.kitOne K (.ref D) cv = some b ∧ (d = none ∨ ∃ dd gs, d = some dd ∧ H dd = some (.xd gs)) ∧ Q (.bl b) H
theorem call_isG {X : Cx} {a D : Addr} {d : Option Addr} {oe : Obj} {pn : List (Addr × Obj)} (C : ExcC X.K D) (hz : Zc (.ref D) d oe) (hf : ∃ vs, oe.data = .fields vs) : CallR (X.suite a ((a, oe) :: pn)) (.builtin "isinstance") (rIsG X.K D a d) := by
  intro pins s σ H xs us Q I r h
  obtain ⟨c, cv, b, rfl, hcv, e, hd, q⟩ := h
  cases r with
  | cons rx rr =>
    cases rr with
    | cons rt rr =>
      cases rr
      cases rx
      have ec := hcv _ rt
      subst ec
      obtain ⟨hget, _⟩ := I.pin (a, oe) (List.mem_append.mpr (.inl List.mem_cons_self))
      obtain ⟨vs, hv⟩ := hf
      have J : ∃ od, PySem.W.InstAt s.heap a oe D od := by
        obtain ⟨oc, od, oda, osl⟩ := oe
        obtain ⟨h1, h2⟩ := hz
        dsimp only at h1 h2 hv
        subst h1 h2 hv
        rcases hd with rfl | ⟨dd, gs, rfl, hx⟩
        · exact ⟨none, hget, rfl, rfl, trivial⟩
        · obtain ⟨mA, ⟨o, es, ep, ho, _⟩, _⟩ := (show ObjOk X.prog X.w H s.heap dd (.xd gs) from I.hok dd _ hx)
          exact ⟨some o, hget, rfl, rfl, ho⟩
      obtain ⟨od, J⟩ := J
      exact PySem.W.kia_one (PySem.W.xcl_kit C.hg C.hk C.hs C.hd C.ha C.hn C.ht C.hm) I.kIn J e (fun z => nomatch z) fun tk => ⟨.bl b, H, I.kept (t' := tk) fun _ _ z => z, rfl, q⟩
/-! ### what a suite knows of its exception x -/
def XJ (K : PySem.W.Frag) (mg : Str → Option Value) (x : XD) (cls : Value) (d : Option Addr) (a : Addr) (o : Option Nat) : JJ := fun ι σ H => XRep K mg ι H x cls d ∧ ∀ i, o = some i → σ[i]? = some (some (.ref a))
theorem xj_st {K : PySem.W.Frag} {mg : Str → Option Value} {x : XD} {cls : Value} {d : Option Addr} {a : Addr} {o : Option Nat} : JSt (XJ K mg x cls d a o) := fun ι H ι' H' σ s ⟨xr, h⟩ => by
  obtain ⟨C, rfl, hm, xr⟩ := xr
  refine ⟨⟨C, rfl, hm, ?_⟩, h⟩
  rcases xr with ⟨e1, e2⟩ | ⟨dd, gs, e1, n, g, r⟩
  · exact .inl ⟨e1, e2⟩
  · obtain ⟨n2, g2⟩ := s.lv.out _ _ n g
    exact .inr ⟨dd, gs, e1, n2, g2, s.repF _ r⟩
def eXf (n : Str) (x : XD) : FV := fun _ ah => okO (x.fs.lookup n) fun d => .ok (d, ah)
def eXis (tb : Str → Option Bool) (x : XD) : FV := fun _ ah => okO (tb x.cls) fun b => .ok (.bl b, ah)
theorem repF_look {K : PySem.W.Frag} {mg : Str → Option Value} {ι : Io} {H : Hp} {n : Str} {d : D} : ∀ (l : List (Str × D)) (g : List (Str × V)), RepF K mg ι H l g → l.lookup n = some d → ∃ v, g.lookup n = some v ∧ Rep K mg ι H d v
  | [], g, h, e => by cases e
  | (x, d') :: l, g, h, e => by
    obtain ⟨v, s, rfl, r1, r2⟩ := h
    rw [List.lookup_cons] at e ⊢
    cases hb : n == x with
    | true => rw [hb] at e; cases e; exact ⟨v, rfl, r1⟩
    | false => rw [hb] at e; exact repF_look l s r2 e
section
variable {X : Cx} {x : XD} {cls : Value} {d : Option Addr} {a : Addr} {oe : Obj} {pn : List (Addr × Obj)} {i : Nat} {en n T : Str} {p p2 p3 pos : Pos} {tb : Str → Option Bool}
/-- what the written part says of the classes that may be caught here: the fields' names are no names of the classes -/
def XfK (K : PySem.W.Frag) (mg : Str → Option Value) (n c : Str) : Prop := ∀ C, mg c = some (.ref C) → XfC K C ∧ PySem.W.findIn K (.ref C) n = some none
def XiK (K : PySem.W.Frag) (mg : Str → Option Value) (cv : Value) (tb : Str → Option Bool) : Prop := ∀ c b, tb c = some b → ∀ C, mg c = some (.ref C) → ExcC K C ∧ PySem.W.kitOne K (.ref C) cv = some b
abbrev tXv (J : JJ) (a : Addr) : TE := fun σ H Q => Q (.ref a) H
theorem jvar (hN : X.N[i]? = some en) (hv : Vis X.env.scope en) (hd : (en == ("__debug__" : Str)) = false) (hcd : (en == ("__classdict__" : Str)) = false) : PE (X.suite a ((a, oe) :: pn)) (.Name en p) (tVar i) := pe_var hN hv hd hcd
theorem jxf (hC : XfK X.K X.mg n x.cls) (hz : Zc cls d oe) (hf : ∃ vs, oe.data = .fields vs) (hN : X.N[i]? = some en := by rfl) (hv : Vis X.env.scope en := by first | exact Or.inl rfl | exact Or.inr (Or.inl rfl) | exact Or.inr (Or.inr rfl)) (hd : (en == ("__debug__" : Str)) = false := by decide)
    (hcd : (en == ("__classdict__" : Str)) = false := by decide) (hb : attributeBase (.Name en p) n X.env (eval (.Name en p) X.env) = eval (.Name en p) X.env := by rfl) : JE (X.suite a ((a, oe) :: pn)) (XJ X.K X.mg x cls d a (some i)) (.Attribute (.Name en p) n pos) (eXf n x) := by
  refine ⟨fun pins s σ H Q I h => ?_⟩
  obtain ⟨ι, env, ah, ha, ⟨⟨C, rfl, hm, xr⟩, hσ⟩, pq⟩ := h
  obtain ⟨hc1, hc2⟩ := hC C hm
  obtain ⟨dv, hdv, pq⟩ := pq.okO
  refine (pe_xf (X := X) (pn := pn) hc1 hc2 hz hf (jvar (p := p) hN hv hd hcd) hb).run pins s σ H Q I ?_
  refine ⟨.ref a, hσ i rfl, rfl, rfl, ?_⟩
  rcases xr with ⟨e1, e2⟩ | ⟨dd, gs, e1, nn, g, r⟩
  · rw [e1] at hdv; cases hdv
  · obtain ⟨v, hl, rv⟩ := repF_look x.fs gs r hdv
    exact ⟨dd, gs, v, e1, g, hl, pq.here ha.1 rv⟩
/-- what the name T holds: a class of the text, or a built-in one -/
inductive ClN (X : Cx) (T : Str) : V → Value → Prop
  | own (C : Addr) (hm : X.mg T = some (.ref C)) : ClN X T (.ref C) (.ref C)
  | blt (t : String) (hm : X.mg T = none) (hv : bootBuiltins T = some (.type t)) (hn : T ≠ "__name__") : ClN X T (.ty t) (.type t)
theorem jis {cvv : V} {cv : Value} (hc : ClN X T cvv cv) (hi : XiK X.K X.mg cv tb) (hm : X.mg "isinstance" = none) (hz : Zc cls d oe) (hf : ∃ vs, oe.data = .fields vs) (hN : X.N[i]? = some en := by rfl) (hv : Vis X.env.scope en := by first | exact Or.inl rfl | exact Or.inr (Or.inl rfl) | exact Or.inr (Or.inr rfl))
    (hd : (en == ("__debug__" : Str)) = false := by decide) (hcd : (en == ("__classdict__" : Str)) = false := by decide) (hgT : Gl X T := by rfl) (hdT : (T == ("__debug__" : Str)) = false := by decide) (hg : Gl X "isinstance" := by rfl)
    (hp : Pl X (.Name en p) [.Name T p2] pos := by exact ⟨rfl, rfl⟩) (hs : starEach [.Name en p, .Name T p2] X.env = (false, eval (.Name en p) X.env) :: starEach [.Name T p2] X.env := by rfl) (hs2 : starEach [.Name T p2] X.env = (false, eval (.Name T p2) X.env) :: starEach [] X.env := by rfl) :
    JE (X.suite a ((a, oe) :: pn)) (XJ X.K X.mg x cls d a (some i)) (.Call (.Name "isinstance" p3) [.Name en p, .Name T p2] [] pos) (eXis tb x) := by
  have hT : PE (X.suite a ((a, oe) :: pn)) (.Name T p2) (tC cvv) := by
    cases hc with
    | own C hm => exact pe_glob (X := X.suite a ((a, oe) :: pn)) hgT hm (show RelV (.ref C) (.ref C) from rfl) hdT
    | blt t hm hv hn => exact pe_bltn (X := X.suite a ((a, oe) :: pn)) hgT hm hv (show RelV (.ty t) (.type t) from rfl) hn hdT
  have hrel : ∀ u, RelV cvv u → u = cv := by
    cases hc with
    | own C hm => exact fun u h => h
    | blt t hm hv hn => exact fun u h => h
  refine ⟨fun pins s σ H Q I h => ?_⟩
  obtain ⟨ι, env, ah, ha, ⟨⟨C, rfl, hmc, xr⟩, hσ⟩, pq⟩ := h
  obtain ⟨b, hb, pq⟩ := pq.okO
  obtain ⟨hx1, hx2⟩ := hi _ b hb C hmc
  refine (pe_callB (X := X.suite a ((a, oe) :: pn)) (call_isG (X := X) (pn := pn) hx1 hz hf) hg hm (by decide +kernel) (pa_cons (jvar (p := p) hN hv hd hcd) (pa_cons hT pa_nil hs2) hs) (by decide) (by decide) hp.he hp.hpl).run pins s σ H Q I ?_
  refine ⟨.ref a, hσ i rfl, ?_⟩
  refine ⟨cvv, cv, b, rfl, hrel, hx2, ?_, pq.here ha.1 of_bl⟩
  rcases xr with ⟨_, e2⟩ | ⟨dd, gs, e1, nn, g, r⟩
  · exact .inl e2
  · exact .inr ⟨dd, gs, e1, g⟩
end
section
variable {X : Cx} {J : JJ} {a b : Expr} {Fa Fb : FV} {pos : Pos}
theorem jcmp {op : CmpOp} {r : R2} {o : O2} (hJ : JSt J) (hr : OpR X (compareOp op) r) (ho : OK2 X.K X.mg noE r o) (ha : JE X J a Fa) (hb : JE X J b Fb) (hm : behindInMarks op b = false) : JE X J (.Compare a [op] [b] pos) (e2 o Fa Fb) := PE.mono (pe_cmpR hr ha hb hm) fun σ H Q h => by
  obtain ⟨ι, env, ah, a, j, p⟩ := h
  refine ⟨ι, env, ah, a, j, Po.first p fun d ah1 ι1 H1 v _ s S rv q => ?_⟩
  refine ⟨ι1, env, ah1, a.step s S, hJ _ _ _ _ _ s j, Po.first q fun d2 ah2 ι2 H2 v2 _ t T rv2 q2 => ?_⟩
  exact ho ι2 H2 ah2 d v d2 v2 Q T (t.rep d rv) rv2 q2
theorem jeq (hJ : JSt J) (hu : X.A.units + 64 < cLine) (ha : JE X J a Fa) (hb : JE X J b Fb) : JE X J (.Compare a [.Eq] [b] pos) (e2 (oEq false) Fa Fb) := jcmp hJ (op_eqAll hu) ok_eq ha hb (nomark _)
end
/-! ### the statement -/
abbrev HF := (Str → Option Bool) × Option Nat × (XD → FO)
def unS (o : Option Nat) (r : R (Out × Env × AH)) : R (Out × Env × AH) := match r with
  | .ok (u, env, ah) => .ok (u, (match o with | some i => env.set i none | none => env), ah)
  | .exc _ _ _ => .stk
  | .stk => .stk
def inS (o : Option Nat) (env : Env) : Env := match o with | some i => env.set i none | none => env
def okI (o : Option Nat) (env : Env) : Bool := match o with | some i => Nat.blt i env.length | none => true
def hGo : List HF → XD → FO
  | [], x => fun env ah => .exc x env ah
  | (m, o, s) :: r, x => fun env ah => match m x.cls with
    | none => .stk
    | some true => match okI o env with
      | true => unS o (s x (inS o env) ah)
      | false => .stk
    | some false => hGo r x env ah
def sTry (B : FO) (hs : List HF) : FO := fun env ah => match B env ah with
  | .exc x e h => hGo hs x e h
  | r => r
/-- which classes the clause lets in -/
def McK (K : PySem.W.Frag) (mg : Str → Option Value) (c : Value) (m : Str → Option Bool) : Prop := ∀ x b, m x = some b → ∀ C, mg x = some (.ref C) → PySem.W.exmOne K (.ref C) c = some b
abbrev suF (X : Cx) (m : Str → Option Bool) (o : Option Nat) (S : XD → FO) (st : List Stmt) : Prop := ∀ (x : XD) (a : Addr) (oe : Obj) (cls : Value) (d : Option Addr) (pn : List (Addr × Obj)), m x.cls = some true → Zc cls d oe → (∃ vs, oe.data = .fields vs) → JS (X.suite a ((a, oe) :: pn)) (XJ X.K X.mg x cls d a o) st (S x)
inductive HdF (X : Cx) : List ExceptHandler → List HF → Prop
  | nil : HdF X [] []
  | one {x : Str} {c : Value} {m : Str → Option Bool} {S : XD → FO} {b₀ : Stmt} {su : List Stmt} {np p' : Pos} {hds : List ExceptHandler} {l : List HF} (hc : Names X x c) (hm : McK X.K X.mg c m) (hsu : suF X m none S (b₀ :: su)) (r : HdF X hds l) : HdF X (.ExceptHandler (some (.Name x np)) none (b₀ :: su) p' :: hds) ((m, none, S) :: l)
  | nam {x n : Str} {i : Nat} {c : Value} {m : Str → Option Bool} {S : XD → FO} {b₀ : Stmt} {su : List Stmt} {np p' : Pos} {hds : List ExceptHandler} {l : List HF} (hN : X.N.Nodup) (hi : X.N[i]? = some n) (hl : X.env.kindOf n = some .local) (hc : Names X x c) (hm : McK X.K X.mg c m) (hsu : suF X m (some i) S (b₀ :: su)) (r : HdF X hds l) :
      HdF X (.ExceptHandler (some (.Name x np)) (some n) (b₀ :: su) p' :: hds) ((m, some i, S) :: l)
def tsF (X : Cx) (m : Str → Option Bool) (o : Option Nat) (S : XD → FO) (a : Addr) (cls : Value) (d : Option Addr) : TS := fun Dn σ H => ∃ x : XD, m x.cls = some true ∧ TJs X.K X.mg (XJ X.K X.mg x cls d a o) (S x) Dn σ H
theorem suOk_of {X : Cx} {m : Str → Option Bool} {o : Option Nat} {S : XD → FO} {st : List Stmt} (h : suF X m o S st) : suOk X st (tsF X m o S) := fun a oe cls d pn hz hf => ⟨fun pins s σ H D I ⟨x, hx, q⟩ => (h x a oe cls d pn hx hz hf).run pins s σ H D I q⟩
theorem simE_off {K : PySem.W.Frag} {mg : Str → Option Value} {ι : Io} {H : Hp} {env : Env} {σ : L2.St} {i : Nat} {w : Option V} (h : SimE K mg ι H env σ) : SimE K mg ι H (env.set i none) (σ.set i w) := by
  refine ⟨by simpa using h.len, fun j d e => ?_⟩
  by_cases hj : i = j
  · subst hj
    by_cases hl : i < env.length
    · rw [List.getElem?_set_self hl] at e; cases e
    · rw [List.getElem?_eq_none (by simpa using hl)] at e; cases e
  · rw [List.getElem?_set_ne hj] at e ⊢
    exact h.var j d e
section
variable {X : Cx} {E : XW} {body : List Stmt} {h₀ : ExceptHandler} {hds : List ExceptHandler} {pos : Pos} {B : FO} {hs : List HF}
theorem hdF_all {hds : List ExceptHandler} {hs : List HF} (h : HdF X hds hs) : ∃ l : List HG, HdG X hds l ∧ ∀ (Dn : Ends) (ι : Io) (H : Hp) (x : XD) (e : Env) (ah : AH), PoS X.K X.mg E ι H (hGo hs x e ah) Dn → PX X.K X.mg (wG X.K E Dn l) ι H x e ah := by
  induction h with
  | nil => exact ⟨[], .nil, fun Dn ι H x e ah p => p⟩
  | @one x c m S b₀ su np p' hds l hc hm hsu r ih =>
    obtain ⟨l2, g2, h2⟩ := ih
    refine ⟨(c, none, tsF X m none S) :: l2, .one hc (suOk_of hsu) g2, fun Dn ι H x0 e ah p => ?_⟩
    intro ι' σ' H' cv dO st at_ xr
    unfold hGo at p
    cases hmx : m x0.cls with
    | none => rw [hmx] at p; exact p.elim
    | some b =>
      rw [hmx] at p
      obtain ⟨C, ec, hmg, _⟩ := id xr
      refine ⟨b, by rw [ec]; exact hm _ _ hmx C hmg, fun hb a ha => ?_, fun hb => ?_⟩
      · subst hb
        refine ⟨x0, hmx, ι', e, ah, at_, ⟨xr, fun i hi => by cases hi⟩, ?_⟩
        have p2 := PoS.later st p
        revert p2
        show PoS X.K X.mg E ι' H' (unS none (S x0 e ah)) Dn → PoS X.K X.mg noE ι' H' (S x0 e ah) Dn
        cases S x0 e ah with
        | ok z => exact fun q => q
        | exc x1 e1 h1 => exact fun q => q.elim
        | stk => exact fun q => q
      · subst hb
        exact h2 Dn ι H x0 e ah p ι' σ' H' cv dO st at_ xr
  | @nam x n i c m S b₀ su np p' hds l hN hi hl hc hm hsu r ih =>
    obtain ⟨l2, g2, h2⟩ := ih
    refine ⟨(c, some i, tsF X m (some i) S) :: l2, .nam hN hi hl hc (suOk_of hsu) g2, fun Dn ι H x0 e ah p => ?_⟩
    intro ι' σ' H' cv dO st at_ xr
    unfold hGo at p
    cases hmx : m x0.cls with
    | none => rw [hmx] at p; exact p.elim
    | some b =>
      rw [hmx] at p
      obtain ⟨C, ec, hmg, _⟩ := id xr
      refine ⟨b, by rw [ec]; exact hm _ _ hmx C hmg, fun hb a ha => ?_, fun hb => ?_⟩
      · subst hb
        cases hlen0 : okI (some i) e with
        | true =>
          simp only [hlen0] at p
          have hlen : i < σ'.length := by rw [at_.2.len]; exact Nat.lt_of_lt_of_le (Nat.lt_of_lt_of_eq (Nat.lt_succ_self i) rfl) (Nat.le_of_ble_eq_true hlen0)
          refine ⟨x0, hmx, ι', e.set i none, ah, ⟨at_.1, simE_off at_.2⟩, ⟨xr, fun j hj => by cases hj; rw [List.getElem?_set_self hlen]⟩, ?_⟩
          have p2 := PoS.later st p
          revert p2
          show PoS X.K X.mg E ι' H' (unS (some i) (S x0 (e.set i none) ah)) Dn → PoS X.K X.mg noE ι' H' (S x0 (e.set i none) ah) (goneD Dn i)
          cases S x0 (e.set i none) ah with
          | exc x1 e1 h1 => exact fun q => q.elim
          | stk => exact fun q => q
          | ok z =>
            obtain ⟨u, e1, h1⟩ := z
            intro q ι2 σ2 H2 s2 a2
            have q2 := q ι2 (σ2.set i none) H2 s2 ⟨a2.1, simE_off a2.2⟩
            cases u with
            | nx => exact q2
            | bk => exact q2
            | ct => exact q2
            | rt d => exact q2
        | false =>
          simp only [hlen0] at p
          exact p.elim
      · subst hb
        exact h2 Dn ι H x0 e ah p ι' σ' H' cv dO st at_ xr
end
end Fx
namespace Fx
open PySem PySem.Spec PyProof.Rows L2
section
variable {X : Cx} {E : XW} {body : List Stmt} {h₀ : ExceptHandler} {hds : List ExceptHandler} {pos : Pos} {B : FO} {hs : List HF}
theorem stry (tkx : Takes X E) (hst : X.stack = X.env :: X.outer) (hf : X.env.frame = some X.env.locals)
    (hb : ∀ (W : XW) (pn : List (Addr × Obj)) (xe : Value → Shared → Prop), Takes (X.tr pn xe) W → PassesOwn (model X.prog X.w) X.A X.env xe → FSs (X.tr pn xe) W body B) (hh : HdF X (h₀ :: hds) hs) :
    FS X E (.Try body (h₀ :: hds) [] [] pos) (sTry B hs) := by
  have key : ∃ l : List HG, HdG X (h₀ :: hds) l ∧ ∀ (Dn : Ends) (ι : Io) (H : Hp) (x : XD) (e : Env) (ah : AH), PoS X.K X.mg E ι H (hGo hs x e ah) Dn → PX X.K X.mg (wG X.K E Dn l) ι H x e ah := hdF_all hh
  obtain ⟨l, hg, hx⟩ := key
  refine PS.mono (ps_tryG (tb := fun W => TFs X.K X.mg W B) hst hf tkx (fun W pn xe tk po => hb W pn xe tk po) hg) fun Dn σ H h => ?_
  obtain ⟨ι, env, ah, a, p⟩ := h
  refine ⟨ι, env, ah, a, ?_⟩
  unfold sTry at p
  revert p
  cases hB : B env ah with
  | ok z => exact fun q => q
  | stk => exact fun q => q
  | exc x e h => exact fun q => hx Dn ι H x e h q
end
end Fx

/-! ===== Fx36 -/
set_option Elab.async false
set_option linter.all false
set_option maxRecDepth 100000
set_option maxHeartbeats 4000000
namespace Fx
open PySem PySem.Spec PyProof.Rows L2
/-! ### raise C('..'), C without an __init__ of its own -/
structure Dx0 (K : PySem.W.Frag) (mg : Str → Option Value) (x : Str) : Prop where
  to : ∃ (C : Addr) (B newId initId : String) (bmB : List Value), ExcBaseFacts B newId initId bmB ∧ PySem.W.excIn K C bmB newId = true ∧ mg x = some (.ref C) ∧ PySem.W.keepIn K (.ref C) = true ∧
    PySem.W.subIn K (.ref C) (.type "BaseException") = some true ∧ PySem.W.typeIn K (.ref C) = some (.type "type")
def sRaise0 (C : Str) : FO := fun env ah => .exc ⟨C, []⟩ env ah
theorem sraise0 {X : Cx} {E : XW} {x m : Str} {j : Nat} {p p2 pos pos' : Pos} (d : Dx0 X.K X.mg x) (hc : X.calm = true) (tk : Takes X E) (hg : Gl X x := by rfl) (hdb : (x == ("__debug__" : Str)) = false := by decide) :
    FS X E (.Raise (some (.Call (.Name x p) [.Constant (.str m) j p2] [] pos)) none pos') (sRaise0 x) := by
  obtain ⟨C, B, newId, initId, bmB, F, q, gC, kC, h1, h2⟩ := d.to
  refine PS.mono (ps_raise hc tk (pmk_own F q gC kC (raises_own h1 h2) hg hdb)) fun Dn σ H h => ?_
  obtain ⟨ι, env, ah, a, pq⟩ := h
  exact pq ι σ H (.ref C) none Step.refl a ⟨C, rfl, gC, .inl ⟨rfl, rfl⟩⟩
/-! ### clauses and isinstance by tables -/
def HcK (mg : Str → Option Value) (x : Str) (c : Value) : Prop := mg x = some c ∨ (mg x = none ∧ bootBuiltins x = some c ∧ x ≠ "__name__")
def HcM (K : PySem.W.Frag) (mg : Str → Option Value) (x : Str) (m : Str → Option Bool) : Prop := ∃ c, HcK mg x c ∧ McK K mg c m
def XiM (K : PySem.W.Frag) (mg : Str → Option Value) (x : Str) (m : Str → Option Bool) : Prop := ∃ cv, HcK mg x cv ∧ (∀ t, cv = .type t ∨ ∃ C, cv = .ref C) ∧ XiK K mg cv m
section
variable {X : Cx} {x n : Str} {i : Nat} {m : Str → Option Bool} {S : XD → FO} {b₀ : Stmt} {su : List Stmt} {np p' : Pos} {hds : List ExceptHandler} {l : List HF}
theorem hd_one (h : HcM X.K X.mg x m) (hsu : suF X m none S (b₀ :: su)) (r : HdF X hds l) (hg : Gl X x := by rfl) (hdb : (x == ("__debug__" : Str)) = false := by decide) : HdF X (.ExceptHandler (some (.Name x np)) none (b₀ :: su) p' :: hds) ((m, none, S) :: l) := by
  obtain ⟨c, h1, h2⟩ := h
  exact .one ⟨hg, hdb, h1⟩ h2 hsu r
theorem hd_nam (h : HcM X.K X.mg x m) (hN : X.N.Nodup) (hsu : suF X m (some i) S (b₀ :: su)) (r : HdF X hds l) (hi : X.N[i]? = some n := by rfl) (hl : X.env.kindOf n = some .local := by rfl) (hg : Gl X x := by rfl) (hdb : (x == ("__debug__" : Str)) = false := by decide) :
    HdF X (.ExceptHandler (some (.Name x np)) (some n) (b₀ :: su) p' :: hds) ((m, some i, S) :: l) := by
  obtain ⟨c, h1, h2⟩ := h
  exact .nam hN hi hl ⟨hg, hdb, h1⟩ h2 hsu r
end
/-- the class named T as a value -/
def ClM (mg : Str → Option Value) (T : Str) (cv : Value) : Prop := (∃ C, mg T = some (.ref C) ∧ cv = .ref C) ∨ ∃ t, mg T = none ∧ bootBuiltins T = some (.type t) ∧ T ≠ "__name__" ∧ cv = .type t
structure XiT (K : PySem.W.Frag) (mg : Str → Option Value) (T : Str) (tb : Str → Option Bool) : Prop where
  to : ∃ cv, ClM mg T cv ∧ XiK K mg cv tb
section
variable {X : Cx} {x : XD} {cls : Value} {d : Option Addr} {a : Addr} {oe : Obj} {pn : List (Addr × Obj)} {i : Nat} {en n T : Str} {p p2 p3 pos : Pos} {tb : Str → Option Bool}
theorem jisT (h : XiT X.K X.mg T tb) (hm : X.mg "isinstance" = none) (hz : Zc cls d oe) (hf : ∃ vs, oe.data = .fields vs) (hN : X.N[i]? = some en := by rfl) (hv : Vis X.env.scope en := by first | exact Or.inl rfl | exact Or.inr (Or.inl rfl) | exact Or.inr (Or.inr rfl))
    (hd : (en == ("__debug__" : Str)) = false := by decide) (hcd : (en == ("__classdict__" : Str)) = false := by decide) (hgT : Gl X T := by rfl) (hdT : (T == ("__debug__" : Str)) = false := by decide) (hg : Gl X "isinstance" := by rfl)
    (hp : Pl X (.Name en p) [.Name T p2] pos := by exact ⟨rfl, rfl⟩) (hs : starEach [.Name en p, .Name T p2] X.env = (false, eval (.Name en p) X.env) :: starEach [.Name T p2] X.env := by rfl) (hs2 : starEach [.Name T p2] X.env = (false, eval (.Name T p2) X.env) :: starEach [] X.env := by rfl) :
    JE (X.suite a ((a, oe) :: pn)) (XJ X.K X.mg x cls d a (some i)) (.Call (.Name "isinstance" p3) [.Name en p, .Name T p2] [] pos) (eXis tb x) := by
  obtain ⟨cv, hc, hi⟩ := h.to
  rcases hc with ⟨C, hm2, rfl⟩ | ⟨t, hm2, hb, hn, rfl⟩
  · exact jis (ClN.own C hm2) hi hm hz hf hN hv hd hcd hgT hdT hg hp hs hs2
  · exact jis (ClN.blt t hm2 hb hn) hi hm hz hf hN hv hd hcd hgT hdT hg hp hs hs2
end
/-! ### what is looked at in the head -/
open He
theorem exB_ok {K : PySem.W.Frag} {D : Addr} (h : exB K D = true) : ExcC K D := by
  unfold exB at h
  simp only [Bool.and_eq_true, decide_eq_true_eq] at h
  obtain ⟨h1, h2, h3, h4, h5, h6, h7, h8⟩ := h
  exact ⟨h1, h2, h3, h4, h5, h6, h7, h8⟩
section
variable {K : PySem.W.Frag} {mg : Str → Option Value} {h : Heap} {own : Bool} {T : Str} {t iT newId : String}
theorem lookup_mem {L : List (Str × Bool)} {c : Str} {b : Bool} : L.lookup c = some b → (c, b) ∈ L := by
  induction L with
  | nil => intro e; cases e
  | cons p L ih =>
    intro e
    obtain ⟨k, v⟩ := p
    rw [List.lookup_cons] at e
    cases hk : c == k with
    | true => rw [hk] at e; cases e; rw [eq_of_beq hk]; exact List.mem_cons_self
    | false => rw [hk] at e; exact List.mem_cons_of_mem _ (ih e)
theorem clsB_ok (X : K.In h) (G : h.Ns mainGlobals mg) (hb : bootBuiltins T = some (.type t) ∨ own = true) (hn : T ≠ "__name__") (c : clsB K own T = true) : HcK mg T (clsV K own T t) ∧ ClM mg T (clsV K own T t) := by
  cases own with
  | true =>
    have e := glo_ok X G (show (Fa.glo T).ok K = true from c)
    exact ⟨.inl e, .inl ⟨_, e, rfl⟩⟩
  | false =>
    have e := free_ok X G (show (Fa.free T).ok K = true from c)
    rcases hb with hb | hb
    · exact ⟨.inr ⟨e, hb, hn⟩, .inr ⟨t, e, hb, hn, rfl⟩⟩
    · cases hb
theorem ga_eq (X : K.In h) (G : h.Ns mainGlobals mg) {x : Str} {C : Addr} (c : (Fa.glo x).ok K = true) (e : mg x = some (.ref C)) : C = ga K x := by
  rw [glo_ok X G c] at e
  exact (Value.ref.inj (Option.some.inj e)).symm
theorem mcB_ok (X : K.In h) (G : h.Ns mainGlobals mg) {L : List (Str × Bool)} (c : mcB K own T t L = true) (hb : bootBuiltins T = some (.type t) ∨ own = true) (hn : T ≠ "__name__" := by decide) : HcM K mg T (fun c => L.lookup c) := by
  obtain ⟨c1, c2⟩ := ba c
  refine ⟨_, (clsB_ok X G hb hn c1).1, fun x b hx C hC => ?_⟩
  obtain ⟨c3, c4⟩ := ba (List.all_eq_true.mp c2 _ (lookup_mem hx))
  rw [ga_eq X G c3 hC]
  exact of_decide_eq_true c4
theorem xiB_ok (X : K.In h) (G : h.Ns mainGlobals mg) {L : List (Str × Bool)} (c : xiB K own T t L = true) (hb : bootBuiltins T = some (.type t) ∨ own = true) (hn : T ≠ "__name__" := by decide) : XiT K mg T (fun c => L.lookup c) := by
  obtain ⟨c1, c2⟩ := ba c
  refine ⟨_, (clsB_ok X G hb hn c1).2, fun x b hx C hC => ?_⟩
  obtain ⟨c3, c4⟩ := ba (List.all_eq_true.mp c2 _ (lookup_mem hx))
  obtain ⟨c5, c6⟩ := ba c4
  rw [ga_eq X G c3 hC]
  exact ⟨exB_ok c5, of_decide_eq_true c6⟩
theorem xfB2_ok (X : K.In h) (G : h.Ns mainGlobals mg) {L : List (Str × Str)} (c : xfB2 K L = true) : ∀ p ∈ L, XfK K mg p.2 p.1 := fun p hp C hC => by
  obtain ⟨c3, c4⟩ := ba (List.all_eq_true.mp c _ hp)
  obtain ⟨c5, c6⟩ := ba c4
  rw [ga_eq X G c3 hC]
  exact ⟨xfB_ok c5, of_decide_eq_true c6⟩
theorem xcB_ok {C : Addr} {B T0 initT : String} {tl : List Value} (F : BaF B newId T0 initT tl) (c : xcB K C newId tl = true) : ∃ nm q N bs bm sn sub ab col dd k0 k1 k2 k3 k5 B newId T tl, K.lookup C = some (PySem.FxE.clO nm q C N bs bm sn sub ab col dd k0 k1 k2 k3 k5 newId) ∧ rfT tl bm = true ∧ BaF B newId T initT tl := by
  unfold xcB at c
  split at c
  · rename_i dd cd sl ho
    split at c
    · rename_i C' bm k0 k1 k2 k3 n k5 hm hs
      simp only [Bool.and_eq_true, decide_eq_true_eq, Bool.not_eq_true'] at c
      obtain ⟨rfl, rfl, hdel, hdct, hr⟩ := c
      obtain ⟨nm, bs, mro, ns, qn, hd, sn, sub, ab, col, del⟩ := cd
      dsimp only at hm hdel hdct
      subst hm hdel hdct
      have hsl : sl = #[k0, k1, k2, k3, some (.builtin n), k5] := by
        obtain ⟨l⟩ := sl
        simp only at hs
        rw [hs]
      subst hsl
      exact ⟨nm, qn, ns, bs, bm, sn, sub, ab, col, dd, k0, k1, k2, k3, k5, B, n, T0, tl, ho, hr, F⟩
    · cases c
  · cases c
theorem xkB_ok (X : K.In h) (G : h.Ns mainGlobals mg) {x : Str} {B T0 initT : String} {tl : List Value} (F : BaF B newId T0 initT tl) (c : xkB K x newId tl = true) : mg x = some (.ref (ga K x)) ∧ XcK K (ga K x) initT := by
  obtain ⟨c1, c⟩ := ba c
  obtain ⟨c2, c⟩ := ba c
  obtain ⟨c3, c⟩ := ba c
  obtain ⟨c4, c⟩ := ba c
  obtain ⟨c5, c6⟩ := ba c
  exact ⟨glo_ok X G c1, xcB_ok F c2, of_decide_eq_true c3, of_decide_eq_true c4, of_decide_eq_true c5, c6⟩
theorem x0B_ok (X : K.In h) (G : h.Ns mainGlobals mg) {x : Str} {B initId : String} {bm : List Value} (F : ExcBaseFacts B newId initId bm) (c : x0B K x newId bm = true) : Dx0 K mg x := by
  obtain ⟨c1, c⟩ := ba c
  obtain ⟨c2, c⟩ := ba c
  obtain ⟨c3, c⟩ := ba c
  obtain ⟨c4, c5⟩ := ba c
  exact ⟨_, B, newId, initId, bm, F, c2, glo_ok X G c1, c3, of_decide_eq_true c4, of_decide_eq_true c5⟩
theorem binB_ok (X : K.In h) (G : h.Ns mainGlobals mg) (c : binB K own T t iT = true) (hb : (bootBuiltins T = some (.type t) ∧ typeOf (.type t) = pure (.type "type") ∧ Manifest.isStub t = false) ∨ own = true) (hn : T ≠ "__name__" := by decide) : Bin K mg T iT := by
  obtain ⟨c1, c⟩ := ba c
  obtain ⟨c2, c3⟩ := ba c
  have hf : PySem.W.findCls K (clsV K own T t) (.type "type") "__init__" = some (.val (.builtin iT)) := by
    revert c3
    cases PySem.W.findCls K (clsV K own T t) (.type "type") "__init__" with
    | none => intro c; cases c
    | some r =>
      cases r with
      | val v =>
        cases v with
        | builtin n => intro c; rw [of_decide_eq_true c]
        | _ => intro c; cases c
      | get _ _ _ _ => intro c; cases c
  cases own with
  | true =>
    obtain ⟨c4, c5⟩ := ba c2
    exact .own _ (glo_ok X G c1) (of_decide_eq_true c4) c5 hf
  | false =>
    rcases hb with ⟨h1, h2, h3⟩ | hb
    · exact .blt t (free_ok X G c1) h1 hn h2 h3 hf
    · cases hb
theorem dx_of {P : Program} {w : World} {base : Heap} {x q : Str} {params : Arguments} {body : List Stmt} {scope : Scope} {C f : Addr} {fd : FuncData} {ps : List Str} {fn : List Str} (F : FunD K "__init__" q params body scope [] [] f fd) (hx : mg x = some (.ref C) ∧ XcK K C iT)
    (hi : PySem.W.findIn K (.ref C) "__init__" = some (some (.ref f)) ∧ PySem.W.typeIn K (.ref f) = some (.type "function"))
    (hb : ∀ (kV doc pm : Value) (an : Option Addr) (cdv ct : Value) (us : List Value), us.length = ps.length → bindArgs (PySem.W.fnOf "__init__" q params body scope .none kV doc pm an cdv ct) ⟨us, []⟩ = pure (ps.zip us))
    (G : FnOk P w K mg base (L2.CX P w) 1 f fd ps (spXi K iT fn)) (hno : ∀ f ∈ fn, PySem.W.findIn K (.ref C) f = some none) : Dx P w K mg base 1 x fn [] :=
  ⟨C, f, fd, ps, iT, [], [], hx.1, hx.2, hi.1, hi.2, G, F.bindsN hb, .nil, hno, fun ι H => of_nil⟩
end
end Fx
namespace Fx
open PySem PySem.Spec PyProof.Rows L2 He
theorem RG.mark {k : Nat} {A : Around} (h : RG k A) (v : Option Value) : (A.mark v).units + 16 * k + 200 < cLine ∧ Gd (A.mark v) := ⟨h.r.un, h.g⟩
theorem iniB_ok {K : PySem.W.Frag} {x : Str} (c : iniB K x = true) : PySem.W.findIn K (.ref (ga K x)) "__init__" = some (some (.ref (ma K (ga K x) "__init__"))) ∧ PySem.W.typeIn K (.ref (ma K (ga K x) "__init__")) = some (.type "function") := by
  obtain ⟨c1, c2⟩ := ba c
  exact ⟨of_decide_eq_true c1, of_decide_eq_true c2⟩
theorem noB_ok {K : PySem.W.Frag} {x : Str} {fn : List Str} (c : noB K x fn = true) : ∀ f ∈ fn, PySem.W.findIn K (.ref (ga K x)) f = some none := fun f hf => of_decide_eq_true (List.all_eq_true.mp c f hf)
end Fx

/-! ===== Mx -/
set_option linter.all false
set_option maxRecDepth 100000
namespace Fx
open PySem
/-! ### what the functions of the little heap compute: lemmas -/
theorem bind_ok {α β : Type} {a : α} {f : α → R β} : (R.ok a).bind f = f a := rfl
theorem bx_ok' {α β : Type} {a : α} {f : α → R β} : (R.ok a).bx f = f a := rfl
/-- a for whose turns all go on -/
theorem forGo_all {src : Src} {g : FG0} {body : FO} (I : Env → AH → Prop) (st : ∀ env ah, I env ah → src.still ah = true) :
    ∀ (l : List D) (env : Env) (ah : AH), I env ah → (∀ d ∈ l, ∀ env ah, I env ah → ∃ e1 h1 e2 h2, g d env ah = .ok (e1, h1) ∧ body e1 h1 = .ok (.nx, e2, h2) ∧ I e2 h2) → ∃ env' ah', forGo src g body l env ah = .ok (.nx, env', ah') ∧ I env' ah'
  | [], env, ah, i, _ => ⟨env, ah, by unfold forGo; rw [st env ah i]; rfl, i⟩
  | d :: l, env, ah, i, h => by
    obtain ⟨e1, h1, e2, h2, a, b, c⟩ := h d List.mem_cons_self env ah i
    obtain ⟨env', ah', q1, q2⟩ := forGo_all I st l e2 h2 c fun d hd => h d (List.mem_cons_of_mem _ hd)
    refine ⟨env', ah', ?_, q2⟩
    unfold forGo
    rw [st env ah i, a]
    simp only [okB, R.bind, b]
    exact q1
/-- a for as a fold -/
theorem forGo_cons {src : Src} {g : FG0} {body : FO} {d : D} {l : List D} {env e1 e2 : Env} {ah h1 h2 : AH} (st : src.still ah = true) (a : g d env ah = .ok (e1, h1)) (b : body e1 h1 = .ok (.nx, e2, h2)) : forGo src g body (d :: l) env ah = forGo src g body l e2 h2 := by
  conv => lhs; unfold forGo
  rw [st, a]
  simp only [okB, R.bind, b]
theorem forGo_ret {src : Src} {g : FG0} {body : FO} {d v : D} {l : List D} {env e1 e2 : Env} {ah h1 h2 : AH} (st : src.still ah = true) (a : g d env ah = .ok (e1, h1)) (b : body e1 h1 = .ok (.rt v, e2, h2)) : forGo src g body (d :: l) env ah = .ok (.rt v, e2, h2) := by
  conv => lhs; unfold forGo
  rw [st, a]
  simp only [okB, R.bind, b]
/-- one turn of a comprehension -/
def lcOne (g : FG0) (t : FB) (e : FV) (env : Env) (d : D) (ah : AH) : R (Option D × AH) := (g d env ah).bx fun y => (t y.1 y.2).bx fun b => match b.1 with
  | true => (e y.1 b.2).bx fun z => .ok (some z.1, z.2)
  | false => .ok (none, b.2)
theorem lcGo_step {src : Src} {env : Env} {g : FG0} {t : FB} {e : FV} {d : D} {l r : List D} {ah ah1 ah2 : AH} {o : Option D} (st : src.still ah = true) (h : lcOne g t e env d ah = .ok (o, ah1)) (hr : lcGo src env g t e l ah1 = .ok (r, ah2)) :
    lcGo src env g t e (d :: l) ah = .ok (o.toList ++ r, ah2) := by
  unfold lcGo
  rw [st]
  unfold lcOne at h
  show ((g d env ah).bx fun y => (t y.1 y.2).bx fun b => match b.1 with
    | true => (e y.1 b.2).bx fun z => (lcGo src env g t e l z.2).bx fun w => R.ok (z.1 :: w.1, w.2)
    | false => lcGo src env g t e l b.2) = _
  cases hg : g d env ah with
  | exc x a b => rw [hg] at h; cases h
  | stk => rw [hg] at h; cases h
  | ok y =>
    rw [hg] at h
    simp only [R.bx] at h ⊢
    cases ht : t y.1 y.2 with
    | exc x a b => rw [ht] at h; cases h
    | stk => rw [ht] at h; cases h
    | ok b =>
      obtain ⟨c, hb⟩ := b
      rw [ht] at h
      cases c with
      | false =>
        cases h
        exact hr
      | true =>
        simp only at h ⊢
        cases he : e y.1 hb with
        | exc x a b => rw [he] at h; cases h
        | stk => rw [he] at h; cases h
        | ok z =>
          rw [he] at h
          cases h
          simp only [hr]
          rfl
/-- a comprehension that leaves the cells as they are -/
theorem lcGo_pure {src : Src} {env : Env} {g : FG0} {t : FB} {e : FV} {F : D → Option D} {ah : AH} (st : src.still ah = true) : ∀ (l : List D), (∀ d ∈ l, lcOne g t e env d ah = .ok (F d, ah)) → lcGo src env g t e l ah = .ok (l.filterMap F, ah)
  | [], _ => by unfold lcGo; rw [st]; rfl
  | d :: l, h => by
    rw [lcGo_step st (h d List.mem_cons_self) (lcGo_pure st l fun d hd => h d (List.mem_cons_of_mem _ hd))]
    show R.ok ((F d).toList ++ l.filterMap F, ah) = _
    rw [List.filterMap_cons]
    cases F d <;> rfl
theorem still_nil {its : List D} {ah : AH} : (⟨its, []⟩ : Src).still ah = true := rfl
end Fx

/-! ===== Mx2 -/
set_option linter.all false
namespace Fx
open PySem
section
variable {a b : FO} {e : FV} {t : FB} {env e1 : Env} {ah h1 h2 : AH} {o : Out} {d d2 : D} {i : Nat}
theorem sSeq_nx (h : a env ah = .ok (.nx, e1, h1)) : sSeq a b env ah = b e1 h1 := by unfold sSeq; rw [h]; rfl
theorem sSeq_rt (h : a env ah = .ok (.rt d, e1, h1)) : sSeq a b env ah = .ok (.rt d, e1, h1) := by unfold sSeq; rw [h]; rfl
theorem sSet_ok (h : e env ah = .ok (d, h1)) : sSet i e env ah = .ok (.nx, env.set i (some d), h1) := by unfold sSet sAsg; rw [h]; rfl
theorem sRet_ok (h : e env ah = .ok (d, h1)) : sRet e env ah = .ok (.rt d, env, h1) := by unfold sRet; rw [h]; rfl
theorem sIf_t (h : t env ah = .ok (true, h1)) : sIf t a b env ah = a env h1 := by unfold sIf; rw [h]; rfl
theorem sIf_f (h : t env ah = .ok (false, h1)) : sIf t a b env ah = b env h1 := by unfold sIf; rw [h]; rfl
theorem runB_rt {n m : Nat} {B : FO} {ds : List D} (hl : ds.length = n) (h : B (ds.map some ++ List.replicate m none) ah = .ok (.rt d, e1, h1)) : runB n m B ds ah = .ok (d, h1) := by
  unfold runB
  rw [h, hl, Nat.beq_refl]
  rfl
theorem e2_ok {o : O2} {x y : FV} (h : x env ah = .ok (d, h1)) (h' : y env h1 = .ok (d2, h2)) : e2 o x y env ah = o d d2 h2 := by unfold e2; rw [h]; show (y env h1).bind _ = _; rw [h']; rfl
theorem eCall_ok {m : Mf} {l : FL} {ds : List D} (h : l env ah = .ok (ds, h1)) (h' : m ds h1 = .ok (d, h2)) : eCall m l env ah = .ok (d, h2) := by
  unfold eCall; rw [h]; show reEnv _ _ = _ <;> first | (rw [h']; rfl) | skip
theorem eLc_ok {src : Src} {g : FG0} {t : FB} {i : FI0} {vs : List Nat} {r : List D} (h : i env ah = .ok (src, h1)) (hl : lenOk src.items.length = true) (hr : lcGo src (wipeE env vs) g t e src.items h1 = .ok (r, h2)) : eLc false i vs g t e env ah = mkL false r h2 := by
  unfold eLc
  rw [h]
  show okB _ _ = _
  rw [hl, hr]
  rfl
theorem bT_ok {c : Bool} (h : e env ah = .ok (.bl c, h1)) : bT e env ah = .ok (c, h1) := by unfold bT; rw [h]; rfl
theorem bAnd_t {t2 : FB} (h : t env ah = .ok (true, h1)) : bAnd t t2 env ah = t2 env h1 := by unfold bAnd; rw [h]; rfl
theorem bAnd_f {t2 : FB} (h : t env ah = .ok (false, h1)) : bAnd t t2 env ah = .ok (false, h1) := by unfold bAnd; rw [h]; rfl
end
end Fx

/-! ===== Mx3 -/
set_option linter.all false
set_option maxRecDepth 100000
set_option maxHeartbeats 1000000
namespace Fx
open PySem PySem.Spec
/-! ### equality of data -/
theorem D.eq_iff {a b : D} : D.eq a b = true ↔ a = b := ⟨D.eq_of, fun h => by rw [h]; exact D.eq_refl b⟩
instance : DecidableEq D := fun a b => decidable_of_iff (D.eq a b = true) D.eq_iff
theorem D.eq_dec (a b : D) : D.eq a b = decide (a = b) := by
  by_cases h : a = b
  · rw [decide_eq_true h]; exact D.eq_iff.mpr h
  · rw [decide_eq_false h]
    cases e : D.eq a b with
    | false => rfl
    | true => exact absurd (D.eq_iff.mp e) h
/-! ### data that == and in may ask: no truth values in it -/
mutual
def toPy : D → PyData
  | .bl b => .bool b
  | .int i => .int i
  | .str x => .str x
  | .tup xs => .tuple (toPys xs)
  | .lst xs => .list (toPys xs)
  | _ => .none
def toPys : List D → List PyData
  | [] => []
  | d :: r => toPy d :: toPys r
end
mutual
def daD : Nat → D → Bool
  | _, .non => true
  | _, .int _ => true
  | _, .str x => PyData.strOk x
  | n + 1, .tup xs => daDs n xs
  | n + 1, .lst xs => daDs n xs
  | _, _ => false
def daDs : Nat → List D → Bool
  | _, [] => true
  | n, d :: r => daD n d && daDs n r
end
mutual
theorem pd_da (ah : AH) : ∀ (n : Nat) (d : D), daD n d = true → pd ah n d = some (toPy d)
  | n, .non, _ => by unfold pd; rfl
  | n, .int i, _ => by unfold pd; rfl
  | n, .str x, h => by unfold daD at h; unfold pd toPy; rw [h]
  | n, .bl b, h => by unfold daD at h; cases h
  | n, .dic _ _, h => by unfold daD at h; cases h
  | n, .rng _ _, h => by unfold daD at h; cases h
  | n, .ref _, h => by unfold daD at h; cases h
  | n, .fn _, h => by unfold daD at h; cases h
  | 0, .tup xs, h => by unfold daD at h; cases h
  | 0, .lst xs, h => by unfold daD at h; cases h
  | n + 1, .tup xs, h => by unfold daD at h; unfold pd toPy; rw [pd_das ah n xs h]; rfl
  | n + 1, .lst xs, h => by unfold daD at h; unfold pd toPy; rw [pd_das ah n xs h]; rfl
theorem pd_das (ah : AH) : ∀ (n : Nat) (d : List D), daDs n d = true → mapO (pd ah n) d = some (toPys d)
  | n, [], _ => by unfold mapO toPys; rfl
  | n, d :: r, h => by
    unfold daDs at h
    rw [Bool.and_eq_true] at h
    unfold mapO toPys
    rw [pd_da ah n d h.1, pd_das ah n r h.2]
end
mutual
theorem eqv_py : ∀ (n m : Nat) (a b : D), daD n a = true → daD m b = true → PyData.eqv (toPy a) (toPy b) = D.eq a b
  | _, _, .bl _, _, h, _ => by unfold daD at h; cases h
  | _, _, .dic _ _, _, h, _ => by unfold daD at h; cases h
  | _, _, .rng _ _, _, h, _ => by unfold daD at h; cases h
  | _, _, .ref _, _, h, _ => by unfold daD at h; cases h
  | _, _, .fn _, _, h, _ => by unfold daD at h; cases h
  | _, _, .non, b, _, h => by
    cases b <;> first | (unfold daD at h; cases h; done) | (unfold toPy PyData.eqv D.eq; rfl)
  | _, _, .int i, b, _, h => by
    cases b <;> first | (unfold daD at h; cases h; done) | (unfold toPy PyData.eqv D.eq; rfl)
  | _, _, .str i, b, _, h => by
    cases b <;> first | (unfold daD at h; cases h; done) | (unfold toPy PyData.eqv D.eq; rfl)
  | n, m, .tup xs, b, ha, h => by
    cases b with
    | tup ys =>
      cases n with
      | zero => unfold daD at ha; cases ha
      | succ n =>
        cases m with
        | zero => unfold daD at h; cases h
        | succ m =>
          unfold daD at h ha
          unfold toPy PyData.eqv D.eq
          exact eqvs_py n m xs ys ha h
    | _ => first | (unfold daD at h; cases h; done) | (unfold toPy PyData.eqv D.eq; rfl)
  | n, m, .lst xs, b, ha, h => by
    cases b with
    | lst ys =>
      cases n with
      | zero => unfold daD at ha; cases ha
      | succ n =>
        cases m with
        | zero => unfold daD at h; cases h
        | succ m =>
          unfold daD at h ha
          unfold toPy PyData.eqv D.eq
          exact eqvs_py n m xs ys ha h
    | _ => first | (unfold daD at h; cases h; done) | (unfold toPy PyData.eqv D.eq; rfl)
theorem eqvs_py : ∀ (n m : Nat) (a b : List D), daDs n a = true → daDs m b = true → PyData.eqvAll (toPys a) (toPys b) = D.eqs a b
  | _, _, [], b, _, _ => by cases b <;> (unfold toPys PyData.eqvAll D.eqs; rfl)
  | _, _, x :: r, [], _, _ => by unfold toPys PyData.eqvAll D.eqs; rfl
  | n, m, x :: r, y :: s, h, h' => by
    unfold daDs at h h'
    rw [Bool.and_eq_true] at h h'
    unfold toPys PyData.eqvAll D.eqs
    rw [eqv_py n m x y h.1 h'.1, eqvs_py n m r s h.2 h'.2]
end
theorem oEqD_dat {neg : Bool} {a b : D} {ah : AH} (ha : daD 64 a = true) (hb : daD 64 b = true) : oEqD neg a b ah = .ok (.bl (ngB neg (decide (a = b))), ah) := by
  unfold oEqD ngB
  rw [pd_da ah 64 a ha, pd_da ah 64 b hb]
  simp only [okO]
  rw [eqv_py 64 64 a b ha hb, D.eq_dec]
theorem str_dec {a b : Str} : decide (D.str a = D.str b) = decide (a = b) := by
  rw [Bool.eq_iff_iff, decide_eq_true_eq, decide_eq_true_eq]
  exact ⟨fun h => by injection h, fun h => by rw [h]⟩
theorem oEq_str {neg : Bool} {a b : Str} {ah : AH} : oEq neg (.str a) (.str b) ah = .ok (.bl (ngB neg (decide (a = b))), ah) := rfl
theorem oEq_dat {neg : Bool} {a b : D} {ah : AH} (ha : daD 64 a = true) (hb : daD 64 b = true) : oEq neg a b ah = .ok (.bl (ngB neg (decide (a = b))), ah) := by
  unfold oEq
  split
  · rw [str_dec]; rfl
  · exact oEqD_dat ha hb
theorem any_toPys {x : D} {n : Nat} (hx : daD 64 x = true) : ∀ (ys : List D), daDs n ys = true → ((toPys ys).any fun z => PyData.eqv z (toPy x)) = decide (x ∈ ys)
  | [], _ => by unfold toPys; rfl
  | y :: r, h => by
    unfold daDs at h
    rw [Bool.and_eq_true] at h
    unfold toPys
    rw [List.any_cons, any_toPys hx r h.2, eqv_py n 64 y x h.1 hx, D.eq_dec]
    by_cases e : x = y
    · subst e; simp
    · have e' : ¬ y = x := fun z => e z.symm
      simp [e, e']
/-- in a list or a tuple that is no cell -/
theorem oIn_lst {neg : Bool} {x : D} {ys : List D} {ah : AH} (hx : daD 64 x = true) (hy : daDs 63 ys = true) : oIn neg x (.lst ys) ah = .ok (.bl (ngB neg (decide (x ∈ ys))), ah) := by
  unfold oIn
  simp only [asD, asS, asL, okO]
  rw [pd_da ah 64 x hx, pd_das ah 63 ys hy]
  simp only [any_toPys hx ys hy]
theorem oIn_tup {neg : Bool} {x : D} {ys : List D} {ah : AH} (hx : daD 64 x = true) (hy : daDs 63 ys = true) : oIn neg x (.tup ys) ah = .ok (.bl (ngB neg (decide (x ∈ ys))), ah) := by
  unfold oIn
  simp only [asD, asS, asL, okO]
  rw [pd_da ah 64 x hx, pd_das ah 63 ys hy]
  simp only [any_toPys hx ys hy]
theorem oIn_ref {neg : Bool} {x : D} {ys : List D} {ah : AH} {p : Nat} (hp : ah[p]? = some (.lst ys)) (hx : daD 64 x = true) (hy : daDs 63 ys = true) : oIn neg x (.ref p) ah = .ok (.bl (ngB neg (decide (x ∈ ys))), ah) := by
  unfold oIn
  simp only [asD, asS, asL, okO, hp]
  rw [pd_da ah 64 x hx, pd_das ah 63 ys hy]
  simp only [any_toPys hx ys hy]
theorem daDs_all {n : Nat} : ∀ {l : List D}, (∀ d ∈ l, daD n d = true) → daDs n l = true
  | [], _ => by unfold daDs; rfl
  | d :: r, h => by
    unfold daDs
    rw [h d List.mem_cons_self, daDs_all fun d hd => h d (List.mem_cons_of_mem _ hd)]
    rfl
theorem daDs_map {α : Type} {n : Nat} {f : α → D} {l : List α} (h : ∀ x ∈ l, daD n (f x) = true) : daDs n (l.map f) = true := daDs_all fun d hd => by
  obtain ⟨x, hx, rfl⟩ := List.mem_map.mp hd
  exact h x hx
theorem daD_int {n : Nat} {i : Int} : daD n (.int i) = true := by unfold daD; rfl
theorem daDs_ints {n : Nat} {l : List Int} : daDs n (l.map .int) = true := daDs_map fun _ _ => daD_int
theorem daD_iL {n : Nat} {l : List Int} : daD (n + 1) (.lst (l.map .int)) = true := by unfold daD; exact daDs_ints
theorem daD_iT {n : Nat} {l : List Int} : daD (n + 1) (.tup (l.map .int)) = true := by unfold daD; exact daDs_ints
/-! ### whole numbers in lists -/
theorem int_inj {a b : Int} (h : D.int a = D.int b) : a = b := by cases h; rfl
theorem map_int_inj : ∀ {a b : List Int}, a.map D.int = b.map D.int → a = b
  | [], [], _ => rfl
  | [], _ :: _, h => by cases h
  | _ :: _, [], h => by cases h
  | x :: r, y :: s, h => by
    rw [List.map_cons, List.map_cons] at h
    obtain ⟨h1, h2⟩ := List.cons.inj h
    rw [int_inj h1, map_int_inj h2]
theorem iL_inj {a b : List Int} : (D.lst (a.map .int) = D.lst (b.map .int)) ↔ a = b := ⟨fun h => by injection h with h; exact map_int_inj h, fun h => by rw [h]⟩
theorem iT_inj {a b : List Int} : (D.tup (a.map .int) = D.tup (b.map .int)) ↔ a = b := ⟨fun h => by injection h with h; exact map_int_inj h, fun h => by rw [h]⟩
theorem mem_ints {x : Int} {l : List Int} : (D.int x ∈ l.map D.int) ↔ x ∈ l := by
  rw [List.mem_map]
  exact ⟨fun ⟨y, h, e⟩ => by cases e; exact h, fun h => ⟨x, h, rfl⟩⟩
theorem asI_ints : ∀ l : List Int, mapO asI (l.map D.int) = some l
  | [] => by unfold mapO; rfl
  | x :: r => by
    show mapO asI (D.int x :: r.map D.int) = _
    unfold mapO
    rw [asI_ints r]
    rfl
theorem asB_bls : ∀ l : List Bool, mapO asB (l.map D.bl) = some l
  | [] => by unfold mapO; rfl
  | x :: r => by
    show mapO asB (D.bl x :: r.map D.bl) = _
    unfold mapO
    rw [asB_bls r]
    rfl
/-! ### no cells in it -/
theorem nrs_all : ∀ {l : List D}, (∀ d ∈ l, D.nr d = true) → D.nrs l = true
  | [], _ => by unfold D.nrs; rfl
  | d :: r, h => by
    unfold D.nrs
    rw [h d List.mem_cons_self, nrs_all fun d hd => h d (List.mem_cons_of_mem _ hd)]
    rfl
theorem nrs_map {α : Type} {f : α → D} {l : List α} (h : ∀ x, D.nr (f x) = true) : D.nrs (l.map f) = true := nrs_all fun d hd => by
  obtain ⟨x, _, rfl⟩ := List.mem_map.mp hd
  exact h x
theorem nrs_ints {l : List Int} : D.nrs (l.map .int) = true := nrs_map fun _ => by unfold D.nr; rfl
theorem nr_int {i : Int} : D.nr (.int i) = true := by unfold D.nr; rfl
theorem nr_str {i : Str} : D.nr (.str i) = true := by unfold D.nr; rfl
theorem nr_bl {i : Bool} : D.nr (.bl i) = true := by unfold D.nr; rfl
theorem nr_non : D.nr .non = true := by unfold D.nr; rfl
theorem nr_tup {l : List D} : D.nr (.tup l) = D.nrs l := by conv => lhs; unfold D.nr
theorem nr_lst {l : List D} : D.nr (.lst l) = D.nrs l := by conv => lhs; unfold D.nr
theorem nrs_nil : D.nrs [] = true := by unfold D.nrs; rfl
theorem nrs_cons {d : D} {l : List D} : D.nrs (d :: l) = (D.nr d && D.nrs l) := by conv => lhs; unfold D.nrs
mutual
theorem frz_nr (ah : AH) : ∀ (n : Nat) (d : D), D.nr d = true → frz ah n d = some d
  | 0, d, h => by unfold frz; rw [if_pos h]
  | n + 1, .tup xs, h => by rw [nr_tup] at h; unfold frz; rw [frzs_nr ah n xs h]; rfl
  | n + 1, .lst xs, h => by rw [nr_lst] at h; unfold frz; rw [frzs_nr ah n xs h]; rfl
  | n + 1, .ref k, h => by unfold D.nr at h; cases h
  | n + 1, .non, h => by unfold frz; rw [if_pos h]
  | n + 1, .bl _, h => by unfold frz; rw [if_pos h]
  | n + 1, .int _, h => by unfold frz; rw [if_pos h]
  | n + 1, .str _, h => by unfold frz; rw [if_pos h]
  | n + 1, .dic _ _, h => by unfold frz; rw [if_pos h]
  | n + 1, .rng _ _, h => by unfold frz; rw [if_pos h]
  | n + 1, .fn _, h => by unfold frz; rw [if_pos h]
theorem frzs_nr (ah : AH) : ∀ (n : Nat) (l : List D), D.nrs l = true → mapO (frz ah n) l = some l
  | n, [], _ => by unfold mapO; rfl
  | n, d :: r, h => by
    rw [nrs_cons, Bool.and_eq_true] at h
    unfold mapO
    rw [frz_nr ah n d h.1, frzs_nr ah n r h.2]
end
theorem frzT_nr {ah : AH} {d : D} (h : D.nr d = true) : frzT ah d = some d := by
  unfold frzT
  split
  · rfl
  · exact frz_nr _ 4 d h
/-! ### a def that gives a value and leaves nothing -/
def pval (r : R (D × AH)) : Option D := match r with
  | .ok (d, _) => some d
  | _ => none
/-- called with data, over no cells, it gives the data d -/
structure Pv (m : Mf) (ds : List D) (d : D) : Prop where
  v : pval (m ds []) = some d
  n : D.nr d = true
def dGo (m : Mf) (env : Env) (ds : List D) (ah : AH) : R (D × AH) := match argsOk ah ds with
  | true => pureR env ah (m ds [])
  | false => reEnv env (m ds ah)
theorem dCall_eq {m : Mf} {l : FL} {env : Env} {ah : AH} : dCall m l env ah = (l env ah).bind fun z => dGo m env z.1 z.2 := rfl
theorem pCall_eq {m : Mf} {l : FL} {env : Env} {ah : AH} : pCall m l env ah = (l env ah).bind fun z => okB (argsOk z.2 z.1) (pureR env z.2 (m z.1 [])) := rfl
theorem Pv.pure {m : Mf} {ds : List D} {d : D} (h : Pv m ds d) {env : Env} {ah : AH} : pureR env ah (m ds []) = .ok (d, ah) := by
  obtain ⟨v, n⟩ := h
  unfold pval at v
  split at v
  · rename_i d' h e
    cases v
    rw [e]
    show okO (frzT h d) _ = _
    rw [frzT_nr n]
    rfl
  · cases v
theorem argsOk_of {ds : List D} (hn : D.nrs ds = true) {ah : AH} : argsOk ah ds = true := by
  unfold argsOk
  split
  · rfl
  · exact hn
theorem dGo_ok {m : Mf} {ds : List D} {d : D} (h : Pv m ds d) (hn : D.nrs ds = true) {env : Env} {ah : AH} : dGo m env ds ah = .ok (d, ah) := by
  unfold dGo
  rw [argsOk_of hn]
  exact h.pure
theorem dGo_nil {m : Mf} {ds : List D} {d : D} (h : Pv m ds d) {env : Env} : dGo m env ds [] = .ok (d, []) := h.pure
/-- a def whose body ends so -/
theorem pv_runB {n m : Nat} {B : FO} {ds : List D} {d : D} {e : Env} {h : AH} (hl : ds.length = n) (hb : B (ds.map some ++ List.replicate m none) [] = .ok (.rt d, e, h)) (hn : D.nr d = true) : Pv (runB n m B) ds d := ⟨by rw [runB_rt hl hb]; rfl, hn⟩
/-! ### comprehensions over typed lists -/
section
variable {α : Type} {src : Src} {env : Env} {g : FG0} {t : FB} {e : FV} {ah : AH} {en : α → D}
theorem lcGo_opt {f : α → Option D} {xs : List α} (h : ∀ x ∈ xs, lcOne g t e env (en x) ah = .ok (f x, ah)) (st : src.still ah = true := by rfl) : lcGo src env g t e (xs.map en) ah = .ok (xs.filterMap f, ah) := by
  induction xs with
  | nil =>
    show lcGo src env g t e [] ah = _
    unfold lcGo
    rw [st]
    rfl
  | cons x r ih =>
    rw [List.map_cons, lcGo_step st (h x List.mem_cons_self) (ih fun y hy => h y (List.mem_cons_of_mem _ hy)), List.filterMap_cons]
    cases f x <;> rfl
theorem lcGo_map {f : α → D} {xs : List α} (h : ∀ x ∈ xs, lcOne g t e env (en x) ah = .ok (some (f x), ah)) (st : src.still ah = true := by rfl) : lcGo src env g t e (xs.map en) ah = .ok (xs.map f, ah) := by
  rw [lcGo_opt h st]
  congr 2
  rw [← List.filterMap_eq_map]
  rfl
theorem lcGo_fil {p : α → Bool} {f : α → D} {xs : List α} (h : ∀ x ∈ xs, lcOne g t e env (en x) ah = .ok (if p x = true then some (f x) else none, ah)) (st : src.still ah = true := by rfl) : lcGo src env g t e (xs.map en) ah = .ok ((xs.filter p).map f, ah) := by
  rw [lcGo_opt h st]
  congr 2
  induction xs with
  | nil => rfl
  | cons x r ih =>
    rw [List.filterMap_cons, List.filter_cons, ih fun y hy => h y (List.mem_cons_of_mem _ hy)]
    cases p x <;> rfl
end
/-! ### loops as folds -/
section
variable {α σ : Type} {src : Src} {g : FG0} {body : FO} {en : α → D} {E : σ → Env} {A : σ → AH}
/-- all turns go on -/
theorem forGo_fold {f : σ → α → σ} : ∀ {xs : List α} {s : σ}, (∀ s x, x ∈ xs → ∃ e1 h1, g (en x) (E s) (A s) = .ok (e1, h1) ∧ body e1 h1 = .ok (.nx, E (f s x), A (f s x))) → (∀ s, src.still (A s) = true) →
    forGo src g body (xs.map en) (E s) (A s) = .ok (.nx, E (xs.foldl f s), A (xs.foldl f s))
  | [], s, _, st => by show forGo src g body [] _ _ = _; unfold forGo; rw [st]; rfl
  | x :: xs, s, h, st => by
    obtain ⟨e1, h1, a, b⟩ := h s x List.mem_cons_self
    rw [List.map_cons, forGo_cons (st s) a b, List.foldl_cons]
    exact forGo_fold (fun s y hy => h s y (List.mem_cons_of_mem _ hy)) st
/-- .. or one gives an answer -/
def foldE {β : Type} (f : σ → α → Except β σ) : List α → σ → Except β σ
  | [], s => .ok s
  | x :: xs, s => match f s x with
    | .ok s' => foldE f xs s'
    | .error b => .error b
end
theorem R.bx_ok {α β : Type} {a : α} {f : α → R β} : (R.ok a).bx f = f a := rfl
theorem okB_t {α : Type} {r : R α} : okB true r = r := rfl
theorem okO_s {α β : Type} {a : α} {f : α → R β} : okO (some a) f = f a := rfl
end Fx

/-! ===== Sp -/
set_option linter.all false
set_option maxRecDepth 100000
set_option maxHeartbeats 1000000
namespace Fx
open PySem PySem.Spec
/-! ### boxes, signs, wishes -/
structure Bx where
  nm : Str
  lo : Int
  hi : Int
def encB (b : Bx) : D := .tup [.str b.nm, .int b.lo, .int b.hi]
inductive Wd where
  | least | most | is | isnt
  deriving DecidableEq
def Wd.s : Wd → Str
  | .least => "least" | .most => "most" | .is => "is" | .isnt => "isnt"
structure Sg where
  w : Wd
  b : Int
  v : Int
  deriving DecidableEq
def encS (s : Sg) : D := .tup [.str s.w.s, .int s.b, .int s.v]
abbrev iT (xs : List Int) : D := .tup (xs.map .int)
abbrev iL (xs : List Int) : D := .lst (xs.map .int)
def enc2 (p : Int × Int) : D := .tup [.int p.1, .int p.2]
def enc3 (p : Int × Int × Int) : D := .tup [.int p.1, .int p.2.1, .int p.2.2]
def endS (l : Bool) : Str := if l = true then "least" else "most"
inductive Wi where
  | sum (ts : List (Int × Int)) (l : Bool) (n : Int)
  | times (a b c : Int)
  | row (bs : List Int) (rows : List (List Int))
  | pick (bs : List Int) (a b : Int)
  | unlike (bs : List Int)
  | path (bs : List Int) (st : List (Int × Int × Int)) (ends : List Int)
  | works (ws : List (Int × Int × Int)) (most : Int)
  | many (bs vs : List Int) (b : Int)
  | some (ss : List Sg)
  | if_ (ss : List Sg) (w : Wi)
def Wi.name : Wi → Str
  | .sum .. => "sum" | .times .. => "times" | .row .. => "row" | .pick .. => "pick" | .unlike .. => "unlike" | .path .. => "path" | .works .. => "works" | .many .. => "many" | .some .. => "some" | .if_ .. => "if"
def encW : Wi → D
  | .sum ts l n => .tup [.str "sum", .tup (ts.map enc2), .str (endS l), .int n]
  | .times a b c => .tup [.str "times", .int a, .int b, .int c]
  | .row bs rows => .tup [.str "row", iT bs, .tup (rows.map iT)]
  | .pick bs a b => .tup [.str "pick", iT bs, .int a, .int b]
  | .unlike bs => .tup [.str "unlike", iT bs]
  | .path bs st ends => .tup [.str "path", iT bs, .tup (st.map enc3), iT ends]
  | .works ws most => .tup [.str "works", .tup (ws.map enc3), .int most]
  | .many bs vs b => .tup [.str "many", iT bs, iT vs, .int b]
  | .some ss => .tup [.str "some", .tup (ss.map encS)]
  | .if_ ss w => .tup [.str "if", .tup (ss.map encS), encW w]
def Wi.rest : Wi → List D
  | .sum ts l n => [.tup (ts.map enc2), .str (endS l), .int n]
  | .times a b c => [.int a, .int b, .int c]
  | .row bs rows => [iT bs, .tup (rows.map iT)]
  | .pick bs a b => [iT bs, .int a, .int b]
  | .unlike bs => [iT bs]
  | .path bs st ends => [iT bs, .tup (st.map enc3), iT ends]
  | .works ws most => [.tup (ws.map enc3), .int most]
  | .many bs vs b => [iT bs, iT vs, .int b]
  | .some ss => [.tup (ss.map encS)]
  | .if_ ss w => [.tup (ss.map encS), encW w]
theorem encW_eq (w : Wi) : encW w = .tup (.str w.name :: w.rest) := by cases w <;> rfl
/-! ### no cells in these -/
theorem nr_iT {l : List Int} : D.nr (iT l) = true := by rw [nr_tup]; exact nrs_ints
theorem nr_iL {l : List Int} : D.nr (iL l) = true := by rw [nr_lst]; exact nrs_ints
theorem nr_encB (b : Bx) : D.nr (encB b) = true := rfl
theorem nr_encS (b : Sg) : D.nr (encS b) = true := rfl
theorem nr_enc2 (p : Int × Int) : D.nr (enc2 p) = true := rfl
theorem nr_enc3 (p : Int × Int × Int) : D.nr (enc3 p) = true := rfl
theorem nrs_rest : ∀ w : Wi, D.nrs w.rest = true
  | .sum ts l n => by simp [Wi.rest, nrs_cons, nrs_nil, nr_int, nr_str, nr_tup, nrs_map nr_enc2]
  | .times a b c => rfl
  | .row bs rows => by simp [Wi.rest, nrs_cons, nrs_nil, nr_int, nr_str, nr_tup, nrs_ints, nrs_map (f := iT) (fun _ => nr_iT)]
  | .pick bs a b => by simp [Wi.rest, nrs_cons, nrs_nil, nr_int, nr_str, nr_tup, nrs_ints]
  | .unlike bs => by simp [Wi.rest, nrs_cons, nrs_nil, nr_int, nr_str, nr_tup, nrs_ints]
  | .path bs st ends => by simp [Wi.rest, nrs_cons, nrs_nil, nr_int, nr_str, nr_tup, nrs_ints, nrs_map nr_enc3]
  | .works ws most => by simp [Wi.rest, nrs_cons, nrs_nil, nr_int, nr_str, nr_tup, nrs_ints, nrs_map nr_enc3]
  | .many bs vs b => by simp [Wi.rest, nrs_cons, nrs_nil, nr_int, nr_str, nr_tup, nrs_ints]
  | .some ss => by simp [Wi.rest, nrs_cons, nrs_nil, nr_tup, nrs_map nr_encS]
  | .if_ ss w => by
    have h := nrs_rest w
    show D.nrs [.tup (ss.map encS), encW w] = true
    rw [nrs_cons, nrs_cons, nrs_nil, nr_tup, nrs_map nr_encS, encW_eq, nr_tup, nrs_cons, nr_str, h]
    rfl
theorem nr_encW (w : Wi) : D.nr (encW w) = true := by rw [encW_eq, nr_tup, nrs_cons, nr_str, nrs_rest]; rfl
theorem nrs_boxes {l : List Bx} : D.nrs (l.map encB) = true := nrs_map nr_encB
theorem nrs_wishes {l : List Wi} : D.nrs (l.map encW) = true := nrs_map nr_encW
end Fx

/-! ===== Mx4 -/
set_option linter.all false
set_option maxRecDepth 100000
set_option maxHeartbeats 1000000
namespace Fx
open PySem PySem.Spec
section
variable {α : Type} {src : Src} {g : FG0} {body : FO} {en : α → D}
/-- a for whose turns all go on, with a word of what is done -/
theorem forGo_inv (P : List α → Env → AH → Prop) (st : ∀ done e h, P done e h → src.still h = true) : ∀ (todo done : List α) (e : Env) (h : AH), P done e h →
    (∀ d x t e h, done ++ todo = d ++ x :: t → P d e h → ∃ e1 h1 e2 h2, g (en x) e h = .ok (e1, h1) ∧ body e1 h1 = .ok (.nx, e2, h2) ∧ P (d ++ [x]) e2 h2) →
    ∃ e' h', forGo src g body (todo.map en) e h = .ok (.nx, e', h') ∧ P (done ++ todo) e' h'
  | [], done, e, h, p, _ => ⟨e, h, by show forGo src g body [] e h = _; unfold forGo; rw [st _ _ _ p]; rfl, by rw [List.append_nil]; exact p⟩
  | x :: todo, done, e, h, p, step => by
    obtain ⟨e1, h1, e2, h2, a, b, q⟩ := step done x todo e h rfl p
    obtain ⟨e', h', c, q'⟩ := forGo_inv P st todo (done ++ [x]) e2 h2 q fun d y t e h eq => step d y t e h (by rw [← eq]; simp)
    refine ⟨e', h', ?_, by rw [List.append_assoc] at q'; exact q'⟩
    rw [List.map_cons, forGo_cons (st _ _ _ p) a b]
    exact c
/-- .. or that gives an answer in the midst -/
theorem forGo_inv2 (P : List α → Env → AH → Prop) (Rr : List α → α → D → Env → AH → Prop) (st : ∀ done e h, P done e h → src.still h = true) : ∀ (todo done : List α) (e : Env) (h : AH), P done e h →
    (∀ d x t e h, done ++ todo = d ++ x :: t → P d e h → ∃ e1 h1, g (en x) e h = .ok (e1, h1) ∧ ((∃ e2 h2, body e1 h1 = .ok (.nx, e2, h2) ∧ P (d ++ [x]) e2 h2) ∨ ∃ v e2 h2, body e1 h1 = .ok (.rt v, e2, h2) ∧ Rr d x v e2 h2)) →
    (∃ e' h', forGo src g body (todo.map en) e h = .ok (.nx, e', h') ∧ P (done ++ todo) e' h') ∨ ∃ d x t v e' h', done ++ todo = d ++ x :: t ∧ forGo src g body (todo.map en) e h = .ok (.rt v, e', h') ∧ Rr d x v e' h'
  | [], done, e, h, p, _ => .inl ⟨e, h, by show forGo src g body [] e h = _; unfold forGo; rw [st _ _ _ p]; rfl, by rw [List.append_nil]; exact p⟩
  | x :: todo, done, e, h, p, step => by
    obtain ⟨e1, h1, a, b | b⟩ := step done x todo e h rfl p
    · obtain ⟨e2, h2, b, q⟩ := b
      rcases forGo_inv2 P Rr st todo (done ++ [x]) e2 h2 q fun d y t e h eq => step d y t e h (by rw [← eq]; simp) with ⟨e', h', c, q'⟩ | ⟨d, y, t, v, e', h', eq, c, q'⟩
      · refine .inl ⟨e', h', ?_, by rw [List.append_assoc] at q'; exact q'⟩
        rw [List.map_cons, forGo_cons (st _ _ _ p) a b]
        exact c
      · refine .inr ⟨d, y, t, v, e', h', by rw [← eq]; simp, ?_, q'⟩
        rw [List.map_cons, forGo_cons (st _ _ _ p) a b]
        exact c
    · obtain ⟨v, e2, h2, b, q⟩ := b
      refine .inr ⟨done, x, todo, v, e2, h2, rfl, ?_, q⟩
      rw [List.map_cons, forGo_ret (st _ _ _ p) a b]
end
theorem enD_map {α : Type} {en : α → D} (xs : List α) : enD (xs.map en) = xs.zipIdx.map fun p => .tup [.int (p.2 : Nat), en p.1] := by
  unfold enD
  apply List.ext_getElem?
  intro i
  rw [List.getElem?_map, List.getElem?_map, List.getElem?_zipIdx, List.length_map]
  by_cases h : i < xs.length
  · rw [List.getElem?_range h, List.getElem?_eq_getElem h]
    simp [h]
  · have h' : xs.length ≤ i := by omega
    rw [List.getElem?_eq_none (l := List.range xs.length) (by simpa using h'), List.getElem?_eq_none h']
    rfl
section
variable {α : Type} {c : Bool} {i : FI0} {vs : List Nat} {g : FG0} {t : FB} {e : FV} {env : Env} {ah ah1 ah2 : AH} {src : Src} {en : α → D} {r : List D}
theorem eLc_of (hi : i env ah = .ok (src, ah1)) (hl : lenOk src.items.length = true) (hr : lcGo src (wipeE env vs) g t e src.items ah1 = .ok (r, ah2)) : eLc c i vs g t e env ah = mkL c r ah2 := by
  unfold eLc
  rw [hi]
  show okB _ _ = _
  rw [hl, hr]
  rfl
theorem eLc_map {f : α → D} {xs : List α} (hi : i env ah = .ok (⟨xs.map en, []⟩, ah)) (hl : xs.length ≤ 16777216) (h : ∀ x ∈ xs, lcOne g t e (wipeE env vs) (en x) ah = .ok (some (f x), ah)) : eLc c i vs g t e env ah = mkL c (xs.map f) ah :=
  eLc_of hi (by rw [List.length_map]; exact lenOk_of hl) (lcGo_map h)
theorem eLc_bl {f : α → Bool} {xs : List α} (hi : i env ah = .ok (⟨xs.map en, []⟩, ah)) (hl : xs.length ≤ 16777216) (h : ∀ x ∈ xs, lcOne g t e (wipeE env vs) (en x) ah = .ok (some (.bl (f x)), ah)) : eLc c i vs g t e env ah = mkL c (xs.map (D.bl ∘ f)) ah := eLc_map (f := D.bl ∘ f) hi hl h
theorem eLc_int {f : α → Int} {xs : List α} (hi : i env ah = .ok (⟨xs.map en, []⟩, ah)) (hl : xs.length ≤ 16777216) (h : ∀ x ∈ xs, lcOne g t e (wipeE env vs) (en x) ah = .ok (some (.int (f x)), ah)) : eLc c i vs g t e env ah = mkL c (xs.map (D.int ∘ f)) ah := eLc_map (f := D.int ∘ f) hi hl h
theorem eLc_fil {p : α → Bool} {f : α → D} {xs : List α} (hi : i env ah = .ok (⟨xs.map en, []⟩, ah)) (hl : xs.length ≤ 16777216) (h : ∀ x ∈ xs, lcOne g t e (wipeE env vs) (en x) ah = .ok (if p x = true then some (f x) else none, ah)) : eLc c i vs g t e env ah = mkL c ((xs.filter p).map f) ah :=
  eLc_of hi (by rw [List.length_map]; exact lenOk_of hl) (lcGo_fil h)
theorem asB_map {f : α → Bool} (xs : List α) : mapO asB (xs.map (D.bl ∘ f)) = some (xs.map f) := by rw [← List.map_map]; exact asB_bls _
theorem asI_map {f : α → Int} (xs : List α) : mapO asI (xs.map (D.int ∘ f)) = some (xs.map f) := by rw [← List.map_map]; exact asI_ints _
theorem bAll_map {f : α → Bool} {xs : List α} : bAll [.lst (xs.map (D.bl ∘ f))] ah = .ok (.bl (xs.all f), ah) := by
  simp only [bAll, asL, okO, asB_map, List.all_map]
  rfl
theorem bAny_map {f : α → Bool} {xs : List α} : bAny [.lst (xs.map (D.bl ∘ f))] ah = .ok (.bl (xs.any f), ah) := by
  simp only [bAny, asL, okO, asB_map, List.any_map]
  rfl
theorem bSum_map {f : α → Int} {xs : List α} : bSum [.lst (xs.map (D.int ∘ f))] ah = .ok (.int (xs.map f).sum, ah) := by
  simp only [bSum, asL, okO, asI_map]
/-- one turn -/
theorem lcOne_t {d z : D} {e1 : Env} (a : g d env ah = .ok (e1, ah)) (b : t e1 ah = .ok (true, ah)) (c : e e1 ah = .ok (z, ah)) : lcOne g t e env d ah = .ok (some z, ah) := by
  unfold lcOne
  rw [a]
  simp only [R.bx, b, c]
end
/-! ### set(..) and its length -/
theorem stepD_mem {l : List Int} {c x : Int} : x ∈ stepD l c ↔ x ∈ l ∨ x = c := by
  unfold stepD
  split
  · rename_i h
    have h : c ∈ l := by simpa using h
    exact ⟨.inl, fun z => z.elim id fun e => e ▸ h⟩
  · simp
theorem dedL_go : ∀ (ns l : List Int), (ns.foldl stepD l).length ≤ l.length + ns.length ∧ ((ns.foldl stepD l).length = l.length + ns.length ↔ ns.Nodup ∧ ∀ x ∈ ns, x ∉ l)
  | [], l => by simp
  | c :: ns, l => by
    rw [List.foldl_cons]
    obtain ⟨h1, h2⟩ := dedL_go ns (stepD l c)
    by_cases hc : c ∈ l
    · have e : stepD l c = l := by unfold stepD; rw [if_pos (by simpa using hc)]
      rw [e] at h1 h2 ⊢
      refine ⟨by simp; omega, ⟨fun z => ?_, fun z => ?_⟩⟩
      · simp at z; omega
      · exact absurd hc (z.2 c List.mem_cons_self)
    · have e : stepD l c = l ++ [c] := by unfold stepD; rw [if_neg (by simpa using hc)]
      rw [e] at h1 h2 ⊢
      have hl : (l ++ [c]).length = l.length + 1 := by simp
      rw [hl] at h1 h2
      refine ⟨by simp; omega, ⟨fun z => ?_, fun z => ?_⟩⟩
      · obtain ⟨a, b⟩ := h2.mp (by simp at z; omega)
        rw [List.nodup_cons]
        refine ⟨⟨fun q => ?_, a⟩, fun x hx => ?_⟩
        · have := b c q; simp at this
        · rcases List.mem_cons.mp hx with rfl | hx
          · exact hc
          · intro q
            exact b x hx (List.mem_append_left _ q)
      · obtain ⟨a, b⟩ := z
        rw [List.nodup_cons] at a
        have := h2.mpr ⟨a.2, fun x hx q => ?_⟩
        · simp; omega
        · rcases List.mem_append.mp q with q | q
          · exact b x (List.mem_cons_of_mem _ hx) q
          · rw [List.mem_singleton] at q; subst q; exact a.1 hx
theorem dedL_len {ns : List Int} : ((dedL ns).length = ns.length) ↔ ns.Nodup := by
  unfold dedL
  have := (dedL_go ns []).2
  simpa using this
theorem dedL_le {ns : List Int} : (dedL ns).length ≤ ns.length := by
  unfold dedL
  have := (dedL_go ns []).1
  simpa using this
theorem oEq_int {neg : Bool} {a b : Int} {ah : AH} : oEq neg (.int a) (.int b) ah = .ok (.bl (ngB neg (decide (a = b))), ah) := by
  rw [oEq_dat rfl rfl]
  have : decide (D.int a = D.int b) = decide (a = b) := by
    rw [Bool.eq_iff_iff, decide_eq_true_eq, decide_eq_true_eq]
    exact ⟨int_inj, fun h => by rw [h]⟩
  rw [this]
theorem oEq_bl {neg a b : Bool} {ah : AH} : oEq neg (.bl a) (.bl b) ah = .ok (.bl (ngB neg (decide (a = b))), ah) := by
  cases neg <;> cases a <;> cases b <;> rfl
theorem oEq_iL {neg : Bool} {a b : List Int} {ah : AH} : oEq neg (iL a) (iL b) ah = .ok (.bl (ngB neg (decide (a = b))), ah) := by
  rw [oEq_dat daD_iL daD_iL]
  have : decide (iL a = iL b) = decide (a = b) := by
    rw [Bool.eq_iff_iff, decide_eq_true_eq, decide_eq_true_eq]
    exact iL_inj
  rw [this]
theorem oEq_iT {neg : Bool} {a b : List Int} {ah : AH} : oEq neg (iT a) (iT b) ah = .ok (.bl (ngB neg (decide (a = b))), ah) := by
  rw [oEq_dat daD_iT daD_iT]
  have : decide (iT a = iT b) = decide (a = b) := by
    rw [Bool.eq_iff_iff, decide_eq_true_eq, decide_eq_true_eq]
    exact iT_inj
  rw [this]
theorem mem_int_dec {x : Int} {l : List Int} : decide (D.int x ∈ l.map D.int) = decide (x ∈ l) := by
  rw [Bool.eq_iff_iff, decide_eq_true_eq, decide_eq_true_eq]
  exact mem_ints
theorem oIn_iL {neg : Bool} {x : Int} {l : List Int} {ah : AH} : oIn neg (.int x) (.lst (l.map .int)) ah = .ok (.bl (ngB neg (decide (x ∈ l))), ah) := by
  rw [oIn_lst rfl daDs_ints, mem_int_dec]
theorem oIn_iT {neg : Bool} {x : Int} {l : List Int} {ah : AH} : oIn neg (.int x) (.tup (l.map .int)) ah = .ok (.bl (ngB neg (decide (x ∈ l))), ah) := by
  rw [oIn_tup rfl daDs_ints, mem_int_dec]
/-! ### all, any over a comprehension -/
theorem bAll_bls {l : List Bool} {ah : AH} : bAll [.lst (l.map .bl)] ah = .ok (.bl (l.all id), ah) := by
  simp only [bAll, asL, okO, asB_bls]
theorem bAny_bls {l : List Bool} {ah : AH} : bAny [.lst (l.map .bl)] ah = .ok (.bl (l.any id), ah) := by
  simp only [bAny, asL, okO, asB_bls]
theorem bSum_ints {l : List Int} {ah : AH} : bSum [.lst (l.map .int)] ah = .ok (.int l.sum, ah) := by
  simp only [bSum, asL, okO, asI_ints]
/-- an item at a place -/
theorem atI_map {α : Type} {en : α → D} {xs : List α} {i : Int} {x : α} (h0 : 0 ≤ i) (h : xs[i.toNat]? = some x) : L2.atI (xs.map en) i = some (en x) := by
  unfold L2.atI L2.ixN
  have lt := (List.getElem?_eq_some_iff.mp h).1
  rw [List.length_map, if_pos h0, if_pos (by omega)]
  simp only [Option.bind_some]
  rw [List.getElem?_map, h]
  rfl
/-- f[b] -/
def gf (f : List Int) (b : Int) : Int := f.getD b.toNat 0
theorem gf_get {f : List Int} {b : Int} (h0 : 0 ≤ b) (h1 : b < f.length) : f[b.toNat]? = some (gf f b) := by
  have : b.toNat < f.length := by omega
  unfold gf
  rw [List.getD_eq_getElem?_getD, List.getElem?_eq_getElem this]
  rfl
theorem ix_iT {f : List Int} {b : Int} {ah : AH} (h0 : 0 ≤ b) (h1 : b < f.length) : oIxA (.tup (f.map .int)) (.int b) ah = .ok (.int (gf f b), ah) := by
  unfold oIxA asD oIx
  simp only [asI, okO, asS, atI_map h0 (gf_get h0 h1)]
theorem ix_iL {f : List Int} {b : Int} {ah : AH} (h0 : 0 ≤ b) (h1 : b < f.length) : oIxA (.lst (f.map .int)) (.int b) ah = .ok (.int (gf f b), ah) := by
  unfold oIxA asD oIx
  simp only [asI, okO, asS, asL, atI_map h0 (gf_get h0 h1)]
end Fx
namespace Fx
open PySem PySem.Spec
theorem eLenSc_ints {α : Type} {i : FI0} {vs : List Nat} {g : FG0} {t : FB} {e : FV} {env : Env} {ah : AH} {en : α → D} {f : α → Int} {xs : List α} (hi : i env ah = .ok (⟨xs.map en, []⟩, ah)) (hl : xs.length ≤ 4000) (h : ∀ x ∈ xs, lcOne g t e (wipeE env vs) (en x) ah = .ok (some (.int (f x)), ah)) : eLenSc i vs g t e env ah = .ok (.int (dedL (xs.map f)).length, ah) := by
  unfold eLenSc
  rw [hi]
  show okB (Nat.ble ((xs.map en).length + 1) 4095) ((lcGo ⟨xs.map en, []⟩ (wipeE env vs) g t e (xs.map en) ah).bx _) = _
  rw [lcGo_map (f := fun x => .int (f x)) h, List.length_map, Nat.ble_eq_true_of_le (by omega)]
  show okO (mapO asI (xs.map fun x => D.int (f x))) _ = _
  have : (xs.map fun x => D.int (f x)) = (xs.map f).map .int := by rw [List.map_map]; rfl
  rw [this, asI_ints]
  rfl
theorem dedL_dec {xs : List Int} : decide (((dedL xs).length : Int) = (xs.length : Int)) = decide xs.Nodup := by
  rw [Bool.eq_iff_iff, decide_eq_true_eq, decide_eq_true_eq]
  constructor
  · intro h; exact dedL_len.mp (by omega)
  · intro h; have := dedL_len.mpr h; omega
/-! ### what boxes, signs, wishes must be -/
def nameOk (x : Str) : Bool := Nat.ble 1 x.length && Nat.ble x.length 6 && x.cps.toList.all fun c => Nat.ble 97 c && Nat.ble c 122
structure BoxOk (b : Bx) : Prop where
  nm : nameOk b.nm = true
  lo : -1000 ≤ b.lo
  le : b.lo ≤ b.hi
  hi : b.hi ≤ 1000
  few : b.hi - b.lo < 40
structure BoxesOk (bs : List Bx) : Prop where
  ne : 1 ≤ bs.length
  le : bs.length ≤ 24
  all : ∀ b ∈ bs, BoxOk b
  nd : (bs.map (·.nm)).Nodup
structure SgOk (n : Nat) (s : Sg) : Prop where
  b0 : 0 ≤ s.b
  b1 : s.b < n
  v0 : -2000 < s.v
  v1 : s.v < 2000
structure InBs (n : Nat) (l : List Int) : Prop where
  ne : l ≠ []
  all : ∀ b ∈ l, 0 ≤ b ∧ b < n
  nd : l.Nodup
  few : l.length ≤ 1000
def Wi.isIf : Wi → Bool
  | .if_ .. => true
  | _ => false
def WiOk (n : Nat) : Wi → Prop
  | .sum ts _ _ => 1 ≤ ts.length ∧ ts.length ≤ 8 ∧ (∀ t ∈ ts, t.1 ≠ 0 ∧ -100 ≤ t.1 ∧ t.1 ≤ 100) ∧ InBs n (ts.map (·.2))
  | .times a b c => (0 ≤ a ∧ a < n) ∧ (0 ≤ b ∧ b < n) ∧ (0 ≤ c ∧ c < n) ∧ b ≠ a ∧ c ≠ a ∧ c ≠ b
  | .row bs rows => InBs n bs ∧ rows.length ≤ 60 ∧ ∀ r ∈ rows, r.length = bs.length
  | .pick bs a b => InBs n bs ∧ (0 ≤ a ∧ a < n) ∧ a ∉ bs ∧ (0 ≤ b ∧ b < n) ∧ b ∉ bs ∧ b ≠ a
  | .unlike bs => InBs n bs
  | .path bs st ends => InBs n bs ∧ st.length ≤ 60 ∧ (∀ s ∈ st, (0 ≤ s.1 ∧ s.1 ≤ 20) ∧ 0 ≤ s.2.2 ∧ s.2.2 ≤ 20) ∧ (∀ e ∈ ends, 0 ≤ e ∧ e ≤ 20) ∧ ends.length ≤ 1000
  | .works ws most => 1 ≤ ws.length ∧ ws.length ≤ 8 ∧ (∀ w ∈ ws, (1 ≤ w.2.1 ∧ w.2.1 ≤ 50) ∧ 1 ≤ w.2.2 ∧ w.2.2 ≤ 50) ∧ InBs n (ws.map (·.1)) ∧ 0 ≤ most ∧ most ≤ 400
  | .many bs vs b => InBs n bs ∧ vs.Nodup ∧ vs.length ≤ 1000 ∧ (0 ≤ b ∧ b < n) ∧ b ∉ bs
  | .some ss => ss.length ≤ 12 ∧ ∀ s ∈ ss, SgOk n s
  | .if_ ss w => 1 ≤ ss.length ∧ ss.length ≤ 4 ∧ (∀ s ∈ ss, SgOk n s) ∧ WiOk n w ∧ w.isIf = false
end Fx
namespace Fx
theorem all_tt {α : Type} : ∀ {l : List α}, (l.all fun _ => true) = true
  | [] => rfl
  | a :: l => by rw [List.all_cons, all_tt]; rfl
end Fx
namespace Fx
open PySem
theorem ofS_inj {a b : String} : (Str.ofString a = Str.ofString b) ↔ a = b := by
  constructor
  · intro h
    rw [Str.ofString_eq_toList, Str.ofString_eq_toList] at h
    have h1 := congrArg (fun x : Str => x.cps.toList) h
    simp only at h1
    have inj : ∀ x y : Char, x.toNat = y.toNat → x = y := fun x y e => Char.ext (UInt32.toNat_inj.mp e)
    have h2 : a.toList = b.toList := by
      generalize a.toList = l at h1
      generalize b.toList = m at h1
      clear h
      induction l generalizing m with
      | nil => cases m with
        | nil => rfl
        | cons _ _ => simp at h1
      | cons x l ih => cases m with
        | nil => simp at h1
        | cons y m =>
          simp only [List.map_cons, List.cons.injEq] at h1
          rw [inj x y h1.1, ih m h1.2]
    exact String.toList_inj.mp h2
  · intro h; rw [h]
end Fx
namespace Fx
theorem ix_zero {d : D} {r : List D} {ah : AH} : oIxA (.tup (d :: r)) (.int 0) ah = .ok (d, ah) := by
  unfold oIxA asD oIx
  have : L2.atI (d :: r) 0 = some d := by
    unfold L2.atI L2.ixN
    rw [if_pos (by decide), if_pos (by simp)]
    rfl
  simp only [asI, okO, asS, this]
theorem wname_if {w : Wi} (h : w.isIf = false) : (w.name = PySem.Str.ofString "if") = False := by
  cases w <;> simp [Wi.name, ofS_inj]
  cases h
end Fx
namespace Fx
theorem daD_str {n : Nat} {x : PySem.Str} : daD n (.str x) = PySem.PyData.strOk x := by unfold daD; rfl
theorem sOk_wd (w : Wd) : PySem.PyData.strOk w.s = true := by cases w <;> kernel_rfl
theorem sOk_end (l : Bool) : PySem.PyData.strOk (endS l) = true := by cases l <;> kernel_rfl
theorem sOk_name (w : Wi) : PySem.PyData.strOk w.name = true := by cases w <;> kernel_rfl
theorem daD_tup {n : Nat} {l : List D} : daD (n + 1) (.tup l) = daDs n l := by conv => lhs; unfold daD
theorem daD_lst {n : Nat} {l : List D} : daD (n + 1) (.lst l) = daDs n l := by conv => lhs; unfold daD
theorem daDs_nil {n : Nat} : daDs n [] = true := by unfold daDs; rfl
theorem daDs_cons {n : Nat} {d : D} {l : List D} : daDs n (d :: l) = (daD n d && daDs n l) := by conv => lhs; unfold daDs
theorem daD_encS {n : Nat} (s : Sg) : daD (n + 1) (encS s) = true := by
  unfold encS
  rw [daD_tup, daDs_cons, daDs_cons, daDs_cons, daDs_nil, daD_str, sOk_wd, daD_int, daD_int]
  rfl
theorem daD_enc2 {n : Nat} (s : Int × Int) : daD (n + 1) (enc2 s) = true := by
  unfold enc2
  rw [daD_tup, daDs_cons, daDs_cons, daDs_nil, daD_int, daD_int]
  rfl
theorem daD_enc3 {n : Nat} (s : Int × Int × Int) : daD (n + 1) (enc3 s) = true := by
  unfold enc3
  rw [daD_tup, daDs_cons, daDs_cons, daDs_cons, daDs_nil, daD_int, daD_int, daD_int]
  rfl
theorem daD_encB {n : Nat} (b : Bx) (h : PySem.PyData.strOk b.nm = true) : daD (n + 1) (encB b) = true := by
  unfold encB
  rw [daD_tup, daDs_cons, daDs_cons, daDs_cons, daDs_nil, daD_int, daD_int, daD_str, h]
  rfl
theorem daDs_rest {n : Nat} (w : Wi) (h : w.isIf = false) : daDs (n + 2) w.rest = true := by
  cases w with
  | if_ ss w => cases h
  | sum ts l m => simp [Wi.rest, daDs_cons, daDs_nil, daD_int, daD_str, sOk_end, daD_tup, daDs_map (n := n + 1) fun x (_ : x ∈ ts) => daD_enc2 x]
  | times a b c => simp [Wi.rest, daDs_cons, daDs_nil, daD_int]
  | row bs rows => simp [Wi.rest, daDs_cons, daDs_nil, daD_int, daD_tup, daDs_ints, daDs_map (n := n + 1) (f := iT) fun x (_ : x ∈ rows) => daD_iT]
  | pick bs a b => simp [Wi.rest, daDs_cons, daDs_nil, daD_int, daD_tup, daDs_ints]
  | unlike bs => simp [Wi.rest, daDs_cons, daDs_nil, daD_int, daD_tup, daDs_ints]
  | path bs st e => simp [Wi.rest, daDs_cons, daDs_nil, daD_int, daD_tup, daDs_ints, daDs_map (n := n + 1) fun x (_ : x ∈ st) => daD_enc3 x]
  | works ws m => simp [Wi.rest, daDs_cons, daDs_nil, daD_int, daD_tup, daDs_map (n := n + 1) fun x (_ : x ∈ ws) => daD_enc3 x]
  | many bs vs b => simp [Wi.rest, daDs_cons, daDs_nil, daD_int, daD_tup, daDs_ints]
  | some ss => simp [Wi.rest, daDs_cons, daDs_nil, daD_tup, daDs_map (n := n + 1) fun x (_ : x ∈ ss) => daD_encS x]
theorem daD_encW {n k : Nat} (w : Wi) (h : WiOk k w) : daD (n + 4) (encW w) = true := by
  by_cases hi : w.isIf = false
  · rw [encW_eq, daD_tup, daDs_cons, daD_str, sOk_name, daDs_rest w hi]
    rfl
  · cases w with
    | if_ ss v =>
      have hv : v.isIf = false := h.2.2.2.2
      show daD (n + 4) (.tup [.str "if", .tup (ss.map encS), encW v]) = true
      rw [daD_tup, daDs_cons, daDs_cons, daDs_cons, daDs_nil, daD_tup, daDs_map (n := n + 2) fun x (_ : x ∈ ss) => daD_encS x, encW_eq, daD_tup, daDs_cons, daD_str, daD_str, sOk_name, daDs_rest v hv]
      have : PySem.PyData.strOk "if" = true := by kernel_rfl
      rw [this]
      rfl
    | _ => exact absurd rfl hi
end Fx
namespace Fx
theorem lk0 : lenOk 0 = true := rfl
theorem lk1 : lenOk 1 = true := rfl
theorem lk2 : lenOk 2 = true := rfl
theorem lk3 : lenOk 3 = true := rfl
theorem lk4 : lenOk 4 = true := rfl
theorem lk5 : lenOk 5 = true := rfl
theorem lk6 : lenOk 6 = true := rfl
theorem lk7 : lenOk 7 = true := rfl
theorem lk8 : lenOk 8 = true := rfl
theorem lk9 : lenOk 9 = true := rfl
theorem lk10 : lenOk 10 = true := rfl
theorem lk11 : lenOk 11 = true := rfl
theorem lk12 : lenOk 12 = true := rfl
end Fx
namespace Fx
theorem ix_zeroL {d : D} {r : List D} {ah : AH} : oIxA (.lst (d :: r)) (.int 0) ah = .ok (d, ah) := by
  have := ix_zero (d := d) (r := r) (ah := ah)
  unfold oIxA asD oIx at this ⊢
  exact this
end Fx
namespace Fx
open PySem
mutual
theorem sh_nr (k : Nat) : ∀ d : D, D.nr d = true → D.sh k d = d
  | .non, _ => rfl
  | .bl _, _ => rfl
  | .int _, _ => rfl
  | .str _, _ => rfl
  | .rng _ _, _ => rfl
  | .fn _, _ => rfl
  | .ref _, h => by unfold D.nr at h; cases h
  | .tup xs, h => by rw [nr_tup] at h; unfold D.sh; rw [shs_nr k xs h]
  | .lst xs, h => by rw [nr_lst] at h; unfold D.sh; rw [shs_nr k xs h]
  | .dic t kvs, h => by unfold D.nr at h; unfold D.sh; rw [shk_nr k kvs h]
theorem shs_nr (k : Nat) : ∀ l : List D, D.nrs l = true → D.shs k l = l
  | [], _ => rfl
  | d :: r, h => by
    rw [nrs_cons, Bool.and_eq_true] at h
    unfold D.shs
    rw [sh_nr k d h.1, shs_nr k r h.2]
theorem shk_nr (k : Nat) : ∀ l : List (DKey × D), D.nrk l = true → D.shk k l = l
  | [], _ => rfl
  | (x, d) :: r, h => by
    unfold D.nrk at h
    rw [Bool.and_eq_true] at h
    unfold D.shk
    rw [sh_nr k d h.1, shk_nr k r h.2]
end
/-- a cell that came with a call over no cells -/
theorem fr_get {ah G : AH} {i : Nat} {xs : List D} (h : G[i]? = some (.lst xs)) (n : D.nrs xs = true) : (ah ++ G.map (Cell.sh ah.length))[ah.length + i]? = some (.lst xs) := by
  rw [List.getElem?_append_right (by omega), Nat.add_sub_cancel_left, List.getElem?_map, h]
  show some (Cell.lst (D.shs ah.length xs)) = _
  rw [shs_nr _ _ n]
end Fx
namespace Fx
theorem b62_s {i : Int} (h0 : -1000000 ≤ i) (h1 : i ≤ 1000000) : b62 i = true := by
  unfold b62
  rw [Bool.and_eq_true, decide_eq_true_eq, decide_eq_true_eq]
  have : (2 : Int) ^ 62 = 4611686018427387904 := by decide
  omega
end Fx
namespace Fx
/-- the turns of range(n): a bound of 2 ^ 62 is never to be unfolded over a free number -/
def natD (k : Nat) : D := .int (0 + (k : Int))
theorem iRg1_i {l : FL} {env : Env} {ah ah' : AH} {n : Int} (h : l env ah = .ok ([.int n], ah')) (b : b62 n = true) : iRg1 l env ah = .ok (⟨rngD 0 n.toNat, []⟩, ah') := by
  unfold iRg1; rw [h]; show okB (b62 n) _ = _; rw [b]; rfl
theorem iRg2_i {l : FL} {env : Env} {ah ah' : AH} {a b : Int} (h : l env ah = .ok ([.int a, .int b], ah')) (q : (b62 a && b62 b) = true) : iRg2 l env ah = .ok (⟨rngD a (b - a).toNat, []⟩, ah') := by
  unfold iRg2; rw [h]; show okB (b62 a && b62 b) _ = _; rw [q]; rfl
theorem iRg1_ok {l : FL} {env : Env} {ah ah' : AH} {n : Nat} (h : l env ah = .ok ([.int n], ah')) (b : n ≤ 1000000) : iRg1 l env ah = .ok (⟨(List.range n).map natD, []⟩, ah') := iRg1_i h (b62_s (by omega) (by omega))
theorem iRg2_ok {l : FL} {env : Env} {ah ah' : AH} {a b : Int} (h : l env ah = .ok ([.int a, .int b], ah')) (a0 : -1000000 ≤ a) (a1 : a ≤ 1000000) (b0 : -1000000 ≤ b) (b1 : b ≤ 1000000) : iRg2 l env ah = .ok (⟨(List.range (b - a).toNat).map fun k : Nat => .int (a + (k : Int)), []⟩, ah') :=
  iRg2_i h (by rw [b62_s a0 a1, b62_s b0 b1]; rfl)
end Fx
namespace Fx
theorem sb_ok {n : Nat} (h : n ≤ 1000) : decide (n + 1 < PySem.scanBound) = true := by
  rw [decide_eq_true_eq]
  have : 2000 ≤ PySem.scanBound := by decide +kernel
  omega
theorem eLenSet_ok {a : FV} {env : Env} {ah ah' : AH} {d : D} {ns : List Int} (h : a env ah = .ok (d, ah')) (hi : intsO ah' d = some ns) (hb : ns.length ≤ 1000) : eLenSet a env ah = .ok (.int (dedL ns).length, ah') := by
  unfold eLenSet
  rw [h]
  show okO (intsO ah' d) _ = _
  rw [hi]
  show okB (decide (ns.length + 1 < PySem.scanBound)) _ = _
  rw [sb_ok hb]
  rfl
theorem eSrtSet_ok {a : FV} {env : Env} {ah ah' : AH} {d : D} {ns : List Int} (h : a env ah = .ok (d, ah')) (hi : intsO ah' d = some ns) (hb : ns.length ≤ 60) : eSrtSet false a env ah = .ok (.lst ((srtI (dedL ns)).map .int), ah') := by
  unfold eSrtSet
  rw [h]
  show okO (intsO ah' d) _ = _
  rw [hi]
  show okB (decide (ns.length + 1 < PySem.scanBound) && Nat.blt (dedL ns).length 64) _ = _
  have hd := dedL_le (ns := ns)
  rw [sb_ok (by omega), show Nat.blt (dedL ns).length 64 = true from Nat.ble_eq_true_of_le (by omega)]
  rfl
theorem intsO_iL {ns : List Int} {ah : AH} : intsO ah (.lst (ns.map .int)) = some ns := by
  unfold intsO
  simp only [asS, asL, Option.bind_some, asI_ints]
theorem intsO_iT {ns : List Int} {ah : AH} : intsO ah (.tup (ns.map .int)) = some ns := by
  unfold intsO
  simp only [asS, Option.bind_some, asI_ints]
end Fx
namespace Fx
/-- as iRg1_ok, the number a free one: a number that is a cast unfolds where it shouldn't -/
theorem iRg1_m {l : FL} {env : Env} {ah ah' : AH} {m : Int} {n : Nat} (h : l env ah = .ok ([.int m], ah')) (e : m = n) (b : n ≤ 1000000) : iRg1 l env ah = .ok (⟨(List.range n).map natD, []⟩, ah') := by
  subst e
  exact iRg1_ok h b
end Fx
namespace Fx
theorem dGo_ref {m : Mf} {ds l : List D} {r : Nat} {G : AH} (h : m ds [] = .ok (.ref r, G)) (g : G[r]? = some (.lst l)) (n : D.nrs l = true) {env : Env} : dGo m env ds [] = .ok (.lst l, []) := by
  show pureR env [] (m ds []) = _
  rw [h]
  show okO (frzT G (.ref r)) _ = _
  have : frzT G (.ref r) = some (.lst l) := by
    unfold frzT
    split
    · simp at g
    · unfold frz
      rw [g]
      simp only
      rw [frzs_nr _ _ _ n]
      rfl
  rw [this]
  rfl
theorem sIx_nat {len : Nat} {d : Nat} {m : Int} {k : Nat} (h : m = k) (hk : k ≤ len) : HT.sIx len d (some m) = k := by
  subst h
  rw [HT.sIx_nat]
  omega
theorem cut_take {α : Type} {f : List α} {en : α → D} {m : Int} {k : Nat} (h : m = k) (hk : k ≤ f.length) : cutD (f.map en) none (some m) = (f.take k).map en := by
  unfold cutD
  rw [sIx_nat h (by rw [List.length_map]; exact hk)]
  show List.take (k - 0) (List.drop 0 (f.map en)) = _
  rw [List.drop_zero, Nat.sub_zero, List.map_take]
theorem cut_drop {α : Type} {f : List α} {en : α → D} {m : Int} {k : Nat} (h : m = k) (hk : k ≤ f.length) : cutD (f.map en) (some m) none = (f.drop k).map en := by
  unfold cutD
  rw [sIx_nat h (by rw [List.length_map]; exact hk)]
  show List.take ((f.map en).length - k) (List.drop k (f.map en)) = _
  rw [← List.map_drop, List.take_of_length_le (by simp)]
theorem cut_mid {α : Type} {f : List α} {en : α → D} {m m' : Int} {k k' : Nat} (h : m = k) (h' : m' = k') (hk : k ≤ f.length) (hk' : k' ≤ f.length) : cutD (f.map en) (some m) (some m') = ((f.drop k).take (k' - k)).map en := by
  unfold cutD
  rw [sIx_nat h (by rw [List.length_map]; exact hk), sIx_nat h' (by rw [List.length_map]; exact hk'), ← List.map_drop, List.map_take]
end Fx

/-! ===== L65 -/
set_option Elab.async false
set_option linter.all false
set_option maxRecDepth 100000
set_option maxHeartbeats 4000000
namespace Lw
open PySem PySem.Spec PyProof.Rows L2 Fx

def cfT (C f : Str) : Bool := cfL.any fun p => decide (p.1 = C) && decide (p.2 = f)
structure Cs (K : PySem.W.Frag) (w : World) (mg : Str → Option Value) : Prop where
  z : True
  c_COINS : GlD K mg "COINS" d_COINS
  c_LETTERS : GlD K mg "LETTERS" d_LETTERS
  c_LINES : GlD K mg "LINES" d_LINES
  c_MAGIC : GlD K mg "MAGIC" d_MAGIC
  c_MOST_MARK : GlD K mg "MOST_MARK" d_MOST_MARK
  k_RIDDLES : KDc K w mg "RIDDLES" kd_RIDDLES
  fl : ∀ C f, cfT C f = true → FdK K mg C f
  xf : ∀ p ∈ xfL, XfK K mg p.2 p.1
  h_BoxError : HcM K mg "BoxError" (fun c : Str => mt_BoxError.lookup c)
  h_NoRiddle : HcM K mg "NoRiddle" (fun c : Str => mt_NoRiddle.lookup c)
  i_NoNumber : XiT K mg "NoNumber" (fun c : Str => mt_NoNumber.lookup c)
  i_KeyError : XiT K mg "KeyError" (fun c : Str => mt_KeyError.lookup c)
  i_NoName : XiT K mg "NoName" (fun c : Str => mt_NoName.lookup c)
  x0_NoNumber : Dx0 K mg "NoNumber"
  xc_NoRiddle : (mg "NoRiddle" = some (.ref (He.ga K "NoRiddle")) ∧ XcK K (He.ga K "NoRiddle") "KeyError.__init__") ∧ (PySem.W.findIn K (.ref (He.ga K "NoRiddle")) "__init__" = some (some (.ref (He.ma K (He.ga K "NoRiddle") "__init__"))) ∧ PySem.W.typeIn K (.ref (He.ma K (He.ga K "NoRiddle") "__init__")) = some (.type "function")) ∧ (∀ f ∈ (["name"] : List Str), PySem.W.findIn K (.ref (He.ga K "NoRiddle")) f = some none) ∧ Bin K mg "KeyError" "KeyError.__init__"
theorem sc_NoRiddle___init__ : FnScope ["self", "name"] ["self", "name"] (defScope s_NoRiddle___init__) := ⟨rfl, rfl, rfl, by decide +kernel, rfl, by decide +kernel, by decide +kernel⟩
theorem xw_NoRiddle {P : Program} {w : World} {K : PySem.W.Frag} {mg : Str → Option Value} {base : Heap} {fA : Addr} {cdv : Value} {A : Around} {outer : List PySem.Env} {s : Shared} {H : Hp} {E : XK} (b : Bin K mg "KeyError" "KeyError.__init__") :
    PSs (cxOf (L2.CX P w) P w K mg base ["self", "name"] "NoRiddle.__init__" (defScope s_NoRiddle___init__) fA cdv A outer s H E) (defBody s_NoRiddle___init__) (tSeq (tXi0 K "KeyError.__init__" "no such riddle") (tSeq (tXst K "KeyError.__init__" "name" (tVar 0) (tVar 1)) tNext)) := pss_cons (ps_expr (pe_bin b rfl (pa_cons (pe_var rfl (.inl rfl)) (pa_cons pe_str pa_nil)) (by decide) (by decide +kernel))) (pss_cons (ps_xst (pe_var (i := 0) rfl (.inl rfl)) (pe_var (i := 1) rfl (.inl rfl))) pss_nil)
/-! _law_pool -/
abbrev N__law_pool : List Str := ["_law_script", "_law_k", "_law_cell", "_law_number", "_law_seed"]
abbrev p__law_pool : List Str := ["_law_script", "_law_k"]
theorem sc__law_pool : FnScope N__law_pool p__law_pool (defScope s__law_pool) := ⟨rfl, rfl, rfl, by decide +kernel, rfl, by decide +kernel, by decide +kernel⟩
def B__law_pool : FO := sSeq (sSet 2 (eC (.int 0))) (sSeq (sIf (bT (e2 oLt (eVar 1) (eL bLen (lCons (eVar 0) (lNil))))) (sSet 2 (e2 oIxA (eVar 0) (eVar 1))) (sNil)) (sSeq (sSet 3 (eL bMax (lCons (eVar 2) (lCons (e2 oSub (e1 oNeg (eC (.int 1))) (eVar 2)) (lNil))))) (sSeq (sSet 4 (e2 oMod (e2 (oAdd false) (e2 (oAdd false) (e2 (oMul false) (e2 oMod (eVar 3) (eC (.int 2147483629))) (eC (.int 16807))) (e2 (oMul false) (eC (.int 104729)) (eVar 1))) (eC (.int 11))) (eC (.int 2147483647)))) (sSeq (sIf (bT (e2 oLt (eVar 3) (e2 oPow (eC (.int 10)) (eC (.int 18))))) (sSet 3 (eC (.int 0))) (sNil)) (sRet (eLst true (lCons (eVar 3) (lCons (eVar 4) (lNil)))))))))
def m__law_pool : Mf := runB 2 3 B__law_pool
theorem b__law_pool {P : Program} {w : World} {K : PySem.W.Frag} {mg : Str → Option Value} {base : Heap} {k : Nat} {fA : Addr} {cdv : Value} {A : Around} {outer : List PySem.Env} {s : Shared} {H : Hp} {E : XK} (bs : Bs mg) (cs : Cs K w mg) (hr : RG k (A.deeper (envOfC "_law_pool" (defScope s__law_pool) s.heap.objs.size fA cdv))) :
    FSs (cxOf (L2.CX P w) P w K mg base N__law_pool "_law_pool" (defScope s__law_pool) fA cdv A outer s H E) (fun c d _ H => E c d H) (defBody s__law_pool) (B__law_pool) := by
  have hN : (cxOf (L2.CX P w) P w K mg base N__law_pool "_law_pool" (defScope s__law_pool) fA cdv A outer s H E).N.Nodup := sc__law_pool.nd
  have hu : (cxOf (L2.CX P w) P w K mg base N__law_pool "_law_pool" (defScope s__law_pool) fA cdv A outer s H E).A.units + 64 < cLine := hu_r hr
  have hu5 : (cxOf (L2.CX P w) P w K mg base N__law_pool "_law_pool" (defScope s__law_pool) fA cdv A outer s H E).A.units + 65 < cLine := hu_r5 hr
  have tk : ∀ σ, PassesAt (L2.CX P w) (cxOf (L2.CX P w) P w K mg base N__law_pool "_law_pool" (defScope s__law_pool) fA cdv A outer s H E) σ (WE (fun c d _ H => E c d H) σ) := fun σ => passAt (takes_of rfl rfl rfl rfl) σ
  have tkx : Takes (cxOf (L2.CX P w) P w K mg base N__law_pool "_law_pool" (defScope s__law_pool) fA cdv A outer s H E) (fun c d _ H => E c d H) := takes_of rfl rfl rfl rfl
  have hp : PassesOwn (model P w) (cxOf (L2.CX P w) P w K mg base N__law_pool "_law_pool" (defScope s__law_pool) fA cdv A outer s H E).A (cxOf (L2.CX P w) P w K mg base N__law_pool "_law_pool" (defScope s__law_pool) fA cdv A outer s H E).env (cxOf (L2.CX P w) P w K mg base N__law_pool "_law_pool" (defScope s__law_pool) fA cdv A outer s H E).xe := passes_of rfl
  exact scons (sset 2 hN (fint)) (scons (sif (tlt (fv 1) (flen bs.len (fcons (fv 0) (fnil)))) (sone (sset 2 hN (fixA hu (fv 0) (fv 1)))) (snil)) (scons (sset 3 hN (fmax2 bs.max (fcons (fv 2) (fcons (fsub (fneg (fint)) (fv 2)) (fnil))))) (scons (sset 4 hN (fmod (fadd false  (fadd false  (fmul false  (fmod (fv 3) (fint)) (fint)) (fmul false  (fint) (fv 1))) (fint)) (fint))) (scons (sif (tlt (fv 3) (fpow (fint) (fint))) (sone (sset 3 hN (fint))) (snil)) (sone (sret (flst true (fcons (fv 3) (fcons (fv 4) (fnil))))))))))
/-! _law_take -/
abbrev N__law_take : List Str := ["_law_pool_here", "_law_many", "_law_digit"]
abbrev p__law_take : List Str := ["_law_pool_here", "_law_many"]
theorem sc__law_take : FnScope N__law_take p__law_take (defScope s__law_take) := ⟨rfl, rfl, rfl, by decide +kernel, rfl, by decide +kernel, by decide +kernel⟩
def B__law_take : FO := sSeq (sIf (bT (e2 oGt (e2 oIxA (eVar 0) (eC (.int 0))) (eC (.int 0)))) (sSeq (sSet 2 (e2 oMod (e2 oIxA (eVar 0) (eC (.int 0))) (eVar 1))) (sSeq (sAsg (e2 oDiv (e2 oIxA (eVar 0) (eC (.int 0))) (eVar 1)) (gIx (eVar 0) (eC (.int 0)))) (sRet (eVar 2)))) (sNil)) (sSeq (sAsg (e2 oMod (e2 (oAdd false) (e2 (oMul false) (e2 oIxA (eVar 0) (eC (.int 1))) (eC (.int 48271))) (eC (.int 11))) (eC (.int 2147483647))) (gIx (eVar 0) (eC (.int 1)))) (sRet (e2 oMod (e2 oDiv (e2 oMod (e2 (oMul false) (e2 oIxA (eVar 0) (eC (.int 1))) (e2 oIxA (eVar 0) (eC (.int 1)))) (eC (.int 2147483629))) (eC (.int 64))) (eVar 1))))
def m__law_take : Mf := runB 2 1 B__law_take
theorem b__law_take {P : Program} {w : World} {K : PySem.W.Frag} {mg : Str → Option Value} {base : Heap} {k : Nat} {fA : Addr} {cdv : Value} {A : Around} {outer : List PySem.Env} {s : Shared} {H : Hp} {E : XK} (bs : Bs mg) (cs : Cs K w mg) (hr : RG k (A.deeper (envOfC "_law_take" (defScope s__law_take) s.heap.objs.size fA cdv))) :
    FSs (cxOf (L2.CX P w) P w K mg base N__law_take "_law_take" (defScope s__law_take) fA cdv A outer s H E) (fun c d _ H => E c d H) (defBody s__law_take) (B__law_take) := by
  have hN : (cxOf (L2.CX P w) P w K mg base N__law_take "_law_take" (defScope s__law_take) fA cdv A outer s H E).N.Nodup := sc__law_take.nd
  have hu : (cxOf (L2.CX P w) P w K mg base N__law_take "_law_take" (defScope s__law_take) fA cdv A outer s H E).A.units + 64 < cLine := hu_r hr
  have hu5 : (cxOf (L2.CX P w) P w K mg base N__law_take "_law_take" (defScope s__law_take) fA cdv A outer s H E).A.units + 65 < cLine := hu_r5 hr
  have tk : ∀ σ, PassesAt (L2.CX P w) (cxOf (L2.CX P w) P w K mg base N__law_take "_law_take" (defScope s__law_take) fA cdv A outer s H E) σ (WE (fun c d _ H => E c d H) σ) := fun σ => passAt (takes_of rfl rfl rfl rfl) σ
  have tkx : Takes (cxOf (L2.CX P w) P w K mg base N__law_take "_law_take" (defScope s__law_take) fA cdv A outer s H E) (fun c d _ H => E c d H) := takes_of rfl rfl rfl rfl
  have hp : PassesOwn (model P w) (cxOf (L2.CX P w) P w K mg base N__law_take "_law_take" (defScope s__law_take) fA cdv A outer s H E).A (cxOf (L2.CX P w) P w K mg base N__law_take "_law_take" (defScope s__law_take) fA cdv A outer s H E).env (cxOf (L2.CX P w) P w K mg base N__law_take "_law_take" (defScope s__law_take) fA cdv A outer s H E).xe := passes_of rfl
  exact scons (sif (tgt (fixA hu (fv 0) (fint)) (fint)) (scons (sset 2 hN (fmod (fixA hu (fv 0) (fint)) (fv 1))) (scons (sasg (fdiv (fixA hu (fv 0) (fint)) (fv 1)) (gix hu (fv 0) (fint))) (sone (sret (fv 2))))) (snil)) (scons (sasg (fmod (fadd false  (fmul false  (fixA hu (fv 0) (fint)) (fint)) (fint)) (fint)) (gix hu (fv 0) (fint))) (sone (sret (fmod (fdiv (fmod (fmul false  (fixA hu (fv 0) (fint)) (fixA hu (fv 0) (fint))) (fint)) (fint)) (fv 1)))))
/-! is_whole -/
abbrev N_is_whole : List Str := ["thing"]
abbrev p_is_whole : List Str := ["thing"]
theorem sc_is_whole : FnScope N_is_whole p_is_whole (defScope s_is_whole) := ⟨rfl, rfl, rfl, by decide +kernel, rfl, by decide +kernel, by decide +kernel⟩
def B_is_whole : FO := sRet (eAnd (eIsi .int (eVar 0)) (eNot (eIsi .bool (eVar 0))))
def m_is_whole : Mf := runB 1 0 B_is_whole
theorem b_is_whole {P : Program} {w : World} {K : PySem.W.Frag} {mg : Str → Option Value} {base : Heap} {k : Nat} {fA : Addr} {cdv : Value} {A : Around} {outer : List PySem.Env} {s : Shared} {H : Hp} {E : XK} (bs : Bs mg) (cs : Cs K w mg) (hr : RG k (A.deeper (envOfC "is_whole" (defScope s_is_whole) s.heap.objs.size fA cdv))) :
    FSs (cxOf (L2.CX P w) P w K mg base N_is_whole "is_whole" (defScope s_is_whole) fA cdv A outer s H E) (fun c d _ H => E c d H) (defBody s_is_whole) (B_is_whole) := by
  have hN : (cxOf (L2.CX P w) P w K mg base N_is_whole "is_whole" (defScope s_is_whole) fA cdv A outer s H E).N.Nodup := sc_is_whole.nd
  have hu : (cxOf (L2.CX P w) P w K mg base N_is_whole "is_whole" (defScope s_is_whole) fA cdv A outer s H E).A.units + 64 < cLine := hu_r hr
  have hu5 : (cxOf (L2.CX P w) P w K mg base N_is_whole "is_whole" (defScope s_is_whole) fA cdv A outer s H E).A.units + 65 < cLine := hu_r5 hr
  have tk : ∀ σ, PassesAt (L2.CX P w) (cxOf (L2.CX P w) P w K mg base N_is_whole "is_whole" (defScope s_is_whole) fA cdv A outer s H E) σ (WE (fun c d _ H => E c d H) σ) := fun σ => passAt (takes_of rfl rfl rfl rfl) σ
  have tkx : Takes (cxOf (L2.CX P w) P w K mg base N_is_whole "is_whole" (defScope s_is_whole) fA cdv A outer s H E) (fun c d _ H => E c d H) := takes_of rfl rfl rfl rfl
  have hp : PassesOwn (model P w) (cxOf (L2.CX P w) P w K mg base N_is_whole "is_whole" (defScope s_is_whole) fA cdv A outer s H E).A (cxOf (L2.CX P w) P w K mg base N_is_whole "is_whole" (defScope s_is_whole) fA cdv A outer s H E).env (cxOf (L2.CX P w) P w K mg base N_is_whole "is_whole" (defScope s_is_whole) fA cdv A outer s H E).xe := passes_of rfl
  exact sone (sret (fand (fisi .int bs.isinstance bs.int (fv 0) bt_int) (fone (fnot (fisi .bool bs.isinstance bs.bool (fv 0) bt_bool)))))
/-! comes_to -/
abbrev N_comes_to : List Str := ["terms", "number"]
abbrev p_comes_to : List Str := ["terms", "number"]
theorem sc_comes_to : FnScope N_comes_to p_comes_to (defScope s_comes_to) := ⟨rfl, rfl, rfl, by decide +kernel, rfl, by decide +kernel, by decide +kernel⟩
def B_comes_to : FO := sRet (eLst false (lCons (eTup (lCons (eC (.str "sum")) (lCons (eVar 0) (lCons (eC (.str "least")) (lCons (eVar 1) (lNil)))))) (lCons (eTup (lCons (eC (.str "sum")) (lCons (eVar 0) (lCons (eC (.str "most")) (lCons (eVar 1) (lNil)))))) (lNil))))
def m_comes_to : Mf := runB 2 0 B_comes_to
theorem b_comes_to {P : Program} {w : World} {K : PySem.W.Frag} {mg : Str → Option Value} {base : Heap} {k : Nat} {fA : Addr} {cdv : Value} {A : Around} {outer : List PySem.Env} {s : Shared} {H : Hp} {E : XK} (bs : Bs mg) (cs : Cs K w mg) (hr : RG k (A.deeper (envOfC "comes_to" (defScope s_comes_to) s.heap.objs.size fA cdv))) :
    FSs (cxOf (L2.CX P w) P w K mg base N_comes_to "comes_to" (defScope s_comes_to) fA cdv A outer s H E) (fun c d _ H => E c d H) (defBody s_comes_to) (B_comes_to) := by
  have hN : (cxOf (L2.CX P w) P w K mg base N_comes_to "comes_to" (defScope s_comes_to) fA cdv A outer s H E).N.Nodup := sc_comes_to.nd
  have hu : (cxOf (L2.CX P w) P w K mg base N_comes_to "comes_to" (defScope s_comes_to) fA cdv A outer s H E).A.units + 64 < cLine := hu_r hr
  have hu5 : (cxOf (L2.CX P w) P w K mg base N_comes_to "comes_to" (defScope s_comes_to) fA cdv A outer s H E).A.units + 65 < cLine := hu_r5 hr
  have tk : ∀ σ, PassesAt (L2.CX P w) (cxOf (L2.CX P w) P w K mg base N_comes_to "comes_to" (defScope s_comes_to) fA cdv A outer s H E) σ (WE (fun c d _ H => E c d H) σ) := fun σ => passAt (takes_of rfl rfl rfl rfl) σ
  have tkx : Takes (cxOf (L2.CX P w) P w K mg base N_comes_to "comes_to" (defScope s_comes_to) fA cdv A outer s H E) (fun c d _ H => E c d H) := takes_of rfl rfl rfl rfl
  have hp : PassesOwn (model P w) (cxOf (L2.CX P w) P w K mg base N_comes_to "comes_to" (defScope s_comes_to) fA cdv A outer s H E).A (cxOf (L2.CX P w) P w K mg base N_comes_to "comes_to" (defScope s_comes_to) fA cdv A outer s H E).env (cxOf (L2.CX P w) P w K mg base N_comes_to "comes_to" (defScope s_comes_to) fA cdv A outer s H E).xe := passes_of rfl
  exact sone (sret (flst false (fcons (ftup (fcons (fstr) (fcons (fv 0) (fcons (fstr) (fcons (fv 1) (fnil)))))) (fcons (ftup (fcons (fstr) (fcons (fv 0) (fcons (fstr) (fcons (fv 1) (fnil)))))) (fnil)))))
/-! queens -/
abbrev N_queens : List Str := ["size", "letters", "far", "boxes", "wishes", "place", "letter", "begin"]
abbrev p_queens : List Str := ["size"]
theorem sc_queens : FnScope N_queens p_queens (defScope s_queens) := ⟨rfl, rfl, rfl, by decide +kernel, rfl, by decide +kernel, by decide +kernel⟩
def L1_queens : FO := sSeq (sSet 4 (e2 (oAdd false) (eVar 4) (dCall m_comes_to (lenB 2 (lCons (eTup (lCons (eTup (lCons (eC (.int 1)) (lCons (e2 (oAdd false) (eVar 0) (eVar 5)) (lNil)))) (lCons (eTup (lCons (e1 oNeg (eC (.int 1))) (lCons (eVar 5) (lNil)))) (lNil)))) (lCons (eVar 5) (lNil))))))) (sSet 4 (e2 (oAdd false) (eVar 4) (dCall m_comes_to (lenB 2 (lCons (eTup (lCons (eTup (lCons (eC (.int 1)) (lCons (e2 (oAdd false) (e2 (oMul false) (eC (.int 2)) (eVar 0)) (eVar 5)) (lNil)))) (lCons (eTup (lCons (e1 oNeg (eC (.int 1))) (lCons (eVar 5) (lNil)))) (lNil)))) (lCons (e1 oNeg (eVar 5)) (lNil)))))))
def B_queens : FO := sSeq (sSet 1 (eSl false (eC d_LETTERS) pNo (pYes (eVar 0)))) (sSeq (sSet 2 (e2 oSub (e2 (oMul false) (eC (.int 2)) (eVar 0)) (eC (.int 2)))) (sSeq (sSet 3 (eLc false (iSeq (eVar 1)) [6] (gN 6) (bYes) (eTup (lCons (eVar 6) (lCons (eC (.int 0)) (lCons (e2 oSub (eVar 0) (eC (.int 1))) (lNil))))))) (sSeq (sSet 3 (e2 (oAdd false) (eVar 3) (eLc false (iSeq (eVar 1)) [6] (gN 6) (bYes) (eTup (lCons (e2 (oAdd false) (eC (.str "up")) (eVar 6)) (lCons (eC (.int 0)) (lCons (eVar 2) (lNil)))))))) (sSeq (sSet 3 (e2 (oAdd false) (eVar 3) (eLc false (iSeq (eVar 1)) [6] (gN 6) (bYes) (eTup (lCons (e2 (oAdd false) (eC (.str "dn")) (eVar 6)) (lCons (e2 oSub (eC (.int 1)) (eVar 0)) (lCons (e2 oSub (eVar 0) (eC (.int 1))) (lNil)))))))) (sSeq (sSet 4 (eLc false (iSeq (eTup (lCons (eC (.int 0)) (lCons (eVar 0) (lCons (e2 (oMul false) (eC (.int 2)) (eVar 0)) (lNil)))))) [7] (gN 7) (bYes) (eTup (lCons (eC (.str "unlike")) (lCons (eRg2 false true (eVar 7) (e2 (oAdd false) (eVar 7) (eVar 0))) (lNil)))))) (sSeq (sFor (iRg1 (lCons (eVar 0) (lNil))) (gN 5) (L1_queens)) (sRet (eTup (lCons (eVar 3) (lCons (eVar 4) (lNil)))))))))))
def m_queens : Mf := runB 1 7 B_queens
theorem b_queens {P : Program} {w : World} {K : PySem.W.Frag} {mg : Str → Option Value} {base : Heap} {k : Nat} {fA : Addr} {cdv : Value} {A : Around} {outer : List PySem.Env} {s : Shared} {H : Hp} {E : XK} (bs : Bs mg) (cs : Cs K w mg) (k_comes_to : Dk P w K mg base k "comes_to" 2 m_comes_to) (hr : RG k (A.deeper (envOfC "queens" (defScope s_queens) s.heap.objs.size fA cdv))) :
    FSs (cxOf (L2.CX P w) P w K mg base N_queens "queens" (defScope s_queens) fA cdv A outer s H E) (fun c d _ H => E c d H) (defBody s_queens) (B_queens) := by
  have hN : (cxOf (L2.CX P w) P w K mg base N_queens "queens" (defScope s_queens) fA cdv A outer s H E).N.Nodup := sc_queens.nd
  have hu : (cxOf (L2.CX P w) P w K mg base N_queens "queens" (defScope s_queens) fA cdv A outer s H E).A.units + 64 < cLine := hu_r hr
  have hu5 : (cxOf (L2.CX P w) P w K mg base N_queens "queens" (defScope s_queens) fA cdv A outer s H E).A.units + 65 < cLine := hu_r5 hr
  have tk : ∀ σ, PassesAt (L2.CX P w) (cxOf (L2.CX P w) P w K mg base N_queens "queens" (defScope s_queens) fA cdv A outer s H E) σ (WE (fun c d _ H => E c d H) σ) := fun σ => passAt (takes_of rfl rfl rfl rfl) σ
  have tkx : Takes (cxOf (L2.CX P w) P w K mg base N_queens "queens" (defScope s_queens) fA cdv A outer s H E) (fun c d _ H => E c d H) := takes_of rfl rfl rfl rfl
  have hp : PassesOwn (model P w) (cxOf (L2.CX P w) P w K mg base N_queens "queens" (defScope s_queens) fA cdv A outer s H E).A (cxOf (L2.CX P w) P w K mg base N_queens "queens" (defScope s_queens) fA cdv A outer s H E).env (cxOf (L2.CX P w) P w K mg base N_queens "queens" (defScope s_queens) fA cdv A outer s H E).xe := passes_of rfl
  exact scons (sset 1 hN (fsl false (fgl cs.c_LETTERS) fpno (fpyes (fv 0)))) (scons (sset 2 hN (fsub (fmul false  (fint) (fv 0)) (fint))) (scons (slc 3 false [("letter", 6)] rfl hN (iseq (fv 1)) (blkOk_by (by kernel_rfl)) (fun _ _ _ _ _ => gn 6 hN) (fun _ _ _ _ _ => ftn) (fun _ _ _ _ _ => ftup (fcons (fv 6) (fcons (fint) (fcons (fsub (fv 0) (fint)) (fnil))))) (sw_true rfl rfl rfl (by decide +kernel))) (scons (sset 3 hN (fadd false  (fv 3) (flc false [("letter", 6)] rfl hN (iseq (fv 1)) (blkOk_by (by kernel_rfl)) (fun _ _ _ _ _ => gn 6 hN) (fun _ _ _ _ _ => ftn) (fun _ _ _ _ _ => ftup (fcons (fadd false  (fstr) (fv 6)) (fcons (fint) (fcons (fv 2) (fnil)))))))) (scons (sset 3 hN (fadd false  (fv 3) (flc false [("letter", 6)] rfl hN (iseq (fv 1)) (blkOk_by (by kernel_rfl)) (fun _ _ _ _ _ => gn 6 hN) (fun _ _ _ _ _ => ftn) (fun _ _ _ _ _ => ftup (fcons (fadd false  (fstr) (fv 6)) (fcons (fsub (fint) (fv 0)) (fcons (fsub (fv 0) (fint)) (fnil)))))))) (scons (slc 4 false [("begin", 7)] rfl hN (iseq (ftup (fcons (fint) (fcons (fv 0) (fcons (fmul false  (fint) (fv 0)) (fnil)))))) (blkOk_by (by kernel_rfl)) (fun _ _ _ _ _ => gn 7 hN) (fun _ _ _ _ _ => ftn) (fun _ _ _ _ _ => ftup (fcons (fstr) (fcons (ftrg2  bs.tuple bs.range (fv 7) (fadd false  (fv 7) (fv 0))) (fnil)))) (sw_true rfl rfl rfl (by decide +kernel))) (scons (sfor hp rfl (irg1 bs.range (fcons (fv 0) (fnil))) (gn 5 hN) (scons (sset 4 hN (fadd false  (fv 4) (fdcall k_comes_to hr tk (fcons (ftup (fcons (ftup (fcons (fint) (fcons (fadd false  (fv 0) (fv 5)) (fnil)))) (fcons (ftup (fcons (fneg (fint)) (fcons (fv 5) (fnil)))) (fnil)))) (fcons (fv 5) (fnil)))))) (sone (sset 4 hN (fadd false  (fv 4) (fdcall k_comes_to hr tk (fcons (ftup (fcons (ftup (fcons (fint) (fcons (fadd false  (fmul false  (fint) (fv 0)) (fv 5)) (fnil)))) (fcons (ftup (fcons (fneg (fint)) (fcons (fv 5) (fnil)))) (fnil)))) (fcons (fneg (fv 5)) (fnil))))))))) (sone (sret (ftup (fcons (fv 3) (fcons (fv 4) (fnil))))))))))))
/-! rulers -/
abbrev N_rulers : List Str := ["size", "boxes", "wishes", "pairs", "one", "other", "place", "letter"]
abbrev p_rulers : List Str := ["size"]
theorem sc_rulers : FnScope N_rulers p_rulers (defScope s_rulers) := ⟨rfl, rfl, rfl, by decide +kernel, rfl, by decide +kernel, by decide +kernel⟩
def L1_rulers : FO := sSeq (sSet 2 (e2 (oAdd false) (eVar 2) (dCall m_comes_to (lenB 2 (lCons (eTup (lCons (eTup (lCons (eC (.int 1)) (lCons (eL bLen (lCons (eVar 1) (lNil))) (lNil)))) (lCons (eTup (lCons (e1 oNeg (eC (.int 1))) (lCons (eVar 5) (lNil)))) (lCons (eTup (lCons (eC (.int 1)) (lCons (eVar 4) (lNil)))) (lNil))))) (lCons (eC (.int 0)) (lNil))))))) (sDrop (eLm mApp (eVar 1) (lCons (eTup (lCons (e2 (oAdd false) (e2 (oAdd false) (eC (.str "d")) (e2 oIxA (eC d_LETTERS) (eVar 4))) (e2 oIxA (eC d_LETTERS) (eVar 5))) (lCons (eC (.int 1)) (lCons (eC d_MOST_MARK) (lNil))))) (lNil))))
def B_rulers : FO := sSeq (sSet 1 (e2 (oAdd true) (eLst false (lCons (eTup (lCons (eC (.str "a")) (lCons (eC (.int 0)) (lCons (eC (.int 0)) (lNil))))) (lNil))) (eLc false (iSeq (eSl false (eC d_LETTERS) (pYes (eC (.int 1))) (pYes (eVar 0)))) [7] (gN 7) (bYes) (eTup (lCons (eVar 7) (lCons (eC (.int 0)) (lCons (eC d_MOST_MARK) (lNil)))))))) (sSeq (sSet 2 (eLc false (iRg1 (lCons (e2 oSub (eVar 0) (eC (.int 1))) (lNil))) [6] (gN 6) (bYes) (eTup (lCons (eC (.str "sum")) (lCons (eTup (lCons (eTup (lCons (eC (.int 1)) (lCons (e2 (oAdd false) (eVar 6) (eC (.int 1))) (lNil)))) (lCons (eTup (lCons (e1 oNeg (eC (.int 1))) (lCons (eVar 6) (lNil)))) (lNil)))) (lCons (eC (.str "least")) (lCons (eC (.int 1)) (lNil)))))))) (sSeq (sSet 3 (eLc2 false (iRg1 (lCons (eVar 0) (lNil))) [4, 5] (gN 4) bYes (iRg2 (lCons (e2 (oAdd false) (eVar 4) (eC (.int 1))) (lCons (eVar 0) (lNil)))) [5] (gN 5) bYes (eTup (lCons (eVar 4) (lCons (eVar 5) (lNil)))))) (sSeq (sFor (iSeq (eVar 3)) (gT 2 (gsCons (gN 4) (gsCons (gN 5) (gsNil)))) (L1_rulers)) (sRet (eTup (lCons (eVar 1) (lCons (e2 (oAdd false) (eVar 2) (eLst false (lCons (eTup (lCons (eC (.str "unlike")) (lCons (eRg2 false true (eVar 0) (eL bLen (lCons (eVar 1) (lNil)))) (lNil)))) (lNil)))) (lNil))))))))
def m_rulers : Mf := runB 1 7 B_rulers
theorem b_rulers {P : Program} {w : World} {K : PySem.W.Frag} {mg : Str → Option Value} {base : Heap} {k : Nat} {fA : Addr} {cdv : Value} {A : Around} {outer : List PySem.Env} {s : Shared} {H : Hp} {E : XK} (bs : Bs mg) (cs : Cs K w mg) (k_comes_to : Dk P w K mg base k "comes_to" 2 m_comes_to) (hr : RG k (A.deeper (envOfC "rulers" (defScope s_rulers) s.heap.objs.size fA cdv))) :
    FSs (cxOf (L2.CX P w) P w K mg base N_rulers "rulers" (defScope s_rulers) fA cdv A outer s H E) (fun c d _ H => E c d H) (defBody s_rulers) (B_rulers) := by
  have hN : (cxOf (L2.CX P w) P w K mg base N_rulers "rulers" (defScope s_rulers) fA cdv A outer s H E).N.Nodup := sc_rulers.nd
  have hu : (cxOf (L2.CX P w) P w K mg base N_rulers "rulers" (defScope s_rulers) fA cdv A outer s H E).A.units + 64 < cLine := hu_r hr
  have hu5 : (cxOf (L2.CX P w) P w K mg base N_rulers "rulers" (defScope s_rulers) fA cdv A outer s H E).A.units + 65 < cLine := hu_r5 hr
  have tk : ∀ σ, PassesAt (L2.CX P w) (cxOf (L2.CX P w) P w K mg base N_rulers "rulers" (defScope s_rulers) fA cdv A outer s H E) σ (WE (fun c d _ H => E c d H) σ) := fun σ => passAt (takes_of rfl rfl rfl rfl) σ
  have tkx : Takes (cxOf (L2.CX P w) P w K mg base N_rulers "rulers" (defScope s_rulers) fA cdv A outer s H E) (fun c d _ H => E c d H) := takes_of rfl rfl rfl rfl
  have hp : PassesOwn (model P w) (cxOf (L2.CX P w) P w K mg base N_rulers "rulers" (defScope s_rulers) fA cdv A outer s H E).A (cxOf (L2.CX P w) P w K mg base N_rulers "rulers" (defScope s_rulers) fA cdv A outer s H E).env (cxOf (L2.CX P w) P w K mg base N_rulers "rulers" (defScope s_rulers) fA cdv A outer s H E).xe := passes_of rfl
  exact scons (sset 1 hN (fadd true  (flst false (fcons (ftup (fcons (fstr) (fcons (fint) (fcons (fint) (fnil))))) (fnil))) (flc false [("letter", 7)] rfl hN (iseq (fsl false (fgl cs.c_LETTERS) (fpyes (fint)) (fpyes (fv 0)))) (blkOk_by (by kernel_rfl)) (fun _ _ _ _ _ => gn 7 hN) (fun _ _ _ _ _ => ftn) (fun _ _ _ _ _ => ftup (fcons (fv 7) (fcons (fint) (fcons (fgl cs.c_MOST_MARK) (fnil)))))))) (scons (slc 2 false [("place", 6)] rfl hN (irg1 bs.range (fcons (fsub (fv 0) (fint)) (fnil))) (blkOk_by (by kernel_rfl)) (fun _ _ _ _ _ => gn 6 hN) (fun _ _ _ _ _ => ftn) (fun _ _ _ _ _ => ftup (fcons (fstr) (fcons (ftup (fcons (ftup (fcons (fint) (fcons (fadd false  (fv 6) (fint)) (fnil)))) (fcons (ftup (fcons (fneg (fint)) (fcons (fv 6) (fnil)))) (fnil)))) (fcons (fstr) (fcons (fint) (fnil)))))) (sw_true rfl rfl rfl (by decide +kernel))) (scons (slc2 3 false [("one", 4), ("other", 5)] [5] rfl hN (irg1 bs.range (fcons (fv 0) (fnil))) (blkOk_by (by kernel_rfl)) (fun _ _ _ _ _ => gn 4 hN) (fun _ _ _ _ _ => ftn) (fun _ _ _ _ _ => irg2 bs.range (fcons (fadd false  (fv 4) (fint)) (fcons (fv 0) (fnil)))) (fun _ _ _ _ _ => gn 5 hN) (fun _ _ _ _ _ => ftn) (fun _ _ _ _ _ => ftup (fcons (fv 4) (fcons (fv 5) (fnil)))) (sw_true rfl rfl rfl (by decide +kernel))) (scons (sfor hp rfl (iseq (fv 3)) (gtup rfl (gscons (gn 4 hN) (gscons (gn 5 hN) (gsnil)))) (scons (sset 2 hN (fadd false  (fv 2) (fdcall k_comes_to hr tk (fcons (ftup (fcons (ftup (fcons (fint) (fcons (flen bs.len (fcons (fv 1) (fnil))) (fnil)))) (fcons (ftup (fcons (fneg (fint)) (fcons (fv 5) (fnil)))) (fcons (ftup (fcons (fint) (fcons (fv 4) (fnil)))) (fnil))))) (fcons (fint) (fnil)))))) (sone (sexpr (fapp (fv 1) (fcons (ftup (fcons (fadd false  (fadd false  (fstr) (fixA hu (fgl cs.c_LETTERS) (fv 4))) (fixA hu (fgl cs.c_LETTERS) (fv 5))) (fcons (fint) (fcons (fgl cs.c_MOST_MARK) (fnil))))) (fnil))))))) (sone (sret (ftup (fcons (fv 1) (fcons (fadd false  (fv 2) (flst false (fcons (ftup (fcons (fstr) (fcons (ftrg2  bs.tuple bs.range (fv 0) (flen bs.len (fcons (fv 1) (fnil)))) (fnil)))) (fnil)))) (fnil)))))))))
/-! square -/
abbrev N_square : List Str := ["size", "boxes", "wishes", "line", "letter", "box"]
abbrev p_square : List Str := ["size"]
theorem sc_square : FnScope N_square p_square (defScope s_square) := ⟨rfl, rfl, rfl, by decide +kernel, rfl, by decide +kernel, by decide +kernel⟩
def L1_square : FO := sSet 2 (e2 (oAdd false) (eVar 2) (dCall m_comes_to (lenB 2 (lCons (eL bTuple (lCons (eLc false (iSeq (eVar 3)) [5] (gN 5) (bYes) (eTup (lCons (eC (.int 1)) (lCons (eVar 5) (lNil))))) (lNil))) (lCons (eC d_MAGIC) (lNil))))))
def B_square : FO := sSeq (sSet 1 (eLc false (iSeq (eSl false (eC d_LETTERS) pNo (pYes (e2 (oMul false) (eVar 0) (eVar 0))))) [4] (gN 4) (bYes) (eTup (lCons (eVar 4) (lCons (eC (.int 1)) (lCons (e2 (oMul false) (eVar 0) (eVar 0)) (lNil))))))) (sSeq (sSet 2 (eLst false (lCons (eTup (lCons (eC (.str "unlike")) (lCons (eRg1 false true (e2 (oMul false) (eVar 0) (eVar 0))) (lNil)))) (lNil)))) (sSeq (sFor (iSeq (eC d_LINES)) (gN 3) (L1_square)) (sRet (eTup (lCons (eVar 1) (lCons (eVar 2) (lNil)))))))
def m_square : Mf := runB 1 5 B_square
theorem b_square {P : Program} {w : World} {K : PySem.W.Frag} {mg : Str → Option Value} {base : Heap} {k : Nat} {fA : Addr} {cdv : Value} {A : Around} {outer : List PySem.Env} {s : Shared} {H : Hp} {E : XK} (bs : Bs mg) (cs : Cs K w mg) (k_comes_to : Dk P w K mg base k "comes_to" 2 m_comes_to) (hr : RG k (A.deeper (envOfC "square" (defScope s_square) s.heap.objs.size fA cdv))) :
    FSs (cxOf (L2.CX P w) P w K mg base N_square "square" (defScope s_square) fA cdv A outer s H E) (fun c d _ H => E c d H) (defBody s_square) (B_square) := by
  have hN : (cxOf (L2.CX P w) P w K mg base N_square "square" (defScope s_square) fA cdv A outer s H E).N.Nodup := sc_square.nd
  have hu : (cxOf (L2.CX P w) P w K mg base N_square "square" (defScope s_square) fA cdv A outer s H E).A.units + 64 < cLine := hu_r hr
  have hu5 : (cxOf (L2.CX P w) P w K mg base N_square "square" (defScope s_square) fA cdv A outer s H E).A.units + 65 < cLine := hu_r5 hr
  have tk : ∀ σ, PassesAt (L2.CX P w) (cxOf (L2.CX P w) P w K mg base N_square "square" (defScope s_square) fA cdv A outer s H E) σ (WE (fun c d _ H => E c d H) σ) := fun σ => passAt (takes_of rfl rfl rfl rfl) σ
  have tkx : Takes (cxOf (L2.CX P w) P w K mg base N_square "square" (defScope s_square) fA cdv A outer s H E) (fun c d _ H => E c d H) := takes_of rfl rfl rfl rfl
  have hp : PassesOwn (model P w) (cxOf (L2.CX P w) P w K mg base N_square "square" (defScope s_square) fA cdv A outer s H E).A (cxOf (L2.CX P w) P w K mg base N_square "square" (defScope s_square) fA cdv A outer s H E).env (cxOf (L2.CX P w) P w K mg base N_square "square" (defScope s_square) fA cdv A outer s H E).xe := passes_of rfl
  exact scons (slc 1 false [("letter", 4)] rfl hN (iseq (fsl false (fgl cs.c_LETTERS) fpno (fpyes (fmul false  (fv 0) (fv 0))))) (blkOk_by (by kernel_rfl)) (fun _ _ _ _ _ => gn 4 hN) (fun _ _ _ _ _ => ftn) (fun _ _ _ _ _ => ftup (fcons (fv 4) (fcons (fint) (fcons (fmul false  (fv 0) (fv 0)) (fnil))))) (sw_true rfl rfl rfl (by decide +kernel))) (scons (sset 2 hN (flst false (fcons (ftup (fcons (fstr) (fcons (ftrg1  bs.tuple bs.range (fmul false  (fv 0) (fv 0))) (fnil)))) (fnil)))) (scons (sfor hp rfl (iseq (fgl cs.c_LINES)) (gn 3 hN) (sone (sset 2 hN (fadd false  (fv 2) (fdcall k_comes_to hr tk (fcons (ftuple bs.tuple (fcons (flc false [("box", 5)] rfl hN (iseq (fv 3)) (blkOk_by (by kernel_rfl)) (fun _ _ _ _ _ => gn 5 hN) (fun _ _ _ _ _ => ftn) (fun _ _ _ _ _ => ftup (fcons (fint) (fcons (fv 5) (fnil))))) (fnil))) (fcons (fgl cs.c_MAGIC) (fnil)))))))) (sone (sret (ftup (fcons (fv 1) (fcons (fv 2) (fnil))))))))
/-! coins -/
abbrev N_coins : List Str := ["size", "boxes", "name", "worth", "place"]
abbrev p_coins : List Str := ["size"]
theorem sc_coins : FnScope N_coins p_coins (defScope s_coins) := ⟨rfl, rfl, rfl, by decide +kernel, rfl, by decide +kernel, by decide +kernel⟩
def B_coins : FO := sSeq (sSet 1 (eLc false (iSeq (eC d_COINS)) [2, 3] (gT 2 (gsCons (gN 2) (gsCons (gN 3) (gsNil)))) (bYes) (eTup (lCons (eVar 2) (lCons (eC (.int 0)) (lCons (e2 oDiv (eVar 0) (eVar 3)) (lNil))))))) (sRet (eTup (lCons (eVar 1) (lCons (dCall m_comes_to (lenB 2 (lCons (eL bTuple (lCons (eLc false (iEn (lCons (eC d_COINS) (lNil))) [4, 2, 3] (gT 2 (gsCons (gN 4) (gsCons (gT 2 (gsCons (gN 2) (gsCons (gN 3) (gsNil)))) (gsNil)))) (bYes) (eTup (lCons (eVar 3) (lCons (eVar 4) (lNil))))) (lNil))) (lCons (eVar 0) (lNil))))) (lNil)))))
def m_coins : Mf := runB 1 4 B_coins
theorem b_coins {P : Program} {w : World} {K : PySem.W.Frag} {mg : Str → Option Value} {base : Heap} {k : Nat} {fA : Addr} {cdv : Value} {A : Around} {outer : List PySem.Env} {s : Shared} {H : Hp} {E : XK} (bs : Bs mg) (cs : Cs K w mg) (k_comes_to : Dk P w K mg base k "comes_to" 2 m_comes_to) (hr : RG k (A.deeper (envOfC "coins" (defScope s_coins) s.heap.objs.size fA cdv))) :
    FSs (cxOf (L2.CX P w) P w K mg base N_coins "coins" (defScope s_coins) fA cdv A outer s H E) (fun c d _ H => E c d H) (defBody s_coins) (B_coins) := by
  have hN : (cxOf (L2.CX P w) P w K mg base N_coins "coins" (defScope s_coins) fA cdv A outer s H E).N.Nodup := sc_coins.nd
  have hu : (cxOf (L2.CX P w) P w K mg base N_coins "coins" (defScope s_coins) fA cdv A outer s H E).A.units + 64 < cLine := hu_r hr
  have hu5 : (cxOf (L2.CX P w) P w K mg base N_coins "coins" (defScope s_coins) fA cdv A outer s H E).A.units + 65 < cLine := hu_r5 hr
  have tk : ∀ σ, PassesAt (L2.CX P w) (cxOf (L2.CX P w) P w K mg base N_coins "coins" (defScope s_coins) fA cdv A outer s H E) σ (WE (fun c d _ H => E c d H) σ) := fun σ => passAt (takes_of rfl rfl rfl rfl) σ
  have tkx : Takes (cxOf (L2.CX P w) P w K mg base N_coins "coins" (defScope s_coins) fA cdv A outer s H E) (fun c d _ H => E c d H) := takes_of rfl rfl rfl rfl
  have hp : PassesOwn (model P w) (cxOf (L2.CX P w) P w K mg base N_coins "coins" (defScope s_coins) fA cdv A outer s H E).A (cxOf (L2.CX P w) P w K mg base N_coins "coins" (defScope s_coins) fA cdv A outer s H E).env (cxOf (L2.CX P w) P w K mg base N_coins "coins" (defScope s_coins) fA cdv A outer s H E).xe := passes_of rfl
  exact scons (slc 1 false [("name", 2), ("worth", 3)] rfl hN (iseq (fgl cs.c_COINS)) (blkOk_by (by kernel_rfl)) (fun _ _ _ _ _ => gtup rfl (gscons (gn 2 hN) (gscons (gn 3 hN) (gsnil)))) (fun _ _ _ _ _ => ftn) (fun _ _ _ _ _ => ftup (fcons (fv 2) (fcons (fint) (fcons (fdiv (fv 0) (fv 3)) (fnil))))) (sw_true rfl rfl rfl (by decide +kernel))) (sone (sret (ftup (fcons (fv 1) (fcons (fdcall k_comes_to hr tk (fcons (ftuple bs.tuple (fcons (flc false [("place", 4), ("name", 2), ("worth", 3)] rfl hN (ien bs.enumerate (fcons (fgl cs.c_COINS) (fnil))) (blkOk_by (by kernel_rfl)) (fun _ _ _ _ _ => gtup rfl (gscons (gn 4 hN) (gscons (gtup rfl (gscons (gn 2 hN) (gscons (gn 3 hN) (gsnil)))) (gsnil)))) (fun _ _ _ _ _ => ftn) (fun _ _ _ _ _ => ftup (fcons (fv 3) (fcons (fv 4) (fnil))))) (fnil))) (fcons (fv 0) (fnil)))) (fnil))))))
/-! riddle -/
abbrev N_riddle : List Str := ["name", "size", "made", "least", "most"]
abbrev p_riddle : List Str := ["name", "size"]
theorem sc_riddle : FnScope N_riddle p_riddle (defScope s_riddle) := ⟨rfl, rfl, rfl, by decide +kernel, rfl, by decide +kernel, by decide +kernel⟩
def B_riddle : FO := sSeq (sIf (bOr (bNot (bT (eIsi .str (eVar 0)))) (bT (eKin true kd_RIDDLES (eVar 0)))) (sRaise "NoRiddle" ["name"] [] (lCons (eVar 0) (lNil))) (sNil)) (sSeq (sAsg (eKix kd_RIDDLES (eVar 0)) (gT 3 (gsCons (gN 2) (gsCons (gN 3) (gsCons (gN 4) (gsNil)))))) (sSeq (sIf (bOr (bNot (bT (dCall m_is_whole (lenB 1 (lCons (eVar 1) (lNil)))))) (bNot (bT (eCh oLe oLe (eVar 3) (eVar 1) (eVar 4))))) (sRaise0 "NoNumber") (sNil)) (sRet (vdCall 2 1 (fun g : Str => (if g = "queens" then some m_queens else if g = "rulers" then some m_rulers else if g = "square" then some m_square else if g = "coins" then some m_coins else none : Option Mf)) (lCons (eVar 1) (lNil))))))
def m_riddle : Mf := runB 2 3 B_riddle
theorem b_riddle {P : Program} {w : World} {K : PySem.W.Frag} {mg : Str → Option Value} {base : Heap} {k : Nat} {fA : Addr} {cdv : Value} {A : Around} {outer : List PySem.Env} {s : Shared} {H : Hp} {E : XK} (bs : Bs mg) (cs : Cs K w mg) (k_is_whole : Dk P w K mg base k "is_whole" 1 m_is_whole) (k_queens : Dk P w K mg base k "queens" 1 m_queens) (k_rulers : Dk P w K mg base k "rulers" 1 m_rulers) (k_square : Dk P w K mg base k "square" 1 m_square) (k_coins : Dk P w K mg base k "coins" 1 m_coins) (x_NoRiddle : Dx P w K mg base 1 "NoRiddle" ["name"] []) (h_NoRiddle : 2 ≤ k) (hr : RG k (A.deeper (envOfC "riddle" (defScope s_riddle) s.heap.objs.size fA cdv))) :
    FSs (cxOf (L2.CX P w) P w K mg base N_riddle "riddle" (defScope s_riddle) fA cdv A outer s H E) (fun c d _ H => E c d H) (defBody s_riddle) (B_riddle) := by
  have hN : (cxOf (L2.CX P w) P w K mg base N_riddle "riddle" (defScope s_riddle) fA cdv A outer s H E).N.Nodup := sc_riddle.nd
  have hu : (cxOf (L2.CX P w) P w K mg base N_riddle "riddle" (defScope s_riddle) fA cdv A outer s H E).A.units + 64 < cLine := hu_r hr
  have hu5 : (cxOf (L2.CX P w) P w K mg base N_riddle "riddle" (defScope s_riddle) fA cdv A outer s H E).A.units + 65 < cLine := hu_r5 hr
  have tk : ∀ σ, PassesAt (L2.CX P w) (cxOf (L2.CX P w) P w K mg base N_riddle "riddle" (defScope s_riddle) fA cdv A outer s H E) σ (WE (fun c d _ H => E c d H) σ) := fun σ => passAt (takes_of rfl rfl rfl rfl) σ
  have tkx : Takes (cxOf (L2.CX P w) P w K mg base N_riddle "riddle" (defScope s_riddle) fA cdv A outer s H E) (fun c d _ H => E c d H) := takes_of rfl rfl rfl rfl
  have hp : PassesOwn (model P w) (cxOf (L2.CX P w) P w K mg base N_riddle "riddle" (defScope s_riddle) fA cdv A outer s H E).A (cxOf (L2.CX P w) P w K mg base N_riddle "riddle" (defScope s_riddle) fA cdv A outer s H E).env (cxOf (L2.CX P w) P w K mg base N_riddle "riddle" (defScope s_riddle) fA cdv A outer s H E).xe := passes_of rfl
  exact scons (sif (tw (tor (tnot (tv (fisi .str bs.isinstance bs.str (fv 0) bt_str))) (tor1 (tknin cs.k_RIDDLES (fv 0))))) (sone (sraise x_NoRiddle rfl (hr.mono h_NoRiddle) tkx (fcons (fv 0) (fnil)))) (snil)) (scons (sasg (fkix cs.k_RIDDLES (fv 0)) (gtup rfl (gscons (gn 2 hN) (gscons (gn 3 hN) (gscons (gn 4 hN) (gsnil)))))) (scons (sif (tw (tor (tnot (tv (fdcall k_is_whole hr tk (fcons (fv 1) (fnil))))) (tor1 (tnot (tch c_le c_le (fv 3) (fv 1) (fv 4)))))) (sone (sraise0 cs.x0_NoNumber rfl tkx)) (snil)) (sone (sret (fvdcall 2 (fun g m h => by
    by_cases e : g = "queens"
    · rw [if_pos e] at h; cases h; rw [e]; exact k_queens
    rw [if_neg e] at h
    by_cases e : g = "rulers"
    · rw [if_pos e] at h; cases h; rw [e]; exact k_rulers
    rw [if_neg e] at h
    by_cases e : g = "square"
    · rw [if_pos e] at h; cases h; rw [e]; exact k_square
    rw [if_neg e] at h
    by_cases e : g = "coins"
    · rw [if_pos e] at h; cases h; rw [e]; exact k_coins
    rw [if_neg e] at h
    cases h) hr tk (fcons (fv 1) (fnil)))))))
/-! _law_said -/
abbrev N__law_said : List Str := ["_law_name", "_law_size", "e"]
abbrev p__law_said : List Str := ["_law_name", "_law_size"]
theorem sc__law_said : FnScope N__law_said p__law_said (defScope s__law_said) := ⟨rfl, rfl, rfl, by decide +kernel, rfl, by decide +kernel, by decide +kernel⟩
def B__law_said : FO := sTry (sRet (eLst false (lCons (eC (.str "told")) (lCons (eL bLen (lCons (dCall m_riddle (lenB 2 (lCons (eVar 0) (lCons (eVar 1) (lNil))))) (lNil))) (lNil))))) (((fun c : Str => mt_NoRiddle.lookup c), (some 2), fun x => sRet (eLst false (lCons (eC (.str "riddle")) (lCons (eL bRepr (lCons (eXf "name" x) (lNil))) (lCons (eAnd (eXis (fun c : Str => mt_KeyError.lookup c) x) (eNot (eXis (fun c : Str => mt_NoName.lookup c) x))) (lNil)))))) :: ((fun c : Str => mt_BoxError.lookup c), (some 2), fun x => sRet (eLst false (lCons (eC (.str "number")) (lCons (eXis (fun c : Str => mt_NoNumber.lookup c) x) (lNil))))) :: [])
def m__law_said : Mf := runB 2 1 B__law_said
theorem b__law_said {P : Program} {w : World} {K : PySem.W.Frag} {mg : Str → Option Value} {base : Heap} {k : Nat} {fA : Addr} {cdv : Value} {A : Around} {outer : List PySem.Env} {s : Shared} {H : Hp} {E : XK} (bs : Bs mg) (cs : Cs K w mg) (k_riddle : Dk P w K mg base k "riddle" 2 m_riddle) (hr : RG k (A.deeper (envOfC "_law_said" (defScope s__law_said) s.heap.objs.size fA cdv))) :
    FSs (cxOf (L2.CX P w) P w K mg base N__law_said "_law_said" (defScope s__law_said) fA cdv A outer s H E) (fun c d _ H => E c d H) (defBody s__law_said) (B__law_said) := by
  have hN : (cxOf (L2.CX P w) P w K mg base N__law_said "_law_said" (defScope s__law_said) fA cdv A outer s H E).N.Nodup := sc__law_said.nd
  have hu : (cxOf (L2.CX P w) P w K mg base N__law_said "_law_said" (defScope s__law_said) fA cdv A outer s H E).A.units + 64 < cLine := hu_r hr
  have hu5 : (cxOf (L2.CX P w) P w K mg base N__law_said "_law_said" (defScope s__law_said) fA cdv A outer s H E).A.units + 65 < cLine := hu_r5 hr
  have tk : ∀ σ, PassesAt (L2.CX P w) (cxOf (L2.CX P w) P w K mg base N__law_said "_law_said" (defScope s__law_said) fA cdv A outer s H E) σ (WE (fun c d _ H => E c d H) σ) := fun σ => passAt (takes_of rfl rfl rfl rfl) σ
  have tkx : Takes (cxOf (L2.CX P w) P w K mg base N__law_said "_law_said" (defScope s__law_said) fA cdv A outer s H E) (fun c d _ H => E c d H) := takes_of rfl rfl rfl rfl
  have hp : PassesOwn (model P w) (cxOf (L2.CX P w) P w K mg base N__law_said "_law_said" (defScope s__law_said) fA cdv A outer s H E).A (cxOf (L2.CX P w) P w K mg base N__law_said "_law_said" (defScope s__law_said) fA cdv A outer s H E).env (cxOf (L2.CX P w) P w K mg base N__law_said "_law_said" (defScope s__law_said) fA cdv A outer s H E).xe := passes_of rfl
  exact sone (stry tkx rfl rfl (fun W pn xe tkx hp => have tk := fun σ => passAt tkx σ; sone (sret (flst false (fcons (fstr) (fcons (flen bs.len (fcons (fdcall k_riddle hr tk (fcons (fv 0) (fcons (fv 1) (fnil)))) (fnil))) (fnil)))))) (hd_nam cs.h_NoRiddle hN (fun x ea eo ec ed pn hx hz hf => have hrm := RG.mark hr (some (.ref ea)); jlast (jret (jlst false (jcons xj_st (jl (fstr)) (jcons xj_st (jrepr bs.repr hrm (jcons xj_st (jxf (cs.xf _ ((by decide : ∀ p ∈ mt_NoRiddle, p.2 = true → (p.1, ("name" : Str)) ∈ xfL) _ (lookup_mem hx) rfl)) hz hf) (jnil))) (jcons xj_st (jand xj_st (jisT cs.i_KeyError bs.isinstance hz hf) (jone (jnot (jisT cs.i_NoName bs.isinstance hz hf)))) (jnil))))))) (hd_nam cs.h_BoxError hN (fun x ea eo ec ed pn hx hz hf => have hrm := RG.mark hr (some (.ref ea)); jlast (jret (jlst false (jcons xj_st (jl (fstr)) (jcons xj_st (jisT cs.i_NoNumber bs.isinstance hz hf) (jnil)))))) (.nil))))
/-! law -/
abbrev N_law : List Str := ["_law_script", "_law_ends", "_law_k", "_law_pool_here", "_law_names", "_law_name", "_law_sizes", "_law_turn", "_law_low", "_law_high", "_law_size", "_law_due"]
abbrev p_law : List Str := ["_law_script"]
theorem sc_law : FnScope N_law p_law (defScope s_law) := ⟨rfl, rfl, rfl, by decide +kernel, rfl, by decide +kernel, by decide +kernel⟩
def L1_law : FO := sSeq (sSet 10 (e2 oIxA (eVar 6) (eCall m__law_take (lenB 2 (lCons (eVar 3) (lCons (eC (.int 12)) (lNil))))))) (sSeq (sSet 11 (eLst false (lCons (eC (.str "riddle")) (lCons (eL bRepr (lCons (eVar 5) (lNil))) (lCons (eC (.bl true)) (lNil)))))) (sSeq (sIf (bAnd (bT (eIsi .str (eVar 5))) (bT (e2 (oIn false) (eVar 5) (eVar 1)))) (sSeq (sSet 11 (eLst false (lCons (eC (.str "number")) (lCons (eC (.bl true)) (lNil))))) (sIf (bAnd (bT (eIsi .int (eVar 10))) (bAnd (bNot (bT (eIsi .bool (eVar 10)))) (bT (eCh oLe oLe (eVar 8) (eVar 10) (eVar 9))))) (sSet 11 (eLst false (lCons (eC (.str "told")) (lCons (eC (.int 2)) (lNil))))) (sNil))) (sNil)) (sIf (bT (e2 (oEq true) (dCall m__law_said (lenB 2 (lCons (eVar 5) (lCons (eVar 10) (lNil))))) (eVar 11))) (sRet (eC (.bl false))) (sNil))))
def L2_law : FO := sSeq (sAsg (eIf (bT (eIsi .str (eVar 5))) (eGet2 (eVar 1) (eVar 5) (eTup (lCons (eC (.int 1)) (lCons (eC (.int 1)) (lNil))))) (eTup (lCons (eC (.int 1)) (lCons (eC (.int 1)) (lNil))))) (gT 2 (gsCons (gN 8) (gsCons (gN 9) (gsNil))))) (sSeq (sSet 6 (eLst false (lCons (eVar 8) (lCons (eVar 9) (lCons (e2 oSub (eVar 8) (eC (.int 1))) (lCons (e2 (oAdd false) (eVar 9) (eC (.int 1))) (lCons (eC (.int 0)) (lCons (e1 oNeg (eC (.int 1))) (lCons (e2 oPow (eC (.int 10)) (eC (.int 20))) (lCons (eC .non) (lCons (eC (.bl true)) (lCons (eC (.str "3")) (lCons (eLst false (lCons (eC (.int 3)) (lNil))) (lCons (eTup (lCons (eC (.int 1)) (lNil))) (lNil))))))))))))))) (sFor (iRg1 (lCons (eC (.int 4)) (lNil))) (gN 7) (L1_law)))
def L3_law : FO := sSeq (sSet 3 (eCall m__law_pool (lenB 2 (lCons (eVar 0) (lCons (eVar 2) (lNil)))))) (sSeq (sSet 4 (eLst false (lCons (eC (.str "queens")) (lCons (eC (.str "rulers")) (lCons (eC (.str "square")) (lCons (eC (.str "coins")) (lCons (eC (.str "Queens")) (lCons (eC (.str "")) (lCons (eC (.str "coin")) (lNil)))))))))) (sFor (iSeq (e2 (oAdd false) (eVar 4) (eLst false (lCons (eC .non) (lCons (eC (.int 5)) (lCons (eLst false (lCons (eC (.str "queens")) (lNil))) (lCons (eTup (lCons (eC (.str "coins")) (lNil))) (lCons (eC (.bl true)) (lNil))))))))) (gN 5) (L2_law)))
def B_law : FO := sSeq (sSet 1 (eDsp true (((eC (.str "queens")), (eTup (lCons (eC (.int 1)) (lCons (eC (.int 8)) (lNil))))) :: (((eC (.str "rulers")), (eTup (lCons (eC (.int 2)) (lCons (eC (.int 5)) (lNil))))) :: (((eC (.str "square")), (eTup (lCons (eC (.int 3)) (lCons (eC (.int 3)) (lNil))))) :: (((eC (.str "coins")), (eTup (lCons (eC (.int 1)) (lCons (eC (.int 39)) (lNil))))) :: ([]))))))) (sSeq (sFor (iRg1 (lCons (eL bMax (lCons (eC (.int 1)) (lCons (eL bMin (lCons (eL bLen (lCons (eVar 0) (lNil))) (lCons (eC (.int 10)) (lNil)))) (lNil)))) (lNil))) (gN 2) (L3_law)) (sRet (eC (.bl true))))
def m_law : Mf := runB 1 11 B_law
theorem b_law {P : Program} {w : World} {K : PySem.W.Frag} {mg : Str → Option Value} {base : Heap} {k : Nat} {fA : Addr} {cdv : Value} {A : Around} {outer : List PySem.Env} {s : Shared} {H : Hp} {E : XK} (bs : Bs mg) (cs : Cs K w mg) (k__law_pool : Dk P w K mg base k "_law_pool" 2 m__law_pool) (k__law_take : Dk P w K mg base k "_law_take" 2 m__law_take) (k__law_said : Dk P w K mg base k "_law_said" 2 m__law_said) (hr : RG k (A.deeper (envOfC "law" (defScope s_law) s.heap.objs.size fA cdv))) :
    FSs (cxOf (L2.CX P w) P w K mg base N_law "law" (defScope s_law) fA cdv A outer s H E) (fun c d _ H => E c d H) (defBody s_law) (B_law) := by
  have hN : (cxOf (L2.CX P w) P w K mg base N_law "law" (defScope s_law) fA cdv A outer s H E).N.Nodup := sc_law.nd
  have hu : (cxOf (L2.CX P w) P w K mg base N_law "law" (defScope s_law) fA cdv A outer s H E).A.units + 64 < cLine := hu_r hr
  have hu5 : (cxOf (L2.CX P w) P w K mg base N_law "law" (defScope s_law) fA cdv A outer s H E).A.units + 65 < cLine := hu_r5 hr
  have tk : ∀ σ, PassesAt (L2.CX P w) (cxOf (L2.CX P w) P w K mg base N_law "law" (defScope s_law) fA cdv A outer s H E) σ (WE (fun c d _ H => E c d H) σ) := fun σ => passAt (takes_of rfl rfl rfl rfl) σ
  have tkx : Takes (cxOf (L2.CX P w) P w K mg base N_law "law" (defScope s_law) fA cdv A outer s H E) (fun c d _ H => E c d H) := takes_of rfl rfl rfl rfl
  have hp : PassesOwn (model P w) (cxOf (L2.CX P w) P w K mg base N_law "law" (defScope s_law) fA cdv A outer s H E).A (cxOf (L2.CX P w) P w K mg base N_law "law" (defScope s_law) fA cdv A outer s H E).env (cxOf (L2.CX P w) P w K mg base N_law "law" (defScope s_law) fA cdv A outer s H E).xe := passes_of rfl
  exact scons (sset 1 hN (fdsp true (fpsc (fstr) (ftup (fcons (fint) (fcons (fint) (fnil)))) (fpsc (fstr) (ftup (fcons (fint) (fcons (fint) (fnil)))) (fpsc (fstr) (ftup (fcons (fint) (fcons (fint) (fnil)))) (fpsc (fstr) (ftup (fcons (fint) (fcons (fint) (fnil)))) (fpsn))))))) (scons (sfor hp rfl (irg1 bs.range (fcons (fmax2 bs.max (fcons (fint) (fcons (fmin2 bs.min (fcons (flen bs.len (fcons (fv 0) (fnil))) (fcons (fint) (fnil)))) (fnil)))) (fnil))) (gn 2 hN) (scons (sset 3 hN (fxcall k__law_pool hr tk (fcons (fv 0) (fcons (fv 2) (fnil))))) (scons (sset 4 hN (flst false (fcons (fstr) (fcons (fstr) (fcons (fstr) (fcons (fstr) (fcons (fstr) (fcons (fstr) (fcons (fstr) (fnil)))))))))) (sone (sfor hp rfl (iseq (fadd false  (fv 4) (flst false (fcons (fnon) (fcons (fint) (fcons (flst false (fcons (fstr) (fnil))) (fcons (ftup (fcons (fstr) (fnil))) (fcons (fbl) (fnil))))))))) (gn 5 hN) (scons (sasg (fif (tv (fisi .str bs.isinstance bs.str (fv 5) bt_str)) (fget2 hu (fv 1) (fv 5) (ftup (fcons (fint) (fcons (fint) (fnil))))) (ftup (fcons (fint) (fcons (fint) (fnil))))) (gtup rfl (gscons (gn 8 hN) (gscons (gn 9 hN) (gsnil))))) (scons (sset 6 hN (flst false (fcons (fv 8) (fcons (fv 9) (fcons (fsub (fv 8) (fint)) (fcons (fadd false  (fv 9) (fint)) (fcons (fint) (fcons (fneg (fint)) (fcons (fpow (fint) (fint)) (fcons (fnon) (fcons (fbl) (fcons (fstr) (fcons (flst false (fcons (fint) (fnil))) (fcons (ftup (fcons (fint) (fnil))) (fnil))))))))))))))) (sone (sfor hp rfl (irg1 bs.range (fcons (fint) (fnil))) (gn 7 hN) (scons (sset 10 hN (fixA hu (fv 6) (fxcall k__law_take hr tk (fcons (fv 3) (fcons (fint) (fnil)))))) (scons (sset 11 hN (flst false (fcons (fstr) (fcons (frepr bs.repr hr (fcons (fv 5) (fnil))) (fcons (fbl) (fnil)))))) (scons (sif (tw (tand (tv (fisi .str bs.isinstance bs.str (fv 5) bt_str)) (tand1 (tin hu5 (fv 5) (fv 1))))) (scons (sset 11 hN (flst false (fcons (fstr) (fcons (fbl) (fnil))))) (sone (sif (tw (tand (tv (fisi .int bs.isinstance bs.int (fv 10) bt_int)) (tand (tnot (tv (fisi .bool bs.isinstance bs.bool (fv 10) bt_bool))) (tand1 (tch c_le c_le (fv 8) (fv 10) (fv 9)))))) (sone (sset 11 hN (flst false (fcons (fstr) (fcons (fint) (fnil)))))) (snil)))) (snil)) (sone (sif (tne hu (fdcall k__law_said hr tk (fcons (fv 5) (fcons (fv 10) (fnil)))) (fv 11)) (sone (sret (fbl))) (snil))))))))))))))) (sone (sret (fbl))))
end Lw

/-! ===== L65a -/
set_option Elab.async false
set_option linter.all false
set_option maxRecDepth 100000
set_option maxHeartbeats 0
namespace Lw
open PySem PySem.Spec PyProof.Rows L2 Fx
theorem cs_of {K : PySem.W.Frag} {mg : Str → Option Value} {h : Heap} {w : World} (X : K.In h) (G : h.Ns mainGlobals mg) (c : He.SaysT faL fnL tsL w K) (e : ckL K = true) : Cs K w mg := by
  obtain ⟨e1, e2⟩ := He.ba e
  obtain ⟨e2, e3⟩ := He.ba e2
  obtain ⟨e3, ex⟩ := He.ba e3
  obtain ⟨f0, ex⟩ := He.ba ex
  obtain ⟨f1, ex⟩ := He.ba ex
  obtain ⟨f2, ex⟩ := He.ba ex
  obtain ⟨f3, ex⟩ := He.ba ex
  obtain ⟨f4, ex⟩ := He.ba ex
  obtain ⟨f5, ex⟩ := He.ba ex
  obtain ⟨f6, ex⟩ := He.ba ex
  obtain ⟨f7, ex⟩ := He.ba ex
  have a1 := fun p hp => List.all_eq_true.mp e1 p hp
  have a2 := fun p hp => List.all_eq_true.mp e2 p hp
  exact ⟨True.intro, conB_ok X G (a1 ("COINS", d_COINS) (List.mem_of_getElem? (i := 0) rfl)), conB_ok X G (a1 ("LETTERS", d_LETTERS) (List.mem_of_getElem? (i := 1) rfl)), conB_ok X G (a1 ("LINES", d_LINES) (List.mem_of_getElem? (i := 2) rfl)), conB_ok X G (a1 ("MAGIC", d_MAGIC) (List.mem_of_getElem? (i := 3) rfl)), conB_ok X G (a1 ("MOST_MARK", d_MOST_MARK) (List.mem_of_getElem? (i := 4) rfl)), dicB_ok X G (a2 ("RIDDLES", kd_RIDDLES) (List.mem_of_getElem? (i := 0) rfl)) (saysTab c 0 rfl), cfl_ok X G e3, xfB2_ok X G f0, mcB_ok X G f1 (.inr rfl), mcB_ok X G f2 (.inr rfl), xiB_ok X G f3 (.inr rfl), xiB_ok X G f4 (.inl (by decide +kernel)), xiB_ok X G f5 (.inr rfl), x0B_ok X G PySem.F.excBase_ValueError f6, (let q := He.ba f7; let q2 := He.ba q.2; let q3 := He.ba q2.2; ⟨xkB_ok X G baKey q.1, iniB_ok q2.1, noB_ok q3.1, binB_ok X G q3.2 (.inl ⟨by decide +kernel, by kernel_rfl, by decide +kernel⟩)⟩)⟩
theorem dk__law_pool {P : Program} {w : World} {K : PySem.W.Frag} {mg : Str → Option Value} {base : Heap} {k : Nat} (bs : Bs mg) (cs : Cs K w mg) (F : FDk K mg "_law_pool" s__law_pool) : Dk P w K mg base (k + 1) "_law_pool" 2 m__law_pool := by
  obtain ⟨f, fd, F, hm⟩ := F
  exact dk_of F hm (fun _ _ _ _ _ _ us hl => match us, hl with | [_, _], _ => rfl) (okD F sc__law_pool rfl rfl fun cdv A outer s H E hr => b__law_pool bs cs  hr)
theorem dk__law_take {P : Program} {w : World} {K : PySem.W.Frag} {mg : Str → Option Value} {base : Heap} {k : Nat} (bs : Bs mg) (cs : Cs K w mg) (F : FDk K mg "_law_take" s__law_take) : Dk P w K mg base (k + 1) "_law_take" 2 m__law_take := by
  obtain ⟨f, fd, F, hm⟩ := F
  exact dk_of F hm (fun _ _ _ _ _ _ us hl => match us, hl with | [_, _], _ => rfl) (okD F sc__law_take rfl rfl fun cdv A outer s H E hr => b__law_take bs cs  hr)
theorem dk_is_whole {P : Program} {w : World} {K : PySem.W.Frag} {mg : Str → Option Value} {base : Heap} {k : Nat} (bs : Bs mg) (cs : Cs K w mg) (F : FDk K mg "is_whole" s_is_whole) : Dk P w K mg base (k + 1) "is_whole" 1 m_is_whole := by
  obtain ⟨f, fd, F, hm⟩ := F
  exact dk_of F hm (fun _ _ _ _ _ _ us hl => match us, hl with | [_], _ => rfl) (okD F sc_is_whole rfl rfl fun cdv A outer s H E hr => b_is_whole bs cs  hr)
theorem dk_comes_to {P : Program} {w : World} {K : PySem.W.Frag} {mg : Str → Option Value} {base : Heap} {k : Nat} (bs : Bs mg) (cs : Cs K w mg) (F : FDk K mg "comes_to" s_comes_to) : Dk P w K mg base (k + 1) "comes_to" 2 m_comes_to := by
  obtain ⟨f, fd, F, hm⟩ := F
  exact dk_of F hm (fun _ _ _ _ _ _ us hl => match us, hl with | [_, _], _ => rfl) (okD F sc_comes_to rfl rfl fun cdv A outer s H E hr => b_comes_to bs cs  hr)
theorem dk_queens {P : Program} {w : World} {K : PySem.W.Frag} {mg : Str → Option Value} {base : Heap} {k : Nat} (bs : Bs mg) (cs : Cs K w mg) (k_comes_to : Dk P w K mg base k "comes_to" 2 m_comes_to) (F : FDk K mg "queens" s_queens) : Dk P w K mg base (k + 1) "queens" 1 m_queens := by
  obtain ⟨f, fd, F, hm⟩ := F
  exact dk_of F hm (fun _ _ _ _ _ _ us hl => match us, hl with | [_], _ => rfl) (okD F sc_queens rfl rfl fun cdv A outer s H E hr => b_queens bs cs k_comes_to hr)
theorem dk_rulers {P : Program} {w : World} {K : PySem.W.Frag} {mg : Str → Option Value} {base : Heap} {k : Nat} (bs : Bs mg) (cs : Cs K w mg) (k_comes_to : Dk P w K mg base k "comes_to" 2 m_comes_to) (F : FDk K mg "rulers" s_rulers) : Dk P w K mg base (k + 1) "rulers" 1 m_rulers := by
  obtain ⟨f, fd, F, hm⟩ := F
  exact dk_of F hm (fun _ _ _ _ _ _ us hl => match us, hl with | [_], _ => rfl) (okD F sc_rulers rfl rfl fun cdv A outer s H E hr => b_rulers bs cs k_comes_to hr)
theorem dk_square {P : Program} {w : World} {K : PySem.W.Frag} {mg : Str → Option Value} {base : Heap} {k : Nat} (bs : Bs mg) (cs : Cs K w mg) (k_comes_to : Dk P w K mg base k "comes_to" 2 m_comes_to) (F : FDk K mg "square" s_square) : Dk P w K mg base (k + 1) "square" 1 m_square := by
  obtain ⟨f, fd, F, hm⟩ := F
  exact dk_of F hm (fun _ _ _ _ _ _ us hl => match us, hl with | [_], _ => rfl) (okD F sc_square rfl rfl fun cdv A outer s H E hr => b_square bs cs k_comes_to hr)
theorem dk_coins {P : Program} {w : World} {K : PySem.W.Frag} {mg : Str → Option Value} {base : Heap} {k : Nat} (bs : Bs mg) (cs : Cs K w mg) (k_comes_to : Dk P w K mg base k "comes_to" 2 m_comes_to) (F : FDk K mg "coins" s_coins) : Dk P w K mg base (k + 1) "coins" 1 m_coins := by
  obtain ⟨f, fd, F, hm⟩ := F
  exact dk_of F hm (fun _ _ _ _ _ _ us hl => match us, hl with | [_], _ => rfl) (okD F sc_coins rfl rfl fun cdv A outer s H E hr => b_coins bs cs k_comes_to hr)
theorem dk_riddle {P : Program} {w : World} {K : PySem.W.Frag} {mg : Str → Option Value} {base : Heap} {k : Nat} (bs : Bs mg) (cs : Cs K w mg) (k_is_whole : Dk P w K mg base k "is_whole" 1 m_is_whole) (k_queens : Dk P w K mg base k "queens" 1 m_queens) (k_rulers : Dk P w K mg base k "rulers" 1 m_rulers) (k_square : Dk P w K mg base k "square" 1 m_square) (k_coins : Dk P w K mg base k "coins" 1 m_coins) (x_NoRiddle : Dx P w K mg base 1 "NoRiddle" ["name"] []) (h_NoRiddle : 2 ≤ k) (F : FDk K mg "riddle" s_riddle) : Dk P w K mg base (k + 1) "riddle" 2 m_riddle := by
  obtain ⟨f, fd, F, hm⟩ := F
  exact dk_of F hm (fun _ _ _ _ _ _ us hl => match us, hl with | [_, _], _ => rfl) (okD F sc_riddle rfl rfl fun cdv A outer s H E hr => b_riddle bs cs k_is_whole k_queens k_rulers k_square k_coins x_NoRiddle h_NoRiddle hr)
theorem dk__law_said {P : Program} {w : World} {K : PySem.W.Frag} {mg : Str → Option Value} {base : Heap} {k : Nat} (bs : Bs mg) (cs : Cs K w mg) (k_riddle : Dk P w K mg base k "riddle" 2 m_riddle) (F : FDk K mg "_law_said" s__law_said) : Dk P w K mg base (k + 1) "_law_said" 2 m__law_said := by
  obtain ⟨f, fd, F, hm⟩ := F
  exact dk_of F hm (fun _ _ _ _ _ _ us hl => match us, hl with | [_, _], _ => rfl) (okD F sc__law_said rfl rfl fun cdv A outer s H E hr => b__law_said bs cs k_riddle hr)
theorem fg_law {P : Program} {w : World} {K : PySem.W.Frag} {mg : Str → Option Value} {base : Heap} {k : Nat} {f : Addr} {fd : FuncData} (bs : Bs mg) (cs : Cs K w mg) (k__law_pool : Dk P w K mg base k "_law_pool" 2 m__law_pool) (k__law_take : Dk P w K mg base k "_law_take" 2 m__law_take) (k__law_said : Dk P w K mg base k "_law_said" 2 m__law_said) (F : FunD K "law" "law" (defArgs s_law) (defBody s_law) (defScope s_law) [] [] f fd) : FnG P w K mg base (L2.CX P w) (k + 1) f fd p_law (spT K mg 1 m_law) :=
  okD F sc_law rfl rfl fun cdv A outer s H E hr => b_law bs cs k__law_pool k__law_take k__law_said hr
theorem all_law {P : Program} {w : World} {K : PySem.W.Frag} {mg : Str → Option Value} {base : Heap} {f : Addr} {fd : FuncData} (bs : Bs mg) (cs : Cs K w mg)
    (F : ∀ (i : Nat) {x : Str} {st : Stmt}, fnL[i]? = some ⟨(x, none), x, x, defArgs st, defBody st, defScope st, [], []⟩ → He.Fa.glo x ∈ faL → FDk K mg x st)
    (FM : ∀ (i : Nat) {C nm q : Str} {st : Stmt}, fnL[i]? = some ⟨(C, some nm), nm, q, defArgs st, defBody st, defScope st, [], []⟩ → He.Fa.glo C ∈ faL → He.Fa.cls C ∈ faL → He.Fa.meth C nm ∈ faL → FDm K mg C nm q st)
    (FI : ∀ (i : Nat) {C q : Str} {st : Stmt}, fnL[i]? = some ⟨(C, some "__init__"), "__init__", q, defArgs st, defBody st, defScope st, [], []⟩ → He.Fa.glo C ∈ faL → He.Fa.mkr C ∈ faL → FDi K mg C q st)
    (FO : ∀ (i : Nat) {x : Str} {st : Stmt} {kwd : List (Str × He.Dv)} {kws : List (Str × V)}, fnL[i]? = some ⟨(x, none), x, x, defArgs st, defBody st, defScope st, [], kwd⟩ → He.Fa.glo x ∈ faL → kwd.map (fun q => (q.1, q.2.v K)) = kws → FDo K mg x st kws)
    (FX : ∀ (i : Nat) {C q : Str} {st : Stmt}, fnL[i]? = some ⟨(C, some "__init__"), "__init__", q, defArgs st, defBody st, defScope st, [], []⟩ → ∃ fd, FunD K "__init__" q (defArgs st) (defBody st) (defScope st) [] [] (He.ma K (He.ga K C) "__init__") fd)
    (FL : FunD K "law" "law" (defArgs s_law) (defBody s_law) (defScope s_law) [] [] f fd) : FnG P w K mg base (L2.CX P w) 5 f fd p_law (spT K mg 1 m_law) := by
  obtain ⟨fdx_NoRiddle, Fx_NoRiddle⟩ := FX 11 (C := "NoRiddle") (q := "NoRiddle.__init__") (st := s_NoRiddle___init__) rfl
  have x_NoRiddle := dx_of (base := base) (P := P) (w := w) Fx_NoRiddle cs.xc_NoRiddle.1 cs.xc_NoRiddle.2.1 (fun _ _ _ _ _ _ us hl => match us, hl with | [_, _], _ => rfl) (xi1_ok (k := 0) Fx_NoRiddle sc_NoRiddle___init__ (fun cdv A outer s H E => xw_NoRiddle cs.xc_NoRiddle.2.2.2)) cs.xc_NoRiddle.2.2.1
  have k__law_pool : Dk P w K mg base 1 "_law_pool" 2 m__law_pool := dk__law_pool (k := 0) bs cs  (F 0 rfl (List.mem_append_left _ (List.mem_append_right _ (List.mem_of_getElem? (i := 0) rfl))))
  have k__law_take : Dk P w K mg base 1 "_law_take" 2 m__law_take := dk__law_take (k := 0) bs cs  (F 1 rfl (List.mem_append_left _ (List.mem_append_right _ (List.mem_of_getElem? (i := 1) rfl))))
  have k_is_whole : Dk P w K mg base 1 "is_whole" 1 m_is_whole := dk_is_whole (k := 0) bs cs  (F 2 rfl (List.mem_append_left _ (List.mem_append_right _ (List.mem_of_getElem? (i := 2) rfl))))
  have k_comes_to : Dk P w K mg base 1 "comes_to" 2 m_comes_to := dk_comes_to (k := 0) bs cs  (F 3 rfl (List.mem_append_left _ (List.mem_append_right _ (List.mem_of_getElem? (i := 3) rfl))))
  have k_queens : Dk P w K mg base 2 "queens" 1 m_queens := dk_queens (k := 1) bs cs (k_comes_to.mono (by decide)) (F 4 rfl (List.mem_append_left _ (List.mem_append_right _ (List.mem_of_getElem? (i := 4) rfl))))
  have k_rulers : Dk P w K mg base 2 "rulers" 1 m_rulers := dk_rulers (k := 1) bs cs (k_comes_to.mono (by decide)) (F 5 rfl (List.mem_append_right _ (List.mem_of_getElem? (i := 0) rfl)))
  have k_square : Dk P w K mg base 2 "square" 1 m_square := dk_square (k := 1) bs cs (k_comes_to.mono (by decide)) (F 6 rfl (List.mem_append_right _ (List.mem_of_getElem? (i := 1) rfl)))
  have k_coins : Dk P w K mg base 2 "coins" 1 m_coins := dk_coins (k := 1) bs cs (k_comes_to.mono (by decide)) (F 7 rfl (List.mem_append_right _ (List.mem_of_getElem? (i := 2) rfl)))
  have k_riddle : Dk P w K mg base 3 "riddle" 2 m_riddle := dk_riddle (k := 2) bs cs (k_is_whole.mono (by decide)) (k_queens.mono (by decide)) (k_rulers.mono (by decide)) (k_square.mono (by decide)) (k_coins.mono (by decide)) x_NoRiddle (by decide) (F 8 rfl (List.mem_append_right _ (List.mem_of_getElem? (i := 3) rfl)))
  have k__law_said : Dk P w K mg base 4 "_law_said" 2 m__law_said := dk__law_said (k := 3) bs cs (k_riddle.mono (by decide)) (F 9 rfl (List.mem_append_right _ (List.mem_of_getElem? (i := 4) rfl)))
  exact fg_law (k := 4) bs cs (k__law_pool.mono (by decide)) (k__law_take.mono (by decide)) (k__law_said.mono (by decide)) FL
theorem law_holds (ht : ∀ ns : List Int, ns.length ≤ 63 → ∃ ah, m_law [.lst (ns.map .int)] [] = .ok (.bl true, ah)) : PySem.Challenge.rw_reasonedboxes_k65_no_riddles.Holds := by
  w_on; o_law
  refine HandSHeadRun.head_any (r := PySem.W.OpenLaw.row PySem.Challenge.rw_reasonedboxes_k65_no_riddles) (q := qv) (H := hk) (ob := ob) (M := 20000) (loose := names) (d := HandSHeadRun.topDef (PySem.W.OpenLaw.row PySem.Challenge.rw_reasonedboxes_k65_no_riddles).prog 24) (kwd := []) ob_eq
    (by kernel_rfl) (fun s => by kernel_rfl) run (by kernel_rfl) (by kernel_rfl) (by kernel_rfl) (by rfl) (by first | assumption | decide +kernel) (by decide +kernel) ⟨rfl, rfl, rfl, rfl, rfl, by decide +kernel⟩ ?hw ?hc
  case hw => w_witness2
  case hc =>
    refine Fx.walkG (l := PySem.Challenge.rw_reasonedboxes_k65_no_riddles) (n := 63) (k := 5) (x := "_law_script") (CX := fun w => L2.CX (PySem.Challenge.rw_reasonedboxes_k65_no_riddles).prog w) rfl (by decide) (by kernel_rfl) ⟨⟨rfl, by decide, by decide⟩, rfl⟩ ?F (fun w H s e s' h => noCX H s e s' h)
    intro w mg fa h Y G hmg0
    obtain ⟨K, KX, c, e⟩ := Y
    have hmg : mg ("law" : PySem.Str) = some (.ref fa) := by
      have e : (HandSHeadRun.topDef (PySem.W.OpenLaw.row PySem.Challenge.rw_reasonedboxes_k65_no_riddles).prog 24).name = ("law" : PySem.Str) := by kernel_rfl
      rw [← e]
      exact hmg0
    have bs := bs_of KX G c.d (fun x hx => List.mem_append_left _ (List.mem_append_left _ (List.mem_map_of_mem hx)))
    have cs := cs_of KX G c e
    obtain ⟨fd, FL⟩ := c.d.def_ 10 rfl
    have gl : mg ("law" : PySem.Str) = some (.ref (He.ga K "law")) := He.glo_ok KX G (saysMem c.d (f := .glo "law") (List.mem_append_right _ (List.mem_of_getElem? (i := 5) rfl)))
    rw [hmg] at gl
    have efa : fa = He.ga K "law" := Value.ref.inj (Option.some.inj gl)
    have b := FunD.bindsA (ps := ["_law_script"]) FL fun _ _ _ _ _ _ us hl => match us, hl with | [_], _ => rfl
    refine ⟨K, fd, spT K mg 1 m_law, KX, fun s v => b s [v] rfl, fun H a ns hl _ hS => spLaw_ok hS (ht ns hl), fun base KB _ => ?_⟩
    subst efa
    exact all_law bs cs (fun i {x st} h1 h2 => fd_of KX G c.d i h1 h2) (fun i {C nm q st} h1 h2 h3 h4 => fm_of KX G c.d i h1 h2 h3 h4) (fun i {C q st} h1 h2 h3 => fi_of KX G c.d i h1 h2 h3) (fun i {x st kwd kws} h1 h2 h3 => fo_of KX G c.d i h1 h2 h3) (fun i {C q st} h1 => c.d.def_ i h1) FL
end Lw

/-! ===== K65a -/
set_option linter.all false
set_option maxRecDepth 100000
set_option maxHeartbeats 1000000
namespace Lw
open PySem Fx
theorem ix_cell {ah : AH} {p : Nat} {xs : List D} {i : Int} {d : D} (h : ah[p]? = some (.lst xs)) (e : L2.atI xs i = some d) : oIxA (.ref p) (.int i) ah = .ok (d, ah) := by
  unfold oIxA asD
  simp only [h]
  unfold oIx
  simp only [asI, okO, asS, asL, h, e]
theorem put_cell {ah : AH} {p : Nat} {xs : List D} {i : Int} {j : Nat} {d : D} (h : ah[p]? = some (.lst xs)) (e : L2.ixN xs.length i = some j) : oPut (.ref p) (.int i) d ah = .ok ((), ah.set p (.lst (xs.set j d))) := by
  unfold oPut
  simp only [h, asI, okO, e]
theorem take_ok {ah : AH} {p : Nat} {n s many : Int} (h : ah[p]? = some (.lst [.int n, .int s])) (h0 : 0 < many) (h1 : many < 1073741824) :
    ∃ d n' s', m__law_take [.ref p, .int many] ah = .ok (.int d, ah.set p (.lst [.int n', .int s'])) ∧ 0 ≤ d ∧ d < many := by
  have hp : p < ah.length := (List.getElem?_eq_some_iff.mp h).1
  have i0 : oIxA (.ref p) (.int 0) ah = .ok (.int n, ah) := ix_cell h rfl
  have i1 : oIxA (.ref p) (.int 1) ah = .ok (.int s, ah) := ix_cell h rfl
  unfold m__law_take runB B__law_take
  by_cases hn : 0 < n
  · refine ⟨n % many, n / many, s, ?_, Int.emod_nonneg _ (by omega), Int.emod_lt_of_pos _ h0⟩
    have w0 := put_cell (d := .int (n / many)) h (i := 0) (j := 0) rfl
    simp [okB, endB, sSeq, sIf, bT, e2, eVar, eC, R.bind, i0, oGt, oI, hn, okO, asB, sSet, sAsg, gN, sRet, oMod, oIc, h0, oDiv, h1, gIx, w0]
  · have hm : ¬ n > 0 := hn
    let s1 := (s * 48271 + 11) % 2147483647
    have b0 : 0 ≤ s1 := Int.emod_nonneg _ (by decide)
    have b1 : s1 < 2147483647 := Int.emod_lt_of_pos _ (by decide)
    have w0 := put_cell (d := .int s1) h (i := 1) (j := 1) rfl
    have h2 : (ah.set p (.lst [.int n, .int s1]))[p]? = some (.lst [.int n, .int s1]) := List.getElem?_set_self hp
    have i2 : oIxA (.ref p) (.int 1) (ah.set p (.lst [.int n, .int s1])) = .ok (.int s1, ah.set p (.lst [.int n, .int s1])) := ix_cell h2 rfl
    have c1 : c64 s1 = true := by unfold c64; simp; omega
    have c2 : c64 48271 = true := by decide
    refine ⟨s1 * s1 % 2147483629 / 64 % many, n, s1, ?_, Int.emod_nonneg _ (by omega), Int.emod_lt_of_pos _ h0⟩
    simp [okB, endB, sSeq, sIf, bT, e2, eVar, eC, R.bind, i0, i1, oGt, oI, hn, okO, asB, sNil, sAsg, sRet, oMod, oIc, h0, oDiv, gIx, w0, oMul, oAdd, c2, i2, c1, s1]
theorem pool_ok {ns : List Int} {k : Int} {ah : AH} (hk : 0 ≤ k) (hl : ns.length ≤ 16777216) : ∃ n s, m__law_pool [.lst (ns.map .int), .int k] ah = .ok (.ref ah.length, ah ++ [.lst [.int n, .int s]]) := by
  unfold m__law_pool runB B__law_pool
  have c1 : c64 16807 = true := by decide
  have c2 : c64 104729 = true := by decide
  have lk : lenOk 2 = true := by decide
  have hx : ∀ i : Nat, (hi : i < ns.length) → k = i → oIxA (.lst (ns.map .int)) (.int k) ah = .ok (.int ns[i], ah) := fun i hi e => by
    unfold oIxA asD oIx
    have : L2.atI (ns.map D.int) k = some (.int ns[i]) := by
      unfold L2.atI L2.ixN
      rw [List.length_map, if_pos hk, if_pos (by omega)]
      simp only [Option.bind_some]
      have : k.toNat = i := by omega
      rw [this, List.getElem?_map, List.getElem?_eq_getElem hi]
      rfl
    simp only [asI, okO, asS, asL, this]
  have fin : ∀ c : Int, ∀ (M : Int), M = (if -1 - c > c then -1 - c else c) → (∀ X : R (D × AH), (if M < 10 ^ 18 then (R.ok (D.ref ah.length, ah ++ [.lst [.int 0, .int ((M % 2147483629 * 16807 + 104729 * k + 11) % 2147483647)]]) : R (D × AH)) else .ok (D.ref ah.length, ah ++ [.lst [.int M, .int ((M % 2147483629 * 16807 + 104729 * k + 11) % 2147483647)]])) = X → ∃ n s, X = .ok (.ref ah.length, ah ++ [.lst [.int n, .int s]])) := fun c M _ X e => by
    rw [← e]
    by_cases h : M < 10 ^ 18
    · exact ⟨_, _, if_pos h⟩
    · exact ⟨_, _, if_neg h⟩
  by_cases h : k < ns.length
  · have hi : k.toNat < ns.length := by omega
    have e := hx k.toNat hi (by omega)
    generalize ns[k.toNat] = c at e
    refine fin c _ rfl _ ?_
    generalize hM : (if -1 - c > c then -1 - c else c) = M
    by_cases h2 : M < 10 ^ 18
    · rw [if_pos h2]
      have h3 : M < 1000000000000000000 := h2
      simp [okB, endB, sSeq, sIf, bT, e2, e1, eVar, eC, R.bind, e, oLt, oI, h, okO, asB, sNil, sSet, sAsg, gN, sRet, oMod, oIc, oMul, oAdd, c1, c2, eL, lCons, lNil, bLen, bMax, oSub, oNeg, oI1, oPow, h3, eLst, mkL, lk, asS, asL, hM]
    · rw [if_neg h2]
      have h3 : ¬ M < 1000000000000000000 := h2
      simp [okB, endB, sSeq, sIf, bT, e2, e1, eVar, eC, R.bind, e, oLt, oI, h, okO, asB, sNil, sSet, sAsg, gN, sRet, oMod, oIc, oMul, oAdd, c1, c2, eL, lCons, lNil, bLen, bMax, oSub, oNeg, oI1, oPow, h3, eLst, mkL, lk, asS, asL, hM]
  · refine fin 0 0 rfl _ ?_
    rw [if_pos (by decide)]
    simp [okB, endB, sSeq, sIf, bT, e2, e1, eVar, eC, R.bind, oLt, oI, h, okO, asB, sNil, sSet, sAsg, gN, sRet, oMod, oIc, oMul, oAdd, c1, c2, eL, lCons, lNil, bLen, bMax, oSub, oNeg, oI1, oPow, eLst, mkL, lk, asS, asL]
end Lw

/-! ===== R65 -/
set_option linter.all false
set_option maxRecDepth 100000
set_option maxHeartbeats 2000000
namespace Lw
open PySem PySem.Spec Fx

def L1a : FO := sSet 10 (e2 oIxA (eVar 6) (eCall m__law_take (lenB 2 (lCons (eVar 3) (lCons (eC (.int 12)) (lNil))))))
def L1r : FO := sSeq (sSet 11 (eLst false (lCons (eC (.str "riddle")) (lCons (eL bRepr (lCons (eVar 5) (lNil))) (lCons (eC (.bl true)) (lNil)))))) (sSeq (sIf (bAnd (bT (eIsi .str (eVar 5))) (bT (e2 (oIn false) (eVar 5) (eVar 1)))) (sSeq (sSet 11 (eLst false (lCons (eC (.str "number")) (lCons (eC (.bl true)) (lNil))))) (sIf (bAnd (bT (eIsi .int (eVar 10))) (bAnd (bNot (bT (eIsi .bool (eVar 10)))) (bT (eCh oLe oLe (eVar 8) (eVar 10) (eVar 9))))) (sSet 11 (eLst false (lCons (eC (.str "told")) (lCons (eC (.int 2)) (lNil))))) (sNil))) (sNil)) (sIf (bT (e2 (oEq true) (dCall m__law_said (lenB 2 (lCons (eVar 5) (lCons (eVar 10) (lNil))))) (eVar 11))) (sRet (eC (.bl false))) (sNil)))
theorem L1_eq : L1_law = sSeq L1a L1r := rfl
def L2a : FO := sAsg (eIf (bT (eIsi .str (eVar 5))) (eGet2 (eVar 1) (eVar 5) (eTup (lCons (eC (.int 1)) (lCons (eC (.int 1)) (lNil))))) (eTup (lCons (eC (.int 1)) (lCons (eC (.int 1)) (lNil))))) (gT 2 (gsCons (gN 8) (gsCons (gN 9) (gsNil))))
def L2b : FO := sSet 6 (eLst false (lCons (eVar 8) (lCons (eVar 9) (lCons (e2 oSub (eVar 8) (eC (.int 1))) (lCons (e2 (oAdd false) (eVar 9) (eC (.int 1))) (lCons (eC (.int 0)) (lCons (e1 oNeg (eC (.int 1))) (lCons (e2 oPow (eC (.int 10)) (eC (.int 20))) (lCons (eC .non) (lCons (eC (.bl true)) (lCons (eC (.str "3")) (lCons (eLst false (lCons (eC (.int 3)) (lNil))) (lCons (eTup (lCons (eC (.int 1)) (lNil))) (lNil))))))))))))))
def L2c : FO := sFor (iRg1 (lCons (eC (.int 4)) (lNil))) (gN 7) (L1_law)
theorem L2_eq : L2_law = sSeq L2a (sSeq L2b L2c) := rfl
def L3a : FO := sSet 3 (eCall m__law_pool (lenB 2 (lCons (eVar 0) (lCons (eVar 2) (lNil)))))
def L3b : FO := sSet 4 (eLst false (lCons (eC (.str "queens")) (lCons (eC (.str "rulers")) (lCons (eC (.str "square")) (lCons (eC (.str "coins")) (lCons (eC (.str "Queens")) (lCons (eC (.str "")) (lCons (eC (.str "coin")) (lNil)))))))))
def L3c : FO := sFor (iSeq (e2 (oAdd false) (eVar 4) (eLst false (lCons (eC .non) (lCons (eC (.int 5)) (lCons (eLst false (lCons (eC (.str "queens")) (lNil))) (lCons (eTup (lCons (eC (.str "coins")) (lNil))) (lCons (eC (.bl true)) (lNil))))))))) (gN 5) (L2_law)
theorem L3_eq : L3_law = sSeq L3a (sSeq L3b L3c) := rfl
def B1 : FO := sSet 1 (eDsp true (((eC (.str "queens")), (eTup (lCons (eC (.int 1)) (lCons (eC (.int 8)) (lNil))))) :: (((eC (.str "rulers")), (eTup (lCons (eC (.int 2)) (lCons (eC (.int 5)) (lNil))))) :: (((eC (.str "square")), (eTup (lCons (eC (.int 3)) (lCons (eC (.int 3)) (lNil))))) :: (((eC (.str "coins")), (eTup (lCons (eC (.int 1)) (lCons (eC (.int 39)) (lNil))))) :: ([]))))))
def B2 : FO := sFor (iRg1 (lCons (eL bMax (lCons (eC (.int 1)) (lCons (eL bMin (lCons (eL bLen (lCons (eVar 0) (lNil))) (lCons (eC (.int 10)) (lNil)))) (lNil)))) (lNil))) (gN 2) (L3_law)
def B3 : FO := sRet (eC (.bl true))
theorem B_eq : B_law = sSeq B1 (sSeq B2 B3) := rfl
def dicE : Cell := .dic false [(.s "queens", .tup [.int 1, .int 8]), (.s "rulers", .tup [.int 2, .int 5]), (.s "square", .tup [.int 3, .int 3]), (.s "coins", .tup [.int 1, .int 39])]
def n7 : D := .lst [.str "queens", .str "rulers", .str "square", .str "coins", .str "Queens", .str "", .str "coin"]
def nms : List D := [.str "queens", .str "rulers", .str "square", .str "coins", .str "Queens", .str "", .str "coin", .non, .int 5, .lst [.str "queens"], .tup [.str "coins"], .bl true]
def sz0 : List D := [.int (1), .int (8), .int (0), .int (9), .int 0, .int (-1), .int (100000000000000000000), .non, .bl true, .str "3", .lst [.int 3], .tup [.int 1]]
theorem r_0_0 (S K P N t due : Option D) (cs : AH) : L1r [S, some (.ref 0), K, P, N, some (.str "queens"), some (.lst sz0), t, some (.int (1)), some (.int (8)), some (.int (1)), due] (dicE :: cs) = .ok (.nx, [S, some (.ref 0), K, P, N, some (.str "queens"), some (.lst sz0), t, some (.int (1)), some (.int (8)), some (.int (1)), some (.lst [.str "told", .int 2])], dicE :: cs) := by kernel_rfl
theorem r_0_1 (S K P N t due : Option D) (cs : AH) : L1r [S, some (.ref 0), K, P, N, some (.str "queens"), some (.lst sz0), t, some (.int (1)), some (.int (8)), some (.int (8)), due] (dicE :: cs) = .ok (.nx, [S, some (.ref 0), K, P, N, some (.str "queens"), some (.lst sz0), t, some (.int (1)), some (.int (8)), some (.int (8)), some (.lst [.str "told", .int 2])], dicE :: cs) := by kernel_rfl
theorem r_0_2 (S K P N t due : Option D) (cs : AH) : L1r [S, some (.ref 0), K, P, N, some (.str "queens"), some (.lst sz0), t, some (.int (1)), some (.int (8)), some (.int (0)), due] (dicE :: cs) = .ok (.nx, [S, some (.ref 0), K, P, N, some (.str "queens"), some (.lst sz0), t, some (.int (1)), some (.int (8)), some (.int (0)), some (.lst [.str "number", .bl true])], dicE :: cs) := by kernel_rfl
theorem r_0_3 (S K P N t due : Option D) (cs : AH) : L1r [S, some (.ref 0), K, P, N, some (.str "queens"), some (.lst sz0), t, some (.int (1)), some (.int (8)), some (.int (9)), due] (dicE :: cs) = .ok (.nx, [S, some (.ref 0), K, P, N, some (.str "queens"), some (.lst sz0), t, some (.int (1)), some (.int (8)), some (.int (9)), some (.lst [.str "number", .bl true])], dicE :: cs) := by kernel_rfl
theorem r_0_4 (S K P N t due : Option D) (cs : AH) : L1r [S, some (.ref 0), K, P, N, some (.str "queens"), some (.lst sz0), t, some (.int (1)), some (.int (8)), some (.int 0), due] (dicE :: cs) = .ok (.nx, [S, some (.ref 0), K, P, N, some (.str "queens"), some (.lst sz0), t, some (.int (1)), some (.int (8)), some (.int 0), some (.lst [.str "number", .bl true])], dicE :: cs) := by kernel_rfl
theorem r_0_5 (S K P N t due : Option D) (cs : AH) : L1r [S, some (.ref 0), K, P, N, some (.str "queens"), some (.lst sz0), t, some (.int (1)), some (.int (8)), some (.int (-1)), due] (dicE :: cs) = .ok (.nx, [S, some (.ref 0), K, P, N, some (.str "queens"), some (.lst sz0), t, some (.int (1)), some (.int (8)), some (.int (-1)), some (.lst [.str "number", .bl true])], dicE :: cs) := by kernel_rfl
theorem r_0_6 (S K P N t due : Option D) (cs : AH) : L1r [S, some (.ref 0), K, P, N, some (.str "queens"), some (.lst sz0), t, some (.int (1)), some (.int (8)), some (.int (100000000000000000000)), due] (dicE :: cs) = .ok (.nx, [S, some (.ref 0), K, P, N, some (.str "queens"), some (.lst sz0), t, some (.int (1)), some (.int (8)), some (.int (100000000000000000000)), some (.lst [.str "number", .bl true])], dicE :: cs) := by kernel_rfl
theorem r_0_7 (S K P N t due : Option D) (cs : AH) : L1r [S, some (.ref 0), K, P, N, some (.str "queens"), some (.lst sz0), t, some (.int (1)), some (.int (8)), some (.non), due] (dicE :: cs) = .ok (.nx, [S, some (.ref 0), K, P, N, some (.str "queens"), some (.lst sz0), t, some (.int (1)), some (.int (8)), some (.non), some (.lst [.str "number", .bl true])], dicE :: cs) := by kernel_rfl
theorem r_0_8 (S K P N t due : Option D) (cs : AH) : L1r [S, some (.ref 0), K, P, N, some (.str "queens"), some (.lst sz0), t, some (.int (1)), some (.int (8)), some (.bl true), due] (dicE :: cs) = .ok (.nx, [S, some (.ref 0), K, P, N, some (.str "queens"), some (.lst sz0), t, some (.int (1)), some (.int (8)), some (.bl true), some (.lst [.str "number", .bl true])], dicE :: cs) := by kernel_rfl
theorem r_0_9 (S K P N t due : Option D) (cs : AH) : L1r [S, some (.ref 0), K, P, N, some (.str "queens"), some (.lst sz0), t, some (.int (1)), some (.int (8)), some (.str "3"), due] (dicE :: cs) = .ok (.nx, [S, some (.ref 0), K, P, N, some (.str "queens"), some (.lst sz0), t, some (.int (1)), some (.int (8)), some (.str "3"), some (.lst [.str "number", .bl true])], dicE :: cs) := by kernel_rfl
theorem r_0_10 (S K P N t due : Option D) (cs : AH) : L1r [S, some (.ref 0), K, P, N, some (.str "queens"), some (.lst sz0), t, some (.int (1)), some (.int (8)), some (.lst [.int 3]), due] (dicE :: cs) = .ok (.nx, [S, some (.ref 0), K, P, N, some (.str "queens"), some (.lst sz0), t, some (.int (1)), some (.int (8)), some (.lst [.int 3]), some (.lst [.str "number", .bl true])], dicE :: cs) := by kernel_rfl
theorem r_0_11 (S K P N t due : Option D) (cs : AH) : L1r [S, some (.ref 0), K, P, N, some (.str "queens"), some (.lst sz0), t, some (.int (1)), some (.int (8)), some (.tup [.int 1]), due] (dicE :: cs) = .ok (.nx, [S, some (.ref 0), K, P, N, some (.str "queens"), some (.lst sz0), t, some (.int (1)), some (.int (8)), some (.tup [.int 1]), some (.lst [.str "number", .bl true])], dicE :: cs) := by kernel_rfl
def sz1 : List D := [.int (2), .int (5), .int (1), .int (6), .int 0, .int (-1), .int (100000000000000000000), .non, .bl true, .str "3", .lst [.int 3], .tup [.int 1]]
theorem r_1_0 (S K P N t due : Option D) (cs : AH) : L1r [S, some (.ref 0), K, P, N, some (.str "rulers"), some (.lst sz1), t, some (.int (2)), some (.int (5)), some (.int (2)), due] (dicE :: cs) = .ok (.nx, [S, some (.ref 0), K, P, N, some (.str "rulers"), some (.lst sz1), t, some (.int (2)), some (.int (5)), some (.int (2)), some (.lst [.str "told", .int 2])], dicE :: cs) := by kernel_rfl
theorem r_1_1 (S K P N t due : Option D) (cs : AH) : L1r [S, some (.ref 0), K, P, N, some (.str "rulers"), some (.lst sz1), t, some (.int (2)), some (.int (5)), some (.int (5)), due] (dicE :: cs) = .ok (.nx, [S, some (.ref 0), K, P, N, some (.str "rulers"), some (.lst sz1), t, some (.int (2)), some (.int (5)), some (.int (5)), some (.lst [.str "told", .int 2])], dicE :: cs) := by kernel_rfl
theorem r_1_2 (S K P N t due : Option D) (cs : AH) : L1r [S, some (.ref 0), K, P, N, some (.str "rulers"), some (.lst sz1), t, some (.int (2)), some (.int (5)), some (.int (1)), due] (dicE :: cs) = .ok (.nx, [S, some (.ref 0), K, P, N, some (.str "rulers"), some (.lst sz1), t, some (.int (2)), some (.int (5)), some (.int (1)), some (.lst [.str "number", .bl true])], dicE :: cs) := by kernel_rfl
theorem r_1_3 (S K P N t due : Option D) (cs : AH) : L1r [S, some (.ref 0), K, P, N, some (.str "rulers"), some (.lst sz1), t, some (.int (2)), some (.int (5)), some (.int (6)), due] (dicE :: cs) = .ok (.nx, [S, some (.ref 0), K, P, N, some (.str "rulers"), some (.lst sz1), t, some (.int (2)), some (.int (5)), some (.int (6)), some (.lst [.str "number", .bl true])], dicE :: cs) := by kernel_rfl
theorem r_1_4 (S K P N t due : Option D) (cs : AH) : L1r [S, some (.ref 0), K, P, N, some (.str "rulers"), some (.lst sz1), t, some (.int (2)), some (.int (5)), some (.int 0), due] (dicE :: cs) = .ok (.nx, [S, some (.ref 0), K, P, N, some (.str "rulers"), some (.lst sz1), t, some (.int (2)), some (.int (5)), some (.int 0), some (.lst [.str "number", .bl true])], dicE :: cs) := by kernel_rfl
theorem r_1_5 (S K P N t due : Option D) (cs : AH) : L1r [S, some (.ref 0), K, P, N, some (.str "rulers"), some (.lst sz1), t, some (.int (2)), some (.int (5)), some (.int (-1)), due] (dicE :: cs) = .ok (.nx, [S, some (.ref 0), K, P, N, some (.str "rulers"), some (.lst sz1), t, some (.int (2)), some (.int (5)), some (.int (-1)), some (.lst [.str "number", .bl true])], dicE :: cs) := by kernel_rfl
theorem r_1_6 (S K P N t due : Option D) (cs : AH) : L1r [S, some (.ref 0), K, P, N, some (.str "rulers"), some (.lst sz1), t, some (.int (2)), some (.int (5)), some (.int (100000000000000000000)), due] (dicE :: cs) = .ok (.nx, [S, some (.ref 0), K, P, N, some (.str "rulers"), some (.lst sz1), t, some (.int (2)), some (.int (5)), some (.int (100000000000000000000)), some (.lst [.str "number", .bl true])], dicE :: cs) := by kernel_rfl
theorem r_1_7 (S K P N t due : Option D) (cs : AH) : L1r [S, some (.ref 0), K, P, N, some (.str "rulers"), some (.lst sz1), t, some (.int (2)), some (.int (5)), some (.non), due] (dicE :: cs) = .ok (.nx, [S, some (.ref 0), K, P, N, some (.str "rulers"), some (.lst sz1), t, some (.int (2)), some (.int (5)), some (.non), some (.lst [.str "number", .bl true])], dicE :: cs) := by kernel_rfl
theorem r_1_8 (S K P N t due : Option D) (cs : AH) : L1r [S, some (.ref 0), K, P, N, some (.str "rulers"), some (.lst sz1), t, some (.int (2)), some (.int (5)), some (.bl true), due] (dicE :: cs) = .ok (.nx, [S, some (.ref 0), K, P, N, some (.str "rulers"), some (.lst sz1), t, some (.int (2)), some (.int (5)), some (.bl true), some (.lst [.str "number", .bl true])], dicE :: cs) := by kernel_rfl
theorem r_1_9 (S K P N t due : Option D) (cs : AH) : L1r [S, some (.ref 0), K, P, N, some (.str "rulers"), some (.lst sz1), t, some (.int (2)), some (.int (5)), some (.str "3"), due] (dicE :: cs) = .ok (.nx, [S, some (.ref 0), K, P, N, some (.str "rulers"), some (.lst sz1), t, some (.int (2)), some (.int (5)), some (.str "3"), some (.lst [.str "number", .bl true])], dicE :: cs) := by kernel_rfl
theorem r_1_10 (S K P N t due : Option D) (cs : AH) : L1r [S, some (.ref 0), K, P, N, some (.str "rulers"), some (.lst sz1), t, some (.int (2)), some (.int (5)), some (.lst [.int 3]), due] (dicE :: cs) = .ok (.nx, [S, some (.ref 0), K, P, N, some (.str "rulers"), some (.lst sz1), t, some (.int (2)), some (.int (5)), some (.lst [.int 3]), some (.lst [.str "number", .bl true])], dicE :: cs) := by kernel_rfl
theorem r_1_11 (S K P N t due : Option D) (cs : AH) : L1r [S, some (.ref 0), K, P, N, some (.str "rulers"), some (.lst sz1), t, some (.int (2)), some (.int (5)), some (.tup [.int 1]), due] (dicE :: cs) = .ok (.nx, [S, some (.ref 0), K, P, N, some (.str "rulers"), some (.lst sz1), t, some (.int (2)), some (.int (5)), some (.tup [.int 1]), some (.lst [.str "number", .bl true])], dicE :: cs) := by kernel_rfl
def sz2 : List D := [.int (3), .int (3), .int (2), .int (4), .int 0, .int (-1), .int (100000000000000000000), .non, .bl true, .str "3", .lst [.int 3], .tup [.int 1]]
theorem r_2_0 (S K P N t due : Option D) (cs : AH) : L1r [S, some (.ref 0), K, P, N, some (.str "square"), some (.lst sz2), t, some (.int (3)), some (.int (3)), some (.int (3)), due] (dicE :: cs) = .ok (.nx, [S, some (.ref 0), K, P, N, some (.str "square"), some (.lst sz2), t, some (.int (3)), some (.int (3)), some (.int (3)), some (.lst [.str "told", .int 2])], dicE :: cs) := by kernel_rfl
theorem r_2_1 (S K P N t due : Option D) (cs : AH) : L1r [S, some (.ref 0), K, P, N, some (.str "square"), some (.lst sz2), t, some (.int (3)), some (.int (3)), some (.int (3)), due] (dicE :: cs) = .ok (.nx, [S, some (.ref 0), K, P, N, some (.str "square"), some (.lst sz2), t, some (.int (3)), some (.int (3)), some (.int (3)), some (.lst [.str "told", .int 2])], dicE :: cs) := by kernel_rfl
theorem r_2_2 (S K P N t due : Option D) (cs : AH) : L1r [S, some (.ref 0), K, P, N, some (.str "square"), some (.lst sz2), t, some (.int (3)), some (.int (3)), some (.int (2)), due] (dicE :: cs) = .ok (.nx, [S, some (.ref 0), K, P, N, some (.str "square"), some (.lst sz2), t, some (.int (3)), some (.int (3)), some (.int (2)), some (.lst [.str "number", .bl true])], dicE :: cs) := by kernel_rfl
theorem r_2_3 (S K P N t due : Option D) (cs : AH) : L1r [S, some (.ref 0), K, P, N, some (.str "square"), some (.lst sz2), t, some (.int (3)), some (.int (3)), some (.int (4)), due] (dicE :: cs) = .ok (.nx, [S, some (.ref 0), K, P, N, some (.str "square"), some (.lst sz2), t, some (.int (3)), some (.int (3)), some (.int (4)), some (.lst [.str "number", .bl true])], dicE :: cs) := by kernel_rfl
theorem r_2_4 (S K P N t due : Option D) (cs : AH) : L1r [S, some (.ref 0), K, P, N, some (.str "square"), some (.lst sz2), t, some (.int (3)), some (.int (3)), some (.int 0), due] (dicE :: cs) = .ok (.nx, [S, some (.ref 0), K, P, N, some (.str "square"), some (.lst sz2), t, some (.int (3)), some (.int (3)), some (.int 0), some (.lst [.str "number", .bl true])], dicE :: cs) := by kernel_rfl
theorem r_2_5 (S K P N t due : Option D) (cs : AH) : L1r [S, some (.ref 0), K, P, N, some (.str "square"), some (.lst sz2), t, some (.int (3)), some (.int (3)), some (.int (-1)), due] (dicE :: cs) = .ok (.nx, [S, some (.ref 0), K, P, N, some (.str "square"), some (.lst sz2), t, some (.int (3)), some (.int (3)), some (.int (-1)), some (.lst [.str "number", .bl true])], dicE :: cs) := by kernel_rfl
theorem r_2_6 (S K P N t due : Option D) (cs : AH) : L1r [S, some (.ref 0), K, P, N, some (.str "square"), some (.lst sz2), t, some (.int (3)), some (.int (3)), some (.int (100000000000000000000)), due] (dicE :: cs) = .ok (.nx, [S, some (.ref 0), K, P, N, some (.str "square"), some (.lst sz2), t, some (.int (3)), some (.int (3)), some (.int (100000000000000000000)), some (.lst [.str "number", .bl true])], dicE :: cs) := by kernel_rfl
theorem r_2_7 (S K P N t due : Option D) (cs : AH) : L1r [S, some (.ref 0), K, P, N, some (.str "square"), some (.lst sz2), t, some (.int (3)), some (.int (3)), some (.non), due] (dicE :: cs) = .ok (.nx, [S, some (.ref 0), K, P, N, some (.str "square"), some (.lst sz2), t, some (.int (3)), some (.int (3)), some (.non), some (.lst [.str "number", .bl true])], dicE :: cs) := by kernel_rfl
theorem r_2_8 (S K P N t due : Option D) (cs : AH) : L1r [S, some (.ref 0), K, P, N, some (.str "square"), some (.lst sz2), t, some (.int (3)), some (.int (3)), some (.bl true), due] (dicE :: cs) = .ok (.nx, [S, some (.ref 0), K, P, N, some (.str "square"), some (.lst sz2), t, some (.int (3)), some (.int (3)), some (.bl true), some (.lst [.str "number", .bl true])], dicE :: cs) := by kernel_rfl
theorem r_2_9 (S K P N t due : Option D) (cs : AH) : L1r [S, some (.ref 0), K, P, N, some (.str "square"), some (.lst sz2), t, some (.int (3)), some (.int (3)), some (.str "3"), due] (dicE :: cs) = .ok (.nx, [S, some (.ref 0), K, P, N, some (.str "square"), some (.lst sz2), t, some (.int (3)), some (.int (3)), some (.str "3"), some (.lst [.str "number", .bl true])], dicE :: cs) := by kernel_rfl
theorem r_2_10 (S K P N t due : Option D) (cs : AH) : L1r [S, some (.ref 0), K, P, N, some (.str "square"), some (.lst sz2), t, some (.int (3)), some (.int (3)), some (.lst [.int 3]), due] (dicE :: cs) = .ok (.nx, [S, some (.ref 0), K, P, N, some (.str "square"), some (.lst sz2), t, some (.int (3)), some (.int (3)), some (.lst [.int 3]), some (.lst [.str "number", .bl true])], dicE :: cs) := by kernel_rfl
theorem r_2_11 (S K P N t due : Option D) (cs : AH) : L1r [S, some (.ref 0), K, P, N, some (.str "square"), some (.lst sz2), t, some (.int (3)), some (.int (3)), some (.tup [.int 1]), due] (dicE :: cs) = .ok (.nx, [S, some (.ref 0), K, P, N, some (.str "square"), some (.lst sz2), t, some (.int (3)), some (.int (3)), some (.tup [.int 1]), some (.lst [.str "number", .bl true])], dicE :: cs) := by kernel_rfl
def sz3 : List D := [.int (1), .int (39), .int (0), .int (40), .int 0, .int (-1), .int (100000000000000000000), .non, .bl true, .str "3", .lst [.int 3], .tup [.int 1]]
theorem r_3_0 (S K P N t due : Option D) (cs : AH) : L1r [S, some (.ref 0), K, P, N, some (.str "coins"), some (.lst sz3), t, some (.int (1)), some (.int (39)), some (.int (1)), due] (dicE :: cs) = .ok (.nx, [S, some (.ref 0), K, P, N, some (.str "coins"), some (.lst sz3), t, some (.int (1)), some (.int (39)), some (.int (1)), some (.lst [.str "told", .int 2])], dicE :: cs) := by kernel_rfl
theorem r_3_1 (S K P N t due : Option D) (cs : AH) : L1r [S, some (.ref 0), K, P, N, some (.str "coins"), some (.lst sz3), t, some (.int (1)), some (.int (39)), some (.int (39)), due] (dicE :: cs) = .ok (.nx, [S, some (.ref 0), K, P, N, some (.str "coins"), some (.lst sz3), t, some (.int (1)), some (.int (39)), some (.int (39)), some (.lst [.str "told", .int 2])], dicE :: cs) := by kernel_rfl
theorem r_3_2 (S K P N t due : Option D) (cs : AH) : L1r [S, some (.ref 0), K, P, N, some (.str "coins"), some (.lst sz3), t, some (.int (1)), some (.int (39)), some (.int (0)), due] (dicE :: cs) = .ok (.nx, [S, some (.ref 0), K, P, N, some (.str "coins"), some (.lst sz3), t, some (.int (1)), some (.int (39)), some (.int (0)), some (.lst [.str "number", .bl true])], dicE :: cs) := by kernel_rfl
theorem r_3_3 (S K P N t due : Option D) (cs : AH) : L1r [S, some (.ref 0), K, P, N, some (.str "coins"), some (.lst sz3), t, some (.int (1)), some (.int (39)), some (.int (40)), due] (dicE :: cs) = .ok (.nx, [S, some (.ref 0), K, P, N, some (.str "coins"), some (.lst sz3), t, some (.int (1)), some (.int (39)), some (.int (40)), some (.lst [.str "number", .bl true])], dicE :: cs) := by kernel_rfl
theorem r_3_4 (S K P N t due : Option D) (cs : AH) : L1r [S, some (.ref 0), K, P, N, some (.str "coins"), some (.lst sz3), t, some (.int (1)), some (.int (39)), some (.int 0), due] (dicE :: cs) = .ok (.nx, [S, some (.ref 0), K, P, N, some (.str "coins"), some (.lst sz3), t, some (.int (1)), some (.int (39)), some (.int 0), some (.lst [.str "number", .bl true])], dicE :: cs) := by kernel_rfl
theorem r_3_5 (S K P N t due : Option D) (cs : AH) : L1r [S, some (.ref 0), K, P, N, some (.str "coins"), some (.lst sz3), t, some (.int (1)), some (.int (39)), some (.int (-1)), due] (dicE :: cs) = .ok (.nx, [S, some (.ref 0), K, P, N, some (.str "coins"), some (.lst sz3), t, some (.int (1)), some (.int (39)), some (.int (-1)), some (.lst [.str "number", .bl true])], dicE :: cs) := by kernel_rfl
theorem r_3_6 (S K P N t due : Option D) (cs : AH) : L1r [S, some (.ref 0), K, P, N, some (.str "coins"), some (.lst sz3), t, some (.int (1)), some (.int (39)), some (.int (100000000000000000000)), due] (dicE :: cs) = .ok (.nx, [S, some (.ref 0), K, P, N, some (.str "coins"), some (.lst sz3), t, some (.int (1)), some (.int (39)), some (.int (100000000000000000000)), some (.lst [.str "number", .bl true])], dicE :: cs) := by kernel_rfl
theorem r_3_7 (S K P N t due : Option D) (cs : AH) : L1r [S, some (.ref 0), K, P, N, some (.str "coins"), some (.lst sz3), t, some (.int (1)), some (.int (39)), some (.non), due] (dicE :: cs) = .ok (.nx, [S, some (.ref 0), K, P, N, some (.str "coins"), some (.lst sz3), t, some (.int (1)), some (.int (39)), some (.non), some (.lst [.str "number", .bl true])], dicE :: cs) := by kernel_rfl
theorem r_3_8 (S K P N t due : Option D) (cs : AH) : L1r [S, some (.ref 0), K, P, N, some (.str "coins"), some (.lst sz3), t, some (.int (1)), some (.int (39)), some (.bl true), due] (dicE :: cs) = .ok (.nx, [S, some (.ref 0), K, P, N, some (.str "coins"), some (.lst sz3), t, some (.int (1)), some (.int (39)), some (.bl true), some (.lst [.str "number", .bl true])], dicE :: cs) := by kernel_rfl
theorem r_3_9 (S K P N t due : Option D) (cs : AH) : L1r [S, some (.ref 0), K, P, N, some (.str "coins"), some (.lst sz3), t, some (.int (1)), some (.int (39)), some (.str "3"), due] (dicE :: cs) = .ok (.nx, [S, some (.ref 0), K, P, N, some (.str "coins"), some (.lst sz3), t, some (.int (1)), some (.int (39)), some (.str "3"), some (.lst [.str "number", .bl true])], dicE :: cs) := by kernel_rfl
theorem r_3_10 (S K P N t due : Option D) (cs : AH) : L1r [S, some (.ref 0), K, P, N, some (.str "coins"), some (.lst sz3), t, some (.int (1)), some (.int (39)), some (.lst [.int 3]), due] (dicE :: cs) = .ok (.nx, [S, some (.ref 0), K, P, N, some (.str "coins"), some (.lst sz3), t, some (.int (1)), some (.int (39)), some (.lst [.int 3]), some (.lst [.str "number", .bl true])], dicE :: cs) := by kernel_rfl
theorem r_3_11 (S K P N t due : Option D) (cs : AH) : L1r [S, some (.ref 0), K, P, N, some (.str "coins"), some (.lst sz3), t, some (.int (1)), some (.int (39)), some (.tup [.int 1]), due] (dicE :: cs) = .ok (.nx, [S, some (.ref 0), K, P, N, some (.str "coins"), some (.lst sz3), t, some (.int (1)), some (.int (39)), some (.tup [.int 1]), some (.lst [.str "number", .bl true])], dicE :: cs) := by kernel_rfl
def sz4 : List D := [.int (1), .int (1), .int (0), .int (2), .int 0, .int (-1), .int (100000000000000000000), .non, .bl true, .str "3", .lst [.int 3], .tup [.int 1]]
theorem r_4_0 (S K P N t due : Option D) (cs : AH) : L1r [S, some (.ref 0), K, P, N, some (.str "Queens"), some (.lst sz4), t, some (.int (1)), some (.int (1)), some (.int (1)), due] (dicE :: cs) = .ok (.nx, [S, some (.ref 0), K, P, N, some (.str "Queens"), some (.lst sz4), t, some (.int (1)), some (.int (1)), some (.int (1)), some (.lst [.str "riddle", .str "'Queens'", .bl true])], dicE :: cs) := by kernel_rfl
theorem r_4_1 (S K P N t due : Option D) (cs : AH) : L1r [S, some (.ref 0), K, P, N, some (.str "Queens"), some (.lst sz4), t, some (.int (1)), some (.int (1)), some (.int (1)), due] (dicE :: cs) = .ok (.nx, [S, some (.ref 0), K, P, N, some (.str "Queens"), some (.lst sz4), t, some (.int (1)), some (.int (1)), some (.int (1)), some (.lst [.str "riddle", .str "'Queens'", .bl true])], dicE :: cs) := by kernel_rfl
theorem r_4_2 (S K P N t due : Option D) (cs : AH) : L1r [S, some (.ref 0), K, P, N, some (.str "Queens"), some (.lst sz4), t, some (.int (1)), some (.int (1)), some (.int (0)), due] (dicE :: cs) = .ok (.nx, [S, some (.ref 0), K, P, N, some (.str "Queens"), some (.lst sz4), t, some (.int (1)), some (.int (1)), some (.int (0)), some (.lst [.str "riddle", .str "'Queens'", .bl true])], dicE :: cs) := by kernel_rfl
theorem r_4_3 (S K P N t due : Option D) (cs : AH) : L1r [S, some (.ref 0), K, P, N, some (.str "Queens"), some (.lst sz4), t, some (.int (1)), some (.int (1)), some (.int (2)), due] (dicE :: cs) = .ok (.nx, [S, some (.ref 0), K, P, N, some (.str "Queens"), some (.lst sz4), t, some (.int (1)), some (.int (1)), some (.int (2)), some (.lst [.str "riddle", .str "'Queens'", .bl true])], dicE :: cs) := by kernel_rfl
theorem r_4_4 (S K P N t due : Option D) (cs : AH) : L1r [S, some (.ref 0), K, P, N, some (.str "Queens"), some (.lst sz4), t, some (.int (1)), some (.int (1)), some (.int 0), due] (dicE :: cs) = .ok (.nx, [S, some (.ref 0), K, P, N, some (.str "Queens"), some (.lst sz4), t, some (.int (1)), some (.int (1)), some (.int 0), some (.lst [.str "riddle", .str "'Queens'", .bl true])], dicE :: cs) := by kernel_rfl
theorem r_4_5 (S K P N t due : Option D) (cs : AH) : L1r [S, some (.ref 0), K, P, N, some (.str "Queens"), some (.lst sz4), t, some (.int (1)), some (.int (1)), some (.int (-1)), due] (dicE :: cs) = .ok (.nx, [S, some (.ref 0), K, P, N, some (.str "Queens"), some (.lst sz4), t, some (.int (1)), some (.int (1)), some (.int (-1)), some (.lst [.str "riddle", .str "'Queens'", .bl true])], dicE :: cs) := by kernel_rfl
theorem r_4_6 (S K P N t due : Option D) (cs : AH) : L1r [S, some (.ref 0), K, P, N, some (.str "Queens"), some (.lst sz4), t, some (.int (1)), some (.int (1)), some (.int (100000000000000000000)), due] (dicE :: cs) = .ok (.nx, [S, some (.ref 0), K, P, N, some (.str "Queens"), some (.lst sz4), t, some (.int (1)), some (.int (1)), some (.int (100000000000000000000)), some (.lst [.str "riddle", .str "'Queens'", .bl true])], dicE :: cs) := by kernel_rfl
theorem r_4_7 (S K P N t due : Option D) (cs : AH) : L1r [S, some (.ref 0), K, P, N, some (.str "Queens"), some (.lst sz4), t, some (.int (1)), some (.int (1)), some (.non), due] (dicE :: cs) = .ok (.nx, [S, some (.ref 0), K, P, N, some (.str "Queens"), some (.lst sz4), t, some (.int (1)), some (.int (1)), some (.non), some (.lst [.str "riddle", .str "'Queens'", .bl true])], dicE :: cs) := by kernel_rfl
theorem r_4_8 (S K P N t due : Option D) (cs : AH) : L1r [S, some (.ref 0), K, P, N, some (.str "Queens"), some (.lst sz4), t, some (.int (1)), some (.int (1)), some (.bl true), due] (dicE :: cs) = .ok (.nx, [S, some (.ref 0), K, P, N, some (.str "Queens"), some (.lst sz4), t, some (.int (1)), some (.int (1)), some (.bl true), some (.lst [.str "riddle", .str "'Queens'", .bl true])], dicE :: cs) := by kernel_rfl
theorem r_4_9 (S K P N t due : Option D) (cs : AH) : L1r [S, some (.ref 0), K, P, N, some (.str "Queens"), some (.lst sz4), t, some (.int (1)), some (.int (1)), some (.str "3"), due] (dicE :: cs) = .ok (.nx, [S, some (.ref 0), K, P, N, some (.str "Queens"), some (.lst sz4), t, some (.int (1)), some (.int (1)), some (.str "3"), some (.lst [.str "riddle", .str "'Queens'", .bl true])], dicE :: cs) := by kernel_rfl
theorem r_4_10 (S K P N t due : Option D) (cs : AH) : L1r [S, some (.ref 0), K, P, N, some (.str "Queens"), some (.lst sz4), t, some (.int (1)), some (.int (1)), some (.lst [.int 3]), due] (dicE :: cs) = .ok (.nx, [S, some (.ref 0), K, P, N, some (.str "Queens"), some (.lst sz4), t, some (.int (1)), some (.int (1)), some (.lst [.int 3]), some (.lst [.str "riddle", .str "'Queens'", .bl true])], dicE :: cs) := by kernel_rfl
theorem r_4_11 (S K P N t due : Option D) (cs : AH) : L1r [S, some (.ref 0), K, P, N, some (.str "Queens"), some (.lst sz4), t, some (.int (1)), some (.int (1)), some (.tup [.int 1]), due] (dicE :: cs) = .ok (.nx, [S, some (.ref 0), K, P, N, some (.str "Queens"), some (.lst sz4), t, some (.int (1)), some (.int (1)), some (.tup [.int 1]), some (.lst [.str "riddle", .str "'Queens'", .bl true])], dicE :: cs) := by kernel_rfl
def sz5 : List D := [.int (1), .int (1), .int (0), .int (2), .int 0, .int (-1), .int (100000000000000000000), .non, .bl true, .str "3", .lst [.int 3], .tup [.int 1]]
theorem r_5_0 (S K P N t due : Option D) (cs : AH) : L1r [S, some (.ref 0), K, P, N, some (.str ""), some (.lst sz5), t, some (.int (1)), some (.int (1)), some (.int (1)), due] (dicE :: cs) = .ok (.nx, [S, some (.ref 0), K, P, N, some (.str ""), some (.lst sz5), t, some (.int (1)), some (.int (1)), some (.int (1)), some (.lst [.str "riddle", .str "''", .bl true])], dicE :: cs) := by kernel_rfl
theorem r_5_1 (S K P N t due : Option D) (cs : AH) : L1r [S, some (.ref 0), K, P, N, some (.str ""), some (.lst sz5), t, some (.int (1)), some (.int (1)), some (.int (1)), due] (dicE :: cs) = .ok (.nx, [S, some (.ref 0), K, P, N, some (.str ""), some (.lst sz5), t, some (.int (1)), some (.int (1)), some (.int (1)), some (.lst [.str "riddle", .str "''", .bl true])], dicE :: cs) := by kernel_rfl
theorem r_5_2 (S K P N t due : Option D) (cs : AH) : L1r [S, some (.ref 0), K, P, N, some (.str ""), some (.lst sz5), t, some (.int (1)), some (.int (1)), some (.int (0)), due] (dicE :: cs) = .ok (.nx, [S, some (.ref 0), K, P, N, some (.str ""), some (.lst sz5), t, some (.int (1)), some (.int (1)), some (.int (0)), some (.lst [.str "riddle", .str "''", .bl true])], dicE :: cs) := by kernel_rfl
theorem r_5_3 (S K P N t due : Option D) (cs : AH) : L1r [S, some (.ref 0), K, P, N, some (.str ""), some (.lst sz5), t, some (.int (1)), some (.int (1)), some (.int (2)), due] (dicE :: cs) = .ok (.nx, [S, some (.ref 0), K, P, N, some (.str ""), some (.lst sz5), t, some (.int (1)), some (.int (1)), some (.int (2)), some (.lst [.str "riddle", .str "''", .bl true])], dicE :: cs) := by kernel_rfl
theorem r_5_4 (S K P N t due : Option D) (cs : AH) : L1r [S, some (.ref 0), K, P, N, some (.str ""), some (.lst sz5), t, some (.int (1)), some (.int (1)), some (.int 0), due] (dicE :: cs) = .ok (.nx, [S, some (.ref 0), K, P, N, some (.str ""), some (.lst sz5), t, some (.int (1)), some (.int (1)), some (.int 0), some (.lst [.str "riddle", .str "''", .bl true])], dicE :: cs) := by kernel_rfl
theorem r_5_5 (S K P N t due : Option D) (cs : AH) : L1r [S, some (.ref 0), K, P, N, some (.str ""), some (.lst sz5), t, some (.int (1)), some (.int (1)), some (.int (-1)), due] (dicE :: cs) = .ok (.nx, [S, some (.ref 0), K, P, N, some (.str ""), some (.lst sz5), t, some (.int (1)), some (.int (1)), some (.int (-1)), some (.lst [.str "riddle", .str "''", .bl true])], dicE :: cs) := by kernel_rfl
theorem r_5_6 (S K P N t due : Option D) (cs : AH) : L1r [S, some (.ref 0), K, P, N, some (.str ""), some (.lst sz5), t, some (.int (1)), some (.int (1)), some (.int (100000000000000000000)), due] (dicE :: cs) = .ok (.nx, [S, some (.ref 0), K, P, N, some (.str ""), some (.lst sz5), t, some (.int (1)), some (.int (1)), some (.int (100000000000000000000)), some (.lst [.str "riddle", .str "''", .bl true])], dicE :: cs) := by kernel_rfl
theorem r_5_7 (S K P N t due : Option D) (cs : AH) : L1r [S, some (.ref 0), K, P, N, some (.str ""), some (.lst sz5), t, some (.int (1)), some (.int (1)), some (.non), due] (dicE :: cs) = .ok (.nx, [S, some (.ref 0), K, P, N, some (.str ""), some (.lst sz5), t, some (.int (1)), some (.int (1)), some (.non), some (.lst [.str "riddle", .str "''", .bl true])], dicE :: cs) := by kernel_rfl
theorem r_5_8 (S K P N t due : Option D) (cs : AH) : L1r [S, some (.ref 0), K, P, N, some (.str ""), some (.lst sz5), t, some (.int (1)), some (.int (1)), some (.bl true), due] (dicE :: cs) = .ok (.nx, [S, some (.ref 0), K, P, N, some (.str ""), some (.lst sz5), t, some (.int (1)), some (.int (1)), some (.bl true), some (.lst [.str "riddle", .str "''", .bl true])], dicE :: cs) := by kernel_rfl
theorem r_5_9 (S K P N t due : Option D) (cs : AH) : L1r [S, some (.ref 0), K, P, N, some (.str ""), some (.lst sz5), t, some (.int (1)), some (.int (1)), some (.str "3"), due] (dicE :: cs) = .ok (.nx, [S, some (.ref 0), K, P, N, some (.str ""), some (.lst sz5), t, some (.int (1)), some (.int (1)), some (.str "3"), some (.lst [.str "riddle", .str "''", .bl true])], dicE :: cs) := by kernel_rfl
theorem r_5_10 (S K P N t due : Option D) (cs : AH) : L1r [S, some (.ref 0), K, P, N, some (.str ""), some (.lst sz5), t, some (.int (1)), some (.int (1)), some (.lst [.int 3]), due] (dicE :: cs) = .ok (.nx, [S, some (.ref 0), K, P, N, some (.str ""), some (.lst sz5), t, some (.int (1)), some (.int (1)), some (.lst [.int 3]), some (.lst [.str "riddle", .str "''", .bl true])], dicE :: cs) := by kernel_rfl
theorem r_5_11 (S K P N t due : Option D) (cs : AH) : L1r [S, some (.ref 0), K, P, N, some (.str ""), some (.lst sz5), t, some (.int (1)), some (.int (1)), some (.tup [.int 1]), due] (dicE :: cs) = .ok (.nx, [S, some (.ref 0), K, P, N, some (.str ""), some (.lst sz5), t, some (.int (1)), some (.int (1)), some (.tup [.int 1]), some (.lst [.str "riddle", .str "''", .bl true])], dicE :: cs) := by kernel_rfl
def sz6 : List D := [.int (1), .int (1), .int (0), .int (2), .int 0, .int (-1), .int (100000000000000000000), .non, .bl true, .str "3", .lst [.int 3], .tup [.int 1]]
theorem r_6_0 (S K P N t due : Option D) (cs : AH) : L1r [S, some (.ref 0), K, P, N, some (.str "coin"), some (.lst sz6), t, some (.int (1)), some (.int (1)), some (.int (1)), due] (dicE :: cs) = .ok (.nx, [S, some (.ref 0), K, P, N, some (.str "coin"), some (.lst sz6), t, some (.int (1)), some (.int (1)), some (.int (1)), some (.lst [.str "riddle", .str "'coin'", .bl true])], dicE :: cs) := by kernel_rfl
theorem r_6_1 (S K P N t due : Option D) (cs : AH) : L1r [S, some (.ref 0), K, P, N, some (.str "coin"), some (.lst sz6), t, some (.int (1)), some (.int (1)), some (.int (1)), due] (dicE :: cs) = .ok (.nx, [S, some (.ref 0), K, P, N, some (.str "coin"), some (.lst sz6), t, some (.int (1)), some (.int (1)), some (.int (1)), some (.lst [.str "riddle", .str "'coin'", .bl true])], dicE :: cs) := by kernel_rfl
theorem r_6_2 (S K P N t due : Option D) (cs : AH) : L1r [S, some (.ref 0), K, P, N, some (.str "coin"), some (.lst sz6), t, some (.int (1)), some (.int (1)), some (.int (0)), due] (dicE :: cs) = .ok (.nx, [S, some (.ref 0), K, P, N, some (.str "coin"), some (.lst sz6), t, some (.int (1)), some (.int (1)), some (.int (0)), some (.lst [.str "riddle", .str "'coin'", .bl true])], dicE :: cs) := by kernel_rfl
theorem r_6_3 (S K P N t due : Option D) (cs : AH) : L1r [S, some (.ref 0), K, P, N, some (.str "coin"), some (.lst sz6), t, some (.int (1)), some (.int (1)), some (.int (2)), due] (dicE :: cs) = .ok (.nx, [S, some (.ref 0), K, P, N, some (.str "coin"), some (.lst sz6), t, some (.int (1)), some (.int (1)), some (.int (2)), some (.lst [.str "riddle", .str "'coin'", .bl true])], dicE :: cs) := by kernel_rfl
theorem r_6_4 (S K P N t due : Option D) (cs : AH) : L1r [S, some (.ref 0), K, P, N, some (.str "coin"), some (.lst sz6), t, some (.int (1)), some (.int (1)), some (.int 0), due] (dicE :: cs) = .ok (.nx, [S, some (.ref 0), K, P, N, some (.str "coin"), some (.lst sz6), t, some (.int (1)), some (.int (1)), some (.int 0), some (.lst [.str "riddle", .str "'coin'", .bl true])], dicE :: cs) := by kernel_rfl
theorem r_6_5 (S K P N t due : Option D) (cs : AH) : L1r [S, some (.ref 0), K, P, N, some (.str "coin"), some (.lst sz6), t, some (.int (1)), some (.int (1)), some (.int (-1)), due] (dicE :: cs) = .ok (.nx, [S, some (.ref 0), K, P, N, some (.str "coin"), some (.lst sz6), t, some (.int (1)), some (.int (1)), some (.int (-1)), some (.lst [.str "riddle", .str "'coin'", .bl true])], dicE :: cs) := by kernel_rfl
theorem r_6_6 (S K P N t due : Option D) (cs : AH) : L1r [S, some (.ref 0), K, P, N, some (.str "coin"), some (.lst sz6), t, some (.int (1)), some (.int (1)), some (.int (100000000000000000000)), due] (dicE :: cs) = .ok (.nx, [S, some (.ref 0), K, P, N, some (.str "coin"), some (.lst sz6), t, some (.int (1)), some (.int (1)), some (.int (100000000000000000000)), some (.lst [.str "riddle", .str "'coin'", .bl true])], dicE :: cs) := by kernel_rfl
theorem r_6_7 (S K P N t due : Option D) (cs : AH) : L1r [S, some (.ref 0), K, P, N, some (.str "coin"), some (.lst sz6), t, some (.int (1)), some (.int (1)), some (.non), due] (dicE :: cs) = .ok (.nx, [S, some (.ref 0), K, P, N, some (.str "coin"), some (.lst sz6), t, some (.int (1)), some (.int (1)), some (.non), some (.lst [.str "riddle", .str "'coin'", .bl true])], dicE :: cs) := by kernel_rfl
theorem r_6_8 (S K P N t due : Option D) (cs : AH) : L1r [S, some (.ref 0), K, P, N, some (.str "coin"), some (.lst sz6), t, some (.int (1)), some (.int (1)), some (.bl true), due] (dicE :: cs) = .ok (.nx, [S, some (.ref 0), K, P, N, some (.str "coin"), some (.lst sz6), t, some (.int (1)), some (.int (1)), some (.bl true), some (.lst [.str "riddle", .str "'coin'", .bl true])], dicE :: cs) := by kernel_rfl
theorem r_6_9 (S K P N t due : Option D) (cs : AH) : L1r [S, some (.ref 0), K, P, N, some (.str "coin"), some (.lst sz6), t, some (.int (1)), some (.int (1)), some (.str "3"), due] (dicE :: cs) = .ok (.nx, [S, some (.ref 0), K, P, N, some (.str "coin"), some (.lst sz6), t, some (.int (1)), some (.int (1)), some (.str "3"), some (.lst [.str "riddle", .str "'coin'", .bl true])], dicE :: cs) := by kernel_rfl
theorem r_6_10 (S K P N t due : Option D) (cs : AH) : L1r [S, some (.ref 0), K, P, N, some (.str "coin"), some (.lst sz6), t, some (.int (1)), some (.int (1)), some (.lst [.int 3]), due] (dicE :: cs) = .ok (.nx, [S, some (.ref 0), K, P, N, some (.str "coin"), some (.lst sz6), t, some (.int (1)), some (.int (1)), some (.lst [.int 3]), some (.lst [.str "riddle", .str "'coin'", .bl true])], dicE :: cs) := by kernel_rfl
theorem r_6_11 (S K P N t due : Option D) (cs : AH) : L1r [S, some (.ref 0), K, P, N, some (.str "coin"), some (.lst sz6), t, some (.int (1)), some (.int (1)), some (.tup [.int 1]), due] (dicE :: cs) = .ok (.nx, [S, some (.ref 0), K, P, N, some (.str "coin"), some (.lst sz6), t, some (.int (1)), some (.int (1)), some (.tup [.int 1]), some (.lst [.str "riddle", .str "'coin'", .bl true])], dicE :: cs) := by kernel_rfl
def sz7 : List D := [.int (1), .int (1), .int (0), .int (2), .int 0, .int (-1), .int (100000000000000000000), .non, .bl true, .str "3", .lst [.int 3], .tup [.int 1]]
theorem r_7_0 (S K P N t due : Option D) (cs : AH) : L1r [S, some (.ref 0), K, P, N, some (.non), some (.lst sz7), t, some (.int (1)), some (.int (1)), some (.int (1)), due] (dicE :: cs) = .ok (.nx, [S, some (.ref 0), K, P, N, some (.non), some (.lst sz7), t, some (.int (1)), some (.int (1)), some (.int (1)), some (.lst [.str "riddle", .str "None", .bl true])], dicE :: cs) := by kernel_rfl
theorem r_7_1 (S K P N t due : Option D) (cs : AH) : L1r [S, some (.ref 0), K, P, N, some (.non), some (.lst sz7), t, some (.int (1)), some (.int (1)), some (.int (1)), due] (dicE :: cs) = .ok (.nx, [S, some (.ref 0), K, P, N, some (.non), some (.lst sz7), t, some (.int (1)), some (.int (1)), some (.int (1)), some (.lst [.str "riddle", .str "None", .bl true])], dicE :: cs) := by kernel_rfl
theorem r_7_2 (S K P N t due : Option D) (cs : AH) : L1r [S, some (.ref 0), K, P, N, some (.non), some (.lst sz7), t, some (.int (1)), some (.int (1)), some (.int (0)), due] (dicE :: cs) = .ok (.nx, [S, some (.ref 0), K, P, N, some (.non), some (.lst sz7), t, some (.int (1)), some (.int (1)), some (.int (0)), some (.lst [.str "riddle", .str "None", .bl true])], dicE :: cs) := by kernel_rfl
theorem r_7_3 (S K P N t due : Option D) (cs : AH) : L1r [S, some (.ref 0), K, P, N, some (.non), some (.lst sz7), t, some (.int (1)), some (.int (1)), some (.int (2)), due] (dicE :: cs) = .ok (.nx, [S, some (.ref 0), K, P, N, some (.non), some (.lst sz7), t, some (.int (1)), some (.int (1)), some (.int (2)), some (.lst [.str "riddle", .str "None", .bl true])], dicE :: cs) := by kernel_rfl
theorem r_7_4 (S K P N t due : Option D) (cs : AH) : L1r [S, some (.ref 0), K, P, N, some (.non), some (.lst sz7), t, some (.int (1)), some (.int (1)), some (.int 0), due] (dicE :: cs) = .ok (.nx, [S, some (.ref 0), K, P, N, some (.non), some (.lst sz7), t, some (.int (1)), some (.int (1)), some (.int 0), some (.lst [.str "riddle", .str "None", .bl true])], dicE :: cs) := by kernel_rfl
theorem r_7_5 (S K P N t due : Option D) (cs : AH) : L1r [S, some (.ref 0), K, P, N, some (.non), some (.lst sz7), t, some (.int (1)), some (.int (1)), some (.int (-1)), due] (dicE :: cs) = .ok (.nx, [S, some (.ref 0), K, P, N, some (.non), some (.lst sz7), t, some (.int (1)), some (.int (1)), some (.int (-1)), some (.lst [.str "riddle", .str "None", .bl true])], dicE :: cs) := by kernel_rfl
theorem r_7_6 (S K P N t due : Option D) (cs : AH) : L1r [S, some (.ref 0), K, P, N, some (.non), some (.lst sz7), t, some (.int (1)), some (.int (1)), some (.int (100000000000000000000)), due] (dicE :: cs) = .ok (.nx, [S, some (.ref 0), K, P, N, some (.non), some (.lst sz7), t, some (.int (1)), some (.int (1)), some (.int (100000000000000000000)), some (.lst [.str "riddle", .str "None", .bl true])], dicE :: cs) := by kernel_rfl
theorem r_7_7 (S K P N t due : Option D) (cs : AH) : L1r [S, some (.ref 0), K, P, N, some (.non), some (.lst sz7), t, some (.int (1)), some (.int (1)), some (.non), due] (dicE :: cs) = .ok (.nx, [S, some (.ref 0), K, P, N, some (.non), some (.lst sz7), t, some (.int (1)), some (.int (1)), some (.non), some (.lst [.str "riddle", .str "None", .bl true])], dicE :: cs) := by kernel_rfl
theorem r_7_8 (S K P N t due : Option D) (cs : AH) : L1r [S, some (.ref 0), K, P, N, some (.non), some (.lst sz7), t, some (.int (1)), some (.int (1)), some (.bl true), due] (dicE :: cs) = .ok (.nx, [S, some (.ref 0), K, P, N, some (.non), some (.lst sz7), t, some (.int (1)), some (.int (1)), some (.bl true), some (.lst [.str "riddle", .str "None", .bl true])], dicE :: cs) := by kernel_rfl
theorem r_7_9 (S K P N t due : Option D) (cs : AH) : L1r [S, some (.ref 0), K, P, N, some (.non), some (.lst sz7), t, some (.int (1)), some (.int (1)), some (.str "3"), due] (dicE :: cs) = .ok (.nx, [S, some (.ref 0), K, P, N, some (.non), some (.lst sz7), t, some (.int (1)), some (.int (1)), some (.str "3"), some (.lst [.str "riddle", .str "None", .bl true])], dicE :: cs) := by kernel_rfl
theorem r_7_10 (S K P N t due : Option D) (cs : AH) : L1r [S, some (.ref 0), K, P, N, some (.non), some (.lst sz7), t, some (.int (1)), some (.int (1)), some (.lst [.int 3]), due] (dicE :: cs) = .ok (.nx, [S, some (.ref 0), K, P, N, some (.non), some (.lst sz7), t, some (.int (1)), some (.int (1)), some (.lst [.int 3]), some (.lst [.str "riddle", .str "None", .bl true])], dicE :: cs) := by kernel_rfl
theorem r_7_11 (S K P N t due : Option D) (cs : AH) : L1r [S, some (.ref 0), K, P, N, some (.non), some (.lst sz7), t, some (.int (1)), some (.int (1)), some (.tup [.int 1]), due] (dicE :: cs) = .ok (.nx, [S, some (.ref 0), K, P, N, some (.non), some (.lst sz7), t, some (.int (1)), some (.int (1)), some (.tup [.int 1]), some (.lst [.str "riddle", .str "None", .bl true])], dicE :: cs) := by kernel_rfl
def sz8 : List D := [.int (1), .int (1), .int (0), .int (2), .int 0, .int (-1), .int (100000000000000000000), .non, .bl true, .str "3", .lst [.int 3], .tup [.int 1]]
theorem r_8_0 (S K P N t due : Option D) (cs : AH) : L1r [S, some (.ref 0), K, P, N, some (.int 5), some (.lst sz8), t, some (.int (1)), some (.int (1)), some (.int (1)), due] (dicE :: cs) = .ok (.nx, [S, some (.ref 0), K, P, N, some (.int 5), some (.lst sz8), t, some (.int (1)), some (.int (1)), some (.int (1)), some (.lst [.str "riddle", .str "5", .bl true])], dicE :: cs) := by kernel_rfl
theorem r_8_1 (S K P N t due : Option D) (cs : AH) : L1r [S, some (.ref 0), K, P, N, some (.int 5), some (.lst sz8), t, some (.int (1)), some (.int (1)), some (.int (1)), due] (dicE :: cs) = .ok (.nx, [S, some (.ref 0), K, P, N, some (.int 5), some (.lst sz8), t, some (.int (1)), some (.int (1)), some (.int (1)), some (.lst [.str "riddle", .str "5", .bl true])], dicE :: cs) := by kernel_rfl
theorem r_8_2 (S K P N t due : Option D) (cs : AH) : L1r [S, some (.ref 0), K, P, N, some (.int 5), some (.lst sz8), t, some (.int (1)), some (.int (1)), some (.int (0)), due] (dicE :: cs) = .ok (.nx, [S, some (.ref 0), K, P, N, some (.int 5), some (.lst sz8), t, some (.int (1)), some (.int (1)), some (.int (0)), some (.lst [.str "riddle", .str "5", .bl true])], dicE :: cs) := by kernel_rfl
theorem r_8_3 (S K P N t due : Option D) (cs : AH) : L1r [S, some (.ref 0), K, P, N, some (.int 5), some (.lst sz8), t, some (.int (1)), some (.int (1)), some (.int (2)), due] (dicE :: cs) = .ok (.nx, [S, some (.ref 0), K, P, N, some (.int 5), some (.lst sz8), t, some (.int (1)), some (.int (1)), some (.int (2)), some (.lst [.str "riddle", .str "5", .bl true])], dicE :: cs) := by kernel_rfl
theorem r_8_4 (S K P N t due : Option D) (cs : AH) : L1r [S, some (.ref 0), K, P, N, some (.int 5), some (.lst sz8), t, some (.int (1)), some (.int (1)), some (.int 0), due] (dicE :: cs) = .ok (.nx, [S, some (.ref 0), K, P, N, some (.int 5), some (.lst sz8), t, some (.int (1)), some (.int (1)), some (.int 0), some (.lst [.str "riddle", .str "5", .bl true])], dicE :: cs) := by kernel_rfl
theorem r_8_5 (S K P N t due : Option D) (cs : AH) : L1r [S, some (.ref 0), K, P, N, some (.int 5), some (.lst sz8), t, some (.int (1)), some (.int (1)), some (.int (-1)), due] (dicE :: cs) = .ok (.nx, [S, some (.ref 0), K, P, N, some (.int 5), some (.lst sz8), t, some (.int (1)), some (.int (1)), some (.int (-1)), some (.lst [.str "riddle", .str "5", .bl true])], dicE :: cs) := by kernel_rfl
theorem r_8_6 (S K P N t due : Option D) (cs : AH) : L1r [S, some (.ref 0), K, P, N, some (.int 5), some (.lst sz8), t, some (.int (1)), some (.int (1)), some (.int (100000000000000000000)), due] (dicE :: cs) = .ok (.nx, [S, some (.ref 0), K, P, N, some (.int 5), some (.lst sz8), t, some (.int (1)), some (.int (1)), some (.int (100000000000000000000)), some (.lst [.str "riddle", .str "5", .bl true])], dicE :: cs) := by kernel_rfl
theorem r_8_7 (S K P N t due : Option D) (cs : AH) : L1r [S, some (.ref 0), K, P, N, some (.int 5), some (.lst sz8), t, some (.int (1)), some (.int (1)), some (.non), due] (dicE :: cs) = .ok (.nx, [S, some (.ref 0), K, P, N, some (.int 5), some (.lst sz8), t, some (.int (1)), some (.int (1)), some (.non), some (.lst [.str "riddle", .str "5", .bl true])], dicE :: cs) := by kernel_rfl
theorem r_8_8 (S K P N t due : Option D) (cs : AH) : L1r [S, some (.ref 0), K, P, N, some (.int 5), some (.lst sz8), t, some (.int (1)), some (.int (1)), some (.bl true), due] (dicE :: cs) = .ok (.nx, [S, some (.ref 0), K, P, N, some (.int 5), some (.lst sz8), t, some (.int (1)), some (.int (1)), some (.bl true), some (.lst [.str "riddle", .str "5", .bl true])], dicE :: cs) := by kernel_rfl
theorem r_8_9 (S K P N t due : Option D) (cs : AH) : L1r [S, some (.ref 0), K, P, N, some (.int 5), some (.lst sz8), t, some (.int (1)), some (.int (1)), some (.str "3"), due] (dicE :: cs) = .ok (.nx, [S, some (.ref 0), K, P, N, some (.int 5), some (.lst sz8), t, some (.int (1)), some (.int (1)), some (.str "3"), some (.lst [.str "riddle", .str "5", .bl true])], dicE :: cs) := by kernel_rfl
theorem r_8_10 (S K P N t due : Option D) (cs : AH) : L1r [S, some (.ref 0), K, P, N, some (.int 5), some (.lst sz8), t, some (.int (1)), some (.int (1)), some (.lst [.int 3]), due] (dicE :: cs) = .ok (.nx, [S, some (.ref 0), K, P, N, some (.int 5), some (.lst sz8), t, some (.int (1)), some (.int (1)), some (.lst [.int 3]), some (.lst [.str "riddle", .str "5", .bl true])], dicE :: cs) := by kernel_rfl
theorem r_8_11 (S K P N t due : Option D) (cs : AH) : L1r [S, some (.ref 0), K, P, N, some (.int 5), some (.lst sz8), t, some (.int (1)), some (.int (1)), some (.tup [.int 1]), due] (dicE :: cs) = .ok (.nx, [S, some (.ref 0), K, P, N, some (.int 5), some (.lst sz8), t, some (.int (1)), some (.int (1)), some (.tup [.int 1]), some (.lst [.str "riddle", .str "5", .bl true])], dicE :: cs) := by kernel_rfl
def sz9 : List D := [.int (1), .int (1), .int (0), .int (2), .int 0, .int (-1), .int (100000000000000000000), .non, .bl true, .str "3", .lst [.int 3], .tup [.int 1]]
theorem r_9_0 (S K P N t due : Option D) (cs : AH) : L1r [S, some (.ref 0), K, P, N, some (.lst [.str "queens"]), some (.lst sz9), t, some (.int (1)), some (.int (1)), some (.int (1)), due] (dicE :: cs) = .ok (.nx, [S, some (.ref 0), K, P, N, some (.lst [.str "queens"]), some (.lst sz9), t, some (.int (1)), some (.int (1)), some (.int (1)), some (.lst [.str "riddle", .str "['queens']", .bl true])], dicE :: cs) := by kernel_rfl
theorem r_9_1 (S K P N t due : Option D) (cs : AH) : L1r [S, some (.ref 0), K, P, N, some (.lst [.str "queens"]), some (.lst sz9), t, some (.int (1)), some (.int (1)), some (.int (1)), due] (dicE :: cs) = .ok (.nx, [S, some (.ref 0), K, P, N, some (.lst [.str "queens"]), some (.lst sz9), t, some (.int (1)), some (.int (1)), some (.int (1)), some (.lst [.str "riddle", .str "['queens']", .bl true])], dicE :: cs) := by kernel_rfl
theorem r_9_2 (S K P N t due : Option D) (cs : AH) : L1r [S, some (.ref 0), K, P, N, some (.lst [.str "queens"]), some (.lst sz9), t, some (.int (1)), some (.int (1)), some (.int (0)), due] (dicE :: cs) = .ok (.nx, [S, some (.ref 0), K, P, N, some (.lst [.str "queens"]), some (.lst sz9), t, some (.int (1)), some (.int (1)), some (.int (0)), some (.lst [.str "riddle", .str "['queens']", .bl true])], dicE :: cs) := by kernel_rfl
theorem r_9_3 (S K P N t due : Option D) (cs : AH) : L1r [S, some (.ref 0), K, P, N, some (.lst [.str "queens"]), some (.lst sz9), t, some (.int (1)), some (.int (1)), some (.int (2)), due] (dicE :: cs) = .ok (.nx, [S, some (.ref 0), K, P, N, some (.lst [.str "queens"]), some (.lst sz9), t, some (.int (1)), some (.int (1)), some (.int (2)), some (.lst [.str "riddle", .str "['queens']", .bl true])], dicE :: cs) := by kernel_rfl
theorem r_9_4 (S K P N t due : Option D) (cs : AH) : L1r [S, some (.ref 0), K, P, N, some (.lst [.str "queens"]), some (.lst sz9), t, some (.int (1)), some (.int (1)), some (.int 0), due] (dicE :: cs) = .ok (.nx, [S, some (.ref 0), K, P, N, some (.lst [.str "queens"]), some (.lst sz9), t, some (.int (1)), some (.int (1)), some (.int 0), some (.lst [.str "riddle", .str "['queens']", .bl true])], dicE :: cs) := by kernel_rfl
theorem r_9_5 (S K P N t due : Option D) (cs : AH) : L1r [S, some (.ref 0), K, P, N, some (.lst [.str "queens"]), some (.lst sz9), t, some (.int (1)), some (.int (1)), some (.int (-1)), due] (dicE :: cs) = .ok (.nx, [S, some (.ref 0), K, P, N, some (.lst [.str "queens"]), some (.lst sz9), t, some (.int (1)), some (.int (1)), some (.int (-1)), some (.lst [.str "riddle", .str "['queens']", .bl true])], dicE :: cs) := by kernel_rfl
theorem r_9_6 (S K P N t due : Option D) (cs : AH) : L1r [S, some (.ref 0), K, P, N, some (.lst [.str "queens"]), some (.lst sz9), t, some (.int (1)), some (.int (1)), some (.int (100000000000000000000)), due] (dicE :: cs) = .ok (.nx, [S, some (.ref 0), K, P, N, some (.lst [.str "queens"]), some (.lst sz9), t, some (.int (1)), some (.int (1)), some (.int (100000000000000000000)), some (.lst [.str "riddle", .str "['queens']", .bl true])], dicE :: cs) := by kernel_rfl
theorem r_9_7 (S K P N t due : Option D) (cs : AH) : L1r [S, some (.ref 0), K, P, N, some (.lst [.str "queens"]), some (.lst sz9), t, some (.int (1)), some (.int (1)), some (.non), due] (dicE :: cs) = .ok (.nx, [S, some (.ref 0), K, P, N, some (.lst [.str "queens"]), some (.lst sz9), t, some (.int (1)), some (.int (1)), some (.non), some (.lst [.str "riddle", .str "['queens']", .bl true])], dicE :: cs) := by kernel_rfl
theorem r_9_8 (S K P N t due : Option D) (cs : AH) : L1r [S, some (.ref 0), K, P, N, some (.lst [.str "queens"]), some (.lst sz9), t, some (.int (1)), some (.int (1)), some (.bl true), due] (dicE :: cs) = .ok (.nx, [S, some (.ref 0), K, P, N, some (.lst [.str "queens"]), some (.lst sz9), t, some (.int (1)), some (.int (1)), some (.bl true), some (.lst [.str "riddle", .str "['queens']", .bl true])], dicE :: cs) := by kernel_rfl
theorem r_9_9 (S K P N t due : Option D) (cs : AH) : L1r [S, some (.ref 0), K, P, N, some (.lst [.str "queens"]), some (.lst sz9), t, some (.int (1)), some (.int (1)), some (.str "3"), due] (dicE :: cs) = .ok (.nx, [S, some (.ref 0), K, P, N, some (.lst [.str "queens"]), some (.lst sz9), t, some (.int (1)), some (.int (1)), some (.str "3"), some (.lst [.str "riddle", .str "['queens']", .bl true])], dicE :: cs) := by kernel_rfl
theorem r_9_10 (S K P N t due : Option D) (cs : AH) : L1r [S, some (.ref 0), K, P, N, some (.lst [.str "queens"]), some (.lst sz9), t, some (.int (1)), some (.int (1)), some (.lst [.int 3]), due] (dicE :: cs) = .ok (.nx, [S, some (.ref 0), K, P, N, some (.lst [.str "queens"]), some (.lst sz9), t, some (.int (1)), some (.int (1)), some (.lst [.int 3]), some (.lst [.str "riddle", .str "['queens']", .bl true])], dicE :: cs) := by kernel_rfl
theorem r_9_11 (S K P N t due : Option D) (cs : AH) : L1r [S, some (.ref 0), K, P, N, some (.lst [.str "queens"]), some (.lst sz9), t, some (.int (1)), some (.int (1)), some (.tup [.int 1]), due] (dicE :: cs) = .ok (.nx, [S, some (.ref 0), K, P, N, some (.lst [.str "queens"]), some (.lst sz9), t, some (.int (1)), some (.int (1)), some (.tup [.int 1]), some (.lst [.str "riddle", .str "['queens']", .bl true])], dicE :: cs) := by kernel_rfl
def sz10 : List D := [.int (1), .int (1), .int (0), .int (2), .int 0, .int (-1), .int (100000000000000000000), .non, .bl true, .str "3", .lst [.int 3], .tup [.int 1]]
theorem r_10_0 (S K P N t due : Option D) (cs : AH) : L1r [S, some (.ref 0), K, P, N, some (.tup [.str "coins"]), some (.lst sz10), t, some (.int (1)), some (.int (1)), some (.int (1)), due] (dicE :: cs) = .ok (.nx, [S, some (.ref 0), K, P, N, some (.tup [.str "coins"]), some (.lst sz10), t, some (.int (1)), some (.int (1)), some (.int (1)), some (.lst [.str "riddle", .str "('coins',)", .bl true])], dicE :: cs) := by kernel_rfl
theorem r_10_1 (S K P N t due : Option D) (cs : AH) : L1r [S, some (.ref 0), K, P, N, some (.tup [.str "coins"]), some (.lst sz10), t, some (.int (1)), some (.int (1)), some (.int (1)), due] (dicE :: cs) = .ok (.nx, [S, some (.ref 0), K, P, N, some (.tup [.str "coins"]), some (.lst sz10), t, some (.int (1)), some (.int (1)), some (.int (1)), some (.lst [.str "riddle", .str "('coins',)", .bl true])], dicE :: cs) := by kernel_rfl
theorem r_10_2 (S K P N t due : Option D) (cs : AH) : L1r [S, some (.ref 0), K, P, N, some (.tup [.str "coins"]), some (.lst sz10), t, some (.int (1)), some (.int (1)), some (.int (0)), due] (dicE :: cs) = .ok (.nx, [S, some (.ref 0), K, P, N, some (.tup [.str "coins"]), some (.lst sz10), t, some (.int (1)), some (.int (1)), some (.int (0)), some (.lst [.str "riddle", .str "('coins',)", .bl true])], dicE :: cs) := by kernel_rfl
theorem r_10_3 (S K P N t due : Option D) (cs : AH) : L1r [S, some (.ref 0), K, P, N, some (.tup [.str "coins"]), some (.lst sz10), t, some (.int (1)), some (.int (1)), some (.int (2)), due] (dicE :: cs) = .ok (.nx, [S, some (.ref 0), K, P, N, some (.tup [.str "coins"]), some (.lst sz10), t, some (.int (1)), some (.int (1)), some (.int (2)), some (.lst [.str "riddle", .str "('coins',)", .bl true])], dicE :: cs) := by kernel_rfl
theorem r_10_4 (S K P N t due : Option D) (cs : AH) : L1r [S, some (.ref 0), K, P, N, some (.tup [.str "coins"]), some (.lst sz10), t, some (.int (1)), some (.int (1)), some (.int 0), due] (dicE :: cs) = .ok (.nx, [S, some (.ref 0), K, P, N, some (.tup [.str "coins"]), some (.lst sz10), t, some (.int (1)), some (.int (1)), some (.int 0), some (.lst [.str "riddle", .str "('coins',)", .bl true])], dicE :: cs) := by kernel_rfl
theorem r_10_5 (S K P N t due : Option D) (cs : AH) : L1r [S, some (.ref 0), K, P, N, some (.tup [.str "coins"]), some (.lst sz10), t, some (.int (1)), some (.int (1)), some (.int (-1)), due] (dicE :: cs) = .ok (.nx, [S, some (.ref 0), K, P, N, some (.tup [.str "coins"]), some (.lst sz10), t, some (.int (1)), some (.int (1)), some (.int (-1)), some (.lst [.str "riddle", .str "('coins',)", .bl true])], dicE :: cs) := by kernel_rfl
theorem r_10_6 (S K P N t due : Option D) (cs : AH) : L1r [S, some (.ref 0), K, P, N, some (.tup [.str "coins"]), some (.lst sz10), t, some (.int (1)), some (.int (1)), some (.int (100000000000000000000)), due] (dicE :: cs) = .ok (.nx, [S, some (.ref 0), K, P, N, some (.tup [.str "coins"]), some (.lst sz10), t, some (.int (1)), some (.int (1)), some (.int (100000000000000000000)), some (.lst [.str "riddle", .str "('coins',)", .bl true])], dicE :: cs) := by kernel_rfl
theorem r_10_7 (S K P N t due : Option D) (cs : AH) : L1r [S, some (.ref 0), K, P, N, some (.tup [.str "coins"]), some (.lst sz10), t, some (.int (1)), some (.int (1)), some (.non), due] (dicE :: cs) = .ok (.nx, [S, some (.ref 0), K, P, N, some (.tup [.str "coins"]), some (.lst sz10), t, some (.int (1)), some (.int (1)), some (.non), some (.lst [.str "riddle", .str "('coins',)", .bl true])], dicE :: cs) := by kernel_rfl
theorem r_10_8 (S K P N t due : Option D) (cs : AH) : L1r [S, some (.ref 0), K, P, N, some (.tup [.str "coins"]), some (.lst sz10), t, some (.int (1)), some (.int (1)), some (.bl true), due] (dicE :: cs) = .ok (.nx, [S, some (.ref 0), K, P, N, some (.tup [.str "coins"]), some (.lst sz10), t, some (.int (1)), some (.int (1)), some (.bl true), some (.lst [.str "riddle", .str "('coins',)", .bl true])], dicE :: cs) := by kernel_rfl
theorem r_10_9 (S K P N t due : Option D) (cs : AH) : L1r [S, some (.ref 0), K, P, N, some (.tup [.str "coins"]), some (.lst sz10), t, some (.int (1)), some (.int (1)), some (.str "3"), due] (dicE :: cs) = .ok (.nx, [S, some (.ref 0), K, P, N, some (.tup [.str "coins"]), some (.lst sz10), t, some (.int (1)), some (.int (1)), some (.str "3"), some (.lst [.str "riddle", .str "('coins',)", .bl true])], dicE :: cs) := by kernel_rfl
theorem r_10_10 (S K P N t due : Option D) (cs : AH) : L1r [S, some (.ref 0), K, P, N, some (.tup [.str "coins"]), some (.lst sz10), t, some (.int (1)), some (.int (1)), some (.lst [.int 3]), due] (dicE :: cs) = .ok (.nx, [S, some (.ref 0), K, P, N, some (.tup [.str "coins"]), some (.lst sz10), t, some (.int (1)), some (.int (1)), some (.lst [.int 3]), some (.lst [.str "riddle", .str "('coins',)", .bl true])], dicE :: cs) := by kernel_rfl
theorem r_10_11 (S K P N t due : Option D) (cs : AH) : L1r [S, some (.ref 0), K, P, N, some (.tup [.str "coins"]), some (.lst sz10), t, some (.int (1)), some (.int (1)), some (.tup [.int 1]), due] (dicE :: cs) = .ok (.nx, [S, some (.ref 0), K, P, N, some (.tup [.str "coins"]), some (.lst sz10), t, some (.int (1)), some (.int (1)), some (.tup [.int 1]), some (.lst [.str "riddle", .str "('coins',)", .bl true])], dicE :: cs) := by kernel_rfl
def sz11 : List D := [.int (1), .int (1), .int (0), .int (2), .int 0, .int (-1), .int (100000000000000000000), .non, .bl true, .str "3", .lst [.int 3], .tup [.int 1]]
theorem r_11_0 (S K P N t due : Option D) (cs : AH) : L1r [S, some (.ref 0), K, P, N, some (.bl true), some (.lst sz11), t, some (.int (1)), some (.int (1)), some (.int (1)), due] (dicE :: cs) = .ok (.nx, [S, some (.ref 0), K, P, N, some (.bl true), some (.lst sz11), t, some (.int (1)), some (.int (1)), some (.int (1)), some (.lst [.str "riddle", .str "True", .bl true])], dicE :: cs) := by kernel_rfl
theorem r_11_1 (S K P N t due : Option D) (cs : AH) : L1r [S, some (.ref 0), K, P, N, some (.bl true), some (.lst sz11), t, some (.int (1)), some (.int (1)), some (.int (1)), due] (dicE :: cs) = .ok (.nx, [S, some (.ref 0), K, P, N, some (.bl true), some (.lst sz11), t, some (.int (1)), some (.int (1)), some (.int (1)), some (.lst [.str "riddle", .str "True", .bl true])], dicE :: cs) := by kernel_rfl
theorem r_11_2 (S K P N t due : Option D) (cs : AH) : L1r [S, some (.ref 0), K, P, N, some (.bl true), some (.lst sz11), t, some (.int (1)), some (.int (1)), some (.int (0)), due] (dicE :: cs) = .ok (.nx, [S, some (.ref 0), K, P, N, some (.bl true), some (.lst sz11), t, some (.int (1)), some (.int (1)), some (.int (0)), some (.lst [.str "riddle", .str "True", .bl true])], dicE :: cs) := by kernel_rfl
theorem r_11_3 (S K P N t due : Option D) (cs : AH) : L1r [S, some (.ref 0), K, P, N, some (.bl true), some (.lst sz11), t, some (.int (1)), some (.int (1)), some (.int (2)), due] (dicE :: cs) = .ok (.nx, [S, some (.ref 0), K, P, N, some (.bl true), some (.lst sz11), t, some (.int (1)), some (.int (1)), some (.int (2)), some (.lst [.str "riddle", .str "True", .bl true])], dicE :: cs) := by kernel_rfl
theorem r_11_4 (S K P N t due : Option D) (cs : AH) : L1r [S, some (.ref 0), K, P, N, some (.bl true), some (.lst sz11), t, some (.int (1)), some (.int (1)), some (.int 0), due] (dicE :: cs) = .ok (.nx, [S, some (.ref 0), K, P, N, some (.bl true), some (.lst sz11), t, some (.int (1)), some (.int (1)), some (.int 0), some (.lst [.str "riddle", .str "True", .bl true])], dicE :: cs) := by kernel_rfl
theorem r_11_5 (S K P N t due : Option D) (cs : AH) : L1r [S, some (.ref 0), K, P, N, some (.bl true), some (.lst sz11), t, some (.int (1)), some (.int (1)), some (.int (-1)), due] (dicE :: cs) = .ok (.nx, [S, some (.ref 0), K, P, N, some (.bl true), some (.lst sz11), t, some (.int (1)), some (.int (1)), some (.int (-1)), some (.lst [.str "riddle", .str "True", .bl true])], dicE :: cs) := by kernel_rfl
theorem r_11_6 (S K P N t due : Option D) (cs : AH) : L1r [S, some (.ref 0), K, P, N, some (.bl true), some (.lst sz11), t, some (.int (1)), some (.int (1)), some (.int (100000000000000000000)), due] (dicE :: cs) = .ok (.nx, [S, some (.ref 0), K, P, N, some (.bl true), some (.lst sz11), t, some (.int (1)), some (.int (1)), some (.int (100000000000000000000)), some (.lst [.str "riddle", .str "True", .bl true])], dicE :: cs) := by kernel_rfl
theorem r_11_7 (S K P N t due : Option D) (cs : AH) : L1r [S, some (.ref 0), K, P, N, some (.bl true), some (.lst sz11), t, some (.int (1)), some (.int (1)), some (.non), due] (dicE :: cs) = .ok (.nx, [S, some (.ref 0), K, P, N, some (.bl true), some (.lst sz11), t, some (.int (1)), some (.int (1)), some (.non), some (.lst [.str "riddle", .str "True", .bl true])], dicE :: cs) := by kernel_rfl
theorem r_11_8 (S K P N t due : Option D) (cs : AH) : L1r [S, some (.ref 0), K, P, N, some (.bl true), some (.lst sz11), t, some (.int (1)), some (.int (1)), some (.bl true), due] (dicE :: cs) = .ok (.nx, [S, some (.ref 0), K, P, N, some (.bl true), some (.lst sz11), t, some (.int (1)), some (.int (1)), some (.bl true), some (.lst [.str "riddle", .str "True", .bl true])], dicE :: cs) := by kernel_rfl
theorem r_11_9 (S K P N t due : Option D) (cs : AH) : L1r [S, some (.ref 0), K, P, N, some (.bl true), some (.lst sz11), t, some (.int (1)), some (.int (1)), some (.str "3"), due] (dicE :: cs) = .ok (.nx, [S, some (.ref 0), K, P, N, some (.bl true), some (.lst sz11), t, some (.int (1)), some (.int (1)), some (.str "3"), some (.lst [.str "riddle", .str "True", .bl true])], dicE :: cs) := by kernel_rfl
theorem r_11_10 (S K P N t due : Option D) (cs : AH) : L1r [S, some (.ref 0), K, P, N, some (.bl true), some (.lst sz11), t, some (.int (1)), some (.int (1)), some (.lst [.int 3]), due] (dicE :: cs) = .ok (.nx, [S, some (.ref 0), K, P, N, some (.bl true), some (.lst sz11), t, some (.int (1)), some (.int (1)), some (.lst [.int 3]), some (.lst [.str "riddle", .str "True", .bl true])], dicE :: cs) := by kernel_rfl
theorem r_11_11 (S K P N t due : Option D) (cs : AH) : L1r [S, some (.ref 0), K, P, N, some (.bl true), some (.lst sz11), t, some (.int (1)), some (.int (1)), some (.tup [.int 1]), due] (dicE :: cs) = .ok (.nx, [S, some (.ref 0), K, P, N, some (.bl true), some (.lst sz11), t, some (.int (1)), some (.int (1)), some (.tup [.int 1]), some (.lst [.str "riddle", .str "True", .bl true])], dicE :: cs) := by kernel_rfl
end Lw

/-! ===== Q65 -/
set_option linter.all false
set_option maxRecDepth 100000
set_option maxHeartbeats 2000000
namespace Lw
open PySem PySem.Spec Fx
theorem ix_lst {xs : List D} {i : Int} {d : D} {ah : AH} (h : L2.atI xs i = some d) : oIxA (.lst xs) (.int i) ah = .ok (d, ah) := by
  unfold oIxA asD oIx
  simp only [asI, okO, asS, asL, h]
theorem twelve {d : Int} (h0 : 0 ≤ d) (h1 : d < 12) : d = 0 ∨ d = 1 ∨ d = 2 ∨ d = 3 ∨ d = 4 ∨ d = 5 ∨ d = 6 ∨ d = 7 ∨ d = 8 ∨ d = 9 ∨ d = 10 ∨ d = 11 := by omega
/-- a turn by what its rest does -/
def Rest (nm : D) (sz : List D) (lo hi : Int) : Prop := ∀ (d : Int), 0 ≤ d → d < 12 → ∃ z, L2.atI sz d = some z ∧ ∀ (S K P N t due : Option D) (cs : AH), ∃ due2, L1r [S, some (.ref 0), K, P, N, some nm, some (.lst sz), t, some (.int lo), some (.int hi), some z, due] (dicE :: cs) = .ok (.nx, [S, some (.ref 0), K, P, N, some nm, some (.lst sz), t, some (.int lo), some (.int hi), some z, due2], dicE :: cs)
theorem turn_ok {nm : D} {sz : List D} {lo hi : Int} (R : Rest nm sz lo hi) {S K N t x10 x11 : Option D} {cs : AH} {q : Nat} {n s : Int} (h : cs[q]? = some (.lst [.int n, .int s])) :
    ∃ y10 y11 n' s', L1_law [S, some (.ref 0), K, some (.ref (q + 1)), N, some nm, some (.lst sz), t, some (.int lo), some (.int hi), x10, x11] (dicE :: cs) = .ok (.nx, [S, some (.ref 0), K, some (.ref (q + 1)), N, some nm, some (.lst sz), t, some (.int lo), some (.int hi), y10, y11], dicE :: cs.set q (.lst [.int n', .int s'])) := by
  obtain ⟨d, n', s', tk, d0, d1⟩ := take_ok (ah := dicE :: cs) (p := q + 1) (many := 12) h (by decide) (by decide)
  obtain ⟨z, hz, hr⟩ := R d d0 d1
  obtain ⟨due2, hr⟩ := hr S K (some (.ref (q + 1))) N t x11 (cs.set q (.lst [.int n', .int s']))
  refine ⟨some z, due2, n', s', ?_⟩
  rw [L1_eq]
  refine (sSeq_nx (e1 := [S, some (.ref 0), K, some (.ref (q + 1)), N, some nm, some (.lst sz), t, some (.int lo), some (.int hi), some z, x11]) (h1 := dicE :: cs.set q (.lst [.int n', .int s'])) ?_).trans hr
  unfold L1a
  have c1 : eCall m__law_take (lenB 2 (lCons (eVar 3) (lCons (eC (.int 12)) (lNil)))) [S, some (.ref 0), K, some (.ref (q + 1)), N, some nm, some (.lst sz), t, some (.int lo), some (.int hi), x10, x11] (dicE :: cs) = .ok (.int d, dicE :: cs.set q (.lst [.int n', .int s'])) := eCall_ok (h1 := dicE :: cs) rfl tk
  exact sSet_ok ((e2_ok (o := oIxA) (x := eVar 6) (h1 := dicE :: cs) (d := .lst sz) rfl c1).trans (ix_lst hz))
/-- what stays true while one name's turns go on -/
def In1 (S K N : Option D) (q : Nat) (nm : D) (sz : List D) (lo hi : Int) (env : Fx.Env) (ah : AH) : Prop := ∃ t x10 x11 cs n s, env = [S, some (.ref 0), K, some (.ref (q + 1)), N, some nm, some (.lst sz), t, some (.int lo), some (.int hi), x10, x11] ∧ ah = dicE :: cs ∧ cs[q]? = some (.lst [.int n, .int s])
def In2 (S K : Option D) (q : Nat) (env : Fx.Env) (ah : AH) : Prop := ∃ x5 x6 x7 x8 x9 x10 x11 cs n s, env = [S, some (.ref 0), K, some (.ref (q + 1)), some n7, x5, x6, x7, x8, x9, x10, x11] ∧ ah = dicE :: cs ∧ cs[q]? = some (.lst [.int n, .int s])
theorem turns_ok {nm : D} {sz : List D} {lo hi : Int} (R : Rest nm sz lo hi) {S K N : Option D} {q : Nat} {env : Fx.Env} {ah : AH} (i : In1 S K N q nm sz lo hi env ah) : ∃ env' ah', L2c env ah = .ok (.nx, env', ah') ∧ In1 S K N q nm sz lo hi env' ah' := by
  have hi4 : iRg1 (lCons (eC (.int 4)) lNil) env ah = .ok (⟨(List.range 4).map natD, []⟩, ah) := iRg1_ok (n := 4) rfl (by decide)
  obtain ⟨env', ah', q1, q2⟩ := forGo_all (src := ⟨(List.range 4).map natD, []⟩) (g := gN 7) (body := L1_law) (In1 S K N q nm sz lo hi) (fun _ _ _ => rfl) ((List.range 4).map natD) env ah i fun x hx env ah h => by
    obtain ⟨t, x10, x11, cs, n, s, rfl, rfl, hp⟩ := h
    obtain ⟨y10, y11, n', s', e⟩ := turn_ok R (S := S) (K := K) (N := N) (t := some x) (x10 := x10) (x11 := x11) hp
    refine ⟨_, _, _, _, rfl, e, some x, y10, y11, _, n', s', rfl, rfl, List.getElem?_set_self (List.getElem?_eq_some_iff.mp hp).1⟩
  refine ⟨env', ah', ?_, q2⟩
  unfold L2c sFor
  rw [hi4]
  exact q1
/-- one name -/
theorem name_ok {nm : D} {sz : List D} {lo hi : Int} (R : Rest nm sz lo hi) (hA : ∀ (S K P N x6 x7 x8 x9 x10 x11 : Option D) (cs : AH), L2a [S, some (.ref 0), K, P, N, some nm, x6, x7, x8, x9, x10, x11] (dicE :: cs) = .ok (.nx, [S, some (.ref 0), K, P, N, some nm, x6, x7, some (.int lo), some (.int hi), x10, x11], dicE :: cs))
    (hB : ∀ (S K P N x6 x7 x10 x11 : Option D) (cs : AH), L2b [S, some (.ref 0), K, P, N, some nm, x6, x7, some (.int lo), some (.int hi), x10, x11] (dicE :: cs) = .ok (.nx, [S, some (.ref 0), K, P, N, some nm, some (.lst sz), x7, some (.int lo), some (.int hi), x10, x11], dicE :: cs))
    {S K : Option D} {q : Nat} {env : Fx.Env} {ah : AH} (i : In2 S K q env ah) : ∃ e1 h1 e2 h2, gN 5 nm env ah = .ok (e1, h1) ∧ L2_law e1 h1 = .ok (.nx, e2, h2) ∧ In2 S K q e2 h2 := by
  obtain ⟨x5, x6, x7, x8, x9, x10, x11, cs, n, s, rfl, rfl, hp⟩ := i
  obtain ⟨env', ah', e, t, y10, y11, cs', n', s', rfl, rfl, hp'⟩ := turns_ok R (S := S) (K := K) (N := some n7) (q := q) ⟨x7, x10, x11, cs, n, s, rfl, rfl, hp⟩
  refine ⟨_, _, _, _, rfl, ?_, some nm, some (.lst sz), t, some (.int lo), some (.int hi), y10, y11, cs', n', s', rfl, rfl, hp'⟩
  rw [L2_eq]
  exact (sSeq_nx (hA S K _ _ x6 x7 x8 x9 x10 x11 cs)).trans ((sSeq_nx (hB S K _ _ x6 x7 x10 x11 cs)).trans e)
theorem rest0 : Rest (.str "queens") sz0 (1) (8) := fun d d0 d1 => by
  rcases twelve d0 d1 with rfl | rfl | rfl | rfl | rfl | rfl | rfl | rfl | rfl | rfl | rfl | rfl
  · exact ⟨_, rfl, fun S K P N t due cs => ⟨_, r_0_0 S K P N t due cs⟩⟩
  · exact ⟨_, rfl, fun S K P N t due cs => ⟨_, r_0_1 S K P N t due cs⟩⟩
  · exact ⟨_, rfl, fun S K P N t due cs => ⟨_, r_0_2 S K P N t due cs⟩⟩
  · exact ⟨_, rfl, fun S K P N t due cs => ⟨_, r_0_3 S K P N t due cs⟩⟩
  · exact ⟨_, rfl, fun S K P N t due cs => ⟨_, r_0_4 S K P N t due cs⟩⟩
  · exact ⟨_, rfl, fun S K P N t due cs => ⟨_, r_0_5 S K P N t due cs⟩⟩
  · exact ⟨_, rfl, fun S K P N t due cs => ⟨_, r_0_6 S K P N t due cs⟩⟩
  · exact ⟨_, rfl, fun S K P N t due cs => ⟨_, r_0_7 S K P N t due cs⟩⟩
  · exact ⟨_, rfl, fun S K P N t due cs => ⟨_, r_0_8 S K P N t due cs⟩⟩
  · exact ⟨_, rfl, fun S K P N t due cs => ⟨_, r_0_9 S K P N t due cs⟩⟩
  · exact ⟨_, rfl, fun S K P N t due cs => ⟨_, r_0_10 S K P N t due cs⟩⟩
  · exact ⟨_, rfl, fun S K P N t due cs => ⟨_, r_0_11 S K P N t due cs⟩⟩
theorem nam0 {S K : Option D} {q : Nat} {env : Fx.Env} {ah : AH} (i : In2 S K q env ah) : ∃ e1 h1 e2 h2, gN 5 (.str "queens") env ah = .ok (e1, h1) ∧ L2_law e1 h1 = .ok (.nx, e2, h2) ∧ In2 S K q e2 h2 := name_ok rest0 (fun _ _ _ _ _ _ _ _ _ _ _ => by kernel_rfl) (fun _ _ _ _ _ _ _ _ _ => by kernel_rfl) i
theorem rest1 : Rest (.str "rulers") sz1 (2) (5) := fun d d0 d1 => by
  rcases twelve d0 d1 with rfl | rfl | rfl | rfl | rfl | rfl | rfl | rfl | rfl | rfl | rfl | rfl
  · exact ⟨_, rfl, fun S K P N t due cs => ⟨_, r_1_0 S K P N t due cs⟩⟩
  · exact ⟨_, rfl, fun S K P N t due cs => ⟨_, r_1_1 S K P N t due cs⟩⟩
  · exact ⟨_, rfl, fun S K P N t due cs => ⟨_, r_1_2 S K P N t due cs⟩⟩
  · exact ⟨_, rfl, fun S K P N t due cs => ⟨_, r_1_3 S K P N t due cs⟩⟩
  · exact ⟨_, rfl, fun S K P N t due cs => ⟨_, r_1_4 S K P N t due cs⟩⟩
  · exact ⟨_, rfl, fun S K P N t due cs => ⟨_, r_1_5 S K P N t due cs⟩⟩
  · exact ⟨_, rfl, fun S K P N t due cs => ⟨_, r_1_6 S K P N t due cs⟩⟩
  · exact ⟨_, rfl, fun S K P N t due cs => ⟨_, r_1_7 S K P N t due cs⟩⟩
  · exact ⟨_, rfl, fun S K P N t due cs => ⟨_, r_1_8 S K P N t due cs⟩⟩
  · exact ⟨_, rfl, fun S K P N t due cs => ⟨_, r_1_9 S K P N t due cs⟩⟩
  · exact ⟨_, rfl, fun S K P N t due cs => ⟨_, r_1_10 S K P N t due cs⟩⟩
  · exact ⟨_, rfl, fun S K P N t due cs => ⟨_, r_1_11 S K P N t due cs⟩⟩
theorem nam1 {S K : Option D} {q : Nat} {env : Fx.Env} {ah : AH} (i : In2 S K q env ah) : ∃ e1 h1 e2 h2, gN 5 (.str "rulers") env ah = .ok (e1, h1) ∧ L2_law e1 h1 = .ok (.nx, e2, h2) ∧ In2 S K q e2 h2 := name_ok rest1 (fun _ _ _ _ _ _ _ _ _ _ _ => by kernel_rfl) (fun _ _ _ _ _ _ _ _ _ => by kernel_rfl) i
theorem rest2 : Rest (.str "square") sz2 (3) (3) := fun d d0 d1 => by
  rcases twelve d0 d1 with rfl | rfl | rfl | rfl | rfl | rfl | rfl | rfl | rfl | rfl | rfl | rfl
  · exact ⟨_, rfl, fun S K P N t due cs => ⟨_, r_2_0 S K P N t due cs⟩⟩
  · exact ⟨_, rfl, fun S K P N t due cs => ⟨_, r_2_1 S K P N t due cs⟩⟩
  · exact ⟨_, rfl, fun S K P N t due cs => ⟨_, r_2_2 S K P N t due cs⟩⟩
  · exact ⟨_, rfl, fun S K P N t due cs => ⟨_, r_2_3 S K P N t due cs⟩⟩
  · exact ⟨_, rfl, fun S K P N t due cs => ⟨_, r_2_4 S K P N t due cs⟩⟩
  · exact ⟨_, rfl, fun S K P N t due cs => ⟨_, r_2_5 S K P N t due cs⟩⟩
  · exact ⟨_, rfl, fun S K P N t due cs => ⟨_, r_2_6 S K P N t due cs⟩⟩
  · exact ⟨_, rfl, fun S K P N t due cs => ⟨_, r_2_7 S K P N t due cs⟩⟩
  · exact ⟨_, rfl, fun S K P N t due cs => ⟨_, r_2_8 S K P N t due cs⟩⟩
  · exact ⟨_, rfl, fun S K P N t due cs => ⟨_, r_2_9 S K P N t due cs⟩⟩
  · exact ⟨_, rfl, fun S K P N t due cs => ⟨_, r_2_10 S K P N t due cs⟩⟩
  · exact ⟨_, rfl, fun S K P N t due cs => ⟨_, r_2_11 S K P N t due cs⟩⟩
theorem nam2 {S K : Option D} {q : Nat} {env : Fx.Env} {ah : AH} (i : In2 S K q env ah) : ∃ e1 h1 e2 h2, gN 5 (.str "square") env ah = .ok (e1, h1) ∧ L2_law e1 h1 = .ok (.nx, e2, h2) ∧ In2 S K q e2 h2 := name_ok rest2 (fun _ _ _ _ _ _ _ _ _ _ _ => by kernel_rfl) (fun _ _ _ _ _ _ _ _ _ => by kernel_rfl) i
theorem rest3 : Rest (.str "coins") sz3 (1) (39) := fun d d0 d1 => by
  rcases twelve d0 d1 with rfl | rfl | rfl | rfl | rfl | rfl | rfl | rfl | rfl | rfl | rfl | rfl
  · exact ⟨_, rfl, fun S K P N t due cs => ⟨_, r_3_0 S K P N t due cs⟩⟩
  · exact ⟨_, rfl, fun S K P N t due cs => ⟨_, r_3_1 S K P N t due cs⟩⟩
  · exact ⟨_, rfl, fun S K P N t due cs => ⟨_, r_3_2 S K P N t due cs⟩⟩
  · exact ⟨_, rfl, fun S K P N t due cs => ⟨_, r_3_3 S K P N t due cs⟩⟩
  · exact ⟨_, rfl, fun S K P N t due cs => ⟨_, r_3_4 S K P N t due cs⟩⟩
  · exact ⟨_, rfl, fun S K P N t due cs => ⟨_, r_3_5 S K P N t due cs⟩⟩
  · exact ⟨_, rfl, fun S K P N t due cs => ⟨_, r_3_6 S K P N t due cs⟩⟩
  · exact ⟨_, rfl, fun S K P N t due cs => ⟨_, r_3_7 S K P N t due cs⟩⟩
  · exact ⟨_, rfl, fun S K P N t due cs => ⟨_, r_3_8 S K P N t due cs⟩⟩
  · exact ⟨_, rfl, fun S K P N t due cs => ⟨_, r_3_9 S K P N t due cs⟩⟩
  · exact ⟨_, rfl, fun S K P N t due cs => ⟨_, r_3_10 S K P N t due cs⟩⟩
  · exact ⟨_, rfl, fun S K P N t due cs => ⟨_, r_3_11 S K P N t due cs⟩⟩
theorem nam3 {S K : Option D} {q : Nat} {env : Fx.Env} {ah : AH} (i : In2 S K q env ah) : ∃ e1 h1 e2 h2, gN 5 (.str "coins") env ah = .ok (e1, h1) ∧ L2_law e1 h1 = .ok (.nx, e2, h2) ∧ In2 S K q e2 h2 := name_ok rest3 (fun _ _ _ _ _ _ _ _ _ _ _ => by kernel_rfl) (fun _ _ _ _ _ _ _ _ _ => by kernel_rfl) i
theorem rest4 : Rest (.str "Queens") sz4 (1) (1) := fun d d0 d1 => by
  rcases twelve d0 d1 with rfl | rfl | rfl | rfl | rfl | rfl | rfl | rfl | rfl | rfl | rfl | rfl
  · exact ⟨_, rfl, fun S K P N t due cs => ⟨_, r_4_0 S K P N t due cs⟩⟩
  · exact ⟨_, rfl, fun S K P N t due cs => ⟨_, r_4_1 S K P N t due cs⟩⟩
  · exact ⟨_, rfl, fun S K P N t due cs => ⟨_, r_4_2 S K P N t due cs⟩⟩
  · exact ⟨_, rfl, fun S K P N t due cs => ⟨_, r_4_3 S K P N t due cs⟩⟩
  · exact ⟨_, rfl, fun S K P N t due cs => ⟨_, r_4_4 S K P N t due cs⟩⟩
  · exact ⟨_, rfl, fun S K P N t due cs => ⟨_, r_4_5 S K P N t due cs⟩⟩
  · exact ⟨_, rfl, fun S K P N t due cs => ⟨_, r_4_6 S K P N t due cs⟩⟩
  · exact ⟨_, rfl, fun S K P N t due cs => ⟨_, r_4_7 S K P N t due cs⟩⟩
  · exact ⟨_, rfl, fun S K P N t due cs => ⟨_, r_4_8 S K P N t due cs⟩⟩
  · exact ⟨_, rfl, fun S K P N t due cs => ⟨_, r_4_9 S K P N t due cs⟩⟩
  · exact ⟨_, rfl, fun S K P N t due cs => ⟨_, r_4_10 S K P N t due cs⟩⟩
  · exact ⟨_, rfl, fun S K P N t due cs => ⟨_, r_4_11 S K P N t due cs⟩⟩
theorem nam4 {S K : Option D} {q : Nat} {env : Fx.Env} {ah : AH} (i : In2 S K q env ah) : ∃ e1 h1 e2 h2, gN 5 (.str "Queens") env ah = .ok (e1, h1) ∧ L2_law e1 h1 = .ok (.nx, e2, h2) ∧ In2 S K q e2 h2 := name_ok rest4 (fun _ _ _ _ _ _ _ _ _ _ _ => by kernel_rfl) (fun _ _ _ _ _ _ _ _ _ => by kernel_rfl) i
theorem rest5 : Rest (.str "") sz5 (1) (1) := fun d d0 d1 => by
  rcases twelve d0 d1 with rfl | rfl | rfl | rfl | rfl | rfl | rfl | rfl | rfl | rfl | rfl | rfl
  · exact ⟨_, rfl, fun S K P N t due cs => ⟨_, r_5_0 S K P N t due cs⟩⟩
  · exact ⟨_, rfl, fun S K P N t due cs => ⟨_, r_5_1 S K P N t due cs⟩⟩
  · exact ⟨_, rfl, fun S K P N t due cs => ⟨_, r_5_2 S K P N t due cs⟩⟩
  · exact ⟨_, rfl, fun S K P N t due cs => ⟨_, r_5_3 S K P N t due cs⟩⟩
  · exact ⟨_, rfl, fun S K P N t due cs => ⟨_, r_5_4 S K P N t due cs⟩⟩
  · exact ⟨_, rfl, fun S K P N t due cs => ⟨_, r_5_5 S K P N t due cs⟩⟩
  · exact ⟨_, rfl, fun S K P N t due cs => ⟨_, r_5_6 S K P N t due cs⟩⟩
  · exact ⟨_, rfl, fun S K P N t due cs => ⟨_, r_5_7 S K P N t due cs⟩⟩
  · exact ⟨_, rfl, fun S K P N t due cs => ⟨_, r_5_8 S K P N t due cs⟩⟩
  · exact ⟨_, rfl, fun S K P N t due cs => ⟨_, r_5_9 S K P N t due cs⟩⟩
  · exact ⟨_, rfl, fun S K P N t due cs => ⟨_, r_5_10 S K P N t due cs⟩⟩
  · exact ⟨_, rfl, fun S K P N t due cs => ⟨_, r_5_11 S K P N t due cs⟩⟩
theorem nam5 {S K : Option D} {q : Nat} {env : Fx.Env} {ah : AH} (i : In2 S K q env ah) : ∃ e1 h1 e2 h2, gN 5 (.str "") env ah = .ok (e1, h1) ∧ L2_law e1 h1 = .ok (.nx, e2, h2) ∧ In2 S K q e2 h2 := name_ok rest5 (fun _ _ _ _ _ _ _ _ _ _ _ => by kernel_rfl) (fun _ _ _ _ _ _ _ _ _ => by kernel_rfl) i
theorem rest6 : Rest (.str "coin") sz6 (1) (1) := fun d d0 d1 => by
  rcases twelve d0 d1 with rfl | rfl | rfl | rfl | rfl | rfl | rfl | rfl | rfl | rfl | rfl | rfl
  · exact ⟨_, rfl, fun S K P N t due cs => ⟨_, r_6_0 S K P N t due cs⟩⟩
  · exact ⟨_, rfl, fun S K P N t due cs => ⟨_, r_6_1 S K P N t due cs⟩⟩
  · exact ⟨_, rfl, fun S K P N t due cs => ⟨_, r_6_2 S K P N t due cs⟩⟩
  · exact ⟨_, rfl, fun S K P N t due cs => ⟨_, r_6_3 S K P N t due cs⟩⟩
  · exact ⟨_, rfl, fun S K P N t due cs => ⟨_, r_6_4 S K P N t due cs⟩⟩
  · exact ⟨_, rfl, fun S K P N t due cs => ⟨_, r_6_5 S K P N t due cs⟩⟩
  · exact ⟨_, rfl, fun S K P N t due cs => ⟨_, r_6_6 S K P N t due cs⟩⟩
  · exact ⟨_, rfl, fun S K P N t due cs => ⟨_, r_6_7 S K P N t due cs⟩⟩
  · exact ⟨_, rfl, fun S K P N t due cs => ⟨_, r_6_8 S K P N t due cs⟩⟩
  · exact ⟨_, rfl, fun S K P N t due cs => ⟨_, r_6_9 S K P N t due cs⟩⟩
  · exact ⟨_, rfl, fun S K P N t due cs => ⟨_, r_6_10 S K P N t due cs⟩⟩
  · exact ⟨_, rfl, fun S K P N t due cs => ⟨_, r_6_11 S K P N t due cs⟩⟩
theorem nam6 {S K : Option D} {q : Nat} {env : Fx.Env} {ah : AH} (i : In2 S K q env ah) : ∃ e1 h1 e2 h2, gN 5 (.str "coin") env ah = .ok (e1, h1) ∧ L2_law e1 h1 = .ok (.nx, e2, h2) ∧ In2 S K q e2 h2 := name_ok rest6 (fun _ _ _ _ _ _ _ _ _ _ _ => by kernel_rfl) (fun _ _ _ _ _ _ _ _ _ => by kernel_rfl) i
theorem rest7 : Rest (.non) sz7 (1) (1) := fun d d0 d1 => by
  rcases twelve d0 d1 with rfl | rfl | rfl | rfl | rfl | rfl | rfl | rfl | rfl | rfl | rfl | rfl
  · exact ⟨_, rfl, fun S K P N t due cs => ⟨_, r_7_0 S K P N t due cs⟩⟩
  · exact ⟨_, rfl, fun S K P N t due cs => ⟨_, r_7_1 S K P N t due cs⟩⟩
  · exact ⟨_, rfl, fun S K P N t due cs => ⟨_, r_7_2 S K P N t due cs⟩⟩
  · exact ⟨_, rfl, fun S K P N t due cs => ⟨_, r_7_3 S K P N t due cs⟩⟩
  · exact ⟨_, rfl, fun S K P N t due cs => ⟨_, r_7_4 S K P N t due cs⟩⟩
  · exact ⟨_, rfl, fun S K P N t due cs => ⟨_, r_7_5 S K P N t due cs⟩⟩
  · exact ⟨_, rfl, fun S K P N t due cs => ⟨_, r_7_6 S K P N t due cs⟩⟩
  · exact ⟨_, rfl, fun S K P N t due cs => ⟨_, r_7_7 S K P N t due cs⟩⟩
  · exact ⟨_, rfl, fun S K P N t due cs => ⟨_, r_7_8 S K P N t due cs⟩⟩
  · exact ⟨_, rfl, fun S K P N t due cs => ⟨_, r_7_9 S K P N t due cs⟩⟩
  · exact ⟨_, rfl, fun S K P N t due cs => ⟨_, r_7_10 S K P N t due cs⟩⟩
  · exact ⟨_, rfl, fun S K P N t due cs => ⟨_, r_7_11 S K P N t due cs⟩⟩
theorem nam7 {S K : Option D} {q : Nat} {env : Fx.Env} {ah : AH} (i : In2 S K q env ah) : ∃ e1 h1 e2 h2, gN 5 (.non) env ah = .ok (e1, h1) ∧ L2_law e1 h1 = .ok (.nx, e2, h2) ∧ In2 S K q e2 h2 := name_ok rest7 (fun _ _ _ _ _ _ _ _ _ _ _ => by kernel_rfl) (fun _ _ _ _ _ _ _ _ _ => by kernel_rfl) i
theorem rest8 : Rest (.int 5) sz8 (1) (1) := fun d d0 d1 => by
  rcases twelve d0 d1 with rfl | rfl | rfl | rfl | rfl | rfl | rfl | rfl | rfl | rfl | rfl | rfl
  · exact ⟨_, rfl, fun S K P N t due cs => ⟨_, r_8_0 S K P N t due cs⟩⟩
  · exact ⟨_, rfl, fun S K P N t due cs => ⟨_, r_8_1 S K P N t due cs⟩⟩
  · exact ⟨_, rfl, fun S K P N t due cs => ⟨_, r_8_2 S K P N t due cs⟩⟩
  · exact ⟨_, rfl, fun S K P N t due cs => ⟨_, r_8_3 S K P N t due cs⟩⟩
  · exact ⟨_, rfl, fun S K P N t due cs => ⟨_, r_8_4 S K P N t due cs⟩⟩
  · exact ⟨_, rfl, fun S K P N t due cs => ⟨_, r_8_5 S K P N t due cs⟩⟩
  · exact ⟨_, rfl, fun S K P N t due cs => ⟨_, r_8_6 S K P N t due cs⟩⟩
  · exact ⟨_, rfl, fun S K P N t due cs => ⟨_, r_8_7 S K P N t due cs⟩⟩
  · exact ⟨_, rfl, fun S K P N t due cs => ⟨_, r_8_8 S K P N t due cs⟩⟩
  · exact ⟨_, rfl, fun S K P N t due cs => ⟨_, r_8_9 S K P N t due cs⟩⟩
  · exact ⟨_, rfl, fun S K P N t due cs => ⟨_, r_8_10 S K P N t due cs⟩⟩
  · exact ⟨_, rfl, fun S K P N t due cs => ⟨_, r_8_11 S K P N t due cs⟩⟩
theorem nam8 {S K : Option D} {q : Nat} {env : Fx.Env} {ah : AH} (i : In2 S K q env ah) : ∃ e1 h1 e2 h2, gN 5 (.int 5) env ah = .ok (e1, h1) ∧ L2_law e1 h1 = .ok (.nx, e2, h2) ∧ In2 S K q e2 h2 := name_ok rest8 (fun _ _ _ _ _ _ _ _ _ _ _ => by kernel_rfl) (fun _ _ _ _ _ _ _ _ _ => by kernel_rfl) i
theorem rest9 : Rest (.lst [.str "queens"]) sz9 (1) (1) := fun d d0 d1 => by
  rcases twelve d0 d1 with rfl | rfl | rfl | rfl | rfl | rfl | rfl | rfl | rfl | rfl | rfl | rfl
  · exact ⟨_, rfl, fun S K P N t due cs => ⟨_, r_9_0 S K P N t due cs⟩⟩
  · exact ⟨_, rfl, fun S K P N t due cs => ⟨_, r_9_1 S K P N t due cs⟩⟩
  · exact ⟨_, rfl, fun S K P N t due cs => ⟨_, r_9_2 S K P N t due cs⟩⟩
  · exact ⟨_, rfl, fun S K P N t due cs => ⟨_, r_9_3 S K P N t due cs⟩⟩
  · exact ⟨_, rfl, fun S K P N t due cs => ⟨_, r_9_4 S K P N t due cs⟩⟩
  · exact ⟨_, rfl, fun S K P N t due cs => ⟨_, r_9_5 S K P N t due cs⟩⟩
  · exact ⟨_, rfl, fun S K P N t due cs => ⟨_, r_9_6 S K P N t due cs⟩⟩
  · exact ⟨_, rfl, fun S K P N t due cs => ⟨_, r_9_7 S K P N t due cs⟩⟩
  · exact ⟨_, rfl, fun S K P N t due cs => ⟨_, r_9_8 S K P N t due cs⟩⟩
  · exact ⟨_, rfl, fun S K P N t due cs => ⟨_, r_9_9 S K P N t due cs⟩⟩
  · exact ⟨_, rfl, fun S K P N t due cs => ⟨_, r_9_10 S K P N t due cs⟩⟩
  · exact ⟨_, rfl, fun S K P N t due cs => ⟨_, r_9_11 S K P N t due cs⟩⟩
theorem nam9 {S K : Option D} {q : Nat} {env : Fx.Env} {ah : AH} (i : In2 S K q env ah) : ∃ e1 h1 e2 h2, gN 5 (.lst [.str "queens"]) env ah = .ok (e1, h1) ∧ L2_law e1 h1 = .ok (.nx, e2, h2) ∧ In2 S K q e2 h2 := name_ok rest9 (fun _ _ _ _ _ _ _ _ _ _ _ => by kernel_rfl) (fun _ _ _ _ _ _ _ _ _ => by kernel_rfl) i
theorem rest10 : Rest (.tup [.str "coins"]) sz10 (1) (1) := fun d d0 d1 => by
  rcases twelve d0 d1 with rfl | rfl | rfl | rfl | rfl | rfl | rfl | rfl | rfl | rfl | rfl | rfl
  · exact ⟨_, rfl, fun S K P N t due cs => ⟨_, r_10_0 S K P N t due cs⟩⟩
  · exact ⟨_, rfl, fun S K P N t due cs => ⟨_, r_10_1 S K P N t due cs⟩⟩
  · exact ⟨_, rfl, fun S K P N t due cs => ⟨_, r_10_2 S K P N t due cs⟩⟩
  · exact ⟨_, rfl, fun S K P N t due cs => ⟨_, r_10_3 S K P N t due cs⟩⟩
  · exact ⟨_, rfl, fun S K P N t due cs => ⟨_, r_10_4 S K P N t due cs⟩⟩
  · exact ⟨_, rfl, fun S K P N t due cs => ⟨_, r_10_5 S K P N t due cs⟩⟩
  · exact ⟨_, rfl, fun S K P N t due cs => ⟨_, r_10_6 S K P N t due cs⟩⟩
  · exact ⟨_, rfl, fun S K P N t due cs => ⟨_, r_10_7 S K P N t due cs⟩⟩
  · exact ⟨_, rfl, fun S K P N t due cs => ⟨_, r_10_8 S K P N t due cs⟩⟩
  · exact ⟨_, rfl, fun S K P N t due cs => ⟨_, r_10_9 S K P N t due cs⟩⟩
  · exact ⟨_, rfl, fun S K P N t due cs => ⟨_, r_10_10 S K P N t due cs⟩⟩
  · exact ⟨_, rfl, fun S K P N t due cs => ⟨_, r_10_11 S K P N t due cs⟩⟩
theorem nam10 {S K : Option D} {q : Nat} {env : Fx.Env} {ah : AH} (i : In2 S K q env ah) : ∃ e1 h1 e2 h2, gN 5 (.tup [.str "coins"]) env ah = .ok (e1, h1) ∧ L2_law e1 h1 = .ok (.nx, e2, h2) ∧ In2 S K q e2 h2 := name_ok rest10 (fun _ _ _ _ _ _ _ _ _ _ _ => by kernel_rfl) (fun _ _ _ _ _ _ _ _ _ => by kernel_rfl) i
theorem rest11 : Rest (.bl true) sz11 (1) (1) := fun d d0 d1 => by
  rcases twelve d0 d1 with rfl | rfl | rfl | rfl | rfl | rfl | rfl | rfl | rfl | rfl | rfl | rfl
  · exact ⟨_, rfl, fun S K P N t due cs => ⟨_, r_11_0 S K P N t due cs⟩⟩
  · exact ⟨_, rfl, fun S K P N t due cs => ⟨_, r_11_1 S K P N t due cs⟩⟩
  · exact ⟨_, rfl, fun S K P N t due cs => ⟨_, r_11_2 S K P N t due cs⟩⟩
  · exact ⟨_, rfl, fun S K P N t due cs => ⟨_, r_11_3 S K P N t due cs⟩⟩
  · exact ⟨_, rfl, fun S K P N t due cs => ⟨_, r_11_4 S K P N t due cs⟩⟩
  · exact ⟨_, rfl, fun S K P N t due cs => ⟨_, r_11_5 S K P N t due cs⟩⟩
  · exact ⟨_, rfl, fun S K P N t due cs => ⟨_, r_11_6 S K P N t due cs⟩⟩
  · exact ⟨_, rfl, fun S K P N t due cs => ⟨_, r_11_7 S K P N t due cs⟩⟩
  · exact ⟨_, rfl, fun S K P N t due cs => ⟨_, r_11_8 S K P N t due cs⟩⟩
  · exact ⟨_, rfl, fun S K P N t due cs => ⟨_, r_11_9 S K P N t due cs⟩⟩
  · exact ⟨_, rfl, fun S K P N t due cs => ⟨_, r_11_10 S K P N t due cs⟩⟩
  · exact ⟨_, rfl, fun S K P N t due cs => ⟨_, r_11_11 S K P N t due cs⟩⟩
theorem nam11 {S K : Option D} {q : Nat} {env : Fx.Env} {ah : AH} (i : In2 S K q env ah) : ∃ e1 h1 e2 h2, gN 5 (.bl true) env ah = .ok (e1, h1) ∧ L2_law e1 h1 = .ok (.nx, e2, h2) ∧ In2 S K q e2 h2 := name_ok rest11 (fun _ _ _ _ _ _ _ _ _ _ _ => by kernel_rfl) (fun _ _ _ _ _ _ _ _ _ => by kernel_rfl) i
/-- one cell of the script -/
theorem cell_ok (ns : List Int) (hl : ns.length ≤ 63) (k : Int) (hk : 0 ≤ k) {x3 x4 x5 x6 x7 x8 x9 x10 x11 : Option D} {cs : AH} : ∃ y3 y4 y5 y6 y7 y8 y9 y10 y11 cs', L3_law [some (.lst (ns.map .int)), some (.ref 0), some (.int k), x3, x4, x5, x6, x7, x8, x9, x10, x11] (dicE :: cs) = .ok (.nx, [some (.lst (ns.map .int)), some (.ref 0), some (.int k), y3, y4, y5, y6, y7, y8, y9, y10, y11], dicE :: cs') := by
  obtain ⟨n, s, pl⟩ := pool_ok (ns := ns) (k := k) (ah := dicE :: cs) hk (by omega)
  have ha : L3a [some (.lst (ns.map .int)), some (.ref 0), some (.int k), x3, x4, x5, x6, x7, x8, x9, x10, x11] (dicE :: cs) = .ok (.nx, [some (.lst (ns.map .int)), some (.ref 0), some (.int k), some (.ref (cs.length + 1)), x4, x5, x6, x7, x8, x9, x10, x11], dicE :: (cs ++ [.lst [.int n, .int s]])) := by
    unfold L3a
    exact sSet_ok (eCall_ok (h1 := dicE :: cs) rfl pl)
  have hb : ∀ (x3 x4 : Option D) (h : AH), L3b [some (.lst (ns.map .int)), some (.ref 0), some (.int k), x3, x4, x5, x6, x7, x8, x9, x10, x11] h = .ok (.nx, [some (.lst (ns.map .int)), some (.ref 0), some (.int k), x3, some n7, x5, x6, x7, x8, x9, x10, x11], h) := fun _ _ _ => by kernel_rfl
  obtain ⟨e', h', q1, q2⟩ := forGo_all (src := ⟨nms, []⟩) (g := gN 5) (body := L2_law) (In2 (some (.lst (ns.map .int))) (some (.int k)) cs.length) (fun _ _ _ => rfl) nms [some (.lst (ns.map .int)), some (.ref 0), some (.int k), some (.ref (cs.length + 1)), some n7, x5, x6, x7, x8, x9, x10, x11] (dicE :: (cs ++ [.lst [.int n, .int s]]))
    ⟨x5, x6, x7, x8, x9, x10, x11, _, n, s, rfl, rfl, by simp⟩ fun x hx env ah i => by
    simp only [nms, List.mem_cons, List.not_mem_nil, or_false] at hx
    rcases hx with rfl | rfl | rfl | rfl | rfl | rfl | rfl | rfl | rfl | rfl | rfl | rfl
    · exact nam0 i
    · exact nam1 i
    · exact nam2 i
    · exact nam3 i
    · exact nam4 i
    · exact nam5 i
    · exact nam6 i
    · exact nam7 i
    · exact nam8 i
    · exact nam9 i
    · exact nam10 i
    · exact nam11 i
  obtain ⟨y5, y6, y7, y8, y9, y10, y11, cs', n', s', rfl, rfl, _⟩ := q2
  refine ⟨some (.ref (cs.length + 1)), some n7, y5, y6, y7, y8, y9, y10, y11, cs', ?_⟩
  rw [L3_eq]
  refine (sSeq_nx ha).trans ((sSeq_nx (hb _ _ _)).trans ?_)
  unfold L3c sFor
  have hi : ∀ h : AH, iSeq (e2 (oAdd false) (eVar 4) (eLst false (lCons (eC .non) (lCons (eC (.int 5)) (lCons (eLst false (lCons (eC (.str "queens")) (lNil))) (lCons (eTup (lCons (eC (.str "coins")) (lNil))) (lCons (eC (.bl true)) (lNil)))))))) [some (.lst (ns.map .int)), some (.ref 0), some (.int k), some (.ref (cs.length + 1)), some n7, x5, x6, x7, x8, x9, x10, x11] h = .ok (⟨nms, []⟩, h) := fun h => by kernel_rfl
  rw [hi]
  exact q1
theorem law_ok (ns : List Int) (hl : ns.length ≤ 63) : ∃ ah, m_law [.lst (ns.map .int)] [] = .ok (.bl true, ah) := by
  have hi : ∃ j : Int, iRg1 (lCons (eL bMax (lCons (eC (.int 1)) (lCons (eL bMin (lCons (eL bLen (lCons (eVar 0) (lNil))) (lCons (eC (.int 10)) (lNil)))) (lNil)))) (lNil)) [some (D.lst (ns.map .int)), some (.ref 0), none, none, none, none, none, none, none, none, none, none] [dicE] = .ok (⟨rngD 0 j.toNat, []⟩, [dicE]) := by
    refine ⟨if (if 10 < (ns.length : Int) then 10 else (ns.length : Int)) > 1 then (if 10 < (ns.length : Int) then 10 else (ns.length : Int)) else 1, ?_⟩
    have hb : b62 (if (if 10 < (ns.length : Int) then 10 else (ns.length : Int)) > 1 then (if 10 < (ns.length : Int) then 10 else (ns.length : Int)) else 1) = true := by
      unfold b62
      rw [Bool.and_eq_true, decide_eq_true_eq, decide_eq_true_eq]
      split <;> split <;> omega
    simp only [iRg1, lCons, lNil, eL, eC, eVar, bMax, bMin, bLen, R.bind, asS, asL, okO, List.length_map, List.getElem?_cons_zero]
    rw [hb]
    rfl
  obtain ⟨j, hi⟩ := hi
  obtain ⟨env', ah', q1, _⟩ := forGo_all (src := ⟨rngD 0 j.toNat, []⟩) (g := gN 2) (body := L3_law) (fun env ah => ∃ x2 x3 x4 x5 x6 x7 x8 x9 x10 x11 cs, env = [some (D.lst (ns.map .int)), some (.ref 0), x2, x3, x4, x5, x6, x7, x8, x9, x10, x11] ∧ ah = dicE :: cs) (fun _ _ _ => rfl) (rngD 0 j.toNat) [some (D.lst (ns.map .int)), some (.ref 0), none, none, none, none, none, none, none, none, none, none] [dicE] ⟨_, _, _, _, _, _, _, _, _, _, _, rfl, rfl⟩ fun x hx env ah h => by
    unfold rngD at hx
    obtain ⟨i, _, rfl⟩ := List.mem_map.mp hx
    obtain ⟨x2, x3, x4, x5, x6, x7, x8, x9, x10, x11, cs, rfl, rfl⟩ := h
    obtain ⟨y3, y4, y5, y6, y7, y8, y9, y10, y11, cs', e⟩ := cell_ok ns hl (0 + (i : Int)) (by omega) (x3 := x3) (x4 := x4) (x5 := x5) (x6 := x6) (x7 := x7) (x8 := x8) (x9 := x9) (x10 := x10) (x11 := x11) (cs := cs)
    exact ⟨_, _, _, _, rfl, e, _, y3, y4, y5, y6, y7, y8, y9, y10, y11, cs', rfl, rfl⟩
  refine ⟨ah', runB_rt (e1 := env') rfl ?_⟩
  rw [B_eq]
  refine (sSeq_nx (e1 := [some (D.lst (ns.map .int)), some (.ref 0), none, none, none, none, none, none, none, none, none, none]) (h1 := [dicE]) rfl).trans ((sSeq_nx (e1 := env') (h1 := ah') ?_).trans (sRet_ok rfl))
  unfold B2 sFor
  rw [hi]
  exact q1
theorem plain_law (ns : List Int) (hl : ns.length ≤ 63) : ∃ ah, m_law [.lst (ns.map .int)] [] = .ok (.bl true, ah) := law_ok ns hl
end Lw

open PySem PySem.W PyProof.Rows
set_option Elab.async false
theorem PySem.Challenge.cw_reasonedboxes_k65_no_riddles_holds : PySem.Challenge.rw_reasonedboxes_k65_no_riddles.Holds := by
  exact Lw.law_holds Lw.plain_law
