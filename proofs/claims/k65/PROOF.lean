import PyProof.Rows.All
import Wide.All
import OpenK.AllK
import Wide.FinOn
import HandS.Base
import HandS.Call
import HandS.List
import HandS.Comp
import HandS.Exc
import HandS.HeadHook2
import HandS.Lambda
import KE.KeyNested
import KE.KDictKeyed
import HandS.Text
import HandS.Star
import HandS.TupAny
import HandS.TupMul
import HandS.IsInst
import HandS.StrMore
import HandS.Deep
import HandS.Conv
import HandS.RaiseMore
import PyProof.ReprRoads
import HandS.NoneIn
import HandS.Style
import HandS.Iter
import HandS.Defaults
import HandS.Property
import HandS.CallSlots
import HandS.HeadEnd
import HandS.Ends
import HandS.MakeKwOnly
import HandS.FStr
import HandS.OwnEq
import HandS.Small
import KE.KFmtOwn
import KE.GoesMore
import KE.GoesEnum
import KE.KExcSuper
import HandS.ExcInit
import HandS.ExcOwn
import HandS.TryMany
import HandS.WordsExc
import HandS.HotCalls
import HandS.ExcField
import HandS.ExcIs
import KE.KExcIs
import HandS.SetFor
import KE.KNestM
import PyProof.ListRange
import HandS.HeadNt
import KE.KUnpackStar
import HandS.Dict
import PyProof.StrBlock2
import PyProof.NeKinds
import HandS.TryOnly
import HandS.HeadHook3
import HandS.Zip
import KE.KDictWalk
import HandS.SetKeys
import HandS.Strs
import HandS.Words
import HandS.Head0
import HandS.Head1
import HandS.Head2
import KE.KxText
import PySem.Challenge.RW_boxthieves_k65_values_that_are_none
set_option Elab.async false
set_option linter.all false
set_option maxRecDepth 100000
set_option maxHeartbeats 8000000
namespace FL
open PySem PySem.Spec PyProof.Rows L2
inductive D where
  | non | bl (b : Bool) | int (i : Int) | str (x : Str)
  | lst (xs : List D) | tup (xs : List D) | scr (ns : List Int)
  | dk (ks : List Key) (vs : List D)
  | fk (ks : List Key) (vs : List D)
  | dn (lk : Bool) (ks : List NestedKey) (vs : List D)
  | ins (c : Str) (ns : List Str) (fs : List D)
  | exn (a dd : Addr) (c : Str) (ns : List Str) (fs : List D)
  | cls (c : Str)
instance : Inhabited D := ⟨.non⟩
abbrev Frg := PySem.W.Frag
class Wrl where
  P : Program
  w : World
variable [Wrl]
class Tabl where
  tl : Frg → List (Addr × Addr × Str)
def Tabl.tabs [Tabl] (K : Frg) : List (Addr × Str) := (Tabl.tl K).map fun t => (t.2.1, t.2.2)
variable [Tabl]
end FL
namespace FL
open PySem PySem.Spec PyProof.Rows L2
variable [Wrl] [Tabl]
def cdOf (K : Frg) (f : Addr) : Value := match K.lookup f with
  | some ⟨_, _, .func fd, _⟩ => fd.code
  | _ => .none
end FL
namespace FL
open PySem PySem.Spec PyProof.Rows L2
abbrev eT : Obj := { cls := .none, data := .fields #[] }
abbrev AlE : Type := He.AlD × Bool
def obsE (fa : List He.Fa) (fn : List He.DefD) (ex : Frg → Bool) (K : Frg) : AlE := (He.obsD fa fn K, ex K)
section
variable [Wrl]
mutual
def cst (K : Frg) : D → Value → Bool
  | .non, .none => true
  | .bl b, .bool c => b == c
  | .int i, .int j _ => decide (i = j)
  | .str x, .str y _ => decide (x = y)
  | .tup ds, .ref a => (match K.lookup a with
    | some ⟨.type c, _, .seq its _, _⟩ => decide (c = "tuple") && (decide (its.size ≤ sizeLine) && csts K ds its.toList)
    | _ => false)
  | _, _ => false
def csts (K : Frg) : List D → List Value → Bool
  | [], [] => true
  | d :: ds, u :: us => cst K d u && csts K ds us
  | _, _ => false
end
def cstB (K : Frg) (x : Str) (d : D) : Bool := match PySem.W.nsIn K mainGlobals x with
  | some (some u) => cst K d u
  | _ => false
end
end FL
namespace FL
open PySem PySem.Spec PyProof.Rows L2
variable [Wrl] [Tabl]
variable {X : Cx} {W : WX} {e a b c o tg iter value : Expr} {f g f1 f2 f3 fo fa : EF} {pos pos' apos kpos p : Pos} {es : List Expr} {u uk : AF} {kws : List Keyword}
def ownB (K : Frg) (cn : Str) : Bool := (He.Fa.cls cn).ok K && (He.eqO (PySem.W.findIn K (.ref (He.ga K cn)) "__class__") (some (some (.builtin "object.__class__"))) && (He.eqO (PySem.W.specialIn K (.builtin "object.__class__") "__get__") (some (some (.builtin "getset_descriptor.__get__"))) &&
  (decide (PySem.W.takesIn K (.builtin "object.__class__") = some true) && decide (PySem.W.mroIn K (He.ga K cn) (.type "object") = some true))))
def btys : List String := ["NoneType", "bool", "int", "str", "list", "tuple", "dict"]
def isCB (K : Frg) (cs : List Str) (c : Str) : Bool := (btys.all fun t => decide (PySem.W.kitOne K (.type t) (.ref (He.ga K c)) = some false)) && cs.all fun c' => ownB K c' && decide (PySem.W.kitOne K (.ref (He.ga K c')) (.ref (He.ga K c)) = some (decide (c' = c)))
end FL
namespace FL
open PySem PySem.Spec PyProof.Rows L2
variable [Wrl] [Tabl]
structure DefX where
  adr : Frg → Addr
  d : He.DefD
def fnA (K : Frg) (a : Addr) : He.FnW := match K.lookup a with
  | some ⟨_, _, .func fd, _⟩ => some (fd.name, fd.qualname, fd.params, fd.body, fd.scope, fd.globals, fd.closure, fd.builtins)
  | _ => none
def okA (K : Frg) (x : DefX) : Bool := PySem.W.keepIn K (.ref (x.adr K)) && (match K.lookup (x.adr K) with
  | some ⟨_, _, .func fd, _⟩ => PySem.W.codeIn K fd.code x.d.qual && (He.dflB K fd.defaults (x.d.dvs K) && He.kwdB K fd.kwdefaults (x.d.kws K))
  | _ => false)
abbrev AlX : Type := AlE × List He.FnW
def exX (ex : Frg → Bool) (xs : List DefX) (K : Frg) : Bool := ex K && xs.all (okA K)
def obsX (fa : List He.Fa) (fn : List He.DefD) (ex : Frg → Bool) (xs : List DefX) (K : Frg) : AlX := (obsE fa fn (exX ex xs) K, xs.map fun x => fnA K (x.adr K))
def SaysX (xs : List DefX) (K : Frg) : Prop := xs.map (fun x => fnA K (x.adr K)) = xs.map fun x => x.d.val
def prAd (K : Frg) (c f : Str) : Addr := He.ma K (He.ga K c) f
def gtAd (K : Frg) (c f : Str) : Addr := match PySem.W.recIn K (prAd K c f) "property" with
  | some (.ref g :: _) => g
  | _ => 0
def propB (K : Frg) (c f : Str) : Bool := He.eqO (PySem.W.findIn K (.ref (He.ga K c)) f) (some (some (.ref (prAd K c f)))) && (He.eqO (PySem.W.specialIn K (.ref (prAd K c f)) "__get__") (some (some (.builtin "property.__get__"))) && (decide (PySem.W.takesIn K (.ref (prAd K c f)) = some true) &&
  (match PySem.W.recIn K (prAd K c f) "property" with
  | some (.ref _ :: _) => true
  | _ => false)))
def dfB (K : Frg) (p : Str × Option Str) (i : Nat) (d : D) : Bool := cst K d (.ref (He.dflAt p i K))
end FL
namespace FL
open PySem PySem.Spec PyProof.Rows L2
def oexC (K : Frg) (C : Addr) : Bool := match K.lookup C with
  | some ⟨.type "type", _, .cls cd, sl⟩ => (match cd.mro, sl.toList with
    | .ref C' :: bm, [_, _, _, _, some (.builtin n), _] => C' == C && (n == "ValueError.__new__" && (!cd.hasDel && (cd.hasDict && PySem.HandSPX.refsVE bm)))
    | _, _ => false)
  | _ => false
def oexB (K : Frg) (c : Str) : Bool := oexC K (He.ga K c) && (decide (PySem.W.findIn K (.ref (He.ga K c)) "__setattr__" = some (some (.builtin "object.__setattr__"))) && (decide (PySem.W.subIn K (.ref (He.ga K c)) (.type "BaseException") = some true) &&
  (decide (PySem.W.typeIn K (.ref (He.ga K c)) = some (.type "type")) && PySem.W.keepIn K (.ref (He.ga K c)))))
structure ErrD where
  c : Str
  n : Str
  name : Str
  qual : Str
  params : Arguments
  body : List Stmt
  scope : Scope
def ErrD.at_ (e : ErrD) (K : Frg) : Addr := He.ma K (He.ga K e.c) "__init__"
def ErrD.val (e : ErrD) : He.FnW := some (e.name, e.qual, e.params, .stmts e.body, e.scope, mainGlobals, [("__class__", 0)], builtinsNs)
def fnE (K : Frg) (a : Addr) : He.FnW := match K.lookup a with
  | some ⟨_, _, .func fd, _⟩ => some (fd.name, fd.qualname, fd.params, fd.body, fd.scope, fd.globals, fd.closure.map fun p => (p.1, 0), fd.builtins)
  | _ => none
def cdA (K : Frg) (f : Addr) : Addr := match cdOf K f with
  | .ref c => c
  | _ => 0
def clA : List (Str × Addr) → Addr
  | [(_, c)] => c
  | _ => 0
def ccA (K : Frg) (f : Addr) : Addr := match K.lookup f with
  | some ⟨_, _, .func fd, _⟩ => clA fd.closure
  | _ => 0
def tbA (K : Frg) (c : Addr) : Addr := match K.lookup c with
  | some ⟨_, _, .fields vs, _⟩ => (match (vs[11]? : Option Value) with
    | some (.ref P) => P
    | _ => 0)
  | _ => 0
def fileB (K : Frg) (file : Str) (c : Addr) : Bool := match K.lookup c with
  | some ⟨_, _, .fields vs, _⟩ => (match (vs[2]? : Option Value) with
    | some (.str f _) => (file : Str) == f
    | _ => false)
  | _ => false
def cellB (K : Frg) (cc C : Addr) : Bool := match K.lookup cc with
  | some ⟨_, _, .cell (some (.ref D)), _⟩ => D == C
  | _ => false
def dfN (K : Frg) (f : Addr) : Bool := match K.lookup f with
  | some ⟨_, _, .func fd, _⟩ => decide (fd.defaults = .none)
  | _ => false
def xinB (file : Str) (K : Frg) (e : ErrD) : Bool :=
  decide (cdOf K (e.at_ K) = .ref (cdA K (e.at_ K))) && (PySem.W.codeIn K (.ref (cdA K (e.at_ K))) e.qual && (fileB K file (cdA K (e.at_ K)) && (cellB K (ccA K (e.at_ K)) (He.ga K e.c) && ((PySem.W.clsIn K (He.ga K e.c)).isSome && (decide (PySem.W.mroIn K (He.ga K e.c) (.ref (He.ga K e.c)) = some true) &&
  (decide (PySem.W.ks_superIn K (He.ga K e.c) (He.ga K e.c) "__init__" = some (some (.builtin "ValueError.__init__"))) && (decide (PySem.W.subIn K (.ref (He.ga K e.c)) (.type "ValueError") = some true) && (decide (PySem.W.nsIn K cStatics "thirdparty.any" = some none) &&
  (decide (PySem.W.findIn K (.ref (He.ga K e.c)) e.n = some none) && (decide (PySem.W.findIn K (.ref (He.ga K e.c)) "__init__" = some (some (.ref (e.at_ K)))) && decide (PySem.W.typeIn K (.ref (e.at_ K)) = some (.type "function")))))))))))) && (oexB K e.c && dfN K (e.at_ K))
end FL
namespace FL
open PySem PySem.Spec PyProof.Rows L2
def isTab : Obj → Bool
  | ⟨.none, none, .fields vs, sl⟩ => vs.toList.isEmpty && sl.toList.isEmpty
  | _ => false
theorem isTab_eq {o : Obj} (h : isTab o = true) : o = eT := by
  unfold isTab at h
  split at h
  · rename_i vs sl
    obtain ⟨h1, h2⟩ := He.ba h
    obtain ⟨l1⟩ := vs
    obtain ⟨l2⟩ := sl
    have e1 : l1 = [] := List.isEmpty_iff.mp h1
    have e2 : l2 = [] := List.isEmpty_iff.mp h2
    rw [e1, e2]
  · cases h
def tabG (g : Addr → Option Obj) (a : Addr) : Bool := match g a with
  | some o => isTab o
  | none => false
def tlsOf (L : List ((Frg → Addr) × Str)) (K : Frg) : List (Addr × Addr × Str) := L.map fun x => (cdA K (x.1 K), tbA K (cdA K (x.1 K)), (x.2 ++ ".<locals>.") ++ "<lambda>")
def tabB (tl : Frg → List (Addr × Addr × Str)) (K : Frg) : Bool := (tl K).all fun t => PySem.W.codeHdIn K t.1 t.2.1 && ((K.lookup t.2.1).isNone && (tl K).all fun u => t.2.1 != u.2.1 || decide (t.2.2 = u.2.2))
def addB : List Addr → Nat → List Addr → Nat × List Addr
  | [], m, out => (m, out)
  | a :: r, m, out => bif Nat.beq (Nat.land (Nat.shiftRight m a) 1) 1 then addB r m out else addB r (Nat.lor m (Nat.shiftLeft 1 a)) (a :: out)
def refB (g : Addr → Option Obj) (a : Addr) : List Addr := match g a with
  | some o => He.refsD o
  | none => []
def growB (g : Addr → Option Obj) : Nat → Nat × List Addr → List Addr
  | 0, (_, fr) => fr
  | n + 1, (m, fr) => fr ++ growB g n (addB (fr.flatMap (refB g)) m [])
def asN (g : Addr → Option Obj) (n : Nat) : List Addr := growB g n (addB (He.asD g 0) 0 [])
def asT (tl : Frg → List (Addr × Addr × Str)) (g : Addr → Option Obj) (n : Nat) : List Addr := (cStatics :: asN g n).filter fun a => !((tl (He.frG g (cStatics :: asN g n))).map fun t => t.2.1).contains a
abbrev AlT : Type := AlX × (List He.FnW × Bool)
def obsT (fa : List He.Fa) (fn : List He.DefD) (ex : Frg → Bool) (xs : List DefX) (es : List ErrD) (tl : Frg → List (Addr × Addr × Str)) (g : Addr → Option Obj) (K : Frg) : AlT :=
  (obsX fa fn ex xs K, es.map (fun e => fnE K (e.at_ K)), tabB tl K && (tl K).all fun t => tabG g t.2.1)
def SaysT (es : List ErrD) (K : Frg) : Prop := es.map (fun e => fnE K (e.at_ K)) = es.map ErrD.val
end FL
namespace FL
open PySem PySem.Spec PyProof.Rows L2
variable [Wrl] [Tabl]
variable {X : Cx} {W : WX} {e a b c o tg iter value : Expr} {f g f1 f2 f3 fo fa : EF} {pos pos' apos kpos p tpos : Pos} {es : List Expr} {u uk : AF} {kws : List Keyword}
def cmAd (K : Frg) (c m : Str) : Addr := He5.wf K (He.ga K c) "classmethod" m
def cmB (K : Frg) (c m : Str) : Bool := PySem.W.readsIn K (He.ga K c) (.type "type") && (He.eqO (PySem.W.specialIn K (.ref (He.ga K c)) "__getattribute__") (some (some (.builtin "type.__getattribute__"))) && (He5.wrapB K (He.ga K c) "classmethod" "classmethod.__get__" m && PySem.W.fnIn K (cmAd K c m)))
end FL
namespace FL
open PySem PySem.Spec PyProof.Rows L2
section
variable [Wrl] [Tabl]
def trOB (K : Frg) (c : Str) : Bool := decide (PySem.W.exmOne K (.ref (He.ga K c)) (.ref (He.ga K c)) = some true)
end
end FL
namespace FL
open PySem PySem.Spec PyProof.Rows L2
abbrev TabU : Type := Str × List Str
abbrev AlU : Type := AlT × List (Option (List (Option (Str × Int))))
def SaysU (ts : List TabU) (w : World) (K : Frg) : Prop := ts.map (fun t => He.dicW K (He.ga K t.1)) = ts.map fun t => some (He.keysIn w.params t.2)
def obsU (fa : List He.Fa) (fn : List He.DefD) (ex : Frg → Bool) (xs : List DefX) (es : List ErrD) (tl : Frg → List (Addr × Addr × Str)) (ts : List TabU) (g : Addr → Option Obj) (K : Frg) : AlU :=
  (obsT fa fn ex xs es tl g K, ts.map fun t => He.dicW K (He.ga K t.1))
def obsUG (n : Nat) (fa : List He.Fa) (fn : List He.DefD) (ex : Frg → Bool) (xs : List DefX) (es : List ErrD) (tl : Frg → List (Addr × Addr × Str)) (ts : List TabU) (g : Addr → Option Obj) : AlU := obsU fa fn ex xs es tl ts g (He.frG g (asT tl g n))
def hookU (n : Nat) (fa : List He.Fa) (fn : List He.DefD) (ex : Frg → Bool) (xs : List DefX) (es : List ErrD) (tl : Frg → List (Addr × Addr × Str)) (ts : List TabU) : PySem.W.Hook where
  α := AlU
  obs := fun s => obsUG n fa fn ex xs es tl ts s.heap.get?
  val := fun w => ((((He.valD fn, true), xs.map fun (x : DefX) => x.d.val), es.map ErrD.val, true), ts.map fun t => some (He.keysIn w.params t.2))
  says := fun w h => ∃ K : Frg, K.In h ∧ SaysU ts w K ∧ He.SaysD fa fn K ∧ exX ex xs K = true ∧ SaysX xs K ∧ SaysT es K ∧ tabB tl K = true ∧ ∀ t ∈ tl K, h.get? t.2.1 = some eT
  of := fun w s e => by
    have b := He.ba (show (tabB tl (He.frG s.heap.get? (asT tl s.heap.get? n)) && (tl (He.frG s.heap.get? (asT tl s.heap.get? n))).all fun t => tabG s.heap.get? t.2.1) = true from congrArg (fun z : AlU => z.1.2.2) e)
    refine ⟨_, He.frG_in (as := asT tl s.heap.get? n), congrArg (fun z : AlU => z.2) e, congrArg (fun z : AlU => z.1.1.1.1) e, congrArg (fun z : AlU => z.1.1.1.2) e, congrArg (fun z : AlU => z.1.1.2) e, congrArg (fun z : AlU => z.1.2.1) e, b.1, fun t ht => ?_⟩
    have z := List.all_eq_true.mp b.2 t ht
    unfold tabG at z
    split at z
    · rename_i o ho
      rw [ho, isTab_eq z]
    · cases z
  keeps := fun _ _ _ ⟨K, hK, u, c, e, s, r, b, t⟩ k => ⟨K, PySem.W.Frag.In.keeps hK k, u, c, e, s, r, b, fun p hp => k _ _ (t p hp)⟩
theorem obsUG_eq {n : Nat} {fa : List He.Fa} {fn : List He.DefD} {ex : Frg → Bool} {xs : List DefX} {es : List ErrD} {tl : Frg → List (Addr × Addr × Str)} {ts : List TabU} {g : Addr → Option Obj} {s : Shared} (h : ∀ a, g a = s.heap.get? a) : obsUG n fa fn ex xs es tl ts g = (hookU n fa fn ex xs es tl ts).obs s := by
  have e : g = s.heap.get? := funext h
  rw [e] <;> rfl
def gdL (K : Frg) : List DictEntry → List Key → List D → Bool
  | [], [], [] => true
  | e :: es, .inr x :: ks, d :: vs => (match e.key with
    | .str y _ => decide (y = x) && (cst K d e.val && gdL K es ks vs)
    | _ => false)
  | _, _, _ => false
def gdB (K : Frg) (x : Str) (ks : List Key) (vs : List D) : Bool := match PySem.W.nsIn K mainGlobals x, K.lookup (He.ga K x) with
  | some (some (.ref a)), some ⟨_, _, .dict es _, _⟩ => gdL K es.toList ks vs
  | _, _ => false
end FL
namespace FL
open PySem PySem.Spec PyProof.Rows L2
def tdB (K : Frg) (x : Str) : Bool := match K.lookup (He.ga K x) with
  | some o => o.dict.isNone
  | none => false
end FL
namespace PF
open PySem PySem.Spec PyProof.Rows L2 FL
def c_MOST_DEEDS : D := (.int 6)
def c_DEEDS : D := (.tup [(.str "lock me"), (.str "lock you"), (.str "unlock me"), (.str "tag me"), (.str "tag you"), (.str "untag me"), (.str "untag you"), (.str "untag any")])
def c_BETWEEN : D := (.str "; ")
def c_LETTERS : D := (.str "abcdefghijklmnopqrstuvwxyz")
def c_MOST_LAYERS : D := (.int 12)
def c_MOST_ANSWERS : D := (.int 4)
def c_LETTER : D := (.tup [])
def c_READER : D := (.str "bob")
def c_WRITER : D := (.str "ann")
def c_FIRST : D := (.str "first ")
def c_ANSWER : D := (.str "answer ")
def c_THIEF : D := (.str "zed")
def c_PEOPLE : D := (.tup [(.str "ann"), (.str "bob"), (.str "zed")])
def c_LAYERS : D := (.tup [(.tup [(.str "lock"), (.str "ann")]), (.tup [(.str "lock"), (.str "bob")]), (.tup [(.str "lock"), (.str "zed")]), (.tup [(.str "tag"), (.str "ann")]), (.tup [(.str "tag"), (.str "bob")]), (.tup [(.str "tag"), (.str "zed")])])
end PF
namespace K65
open PySem PySem.Spec PyProof.Rows L2 FL
def top (i : Nat) : Stmt := PySem.Challenge.pw_boxthieves_k65_values_that_are_none.main.body.getD i (.Pass ⟨0, 0, 0, 0⟩)
def d_Rule___init__ : He.DefD := ⟨("Rule", some "__init__"), "__init__", "Rule.__init__", defArgs (inClass (top 47) 0), defBody (inClass (top 47) 0), defScope (inClass (top 47) 0), [], []⟩
def d_fits : He.DefD := ⟨("fits", none), "fits", "fits", defArgs (top 48), defBody (top 48), defScope (top 48), [], []⟩
def d_layers_of : He.DefD := ⟨("layers_of", none), "layers_of", "layers_of", defArgs (top 49), defBody (top 49), defScope (top 49), [], []⟩
def d_pairs_behind : He.DefD := ⟨("pairs_behind", none), "pairs_behind", "pairs_behind", defArgs (top 50), defBody (top 50), defScope (top 50), [], []⟩
def d_rules_of_answer : He.DefD := ⟨("rules_of_answer", none), "rules_of_answer", "rules_of_answer", defArgs (top 51), defBody (top 51), defScope (top 51), [], []⟩
def d_rules_of : He.DefD := ⟨("rules_of", none), "rules_of", "rules_of", defArgs (top 52), defBody (top 52), defScope (top 52), [], []⟩
def d_state_behind : He.DefD := ⟨("state_behind", none), "state_behind", "state_behind", defArgs (top 60), defBody (top 60), defScope (top 60), [], []⟩
def d_keeps : He.DefD := ⟨("keeps", none), "keeps", "keeps", defArgs (top 61), defBody (top 61), defScope (top 61), [], []⟩
def d_Book_begun : He.DefD := ⟨("", none), "begun", "Book.begun", defArgs (inClass (top 38) 4), defBody (inClass (top 38) 4), defScope (inClass (top 38) 4), [], []⟩
def x_Book_begun : DefX := ⟨fun K => (gtAd K "Book" "begun"), d_Book_begun⟩
def d_is_integer : He.DefD := ⟨("is_integer", none), "is_integer", "is_integer", defArgs (top 15), defBody (top 15), defScope (top 15), [], []⟩
def d_is_between : He.DefD := ⟨("is_between", none), "is_between", "is_between", defArgs (top 16), defBody (top 16), defScope (top 16), [], []⟩
def d_is_row_of : He.DefD := ⟨("is_row_of", none), "is_row_of", "is_row_of", defArgs (top 58), defBody (top 58), defScope (top 58), [], []⟩
def d_is_table : He.DefD := ⟨("is_table", none), "is_table", "is_table", defArgs (top 59), defBody (top 59), defScope (top 59), [], []⟩
def d_shows_never : He.DefD := ⟨("shows_never", none), "shows_never", "shows_never", defArgs (top 62), defBody (top 62), defScope (top 62), [], []⟩
def d_Mail_boxes : He.DefD := ⟨("", none), "boxes", "Mail.boxes", defArgs (inClass (top 45) 2), defBody (inClass (top 45) 2), defScope (inClass (top 45) 2), [], []⟩
def x_Mail_boxes : DefX := ⟨fun K => (gtAd K "Mail" "boxes"), d_Mail_boxes⟩
def d_check_book : He.DefD := ⟨("check_book", none), "check_book", "check_book", defArgs (top 39), defBody (top 39), defScope (top 39), [], []⟩
def d_Mail___init__ : He.DefD := ⟨("Mail", some "__init__"), "__init__", "Mail.__init__", defArgs (inClass (top 45) 0), defBody (inClass (top 45) 0), defScope (inClass (top 45) 0), [], []⟩
def d_Mail_joined : He.DefD := ⟨("Mail", some "joined"), "joined", "Mail.joined", defArgs (inClass (top 45) 3), defBody (inClass (top 45) 3), defScope (inClass (top 45) 3), [], []⟩
def d_behind_deed : He.DefD := ⟨("behind_deed", none), "behind_deed", "behind_deed", defArgs (top 26), defBody (top 26), defScope (top 26), [], []⟩
def d_done : He.DefD := ⟨("done", none), "done", "done", defArgs (top 27), defBody (top 27), defScope (top 27), [], []⟩
def d_is_name : He.DefD := ⟨("is_name", none), "is_name", "is_name", defArgs (top 17), defBody (top 17), defScope (top 17), [], []⟩
def d_box_answered : He.DefD := ⟨("box_answered", none), "box_answered", "box_answered", defArgs (top 43), defBody (top 43), defScope (top 43), [], []⟩
def d_box_opened : He.DefD := ⟨("box_opened", none), "box_opened", "box_opened", defArgs (top 42), defBody (top 42), defScope (top 42), [], []⟩
def d_box_behind : He.DefD := ⟨("box_behind", none), "box_behind", "box_behind", defArgs (top 44), defBody (top 44), defScope (top 44), [], []⟩
def d_Mail_book : He.DefD := ⟨("", none), "book", "Mail.book", defArgs (inClass (top 45) 1), defBody (inClass (top 45) 1), defScope (inClass (top 45) 1), [], []⟩
def x_Mail_book : DefX := ⟨fun K => (gtAd K "Mail" "book"), d_Mail_book⟩
def d_Mail_led : He.DefD := ⟨("Mail", some "led"), "led", "Mail.led", defArgs (inClass (top 45) 5), defBody (inClass (top 45) 5), defScope (inClass (top 45) 5), [], []⟩
def d_shows_got : He.DefD := ⟨("shows_got", none), "shows_got", "shows_got", defArgs (top 57), defBody (top 57), defScope (top 57), [], []⟩
def d_deeds_of : He.DefD := ⟨("deeds_of", none), "deeds_of", "deeds_of", defArgs (top 25), defBody (top 25), defScope (top 25), [], []⟩
def d_is_row : He.DefD := ⟨("is_row", none), "is_row", "is_row", defArgs (top 24), defBody (top 24), defScope (top 24), [], []⟩
def d_check_answers : He.DefD := ⟨("check_answers", none), "check_answers", "check_answers", defArgs (top 35), defBody (top 35), defScope (top 35), [], []⟩
def d_box_begun : He.DefD := ⟨("box_begun", none), "box_begun", "box_begun", defArgs (top 34), defBody (top 34), defScope (top 34), [], []⟩
def d_Book___init__ : He.DefD := ⟨("Book", some "__init__"), "__init__", "Book.__init__", defArgs (inClass (top 38) 0), defBody (inClass (top 38) 0), defScope (inClass (top 38) 0), [.adr (He.dflAt ("Book", some "__init__") 0)], []⟩
def d_parts_of : He.DefD := ⟨("parts_of", none), "parts_of", "parts_of", defArgs (top 37), defBody (top 37), defScope (top 37), [], []⟩
def d_Book_read : He.DefD := ⟨("", none), "read", "Book.read", defArgs (inClass (top 38) 1), defBody (inClass (top 38) 1), defScope (inClass (top 38) 1), [], []⟩
def x_Book_read : DefX := ⟨fun K => (cmAd K "Book" "read"), d_Book_read⟩
def d_book_of : He.DefD := ⟨("book_of", none), "book_of", "book_of", defArgs (top 55), defBody (top 55), defScope (top 55), [], []⟩
def d_is_layer : He.DefD := ⟨("is_layer", none), "is_layer", "is_layer", defArgs (top 18), defBody (top 18), defScope (top 18), [], []⟩
def d_is_box : He.DefD := ⟨("is_box", none), "is_box", "is_box", defArgs (top 19), defBody (top 19), defScope (top 19), [], []⟩
def d_is_known : He.DefD := ⟨("is_known", none), "is_known", "is_known", defArgs (top 20), defBody (top 20), defScope (top 20), [], []⟩
def d_book_in : He.DefD := ⟨("book_in", none), "book_in", "book_in", defArgs (top 56), defBody (top 56), defScope (top 56), [], []⟩
def d_accepts : He.DefD := ⟨("accepts", none), "accepts", "accepts", defArgs (top 63), defBody (top 63), defScope (top 63), [], []⟩
def d__law_is_known : He.DefD := ⟨("_law_is_known", none), "_law_is_known", "_law_is_known", defArgs (top 75), defBody (top 75), defScope (top 75), [], []⟩
def d__law_never_right : He.DefD := ⟨("_law_never_right", none), "_law_never_right", "_law_never_right", defArgs (top 77), defBody (top 77), defScope (top 77), [], []⟩
def d__law_sip : He.DefD := ⟨("_law_sip", none), "_law_sip", "_law_sip", defArgs (top 66), defBody (top 66), defScope (top 66), [], []⟩
def d__law_bent : He.DefD := ⟨("_law_bent", none), "_law_bent", "_law_bent", defArgs (top 74), defBody (top 74), defScope (top 74), [], []⟩
def d__law_got_right : He.DefD := ⟨("_law_got_right", none), "_law_got_right", "_law_got_right", defArgs (top 76), defBody (top 76), defScope (top 76), [], []⟩
def d_Book___str__ : He.DefD := ⟨("Book", some "__str__"), "__str__", "Book.__str__", defArgs (inClass (top 38) 8), defBody (inClass (top 38) 8), defScope (inClass (top 38) 8), [], []⟩
def d__law_deed : He.DefD := ⟨("_law_deed", none), "_law_deed", "_law_deed", defArgs (top 71), defBody (top 71), defScope (top 71), [], []⟩
def d__law_done : He.DefD := ⟨("_law_done", none), "_law_done", "_law_done", defArgs (top 72), defBody (top 72), defScope (top 72), [], []⟩
def d__law_begun : He.DefD := ⟨("_law_begun", none), "_law_begun", "_law_begun", defArgs (top 73), defBody (top 73), defScope (top 73), [], []⟩
def d__law_vol : He.DefD := ⟨("_law_vol", none), "_law_vol", "_law_vol", defArgs (top 70), defBody (top 70), defScope (top 70), [], []⟩
def d__law_answer : He.DefD := ⟨("_law_answer", none), "_law_answer", "_law_answer", defArgs (top 68), defBody (top 68), defScope (top 68), [], []⟩
def d__law_first : He.DefD := ⟨("_law_first", none), "_law_first", "_law_first", defArgs (top 67), defBody (top 67), defScope (top 67), [], []⟩
def d__law_sketch : He.DefD := ⟨("_law_sketch", none), "_law_sketch", "_law_sketch", defArgs (top 69), defBody (top 69), defScope (top 69), [], []⟩
def d__law_right : He.DefD := ⟨("_law_right", none), "_law_right", "_law_right", defArgs (top 78), defBody (top 78), defScope (top 78), [], []⟩
def d__law_cup : He.DefD := ⟨("_law_cup", none), "_law_cup", "_law_cup", defArgs (top 65), defBody (top 65), defScope (top 65), [], []⟩
def d_law : He.DefD := ⟨("law", none), "law", "law", defArgs (top 79), defBody (top 79), defScope (top 79), [], []⟩
def e_NotABook : ErrD := ⟨"NotABook", "given", "__init__", "NotABook.__init__", defArgs (inClass (top 5) 0), defBody (inClass (top 5) 0), defScope (inClass (top 5) 0)⟩
def e_InvalidSteps : ErrD := ⟨"InvalidSteps", "index", "__init__", "InvalidSteps.__init__", defArgs (inClass (top 7) 0), defBody (inClass (top 7) 0), defScope (inClass (top 7) 0)⟩
def e_InvalidAnswers : ErrD := ⟨"InvalidAnswers", "index", "__init__", "InvalidAnswers.__init__", defArgs (inClass (top 6) 0), defBody (inClass (top 6) 0), defScope (inClass (top 6) 0)⟩
def e_InvalidRow : ErrD := ⟨"InvalidRow", "given", "__init__", "InvalidRow.__init__", defArgs (inClass (top 3) 0), defBody (inClass (top 3) 0), defScope (inClass (top 3) 0)⟩
def e_InvalidText : ErrD := ⟨"InvalidText", "given", "__init__", "InvalidText.__init__", defArgs (inClass (top 4) 0), defBody (inClass (top 4) 0), defScope (inClass (top 4) 0)⟩
def es : List ErrD := [e_NotABook, e_InvalidSteps, e_InvalidAnswers, e_InvalidRow, e_InvalidText]
abbrev fileS : Str := PySem.Challenge.pw_boxthieves_k65_values_that_are_none.main.file
def tlL : List ((Frg → Addr) × Str) := []
abbrev tl (K : Frg) : List (Addr × Addr × Str) := tlsOf tlL K
instance : Tabl := ⟨tl⟩
def fas_0 : List He.Fa := [.glo "fits", .glo "layers_of", .glo "pairs_behind", .glo "rules_of_answer", .glo "rules_of", .glo "state_behind", .glo "keeps", .glo "is_integer", .glo "is_between", .glo "is_row_of", .glo "is_table", .glo "shows_never", .glo "check_book", .glo "behind_deed", .glo "done", .glo "is_name", .glo "box_answered", .glo "box_opened", .glo "box_behind", .glo "shows_got", .glo "deeds_of", .glo "is_row", .glo "check_answers", .glo "box_begun", .glo "parts_of", .glo "book_of", .glo "is_layer", .glo "is_box", .glo "is_known", .glo "book_in"]
def fas_1 : List He.Fa := [.glo "accepts", .glo "_law_is_known", .glo "_law_never_right", .glo "_law_sip", .glo "_law_bent", .glo "_law_got_right", .glo "_law_deed", .glo "_law_done", .glo "_law_begun", .glo "_law_vol", .glo "_law_answer", .glo "_law_first", .glo "_law_sketch", .glo "_law_right", .glo "_law_cup", .glo "law", .free "abs", .free "all", .free "bool", .free "divmod", .free "enumerate", .free "int", .free "isinstance", .free "len", .free "list", .free "max", .free "min", .free "range", .free "repr", .free "str"]
def fas_2 : List He.Fa := [.free "super", .free "tuple", .free "zip", .cls "Rule", .noat "Rule" "put", .noat "Rule" "taken", .cls "Book", .noat "Book" "deeds", .noat "Rule" "step", .mkr "Rule", .glo "Rule", .glo "LAYERS", .noat "Book" "first_box", .cls "Mail", .noat "Mail" "all_boxes", .noat "Mail" "rules", .glo "Book", .glo "NotABook", .mkr "Mail", .glo "Mail", .meth "Mail" "joined", .glo "InvalidSteps", .meth "Mail" "led", .noat "Book" "answer_rows", .noat "Book" "first_row", .glo "InvalidAnswers", .glo "InvalidRow", .mkr "Book", .glo "InvalidText", .meth "Book" "__str__"]
def fas : List He.Fa := fas_0 ++ fas_1 ++ fas_2
def fns_0 : List He.DefD := [d_Rule___init__, d_fits, d_layers_of, d_pairs_behind, d_rules_of_answer, d_rules_of, d_state_behind, d_keeps, d_is_integer, d_is_between, d_is_row_of, d_is_table, d_shows_never, d_check_book, d_Mail___init__, d_Mail_joined, d_behind_deed, d_done, d_is_name, d_box_answered, d_box_opened, d_box_behind, d_Mail_led, d_shows_got, d_deeds_of, d_is_row, d_check_answers, d_box_begun, d_Book___init__, d_parts_of]
def fns_1 : List He.DefD := [d_book_of, d_is_layer, d_is_box, d_is_known, d_book_in, d_accepts, d__law_is_known, d__law_never_right, d__law_sip, d__law_bent, d__law_got_right, d_Book___str__, d__law_deed, d__law_done, d__law_begun, d__law_vol, d__law_answer, d__law_first, d__law_sketch, d__law_right, d__law_cup, d_law]
def fns : List He.DefD := fns_0 ++ fns_1
def dxs_0 : List DefX := [x_Book_begun, x_Mail_boxes, x_Mail_book, x_Book_read]
def dxs : List DefX := dxs_0
def cons : List (Str × D) := [("ANSWER", PF.c_ANSWER), ("BETWEEN", PF.c_BETWEEN), ("DEEDS", PF.c_DEEDS), ("FIRST", PF.c_FIRST), ("LAYERS", PF.c_LAYERS), ("LETTER", PF.c_LETTER), ("LETTERS", PF.c_LETTERS), ("MOST_ANSWERS", PF.c_MOST_ANSWERS), ("MOST_DEEDS", PF.c_MOST_DEEDS), ("MOST_LAYERS", PF.c_MOST_LAYERS), ("PEOPLE", PF.c_PEOPLE), ("READER", PF.c_READER), ("THIEF", PF.c_THIEF), ("WRITER", PF.c_WRITER)]
def exl : List (Frg → Bool) := [fun K => tdB K "LAYERS", fun K => propB K "Book" "begun", fun K => propB K "Mail" "boxes", fun K => isCB K ["Book", "Mail", "Rule"] "Book", fun K => xinB fileS K e_NotABook, fun K => xinB fileS K e_InvalidSteps, fun K => propB K "Mail" "book", fun K => trOB K "InvalidSteps", fun K => xinB fileS K e_InvalidAnswers, fun K => xinB fileS K e_InvalidRow, fun K => xinB fileS K e_InvalidText, fun K => cmB K "Book" "read", fun K => trOB K "InvalidText", fun K => gdB K "SIZES" [.inr "got", .inr "never"] [(.int 4), (.int 3)], fun K => dfB K ("Book", some "__init__") 0 (.tup [])]
def ex (K : Frg) : Bool := (cons.all fun p => cstB K p.1 p.2) && exl.all fun f => f K
def ts : List TabU := [("SIZES", ["got", "never"])]
end K65
set_option maxHeartbeats 0
namespace K65
open PySem PySem.Spec PyProof.Rows L2 FL
def loose_0 : List PySem.Str := ["_wall", "NotRight", "InvalidRow", "InvalidText", "NotABook", "InvalidAnswers", "InvalidSteps", "MOST_DEEDS", "MOST_ANSWERS", "MOST_LAYERS", "LETTERS", "PEOPLE", "THIEF", "is_integer", "is_between", "is_name", "is_layer", "is_box", "is_known", "BETWEEN", "DEEDS", "is_row", "deeds_of", "behind_deed", "done", "WRITER", "READER", "LETTER", "FIRST", "ANSWER"]
def loose_1 : List PySem.Str := ["box_begun", "check_answers", "check_indexes", "parts_of", "Book", "check_book", "LAYERS", "box_opened", "box_answered", "box_behind", "Mail", "Rule", "fits", "layers_of", "pairs_behind", "rules_of_answer", "rules_of", "SIZES", "book_of", "book_in", "shows_got", "is_row_of", "is_table", "state_behind", "keeps", "shows_never", "accepts", "_law_cup", "_law_sip", "_law_first"]
def loose_2 : List PySem.Str := ["_law_answer", "_law_sketch", "_law_vol", "_law_deed", "_law_done", "_law_begun", "_law_bent", "_law_is_known", "_law_got_right", "_law_never_right", "_law_right"]
def loose : List PySem.Str := loose_0 ++ loose_1 ++ loose_2
abbrev R : PySem.W.OpenRow := PySem.W.OpenLaw.row PySem.Challenge.rw_boxthieves_k65_values_that_are_none
abbrev hk : PySem.W.Hook := hookU 7 fas fns ex dxs es tl ts
def ob (s : PySem.W.SharedT) : AlU := obsUG 7 fas fns ex dxs es tl ts (HandSHeadRun.getT s)
theorem ob_eq (s : PySem.W.SharedT) : ob s = hk.obs s.abs := obsUG_eq (HandSHeadRun.getT_eq s)
theorem runF (w : World) : HandSHeadRun.RunEq R (PySem.W.view R.prog [79]) hk ob 12000 loose (w.withFollow "special-get-raises" false) := by
  intro os
  kernel_rfl
theorem runT (w : World) : HandSHeadRun.RunEq R (PySem.W.view R.prog [79]) hk ob 12000 loose (w.withFollow "special-get-raises" true) := by
  intro os
  kernel_rfl
theorem run (w : World) : HandSHeadRun.RunEq R (PySem.W.view R.prog [79]) hk ob 12000 loose w := PySem.W.byRow2 "special-get-raises" (P := fun w => HandSHeadRun.RunEq R (PySem.W.view R.prog [79]) hk ob 12000 loose w) runF runT w
end K65
set_option Elab.async false
set_option linter.all false
set_option maxRecDepth 100000
set_option maxHeartbeats 8000000
namespace FL
open PySem PySem.Spec PyProof.Rows L2
abbrev St := L2.St
variable [Wrl]
mutual
inductive NKv (K : Frg) (H : Hp) : NestedKey → V → Prop
  | non : NKv K H .none .non
  | num (i : Int) : NKv K H (.num i) (.int i)
  | text (x : Str) : NKv K H (.text x) (.str x)
  | tup {a : Addr} {vs : List V} {ks : List NestedKey} : SqT K H a vs → NKs K H ks vs → NKv K H (.tup ks) (.ref a)
inductive NKs (K : Frg) (H : Hp) : List NestedKey → List V → Prop
  | nil : NKs K H [] []
  | cons {k : NestedKey} {v : V} {ks : List NestedKey} {vs : List V} : NKv K H k v → NKs K H ks vs → NKs K H (k :: ks) (v :: vs)
end
mutual
theorem NKv.mono {K : Frg} {H H' : Hp} (q : ∀ {c : Addr} {vs : List V}, SqT K H c vs → SqT K H' c vs) : ∀ {k : NestedKey} {v : V}, NKv K H k v → NKv K H' k v
  | _, _, .non => .non
  | _, _, .num i => .num i
  | _, _, .text x => .text x
  | _, _, .tup h hs => .tup (q h) (NKs.mono q hs)
theorem NKs.mono {K : Frg} {H H' : Hp} (q : ∀ {c : Addr} {vs : List V}, SqT K H c vs → SqT K H' c vs) : ∀ {ks : List NestedKey} {vs : List V}, NKs K H ks vs → NKs K H' ks vs
  | _, _, .nil => .nil
  | _, _, .cons h hs => .cons (NKv.mono q h) (NKs.mono q hs)
end
def DNP (P : Program) (w : World) (a : Addr) (xs : List (NestedKey × Addr × Value)) : Heap → Prop := fun h =>
  (a == sysModules) = false ∧ ∃ o es ep, h.get? a = some o ∧ o.ExactDict ∧ o.data = .dict es ep ∧ es.toList = xs.map (entryOfKey (nestedKind P w)) ∧ (xs.map (·.1)).Nodup
def DNO (a : Addr) (xs : List (NestedKey × Addr × Value)) : HO := .ext (DNP Wrl.P Wrl.w a xs)
def DNk (K : Frg) (H : Hp) (xs : List (NestedKey × Addr × Value)) (kvs : List (NestedKey × V)) : Prop := Paired (fun (x : NestedKey × Addr × Value) (p : NestedKey × V) => x.1 = p.1 ∧ x.1.depth ≤ 8 ∧ NKv K H x.1 (.ref x.2.1) ∧ RelV p.2 x.2.2) xs kvs
theorem DNk.mono {K : Frg} {H H' : Hp} {xs : List (NestedKey × Addr × Value)} {kvs : List (NestedKey × V)} (h : DNk K H xs kvs) (q : ∀ {c : Addr} {vs : List V}, SqT K H c vs → SqT K H' c vs) : DNk K H' xs kvs := by
  unfold DNk at h ⊢
  induction h with
  | nil => exact .nil
  | cons r t ih => exact .cons ⟨r.1, r.2.1, r.2.2.1.mono q, r.2.2.2⟩ ih
def Lk (lk : Bool) (u o : HO) : Prop := if lk = true then ∃ ob, u = .frz ob o else u = o
def DNat (K : Frg) (G : Hp) (a : Addr) (o : HO) (kvs : List (NestedKey × V)) : Prop := ∃ xs, o = DNO a xs ∧ DNk K G xs kvs ∧ xs.length ≤ sizeLine
theorem DNat.mono {K : Frg} {G G' : Hp} {a : Addr} {o : HO} {kvs : List (NestedKey × V)} (h : DNat K G a o kvs) (q : ∀ {c : Addr} {vs : List V}, SqT K G c vs → SqT K G' c vs) : DNat K G' a o kvs := let ⟨xs, e, k, l⟩ := h; ⟨xs, e, k.mono q, l⟩
theorem code_ne {a : Addr} {xs : List (NestedKey × Addr × Value)} {q : Str} : DNO a xs ≠ LamX.CodeO a q := fun e => by
  have e1 : DNP Wrl.P Wrl.w a xs = _ := HO.ext.inj e
  let o : Obj := { cls := .none, data := .fields #[.none, .str q default] }
  have h1 : (Heap.mk ((List.replicate (a + 1) o).toArray) {}).get? a = some o := by
    unfold Heap.get?
    have : (List.replicate (a + 1) o).toArray[a]? = some o := by simp
    simp only [this]
    rfl
  have h2 := congrFun e1 (Heap.mk ((List.replicate (a + 1) o).toArray) {})
  have h3 : DNP Wrl.P Wrl.w a xs (Heap.mk ((List.replicate (a + 1) o).toArray) {}) := h2 ▸ ⟨o, #[.none, .str q default], default, h1, rfl, rfl⟩
  obtain ⟨_, o', es, ep, g1, _, g2, _⟩ := h3
  rw [h1] at g1
  cases g1
  cases g2
mutual
/-- under the tracked heap G the value v shows the data d -/
def Rep (K : Frg) (G : Hp) : D → V → Prop
  | .non, v => v = .non
  | .bl b, v => v = .bl b
  | .int i, v => v = .int i
  | .str x, v => v = .str x
  | .lst ds, v => ∃ a vs, v = .ref a ∧ G a = some (.lst vs) ∧ Reps K G ds vs
  | .scr ns, v => ∃ a, v = .ref a ∧ SqL K G a (ns.map V.int)
  | .tup ds, v => ∃ a vs, v = .ref a ∧ SqT K G a vs ∧ Reps K G ds vs
  | .dk ks ds, v => ∃ a kv, v = .ref a ∧ G a = some (.dK kv) ∧ kv.map (·.1) = ks ∧ Reps K G ds (kv.map (·.2))
  | .fk ks ds, v => ∃ a ob kv, v = .ref a ∧ G a = some (.frz ob (.dK kv)) ∧ kv.map (·.1) = ks ∧ Reps K G ds (kv.map (·.2))
  | .dn lk ks ds, v => ∃ a u o kvs, v = .ref a ∧ G a = some u ∧ Lk lk u o ∧ DNat K G a o kvs ∧ kvs.map (·.1) = ks ∧ Reps K G ds (kvs.map (·.2))
  | .ins c ns ds, v => ∃ a dx fv, v = .ref a ∧ G a = some (.ins (He.ga K c) dx fv) ∧ fv.map (·.1) = ns ∧ Reps K G ds (fv.map (·.2))
  | .exn a dd _ ns ds, v => v = .ref a ∧ ∃ fv, G dd = some (.xd fv) ∧ fv.map (·.1) = ns ∧ Reps K G ds (fv.map (·.2))
  | .cls c, v => v = .ref (He.ga K c)
def Reps (K : Frg) (G : Hp) : List D → List V → Prop
  | [], vs => vs = []
  | d :: ds, vs => ∃ v r, vs = v :: r ∧ Rep K G d v ∧ Reps K G ds r
end
def Le (G G' : Hp) : Prop := ∀ a o, G a = some o → G' a = some o
theorem Le.refl (G : Hp) : Le G G := fun _ _ h => h
theorem Le.trans {G1 G2 G3 : Hp} (h : Le G1 G2) (k : Le G2 G3) : Le G1 G3 := fun a o e => k a o (h a o e)
theorem Le.upd {G : Hp} {p : Addr} {o : HO} (h : G p = none) : Le G (upd G p o) := fun a u e => by
  rw [upd_ne (ne_of_none e h)]; exact e
theorem Rd.mono {G G' : Hp} (h : Le G G') {a : Addr} {u : HO} : Rd G a u → Rd G' a u
  | .inl e => .inl (h _ _ e)
  | .inr ⟨o, e⟩ => .inr ⟨o, h _ _ e⟩
theorem SqL.le {K : Frg} {G G' : Hp} (h : Le G G') {a : Addr} {xs : List V} : SqL K G a xs → SqL K G' a xs
  | .inl e => .inl (Rd.mono h e)
  | .inr e => .inr e
theorem SqT.le {K : Frg} {G G' : Hp} (h : Le G G') {a : Addr} {xs : List V} : SqT K G a xs → SqT K G' a xs
  | .inl e => .inl (Rd.mono h e)
  | .inr e => .inr e
mutual
theorem Rep.le {K : Frg} {G G' : Hp} (h : Le G G') : ∀ (d : D) (v : V), Rep K G d v → Rep K G' d v
  | .non, _, e => e
  | .bl _, _, e => e
  | .int _, _, e => e
  | .str _, _, e => e
  | .lst ds, _, ⟨a, vs, e, q, r⟩ => ⟨a, vs, e, h _ _ q, Reps.le h ds vs r⟩
  | .scr _, _, ⟨a, e, q⟩ => ⟨a, e, SqL.le h q⟩
  | .tup ds, _, ⟨a, vs, e, q, r⟩ => ⟨a, vs, e, SqT.le h q, Reps.le h ds vs r⟩
  | .dk _ ds, _, ⟨a, kv, e, q, n, r⟩ => ⟨a, kv, e, h _ _ q, n, Reps.le h ds _ r⟩
  | .fk _ ds, _, ⟨a, ob, kv, e, q, n, r⟩ => ⟨a, ob, kv, e, h _ _ q, n, Reps.le h ds _ r⟩
  | .dn _ _ ds, _, ⟨a, u, o, kv, e, q, l, m, n, r⟩ => ⟨a, u, o, kv, e, h _ _ q, l, m.mono (SqT.le h), n, Reps.le h ds _ r⟩
  | .ins _ _ ds, _, ⟨a, dx, fv, e, q, n, r⟩ => ⟨a, dx, fv, e, h _ _ q, n, Reps.le h ds _ r⟩
  | .exn _ _ _ _ ds, _, ⟨e, fv, q, n, r⟩ => ⟨e, fv, h _ _ q, n, Reps.le h ds _ r⟩
  | .cls _, _, e => e
theorem Reps.le {K : Frg} {G G' : Hp} (h : Le G G') : ∀ (ds : List D) (vs : List V), Reps K G ds vs → Reps K G' ds vs
  | [], _, e => e
  | d :: ds, _, ⟨v, r, e, h1, h2⟩ => ⟨v, r, e, Rep.le h d v h1, Reps.le h ds r h2⟩
end
section
variable {K : Frg} {G G' : Hp}
theorem Reps.nil : Reps K G [] [] := rfl
theorem Reps.cons {d : D} {ds : List D} {v : V} {vs : List V} (h : Rep K G d v) (t : Reps K G ds vs) : Reps K G (d :: ds) (v :: vs) := ⟨v, vs, rfl, h, t⟩
theorem Reps.len : ∀ {ds : List D} {vs : List V}, Reps K G ds vs → vs.length = ds.length
  | [], _, e => by rw [show _ = [] from e]; rfl
  | _ :: _, _, ⟨_, _, e, _, t⟩ => by rw [e, List.length_cons, Reps.len t, List.length_cons]
theorem Reps.get : ∀ {ds : List D} {vs : List V} {i : Nat} {v : V}, Reps K G ds vs → vs[i]? = some v → ∃ d, ds[i]? = some d ∧ Rep K G d v
  | [], _, _, _, e, h => by rw [show _ = [] from e] at h; simp at h
  | d :: _, _, 0, _, ⟨_, _, e, r, _⟩, h => by subst e; simp at h; subst h; exact ⟨d, rfl, r⟩
  | _ :: _, _, i + 1, _, ⟨_, _, e, _, t⟩, h => by
    subst e
    obtain ⟨d, h1, h2⟩ := Reps.get (i := i) t (by simpa using h)
    exact ⟨d, by simpa using h1, h2⟩
theorem Reps.getD : ∀ {ds : List D} {vs : List V} {i : Nat} {d : D}, Reps K G ds vs → ds[i]? = some d → ∃ v, vs[i]? = some v ∧ Rep K G d v
  | [], _, _, _, _, h => by simp at h
  | d :: _, _, 0, _, ⟨v, _, e, r, _⟩, h => by subst e; simp at h; subst h; exact ⟨v, rfl, r⟩
  | _ :: _, _, i + 1, _, ⟨_, _, e, _, t⟩, h => by
    subst e
    obtain ⟨d, h1, h2⟩ := Reps.getD (i := i) t (by simpa using h)
    exact ⟨d, by simpa using h1, h2⟩
theorem Reps.append : ∀ {ds es : List D} {vs ws : List V}, Reps K G ds vs → Reps K G es ws → Reps K G (ds ++ es) (vs ++ ws)
  | [], _, _, _, e, t => by rw [show _ = [] from e]; exact t
  | _ :: _, _, _, _, ⟨v, r, e, h, t⟩, q => by subst e; exact ⟨v, _, rfl, h, Reps.append t q⟩
theorem Reps.take : ∀ {ds : List D} {vs : List V} (n : Nat), Reps K G ds vs → Reps K G (ds.take n) (vs.take n)
  | _, _, 0, _ => rfl
  | [], _, _ + 1, e => by rw [show _ = [] from e]; rfl
  | _ :: _, _, n + 1, ⟨v, r, e, h, t⟩ => by subst e; exact ⟨v, _, rfl, h, Reps.take n t⟩
theorem Reps.drop : ∀ {ds : List D} {vs : List V} (n : Nat), Reps K G ds vs → Reps K G (ds.drop n) (vs.drop n)
  | _, _, 0, h => h
  | [], _, _ + 1, e => by rw [show _ = [] from e]; rfl
  | _ :: _, _, n + 1, ⟨v, r, e, h, t⟩ => by subst e; exact Reps.drop n t
theorem Reps.set : ∀ {ds : List D} {vs : List V} (n : Nat) {d : D} {v : V}, Reps K G ds vs → Rep K G d v → Reps K G (ds.set n d) (vs.set n v)
  | [], _, _, _, _, e, _ => by rw [show _ = [] from e]; rfl
  | _ :: _, _, 0, _, _, ⟨v, r, e, h, t⟩, q => by subst e; exact ⟨_, _, rfl, q, t⟩
  | _ :: _, _, n + 1, _, _, ⟨v, r, e, h, t⟩, q => by subst e; exact ⟨_, _, rfl, h, Reps.set n t q⟩
theorem Reps.cut {ds : List D} {vs : List V} (h : Reps K G ds vs) (lo hi : Option Int) : Reps K G ((ds.drop (HT.sIx ds.length 0 lo)).take (HT.sIx ds.length ds.length hi - HT.sIx ds.length 0 lo)) (cutV vs lo hi) := by
  unfold cutV
  rw [h.len]
  exact (h.drop _).take _
theorem Reps.rep {ds : List D} {vs : List V} (h : Reps K G ds vs) : ∀ n : Nat, Reps K G (List.replicate n ds).flatten (List.replicate n vs).flatten
  | 0 => rfl
  | n + 1 => by
    rw [List.replicate_succ, List.replicate_succ, List.flatten_cons, List.flatten_cons]
    exact h.append (Reps.rep h n)
theorem Reps.strs : ∀ {ds : List D} {vs : List V} (xs : List Str), ds = xs.map D.str → Reps K G ds vs → vs = xs.map V.str
  | _, _, [], e, h => by subst e; exact h
  | _, _, x :: xs, e, h => by
    subst e
    obtain ⟨v, r, e, h1, h2⟩ := h
    subst e
    rw [show v = V.str x from h1, Reps.strs xs rfl h2]
    rfl
theorem Reps.of_strs : ∀ (xs : List Str), Reps K G (xs.map D.str) (xs.map V.str)
  | [] => rfl
  | _ :: xs => ⟨_, _, rfl, rfl, Reps.of_strs xs⟩
theorem Reps.of_ints : ∀ (xs : List Int), Reps K G (xs.map D.int) (xs.map V.int)
  | [] => rfl
  | _ :: xs => ⟨_, _, rfl, rfl, Reps.of_ints xs⟩
theorem Reps.bls : ∀ {vs : List V} (xs : List Bool), Reps K G (xs.map D.bl) vs → vs = xs.map V.bl
  | _, [], h => h
  | _, x :: xs, h => by
    obtain ⟨v, r, e, h1, h2⟩ := h
    subst e
    rw [show v = V.bl x from h1, Reps.bls xs h2]
    rfl
end
mutual
def D.py : D → Option PyData
  | .non => some .none
  | .bl b => some (.bool b)
  | .int i => some (.int i)
  | .str x => some (.str x)
  | .lst xs => (D.pys xs).map PyData.list
  | .tup xs => (D.pys xs).map PyData.tuple
  | .dk _ _ => none
  | .fk _ _ => none
  | .dn _ _ _ => none
  | .scr _ => none
  | .ins _ _ _ => none
  | .exn _ _ _ _ _ => none
  | .cls _ => none
def D.pys : List D → Option (List PyData)
  | [] => some []
  | d :: ds => (D.py d).bind fun p => (D.pys ds).map fun ps => p :: ps
end
mutual
theorem Rep.dp {K : Frg} {G : Hp} : ∀ (d : D) (v : V) (p : PyData), D.py d = some p → Rep K G d v → Dp K G v p
  | .non, _, _, e, r => by cases e; rw [show _ = V.non from r]; exact .non
  | .bl _, _, _, e, r => by cases e; rw [show _ = V.bl _ from r]; exact .bl _
  | .int _, _, _, e, r => by cases e; rw [show _ = V.int _ from r]; exact .int _
  | .str _, _, _, e, r => by cases e; rw [show _ = V.str _ from r]; exact .str _
  | .lst ds, _, _, e, ⟨a, vs, ev, q, r⟩ => by
    obtain ⟨ps, e1, rfl⟩ := Option.map_eq_some_iff.mp (show (D.pys ds).map PyData.list = some _ from e)
    subst ev
    exact .lst (.of q) (Reps.dp ds vs ps e1 r)
  | .tup ds, _, _, e, ⟨a, vs, ev, q, r⟩ => by
    obtain ⟨ps, e1, rfl⟩ := Option.map_eq_some_iff.mp (show (D.pys ds).map PyData.tuple = some _ from e)
    subst ev
    exact .tup q (Reps.dp ds vs ps e1 r)
  | .dk _ _, _, _, e, _ => by cases e
  | .fk _ _, _, _, e, _ => by cases e
  | .dn _ _ _, _, _, e, _ => by cases e
  | .scr _, _, _, e, _ => by cases e
  | .ins _ _ _, _, _, e, _ => by cases e
  | .exn _ _ _ _ _, _, _, e, _ => by cases e
  | .cls _, _, _, e, _ => by cases e
theorem Reps.dp {K : Frg} {G : Hp} : ∀ (ds : List D) (vs : List V) (ps : List PyData), D.pys ds = some ps → Reps K G ds vs → DpAll K G vs ps
  | [], _, _, e, r => by cases e; rw [show _ = [] from r]; exact .nil
  | d :: ds, _, _, e, ⟨v, r, ev, h1, h2⟩ => by
    obtain ⟨p, e1, e2⟩ := Option.bind_eq_some_iff.mp (show (D.py d).bind (fun p => (D.pys ds).map fun ps => p :: ps) = some _ from e)
    obtain ⟨ps, e3, rfl⟩ := Option.map_eq_some_iff.mp e2
    subst ev
    exact .cons (Rep.dp d v p e1 h1) (Reps.dp ds r ps e3 h2)
end
inductive OD where
  | l (xs : List D) | k (ks : List Key) (vs : List D) | n (ks : List NestedKey) (vs : List D) | i (c : Str) (ns : List Str) (fs : List D)
def ORep (K : Frg) (G : Hp) (a : Addr) : OD → HO → Prop
  | .l xs, o => ∃ vs, o = .lst vs ∧ Reps K G xs vs
  | .k ks ds, o => ∃ kv, o = .dK kv ∧ kv.map (·.1) = ks ∧ Reps K G ds (kv.map (·.2))
  | .n ks ds, o => ∃ kvs, DNat K G a o kvs ∧ kvs.map (·.1) = ks ∧ Reps K G ds (kvs.map (·.2))
  | .i c ns ds, o => ∃ dx fv, o = .ins (He.ga K c) dx fv ∧ fv.map (·.1) = ns ∧ Reps K G ds (fv.map (·.2))
def OD.d : OD → D
  | .l xs => .lst xs
  | .k ks vs => .dk ks vs
  | .n ks vs => .dn false ks vs
  | .i c ns fs => .ins c ns fs
theorem ORep.le {K : Frg} {G G' : Hp} {a : Addr} (h : Le G G') : ∀ {o : OD} {u : HO}, ORep K G a o u → ORep K G' a o u
  | .l _, _, ⟨vs, e, r⟩ => ⟨vs, e, Reps.le h _ _ r⟩
  | .k _ _, _, ⟨kv, e, n, r⟩ => ⟨kv, e, n, Reps.le h _ _ r⟩
  | .n _ _, _, ⟨kv, e, n, r⟩ => ⟨kv, e.mono (SqT.le h), n, Reps.le h _ _ r⟩
  | .i _ _ _, _, ⟨dx, fv, e, n, r⟩ => ⟨dx, fv, e, n, Reps.le h _ _ r⟩
theorem ORep.rep {K : Frg} {G G' : Hp} (h : Le G G') {a : Addr} : ∀ {o : OD} {u : HO}, ORep K G a o u → G' a = some u → Rep K G' o.d (.ref a)
  | .l _, _, ⟨vs, e, r⟩, g => by subst e; exact ⟨a, vs, rfl, g, Reps.le h _ _ r⟩
  | .k _ _, _, ⟨kv, e, n, r⟩, g => by subst e; exact ⟨a, kv, rfl, g, n, Reps.le h _ _ r⟩
  | .n _ _, _, ⟨kv, e, n, r⟩, g => ⟨a, _, _, kv, rfl, g, rfl, e.mono (SqT.le h), n, Reps.le h _ _ r⟩
  | .i _ _ _, _, ⟨dx, fv, e, n, r⟩, g => by subst e; exact ⟨a, dx, fv, rfl, g, n, Reps.le h _ _ r⟩
inductive Sl where
  | no | im (d : D) | acc (o : OD) | bor (o : OD)
instance : Inhabited Sl := ⟨.no⟩
abbrev En := List Sl
structure Fr where
  He : Hp
  Ge : Hp
  bi : Option Nat
  ba : Addr
def ownAt (Γ : En) (j : Nat) : Prop := ∃ o, Γ[j]? = some (.acc o)
def NT (o : HO) : Prop := ∀ ps, o ≠ .tbl ps
theorem ORep.nt {K : Frg} {G : Hp} {a : Addr} : ∀ {o : OD} {u : HO}, ORep K G a o u → NT u
  | .l _, _, ⟨_, e, _⟩ => fun _ z => by subst e; cases z
  | .k _ _, _, ⟨_, e, _⟩ => fun _ z => by subst e; cases z
  | .n _ _, _, ⟨_, ⟨_, e, _⟩, _⟩ => fun _ z => by subst e; cases z
  | .i _ _ _, _, ⟨_, _, e, _⟩ => fun _ z => by subst e; cases z
def NC (a : Addr) (o : HO) : Prop := NT o ∧ ∀ q, o ≠ LamX.CodeO a q
theorem ORep.nc {K : Frg} {G : Hp} {a : Addr} : ∀ {o : OD} {u : HO}, ORep K G a o u → NC a u
  | .l _, _, ⟨_, e, _⟩ => ⟨fun _ z => (by subst e; cases z), fun _ z => by subst e; cases z⟩
  | .k _ _, _, ⟨_, e, _⟩ => ⟨fun _ z => (by subst e; cases z), fun _ z => by subst e; cases z⟩
  | .n _ _, _, ⟨_, ⟨_, e, _⟩, _⟩ => ⟨fun _ z => (by subst e; cases z), fun _ z => by subst e; exact code_ne z⟩
  | .i _ _ _, _, ⟨_, _, e, _⟩ => ⟨fun _ z => (by subst e; cases z), fun _ z => by subst e; cases z⟩
variable [Tabl]
structure Tb0 (K : Frg) (H G : Hp) : Prop where
  gt : ∀ a o, G a = some o → NT o
  ts : LamX.Tabs (Tabl.tabs K) H
structure Tb (K : Frg) (F : Fr) (H G : Hp) : Prop where
  ht : ∀ a o, F.He a = some o → NT o
  t0 : Tb0 K H G
theorem tabs_upd {T : List (Addr × Str)} {H : Hp} {a : Addr} {u u' : HO} (t : LamX.Tabs T H) (h : H a = some u) (n : NC a u) : LamX.Tabs T (upd H a u') := fun p hp => by
  obtain ⟨ps, h1, h2, h3⟩ := t p hp
  have n1 : p.1 ≠ a := fun z => by rw [z, h] at h1; exact n.1 ps (Option.some.inj h1)
  refine ⟨ps, by rw [upd_ne n1]; exact h1, h2, fun pos cv hc => ?_⟩
  obtain ⟨c, e1, e2⟩ := h3 pos cv hc
  have n2 : c ≠ a := fun z => by subst z; rw [h] at e2; exact n.2 _ (Option.some.inj e2)
  exact ⟨c, e1, by rw [upd_ne n2]; exact e2⟩
theorem tabs_new {T : List (Addr × Str)} {H : Hp} {a : Addr} {u : HO} (t : LamX.Tabs T H) (h : H a = none) : LamX.Tabs T (upd H a u) := t.ext fun _ _ e => Le.upd h _ _ e
section
variable {K : Frg} {F : Fr} {H G : Hp} {p : Addr} {o u u' : HO}
theorem Tb.newH (t : Tb K F H G) (h : H p = none) : Tb K F (upd H p o) G := ⟨t.ht, t.t0.gt, tabs_new t.t0.ts h⟩
theorem Tb.tell (t : Tb K F H G) (n : NT o) : Tb K F H (upd G p o) := ⟨t.ht, fun a u e => by
  by_cases hp : a = p
  · subst hp; rw [upd_same] at e; cases e; exact n
  · rw [upd_ne hp] at e; exact t.t0.gt a u e, t.t0.ts⟩
theorem Tb.own (t : Tb K F H G) (h : H p = some u) (n : NC p u) : Tb K F (upd H p u') G := ⟨t.ht, t.t0.gt, tabs_upd t.t0.ts h n⟩
end
structure Rl (K : Frg) (F : Fr) (Γ : En) (σ : St) (H G : Hp) : Prop where
  len : Γ.length = σ.length
  gh : Le G H
  ge : Le F.Ge G
  he : ∀ a o, F.He a = some o → (F.bi = none ∨ a ≠ F.ba) → H a = some o
  gn : ∀ a o, G a = some o → F.Ge a = some o ∨ F.He a = none
  sl : ∀ (i : Nat) (d : D), Γ[i]? = some (.im d) → ∃ v, σ[i]? = some (some v) ∧ Rep K G d v
  ac : ∀ (i : Nat) (o : OD), Γ[i]? = some (.acc o) → ∃ (a : Addr) (u : HO), σ[i]? = some (some (V.ref a)) ∧ H a = some u ∧ G a = none ∧ F.He a = none ∧ ORep K G a o u ∧ ∀ j, j ≠ i → ownAt Γ j → σ[j]? ≠ some (some (V.ref a))
  bo : ∀ (i : Nat) (o : OD), Γ[i]? = some (.bor o) → F.bi = some i ∧ σ[i]? = some (some (V.ref F.ba)) ∧ (∃ u, F.He F.ba = some u) ∧ G F.ba = none ∧ ∃ u, H F.ba = some u ∧ ORep K G F.ba o u
  bb : ∀ i, F.bi = some i → ∃ o, Γ[i]? = some (.bor o)
  tb : Tb K F H G
inductive EV where
  | d (d : D) | own (i : Nat)
inductive O (α : Type) where
  | ok (a : α) (Γ : En) | exc (c : Str) (ns : List Str) (fs : List D) (Γ : En) | fail
def O.bind {α β : Type} (x : O α) (f : α → En → O β) : O β := match x with
  | .ok a Γ => f a Γ
  | .exc c ns fs Γ => .exc c ns fs Γ
  | .fail => .fail
abbrev EF := En → O EV
def ownD (Γ : En) (i : Nat) : Option OD := match Γ[i]? with
  | some (.acc o) => some o
  | some (.bor o) => some o
  | _ => none
def EV.look (Γ : En) : EV → Option D
  | .d x => some x
  | .own i => (ownD Γ i).map OD.d
def XRep (K : Frg) (G : Hp) (c : Str) (ns : List Str) (fs : List D) (cls : Value) (dx : Option Addr) : Prop :=
  cls = .ref (He.ga K c) ∧ ∃ fv : List (Str × V), fv.map (·.1) = ns ∧ Reps K G fs (fv.map (·.2)) ∧ (ns = [] ∨ ∃ a, dx = some a ∧ G a = some (.xd fv))
section
variable {K : Frg} {F : Fr} {Γ : En} {σ : St} {H G : Hp}
theorem Rl.heNone (R : Rl K F Γ σ H G) {p : Addr} (h : H p = none) : F.He p = none := by
  cases e : F.He p with
  | none => rfl
  | some o =>
    cases hb : F.bi with
    | none => have := R.he p o e (.inl hb); rw [h] at this; cases this
    | some i =>
      by_cases hp : p = F.ba
      · obtain ⟨o', ho⟩ := R.bb i hb
        obtain ⟨_, _, _, _, u, hu, _⟩ := R.bo i o' ho
        rw [← hp, h] at hu; cases hu
      · have := R.he p o e (.inr hp); rw [h] at this; cases this
theorem Rl.gNone (R : Rl K F Γ σ H G) {p : Addr} (h : H p = none) : G p = none := by
  cases e : G p with
  | none => rfl
  | some o => have := R.gh p o e; rw [h] at this; cases this
theorem Rl.newH (R : Rl K F Γ σ H G) {p : Addr} {o : HO} (h : H p = none) : Rl K F Γ σ (upd H p o) G where
  len := R.len
  gh := fun a u e => by rw [upd_ne (ne_of_none (R.gh a u e) h)]; exact R.gh a u e
  ge := R.ge
  he := fun a u e hb => by have := R.he a u e hb; rw [upd_ne (ne_of_none this h)]; exact this
  gn := R.gn
  sl := R.sl
  ac := fun i o' e => by
    obtain ⟨a, u, h1, h2, h3, h4, h5, h6⟩ := R.ac i o' e
    exact ⟨a, u, h1, by rw [upd_ne (ne_of_none h2 h)]; exact h2, h3, h4, h5, h6⟩
  bo := fun i o' e => by
    obtain ⟨h1, h2, h3, h4, u, h5, h6⟩ := R.bo i o' e
    exact ⟨h1, h2, h3, h4, u, by rw [upd_ne (ne_of_none h5 h)]; exact h5, h6⟩
  bb := R.bb
  tb := R.tb.newH h
theorem Rl.tell (R : Rl K F Γ σ H G) {p : Addr} {o : HO} (h : H p = some o) (hn : F.He p = none) (hg : G p = none) (ho : ∀ j, ownAt Γ j → σ[j]? ≠ some (some (.ref p))) (nt : NT o := by (intro _ z; cases z)) : Rl K F Γ σ H (upd G p o) where
  len := R.len
  gh := fun a u e => by
    by_cases hp : a = p
    · subst hp; rw [upd_same] at e; rw [h]; exact e
    · rw [upd_ne hp] at e; exact R.gh a u e
  ge := fun a u e => by rw [upd_ne (ne_of_none (R.ge a u e) hg)]; exact R.ge a u e
  he := R.he
  gn := fun a u e => by
    by_cases hp : a = p
    · subst hp; exact .inr hn
    · rw [upd_ne hp] at e; exact R.gn a u e
  sl := fun i d e => by
    obtain ⟨v, h1, h2⟩ := R.sl i d e
    exact ⟨v, h1, Rep.le (Le.upd hg) d v h2⟩
  ac := fun i o' e => by
    obtain ⟨a, u, h1, h2, h3, h4, h5, h6⟩ := R.ac i o' e
    have : a ≠ p := fun z => ho i ⟨o', e⟩ (by rw [h1, z])
    exact ⟨a, u, h1, h2, by rw [upd_ne this]; exact h3, h4, h5.le (Le.upd hg), h6⟩
  bo := fun i o' e => by
    obtain ⟨h1, h2, ⟨w, h3⟩, h4, u, h5, h6⟩ := R.bo i o' e
    have : F.ba ≠ p := ne_of_none h3 hn
    exact ⟨h1, h2, ⟨w, h3⟩, by rw [upd_ne this]; exact h4, u, h5, h6.le (Le.upd hg)⟩
  bb := R.bb
  tb := R.tb.tell nt
theorem Rl.noOwn (R : Rl K F Γ σ H G) {p : Addr} (h : H p = none) : ∀ j, ownAt Γ j → σ[j]? ≠ some (some (.ref p)) := fun j ⟨o, e⟩ z => by
  obtain ⟨a, u, h1, h2, _⟩ := R.ac j o e
  rw [h1] at z
  cases z
  rw [h] at h2; cases h2
theorem Rl.new (R : Rl K F Γ σ H G) {p : Addr} {o : HO} (h : H p = none) (nt : NT o := by (intro _ z; cases z)) : Rl K F Γ σ (upd H p o) (upd G p o) :=
  (R.newH h).tell upd_same (R.heNone h) (R.gNone h) (R.noOwn h) nt
theorem get_set {α : Type} {l : List α} {i j : Nat} {x y : α} (h : (l.set i x)[j]? = some y) : (j = i ∧ i < l.length ∧ y = x) ∨ (j ≠ i ∧ l[j]? = some y) := by
  by_cases e : i = j
  · subst e
    by_cases hi : i < l.length
    · rw [List.getElem?_set_self hi] at h; cases h; exact .inl ⟨rfl, hi, rfl⟩
    · rw [List.getElem?_eq_none (by simpa using hi)] at h; cases h
  · rw [List.getElem?_set_ne e] at h; exact .inr ⟨fun z => e z.symm, h⟩
theorem Rl.setIm (R : Rl K F Γ σ H G) {i : Nat} {d : D} {v : V} (hi : F.bi ≠ some i) (r : Rep K G d v) : Rl K F (Γ.set i (.im d)) (σ.set i (some v)) H G where
  len := by rw [List.length_set, List.length_set]; exact R.len
  gh := R.gh
  ge := R.ge
  he := R.he
  gn := R.gn
  sl := fun j d' e => by
    rcases get_set e with ⟨rfl, hl, e⟩ | ⟨hj, e⟩
    · cases e; exact ⟨v, List.getElem?_set_self (by rw [← R.len]; exact hl), r⟩
    · obtain ⟨w, h1, h2⟩ := R.sl j d' e
      exact ⟨w, by rw [List.getElem?_set_ne (Ne.symm hj)]; exact h1, h2⟩
  ac := fun j o e => by
    rcases get_set e with ⟨rfl, _, e⟩ | ⟨hj, e⟩
    · cases e
    · obtain ⟨a, u, h1, h2, h3, h4, h5, h6⟩ := R.ac j o e
      refine ⟨a, u, by rw [List.getElem?_set_ne (Ne.symm hj)]; exact h1, h2, h3, h4, h5, fun k hk ⟨o', ek⟩ => ?_⟩
      rcases get_set ek with ⟨_, _, e⟩ | ⟨hki, e⟩
      · cases e
      · rw [List.getElem?_set_ne (Ne.symm hki)]; exact h6 k hk ⟨o', e⟩
  bo := fun j o e => by
    rcases get_set e with ⟨rfl, _, e⟩ | ⟨hj, e⟩
    · cases e
    · obtain ⟨h1, h2, h3⟩ := R.bo j o e
      exact ⟨h1, by rw [List.getElem?_set_ne (Ne.symm hj)]; exact h2, h3⟩
  bb := fun j e => by
    obtain ⟨o, h⟩ := R.bb j e
    refine ⟨o, ?_⟩
    rw [List.getElem?_set_ne (fun z => hi (by rw [z]; exact e))]; exact h
  tb := R.tb
theorem Rl.setNo (R : Rl K F Γ σ H G) {i : Nat} {x : Option V} (hi : F.bi ≠ some i) : Rl K F (Γ.set i .no) (σ.set i x) H G where
  len := by rw [List.length_set, List.length_set]; exact R.len
  gh := R.gh
  ge := R.ge
  he := R.he
  gn := R.gn
  sl := fun j d' e => by
    rcases get_set e with ⟨rfl, hl, e⟩ | ⟨hj, e⟩
    · cases e
    · obtain ⟨w, h1, h2⟩ := R.sl j d' e
      exact ⟨w, by rw [List.getElem?_set_ne (Ne.symm hj)]; exact h1, h2⟩
  ac := fun j o e => by
    rcases get_set e with ⟨rfl, _, e⟩ | ⟨hj, e⟩
    · cases e
    · obtain ⟨a, u, h1, h2, h3, h4, h5, h6⟩ := R.ac j o e
      refine ⟨a, u, by rw [List.getElem?_set_ne (Ne.symm hj)]; exact h1, h2, h3, h4, h5, fun k hk ⟨o', ek⟩ => ?_⟩
      rcases get_set ek with ⟨_, _, e⟩ | ⟨hki, e⟩
      · cases e
      · rw [List.getElem?_set_ne (Ne.symm hki)]; exact h6 k hk ⟨o', e⟩
  bo := fun j o e => by
    rcases get_set e with ⟨rfl, _, e⟩ | ⟨hj, e⟩
    · cases e
    · obtain ⟨h1, h2, h3⟩ := R.bo j o e
      exact ⟨h1, by rw [List.getElem?_set_ne (Ne.symm hj)]; exact h2, h3⟩
  bb := fun j e => by
    obtain ⟨o, h⟩ := R.bb j e
    refine ⟨o, ?_⟩
    rw [List.getElem?_set_ne (fun z => hi (by rw [z]; exact e))]; exact h
  tb := R.tb
theorem Rl.setAcc (R : Rl K F Γ σ H G) {i : Nat} {o : OD} {p : Addr} {u : HO} (hi : F.bi ≠ some i) (hp : H p = some u) (hg : G p = none) (hn : F.He p = none) (ho : ∀ j, ownAt Γ j → σ[j]? ≠ some (some (.ref p))) (r : ORep K G p o u) :
    Rl K F (Γ.set i (.acc o)) (σ.set i (some (.ref p))) H G where
  len := by rw [List.length_set, List.length_set]; exact R.len
  gh := R.gh
  ge := R.ge
  he := R.he
  gn := R.gn
  sl := fun j d' e => by
    rcases get_set e with ⟨rfl, hl, e⟩ | ⟨hj, e⟩
    · cases e
    · obtain ⟨w, h1, h2⟩ := R.sl j d' e
      exact ⟨w, by rw [List.getElem?_set_ne (Ne.symm hj)]; exact h1, h2⟩
  ac := fun j o' e => by
    rcases get_set e with ⟨rfl, hl, e⟩ | ⟨hj, e⟩
    · cases e
      refine ⟨p, u, List.getElem?_set_self (by rw [← R.len]; exact hl), hp, hg, hn, r, fun k hk ⟨o', ek⟩ => ?_⟩
      rcases get_set ek with ⟨z, _, e⟩ | ⟨hki, e'⟩
      · exact absurd z hk
      · rw [List.getElem?_set_ne (Ne.symm hki)]; exact ho k ⟨o', e'⟩
    · obtain ⟨a, w, h1, h2, h3, h4, h5, h6⟩ := R.ac j o' e
      have hjo : σ[j]? ≠ some (some (.ref p)) := ho j ⟨o', e⟩
      refine ⟨a, w, by rw [List.getElem?_set_ne (Ne.symm hj)]; exact h1, h2, h3, h4, h5, fun k hk ⟨o', ek⟩ => ?_⟩
      rcases get_set ek with ⟨z, hl, _⟩ | ⟨hki, e'⟩
      · subst z
        rw [List.getElem?_set_self (by rw [← R.len]; exact hl)]
        intro q
        exact hjo (h1.trans q.symm)
      · rw [List.getElem?_set_ne (Ne.symm hki)]; exact h6 k hk ⟨o', e'⟩
  bo := fun j o e => by
    rcases get_set e with ⟨rfl, _, e⟩ | ⟨hj, e⟩
    · cases e
    · obtain ⟨h1, h2, h3⟩ := R.bo j o e
      exact ⟨h1, by rw [List.getElem?_set_ne (Ne.symm hj)]; exact h2, h3⟩
  bb := fun j e => by
    obtain ⟨o, h⟩ := R.bb j e
    refine ⟨o, ?_⟩
    rw [List.getElem?_set_ne (fun z => hi (by rw [z]; exact e))]; exact h
  tb := R.tb
theorem Rl.freeze (R : Rl K F Γ σ H G) {i : Nat} {o : OD} (h : Γ[i]? = some (.acc o)) : ∃ v G', σ[i]? = some (some v) ∧ Rl K F (Γ.set i (.im o.d)) σ H G' ∧ Le G G' ∧ Rep K G' o.d v := by
  obtain ⟨a, u, h1, h2, h3, h4, h5, h6⟩ := R.ac i o h
  have hb : F.bi ≠ some i := fun z => by
    obtain ⟨o', e⟩ := R.bb i z
    rw [h] at e; cases e
  have R1 : Rl K F (Γ.set i .no) (σ.set i (some (.ref a))) H G := R.setNo hb
  have eσ : σ.set i (some (.ref a)) = σ := by
    refine List.ext_getElem? fun j => ?_
    by_cases e : i = j
    · subst e
      rw [List.getElem?_set_self (List.getElem?_eq_some_iff.mp h1).1, h1]
    · rw [List.getElem?_set_ne e]
  rw [eσ] at R1
  have R2 : Rl K F (Γ.set i .no) σ H (upd G a u) := R1.tell h2 h4 h3 (fun j ⟨o', e⟩ => by
    rcases get_set e with ⟨_, _, e⟩ | ⟨hj, e⟩
    · cases e
    · exact h6 j hj ⟨o', e⟩) h5.nt
  have rp : Rep K (upd G a u) o.d (.ref a) := h5.rep (Le.upd h3) upd_same
  have R3 := R2.setIm (i := i) (d := o.d) hb rp
  rw [List.set_set, eσ] at R3
  exact ⟨.ref a, _, h1, R3, Le.upd h3, rp⟩
theorem Rl.setOwn (R : Rl K F Γ σ H G) {i : Nat} {o o' : OD} {p : Addr} {u' : HO} (h : Γ[i]? = some (.acc o)) (hp : σ[i]? = some (some (.ref p))) (r : ORep K G p o' u') : Rl K F (Γ.set i (.acc o')) σ (upd H p u') G := by
  obtain ⟨a, u, h1, h2, h3, h4, h5, h6⟩ := R.ac i o h
  rw [hp] at h1
  cases h1
  have hb : F.bi ≠ some i := fun z => by
    obtain ⟨o', e⟩ := R.bb i z
    rw [h] at e; cases e
  refine ⟨by rw [List.length_set]; exact R.len, fun a x e => ?_, R.ge, fun a x e q => ?_, R.gn, fun j d e => ?_, fun j ob e => ?_, fun j ob e => ?_, fun j e => ?_, R.tb.own h2 h5.nc⟩
  · rw [upd_ne (ne_of_none e h3)]; exact R.gh a x e
  · rw [upd_ne (ne_of_none e h4)]; exact R.he a x e q
  · rcases get_set e with ⟨_, _, e⟩ | ⟨_, e⟩
    · cases e
    · exact R.sl j d e
  · rcases get_set e with ⟨rfl, hl, e⟩ | ⟨hj, e⟩
    · cases e
      refine ⟨p, u', hp, upd_same, h3, h4, r, fun k hk ⟨ok, ek⟩ => ?_⟩
      rcases get_set ek with ⟨z, _, _⟩ | ⟨_, e⟩
      · exact absurd z hk
      · exact h6 k hk ⟨ok, e⟩
    · obtain ⟨a, w, g1, g2, g3, g4, g5, g6⟩ := R.ac j ob e
      have ne : a ≠ p := fun z => by subst z; exact h6 j hj ⟨ob, e⟩ g1
      refine ⟨a, w, g1, by rw [upd_ne ne]; exact g2, g3, g4, g5, fun k hk ⟨ok, ek⟩ => ?_⟩
      rcases get_set ek with ⟨z, _, _⟩ | ⟨_, e⟩
      · subst z; rw [hp]; intro q; cases q; exact ne rfl
      · exact g6 k hk ⟨ok, e⟩
  · rcases get_set e with ⟨_, _, e⟩ | ⟨hj, e⟩
    · cases e
    · obtain ⟨g1, g2, ⟨w, g3⟩, g4, x, g5, g6⟩ := R.bo j ob e
      exact ⟨g1, g2, ⟨w, g3⟩, g4, x, by rw [upd_ne (ne_of_none g3 h4)]; exact g5, g6⟩
  · obtain ⟨o, e2⟩ := R.bb j e
    exact ⟨o, by rw [List.getElem?_set_ne (fun z => hb (by rw [z]; exact e))]; exact e2⟩
theorem Rl.setBor (R : Rl K F Γ σ H G) {i : Nat} {o o' : OD} {u' : HO} (h : Γ[i]? = some (.bor o)) (r : ORep K G F.ba o' u') : Rl K F (Γ.set i (.bor o')) σ (upd H F.ba u') G := by
  obtain ⟨h1, h2, ⟨w, h3⟩, h4, u, h5, h6⟩ := R.bo i o h
  refine ⟨by rw [List.length_set]; exact R.len, fun a x e => ?_, R.ge, fun a x e q => ?_, R.gn, fun j d e => ?_, fun j ob e => ?_, fun j ob e => ?_, fun j e => ?_, R.tb.own h5 h6.nc⟩
  · rw [upd_ne (ne_of_none e h4)]; exact R.gh a x e
  · rcases q with q | q
    · rw [h1] at q; cases q
    · rw [upd_ne q]; exact R.he a x e (.inr q)
  · rcases get_set e with ⟨_, _, e⟩ | ⟨_, e⟩
    · cases e
    · exact R.sl j d e
  · rcases get_set e with ⟨_, _, e⟩ | ⟨hj, e⟩
    · cases e
    · obtain ⟨a, w', g1, g2, g3, g4, g5, g6⟩ := R.ac j ob e
      have ne : a ≠ F.ba := fun z => by rw [z, h3] at g4; cases g4
      refine ⟨a, w', g1, by rw [upd_ne ne]; exact g2, g3, g4, g5, fun k hk ⟨ok, ek⟩ => ?_⟩
      rcases get_set ek with ⟨_, _, e⟩ | ⟨_, e⟩
      · cases e
      · exact g6 k hk ⟨ok, e⟩
  · rcases get_set e with ⟨rfl, hl, e⟩ | ⟨hj, e⟩
    · cases e
      exact ⟨h1, h2, ⟨w, h3⟩, h4, u', upd_same, r⟩
    · obtain ⟨g1, _⟩ := R.bo j ob e
      rw [h1] at g1; cases g1; exact absurd rfl hj
  · rw [h1] at e; cases e
    exact ⟨o', List.getElem?_set_self (List.getElem?_eq_some_iff.mp h).1⟩
end
end FL
namespace FL
open PySem PySem.Spec PyProof.Rows L2
variable [Wrl] [Tabl]
abbrev Rel (α β : Type) := St → Hp → α → β → Prop
def Rel.Mono {α β : Type} (r : Rel α β) : Prop := ∀ σ G G' a b, Le G G' → r σ G a b → r σ G' a b
def Out {α β : Type} (K : Frg) (W : WX) (rel : Rel α β) (F : Fr) (σ : St) (G : Hp) (T : (β → Hp → Prop) → Prop) : O α → Prop
  | .ok a Γ' => ∀ Q : β → Hp → Prop, (∀ b H' G', Rl K F Γ' σ H' G' → Le G G' → rel σ G' a b → Q b H') → T Q
  | .exc c ns fs Γ' => ∀ Q : β → Hp → Prop, (∀ cls dx H' G', Rl K F Γ' σ H' G' → Le G G' → XRep K G' c ns fs cls dx → W cls dx σ H') → T Q
  | .fail => True
def Sem {α β : Type} (K : Frg) (W : WX) (rel : Rel α β) (t : St → Hp → (β → Hp → Prop) → Prop) (f : En → O α) : Prop := ∀ (F : Fr) (Γ : En) (σ : St) (H G : Hp), Rl K F Γ σ H G → Out K W rel F σ G (t σ H) (f Γ)
def SemK {α β α' β' : Type} (K : Frg) (W : WX) (rel : Rel α β) (rel' : Rel α' β') (t : β → St → Hp → (β' → Hp → Prop) → Prop) (f : α → En → O α') : Prop := ∀ (F : Fr) (Γ : En) (σ : St) (H G : Hp) (a : α) (b : β), Rl K F Γ σ H G → rel σ G a b → Out K W rel' F σ G (t b σ H) (f a Γ)
section
variable {α β α' β' α2 β2 : Type} {K : Frg} {W : WX} {rel : Rel α β} {rel' : Rel α' β'} {rel2 : Rel α2 β2} {F : Fr} {σ : St} {G : Hp}
theorem Out.of {T T' : (β → Hp → Prop) → Prop} : ∀ {r : O α}, Out K W rel F σ G T r → (∀ Q, T Q → T' Q) → Out K W rel F σ G T' r
  | .ok _ _, h, k => fun Q q => k Q (h Q q)
  | .exc _ _ _ _, h, k => fun Q q => k Q (h Q q)
  | .fail, _, _ => trivial
theorem Out.bind {T : (β → Hp → Prop) → Prop} {T' : β → Hp → (β' → Hp → Prop) → Prop} {g : α → En → O α'} : ∀ {r : O α}, Out K W rel F σ G T r →
    (∀ a Γ1 b H1 G1, Rl K F Γ1 σ H1 G1 → Le G G1 → rel σ G1 a b → Out K W rel' F σ G1 (T' b H1) (g a Γ1)) → Out K W rel' F σ G (fun Q => T fun b H1 => T' b H1 Q) (r.bind g)
  | .fail, _, _ => trivial
  | .exc _ _ _ _, h, _ => fun Q q => h _ q
  | .ok a Γ1, h, k => by
    show Out K W rel' F σ G _ (g a Γ1)
    cases e2 : g a Γ1 with
    | fail => trivial
    | exc c ns fs Γ' =>
      intro Q q
      refine h _ fun b H1 G1 R1 le1 r1 => ?_
      have h2 := k a Γ1 b H1 G1 R1 le1 r1
      rw [e2] at h2
      exact h2 Q fun cls dx H' G' R' le' x => q cls dx H' G' R' (le1.trans le') x
    | ok a' Γ' =>
      intro Q q
      refine h _ fun b H1 G1 R1 le1 r1 => ?_
      have h2 := k a Γ1 b H1 G1 R1 le1 r1
      rw [e2] at h2
      exact h2 Q fun b' H' G' R' le' x => q b' H' G' R' (le1.trans le') x
theorem Sem.bind {t : St → Hp → (β → Hp → Prop) → Prop} {f : En → O α} {T : β → St → Hp → (β' → Hp → Prop) → Prop} {g : α → En → O α'} (h : Sem K W rel t f) (k : SemK K W rel rel' T g) :
    Sem K W rel' (fun σ H Q => t σ H fun b H1 => T b σ H1 Q) (fun Γ => (f Γ).bind g) := fun F Γ σ H G R =>
  (h F Γ σ H G R).bind (T' := fun b H1 Q => T b σ H1 Q) fun a Γ1 b H1 G1 R1 _ r1 => k F Γ1 σ H1 G1 a b R1 r1
theorem SemK.bind {t : β → St → Hp → (β' → Hp → Prop) → Prop} {f : α → En → O α'} {T : β → β' → St → Hp → (β2 → Hp → Prop) → Prop} {g : α → α' → En → O α2} (m : rel.Mono) (h : SemK K W rel rel' t f)
    (k : ∀ (F : Fr) (Γ : En) (σ : St) (H G : Hp) (a : α) (b : β) (a' : α') (b' : β'), Rl K F Γ σ H G → rel σ G a b → rel' σ G a' b' → Out K W rel2 F σ G (T b b' σ H) (g a a' Γ)) :
    SemK K W rel rel2 (fun b σ H Q => t b σ H fun b' H1 => T b b' σ H1 Q) (fun a Γ => (f a Γ).bind (g a)) := fun F Γ σ H G a b R r =>
  (h F Γ σ H G a b R r).bind (T' := fun b' H1 Q => T b b' σ H1 Q) fun a' Γ1 b' H1 G1 R1 le1 r1 => k F Γ1 σ H1 G1 a b a' b' R1 (m _ _ _ _ _ le1 r) r1
theorem Sem.toK {t : St → Hp → (β' → Hp → Prop) → Prop} {f : En → O α'} (h : Sem K W rel' t f) : SemK K W rel rel' (fun _ => t) (fun _ => f) := fun F Γ σ H G _ _ R _ => h F Γ σ H G R
end
def vrel (K : Frg) : Rel EV V := fun σ G ev v => match ev with
  | .d x => Rep K G x v
  | .own i => σ[i]? = some (some v)
theorem vrel_mono (K : Frg) : (vrel K).Mono := fun σ G G' a b le r => by
  cases a with
  | d x => exact Rep.le le x b r
  | own i => exact r
def vsrel (K : Frg) : Rel (List EV) (List V) := fun σ G es vs => Paired (vrel K σ G) es vs
theorem vsrel_mono (K : Frg) : (vsrel K).Mono := fun σ G G' a b le r => by
  unfold vsrel at r ⊢
  induction r with
  | nil => exact .nil
  | cons h _ ih => exact .cons (vrel_mono K _ _ _ _ _ le h) ih
structure FE (X : Cx) (W : WX) (e : Expr) (f : EF) : Prop where
  ex : ∃ t, PE X e t ∧ Sem X.K W (vrel X.K) t f
abbrev TF := En → O Bool
abbrev AF := En → O (List EV)
def eqrel {α : Type} : Rel α α := fun _ _ a b => b = a
structure FT (X : Cx) (W : WX) (e : Expr) (f : TF) : Prop where
  ex : ∃ t, PT X e t ∧ Sem X.K W eqrel t f
structure FW (X : Cx) (W : WX) (e : Expr) (f : TF) : Prop where
  ex : ∃ t, PW X e t ∧ Sem X.K W eqrel t f
structure FA (X : Cx) (W : WX) (es : List Expr) (f : AF) : Prop where
  ex : ∃ t, PA X es t ∧ Sem X.K W (vsrel X.K) t f
def LRep (K : Frg) (G H : Hp) (d : D) (v : V) : Prop := Rep K G d v ∨ ∃ (a : Addr) (u : HO) (o : OD), v = .ref a ∧ d = o.d ∧ H a = some u ∧ ORep K G a o u
theorem LRep.rep {K : Frg} {G H : Hp} (le : Le G H) {d : D} {v : V} (h : LRep K G H d v) : Rep K H d v := by
  rcases h with h | ⟨a, u, o, rfl, rfl, hu, r⟩
  · exact Rep.le le d v h
  · exact r.rep le hu
theorem Rl.look {K : Frg} {F : Fr} {Γ : En} {σ : St} {H G : Hp} (R : Rl K F Γ σ H G) {ev : EV} {v : V} {x : D} (r : vrel K σ G ev v) (e : ev.look Γ = some x) : LRep K G H x v := by
  cases ev with
  | d y => cases e; exact .inl r
  | own i =>
    obtain ⟨o, e1, rfl⟩ := Option.map_eq_some_iff.mp (show (ownD Γ i).map OD.d = some x from e)
    have r : σ[i]? = some (some v) := r
    unfold ownD at e1
    split at e1
    · rename_i o' h
      cases e1
      obtain ⟨a, u, h1, h2, _, _, h5, _⟩ := R.ac i o h
      rw [r] at h1
      cases h1
      exact .inr ⟨a, u, o, rfl, rfl, h2, h5⟩
    · rename_i o' h
      cases e1
      obtain ⟨_, h2, _, _, u, h5, h6⟩ := R.bo i o h
      rw [r] at h2
      cases h2
      exact .inr ⟨_, u, o, rfl, rfl, h5, h6⟩
    · cases e1
theorem LRep.lst {K : Frg} {G H : Hp} (le : Le G H) {ds : List D} {v : V} (h : LRep K G H (.lst ds) v) : ∃ a vs, v = .ref a ∧ H a = some (.lst vs) ∧ Reps K G ds vs := by
  rcases h with ⟨a, vs, rfl, h, r⟩ | ⟨a, u, o, rfl, e, hu, r⟩
  · exact ⟨a, vs, rfl, le _ _ h, r⟩
  · cases o with
    | l xs =>
      cases e
      obtain ⟨vs, rfl, r⟩ := r
      exact ⟨a, vs, rfl, hu, r⟩
    | k _ _ => cases e
    | n _ _ => cases e
    | i _ _ _ => cases e
theorem LRep.flat {K : Frg} {G H : Hp} {d : D} {v : V} (h : LRep K G H d v) (n : ∀ o : OD, d ≠ o.d) : Rep K G d v := by
  rcases h with h | ⟨a, u, o, _, e, _⟩
  · exact h
  · exact absurd e (n o)
theorem LRep.tup {K : Frg} {G H : Hp} {ds : List D} {v : V} (h : LRep K G H (.tup ds) v) : ∃ a vs, v = .ref a ∧ SqT K G a vs ∧ Reps K G ds vs := h.flat (fun o => by cases o <;> (intro z; cases z))
theorem LRep.int {K : Frg} {G H : Hp} {i : Int} {v : V} (h : LRep K G H (.int i) v) : v = .int i := h.flat (fun o => by cases o <;> (intro z; cases z))
theorem LRep.str {K : Frg} {G H : Hp} {x : Str} {v : V} (h : LRep K G H (.str x) v) : v = .str x := h.flat (fun o => by cases o <;> (intro z; cases z))
theorem LRep.bl {K : Frg} {G H : Hp} {x : Bool} {v : V} (h : LRep K G H (.bl x) v) : v = .bl x := h.flat (fun o => by cases o <;> (intro z; cases z))
def Kont (K : Frg) (F : Fr) (Γ : En) (σ : St) (G : Hp) (x : D) (Q : VK) : Prop := ∀ v H' G', Rl K F Γ σ H' G' → Le G G' → Rep K G' x v → Q v H'
end FL
namespace FL
open PySem PySem.Spec PyProof.Rows L2
variable [Wrl] [Tabl]
variable {X : Cx} {W : WX} {e a b c : Expr} {f g f1 f2 f3 : EF} {pos : Pos}
def cE (x : D) : EF := fun Γ => .ok (.d x) Γ
def vE (i : Nat) : EF := fun Γ => match Γ[i]? with
  | some (.im x) => .ok (.d x) Γ
  | some (.acc _) => .ok (.own i) Γ
  | some (.bor _) => .ok (.own i) Γ
  | _ => .fail
theorem sem_c {K : Frg} {x : D} {v : V} (h : ∀ G, Rep K G x v) : Sem K W (vrel K) (tC v) (cE x) := fun F Γ σ H G R Q q => q v H G R (Le.refl G) (h G)
theorem fe_int {i : Int} {j pos} : FE X W (.Constant (.int i) j pos) (cE (.int i)) := ⟨_, pe_int, sem_c fun _ => rfl⟩
theorem fe_bl {b : Bool} {j pos} : FE X W (.Constant (.bool b) j pos) (cE (.bl b)) := ⟨_, pe_bl, sem_c fun _ => rfl⟩
theorem fe_non {j pos} : FE X W (.Constant .none j pos) (cE .non) := ⟨_, pe_non, sem_c fun _ => rfl⟩
theorem fe_str {x : Str} {j pos} : FE X W (.Constant (.str x) j pos) (cE (.str x)) := ⟨_, pe_str, sem_c fun _ => rfl⟩
def GK (X : Cx) (x : Str) (d : D) : Prop := ∃ (v : V) (u : Value), X.mg x = some u ∧ RelV v u ∧ ∀ G, Rep X.K G d v
theorem fe_glob {x : Str} {d : D} (h : GK X x d) (hg : Gl X x := by rfl) (hd : (x == ("__debug__" : Str)) = false := by decide) : FE X W (.Name x pos) (cE d) := by
  obtain ⟨v, u, hm, r, k⟩ := h
  exact ⟨_, pe_glob hg hm r hd, sem_c k⟩
theorem fe_var {i : Nat} {x : Str} (hN : X.N[i]? = some x) (hv : Vis X.env.scope x := by first | exact .inl rfl | exact .inr (.inl rfl) | exact .inr (.inr rfl)) (hd : (x == ("__debug__" : Str)) = false := by decide) (hcd : (x == ("__classdict__" : Str)) = false := by decide) : FE X W (.Name x pos) (vE i) := by
  refine ⟨_, pe_var hN hv hd hcd, fun F Γ σ H G R => ?_⟩
  unfold vE
  split
  · rename_i x' hx
    intro Q q
    obtain ⟨v, h1, h2⟩ := R.sl i _ hx
    exact ⟨v, h1, q v H G R (Le.refl G) h2⟩
  · rename_i o hx
    intro Q q
    obtain ⟨p, u, h1, _⟩ := R.ac i _ hx
    exact ⟨_, h1, q _ H G R (Le.refl G) h1⟩
  · rename_i o hx
    intro Q q
    obtain ⟨_, h1, _⟩ := R.bo i _ hx
    exact ⟨_, h1, q _ H G R (Le.refl G) h1⟩
  · trivial
def fin2 (g : D → D → Option D) (e1 e2 : EV) (Γ : En) : O EV := match e1.look Γ, e2.look Γ with
  | some d1, some d2 => (match g d1 d2 with | some x => .ok (.d x) Γ | none => .fail)
  | _, _ => .fail
def op2 (g : D → D → Option D) (f1 f2 : EF) : EF := fun Γ => (f1 Γ).bind fun e1 Γ1 => (f2 Γ1).bind fun e2 Γ2 => fin2 g e1 e2 Γ2
def Op2 (X : Cx) (r : R2) (g : D → D → Option D) : Prop := ∀ (F : Fr) (Γ : En) (σ : St) (H G : Hp) (d1 d2 : D) (v1 v2 : V) (x : D) (Q : VK), Rl X.K F Γ σ H G → LRep X.K G H d1 v1 → LRep X.K G H d2 v2 → g d1 d2 = some x →
  Kont X.K F Γ σ G x Q → r v1 v2 H Q
theorem out_fin2 {r : R2} {g : D → D → Option D} (ho : Op2 X r g) {F : Fr} {Γ : En} {σ : St} {H G : Hp} {a1 a2 : EV} {b1 b2 : V} (R : Rl X.K F Γ σ H G) (r1 : vrel X.K σ G a1 b1) (r2 : vrel X.K σ G a2 b2) :
    Out X.K W (vrel X.K) F σ G (fun Q => r b1 b2 H Q) (fin2 g a1 a2 Γ) := by
  unfold fin2
  split
  · rename_i d1 d2 e1 e2
    split
    · rename_i x e3
      exact fun Q q => ho F Γ σ H G d1 d2 b1 b2 x Q R (R.look r1 e1) (R.look r2 e2) e3 q
    · trivial
  · trivial
theorem sem_op2 {r : R2} {g : D → D → Option D} {t1 t2 : TE} (ho : Op2 X r g) (h1 : Sem X.K W (vrel X.K) t1 f1) (h2 : Sem X.K W (vrel X.K) t2 f2) : Sem X.K W (vrel X.K) (tOp r t1 t2) (op2 g f1 f2) := by
  refine Sem.bind (T := fun b σ H Q => t2 σ H fun b' H1 => r b b' H1 Q) h1 (SemK.bind (T := fun b b' σ H Q => r b b' H Q) (vrel_mono X.K) h2.toK fun F Γ σ H G a1 b1 a2 b2 R r1 r2 => out_fin2 ho R r1 r2)
theorem fe_op {op : Operator} {r : R2} {g : D → D → Option D} (ho : OpR X (binaryOp op) r) (hs : Op2 X r g) (ha : FE X W a f1) (hb : FE X W b f2) : FE X W (.BinOp a op b pos) (op2 g f1 f2) := by
  obtain ⟨t1, p1, s1⟩ := ha
  obtain ⟨t2, p2, s2⟩ := hb
  exact ⟨_, pe_op ho p1 p2, sem_op2 hs s1 s2⟩
theorem fe_cmp {op : CmpOp} {r : R2} {g : D → D → Option D} (ho : OpR X (compareOp op) r) (hs : Op2 X r g) (ha : FE X W a f1) (hb : FE X W b f2) (hm : behindInMarks op b = false) : FE X W (.Compare a [op] [b] pos) (op2 g f1 f2) := by
  obtain ⟨t1, p1, s1⟩ := ha
  obtain ⟨t2, p2, s2⟩ := hb
  exact ⟨_, pe_cmpR ho p1 p2 hm, sem_op2 hs s1 s2⟩
def addD : D → D → Option D
  | .int i, .int j => some (.int (i + j))
  | .str x, .str y => if x.length + y.length ≤ sizeLine then some (.str (x ++ y)) else none
  | .lst xs, .lst ys => if xs.length + ys.length ≤ sizeLine then some (.lst (xs ++ ys)) else none
  | .tup xs, .tup ys => if xs.length + ys.length ≤ sizeLine then some (.tup (xs ++ ys)) else none
  | _, _ => none
def rAddA (K : Frg) : R2 := fun x y H Q => (∃ i j, x = .int i ∧ y = .int j ∧ Q (.int (i + j)) H) ∨ (∃ i j, x = .str i ∧ y = .str j ∧ i.length + j.length ≤ sizeLine ∧ Q (.str (i ++ j)) H) ∨ rCat x y H Q ∨ rCatA K x y H Q
theorem op_addA : OpR X (binaryOp .Add) (rAddA X.K) := op_add.or (op_add_str.or (op_cat.or op_catA))
theorem add_ok : Op2 X (rAddA X.K) addD := by
  intro F Γ σ H G d1 d2 v1 v2 x Q R r1 r2 e q
  unfold addD at e
  split at e
  · cases e
    exact .inl ⟨_, _, r1.int, r2.int, q _ _ _ R (Le.refl G) rfl⟩
  · split at e
    · rename_i hz
      cases e
      exact .inr (.inl ⟨_, _, r1.str, r2.str, hz, q _ _ _ R (Le.refl G) rfl⟩)
    · cases e
  · split at e
    · rename_i hz
      cases e
      obtain ⟨l1, vs1, rfl, h1, q1⟩ := r1.lst R.gh
      obtain ⟨l2, vs2, rfl, h2, q2⟩ := r2.lst R.gh
      refine .inr (.inr (.inl ⟨l1, l2, vs1, vs2, rfl, rfl, h1, h2, by rw [q1.len, q2.len]; exact hz, fun p hp => ?_⟩))
      exact q _ _ _ (R.new hp) (Le.upd (R.gNone hp)) ⟨p, _, rfl, upd_same, Reps.le (Le.upd (R.gNone hp)) _ _ (q1.append q2)⟩
    · cases e
  · split at e
    · rename_i hz
      cases e
      obtain ⟨l1, vs1, rfl, h1, q1⟩ := r1.tup
      obtain ⟨l2, vs2, rfl, h2, q2⟩ := r2.tup
      refine .inr (.inr (.inr ⟨l1, l2, vs1, vs2, rfl, rfl, SqT.le R.gh h1, SqT.le R.gh h2, by rw [q1.len, q2.len]; exact hz, fun z => ?_, fun z1 z2 => ?_, fun _ _ p hp => ?_⟩))
      · subst z
        have := q1.append q2
        exact q _ _ _ R (Le.refl G) ⟨l2, _, rfl, by simpa using h2, by simpa using this⟩
      · subst z2
        have := q1.append q2
        exact q _ _ _ R (Le.refl G) ⟨l1, _, rfl, by simpa using h1, by simpa using this⟩
      · exact q _ _ _ (R.new hp) (Le.upd (R.gNone hp)) ⟨p, _, rfl, .of upd_same, Reps.le (Le.upd (R.gNone hp)) _ _ (q1.append q2)⟩
    · cases e
  · cases e
def intD (P : Int → Int → Bool) (g : Int → Int → D) : D → D → Option D
  | .int i, .int j => if P i j then some (g i j) else none
  | _, _ => none
theorem int_ok {C : Int → Int → Prop} {P : Int → Int → Bool} {g : Int → Int → V} {k : Int → Int → D} (hP : ∀ i j, P i j = true → C i j) (hk : ∀ G i j, Rep X.K G (k i j) (g i j)) : Op2 X (rI C g) (intD P k) := by
  intro F Γ σ H G d1 d2 v1 v2 x Q R r1 r2 e q
  unfold intD at e
  split at e
  · split at e
    · rename_i hz
      cases e
      exact ⟨_, _, r1.int, r2.int, hP _ _ hz, q _ _ _ R (Le.refl G) (hk _ _ _)⟩
    · cases e
  · cases e
theorem int0_ok {g : Int → Int → V} {k : Int → Int → D} (hk : ∀ G i j, Rep X.K G (k i j) (g i j)) : Op2 X (rI0 g) (intD (fun _ _ => true) k) := by
  intro F Γ σ H G d1 d2 v1 v2 x Q R r1 r2 e q
  unfold intD at e
  split at e
  · cases e
    exact ⟨_, _, r1.int, r2.int, q _ _ _ R (Le.refl G) (hk _ _ _)⟩
  · cases e
def subD := intD (fun _ _ => true) fun i j => .int (i - j)
def modD := intD (fun _ j => decide (0 < j)) fun i j => .int (i % j)
def fdivD := intD (fun _ j => decide (0 < j ∧ j < 1073741824)) fun i j => .int (i / j)
def powD := intD (fun i j => decide (0 ≤ j ∧ j ≤ 1000000 ∧ i.natAbs < 2 ^ 64)) fun i j => .int (i ^ j.toNat)
def ltD := intD (fun _ _ => true) fun i j => .bl (decide (i < j))
def leD := intD (fun _ _ => true) fun i j => .bl (decide (i ≤ j))
def gtD := intD (fun _ _ => true) fun i j => .bl (decide (j < i))
def geD := intD (fun _ _ => true) fun i j => .bl (decide (j ≤ i))
section
variable (ha : FE X W a f1) (hb : FE X W b f2)
include ha hb
theorem fe_add : FE X W (.BinOp a .Add b pos) (op2 addD f1 f2) := fe_op op_addA add_ok ha hb
theorem fe_sub : FE X W (.BinOp a .Sub b pos) (op2 subD f1 f2) := fe_op op_sub (int0_ok fun _ _ _ => rfl) ha hb
theorem fe_mod : FE X W (.BinOp a .Mod b pos) (op2 modD f1 f2) := fe_op op_mod (int_ok (fun _ _ h => of_decide_eq_true h) fun _ _ _ => rfl) ha hb
theorem fe_fdiv : FE X W (.BinOp a .FloorDiv b pos) (op2 fdivD f1 f2) := fe_op op_fdiv (int_ok (P := fun _ j => decide (0 < j ∧ j < 1073741824)) (fun _ _ h => of_decide_eq_true (p := 0 < _ ∧ _ < 1073741824) h) fun _ _ _ => rfl) ha hb
theorem fe_pow : FE X W (.BinOp a .Pow b pos) (op2 powD f1 f2) := fe_op op_pow (int_ok (P := fun i j => decide (0 ≤ j ∧ j ≤ 1000000 ∧ i.natAbs < 2 ^ 64)) (fun i j h => of_decide_eq_true (p := 0 ≤ j ∧ j ≤ 1000000 ∧ i.natAbs < 2 ^ 64) h) fun _ _ _ => rfl) ha hb
theorem fe_lt : FE X W (.Compare a [.Lt] [b] pos) (op2 ltD f1 f2) := fe_cmp op_lt (int0_ok fun _ _ _ => rfl) ha hb (nomark _)
theorem fe_le : FE X W (.Compare a [.LtE] [b] pos) (op2 leD f1 f2) := fe_cmp op_le (int0_ok fun _ _ _ => rfl) ha hb (nomark _)
theorem fe_ge : FE X W (.Compare a [.GtE] [b] pos) (op2 geD f1 f2) := fe_cmp op_ge (int0_ok fun _ _ _ => rfl) ha hb (nomark _)
end
def mulD : D → D → Option D
  | .int i, .int j => if (-(2 ^ 64) < i ∧ i < 2 ^ 64) ∨ (-(2 ^ 64) < j ∧ j < 2 ^ 64) then some (.int (i * j)) else none
  | .lst xs, .int k => if -(2 ^ 63) ≤ k ∧ k < 2 ^ 63 ∧ xs.length * k.toNat ≤ sizeLine then some (.lst (List.replicate k.toNat xs).flatten) else none
  | .tup xs, .int k => if xs ≠ [] ∧ 2 ≤ k ∧ k ≤ 1000 ∧ xs.length ≤ 1000 then some (.tup (List.replicate k.toNat xs).flatten) else none
  | _, _ => none
def rMulA (K : Frg) : R2 := fun x y H Q => (rI CMul fun i j => .int (i * j)) x y H Q ∨ rRep x y H Q ∨ rRepT K x y H Q
theorem op_mulA : OpR X (binaryOp .Mult) (rMulA X.K) := op_mul.or (op_rep.or op_repT)
theorem mul_ok : Op2 X (rMulA X.K) mulD := by
  intro F Γ σ H G d1 d2 v1 v2 x Q R r1 r2 e q
  unfold mulD at e
  split at e
  · split at e
    · rename_i hz
      cases e
      exact .inl ⟨_, _, r1.int, r2.int, hz, q _ _ _ R (Le.refl G) rfl⟩
    · cases e
  · split at e
    · rename_i hz
      cases e
      obtain ⟨l1, vs1, rfl, h1, q1⟩ := r1.lst R.gh
      refine .inr (.inl ⟨l1, _, vs1, rfl, r2.int, h1, hz.1, hz.2.1, by rw [q1.len]; exact hz.2.2, fun p hp => ?_⟩)
      exact q _ _ _ (R.new hp) (Le.upd (R.gNone hp)) ⟨p, _, rfl, upd_same, Reps.le (Le.upd (R.gNone hp)) _ _ (q1.rep _)⟩
    · cases e
  · split at e
    · rename_i hz
      cases e
      obtain ⟨l1, vs1, rfl, h1, q1⟩ := r1.tup
      refine .inr (.inr ⟨l1, _, vs1, rfl, r2.int, SqT.le R.gh h1, fun z => hz.1 ?_, hz.2.1, hz.2.2.1, by rw [q1.len]; exact hz.2.2.2, fun p hp => ?_⟩)
      · subst z
        have := q1.len
        exact List.length_eq_zero_iff.mp this.symm
      · exact q _ _ _ (R.new hp) (Le.upd (R.gNone hp)) ⟨p, _, rfl, .of upd_same, Reps.le (Le.upd (R.gNone hp)) _ _ (q1.rep _)⟩
    · cases e
  · cases e
theorem fe_mul (ha : FE X W a f1) (hb : FE X W b f2) : FE X W (.BinOp a .Mult b pos) (op2 mulD f1 f2) := fe_op op_mulA mul_ok ha hb
def eqP (x y : D) : Option Bool := match x.py, y.py with
  | some p, some q => if SeqAt.shaped p && SeqAt.shaped q then some (PyData.eqv p q) else none
  | _, _ => none
def eqB : D → D → Option Bool
  | .str a, .str b => some (decide (a = b))
  | x, y => eqP x y
def eqD (x y : D) : Option D := (eqB x y).map D.bl
def neD (x y : D) : Option D := (eqB x y).map fun b => D.bl !b
theorem eqB_dp {K : Frg} {F : Fr} {Γ : En} {σ : St} {H G : Hp} {x y : D} {v w : V} {b : Bool} (R : Rl K F Γ σ H G) (r1 : LRep K G H x v) (r2 : LRep K G H y w) (e : eqB x y = some b) :
    (scal v w = true ∧ decide (v = w) = b) ∨ ∃ p q, Dp K H v p ∧ Dp K H w q ∧ SeqAt.shaped p = true ∧ SeqAt.shaped q = true ∧ PyData.eqv p q = b := by
  unfold eqB at e
  split at e
  · rename_i s t
    cases e
    left
    rw [r1.str, r2.str]
    refine ⟨rfl, ?_⟩
    rw [Bool.eq_iff_iff, decide_eq_true_iff, decide_eq_true_iff]
    exact ⟨fun h => V.str.inj h, fun h => by rw [h]⟩
  · right
    unfold eqP at e
    split at e
    · rename_i p q h1 h2
      split at e
      · rename_i hs
        cases e
        obtain ⟨s1, s2⟩ := Bool.and_eq_true_iff.mp hs
        exact ⟨p, q, Rep.dp _ v p h1 (r1.rep R.gh), Rep.dp _ w q h2 (r2.rep R.gh), s1, s2, rfl⟩
      · cases e
    · cases e
theorem op_eqA (hu : X.A.units + 64 < cLine) : OpR X (compareOp .Eq) (fun x y H Q => rEq x y H Q ∨ rEqD X.K x y H Q) := op_eq.or (op_eqD hu)
theorem op_neA (hu : X.A.units + 64 < cLine) : OpR X (compareOp .NotEq) (fun x y H Q => rNe x y H Q ∨ rNeD X.K x y H Q) := op_ne.or (op_neD hu)
theorem eq_ok : Op2 X (fun x y H Q => rEq x y H Q ∨ rEqD X.K x y H Q) eqD := by
  intro F Γ σ H G d1 d2 v1 v2 x Q R r1 r2 e q
  obtain ⟨b, e', rfl⟩ := Option.map_eq_some_iff.mp (show (eqB d1 d2).map D.bl = some x from e)
  rcases eqB_dp R r1 r2 e' with ⟨h1, rfl⟩ | ⟨p, p', h1, h2, h3, h4, rfl⟩
  · exact .inl ⟨h1, q _ _ _ R (Le.refl G) rfl⟩
  · exact .inr ⟨p, p', h1, h2, h3, h4, q _ _ _ R (Le.refl G) rfl⟩
theorem ne_ok : Op2 X (fun x y H Q => rNe x y H Q ∨ rNeD X.K x y H Q) neD := by
  intro F Γ σ H G d1 d2 v1 v2 x Q R r1 r2 e q
  obtain ⟨b, e', rfl⟩ := Option.map_eq_some_iff.mp (show (eqB d1 d2).map (fun b => D.bl !b) = some x from e)
  rcases eqB_dp R r1 r2 e' with ⟨h1, rfl⟩ | ⟨p, p', h1, h2, h3, h4, rfl⟩
  · exact .inl ⟨h1, q _ _ _ R (Le.refl G) rfl⟩
  · exact .inr ⟨p, p', h1, h2, h3, h4, q _ _ _ R (Le.refl G) rfl⟩
theorem fe_eq (hu : X.A.units + 64 < cLine) (ha : FE X W a f1) (hb : FE X W b f2) : FE X W (.Compare a [.Eq] [b] pos) (op2 eqD f1 f2) := fe_cmp (op_eqA hu) eq_ok ha hb (nomark _)
theorem fe_ne (hu : X.A.units + 64 < cLine) (ha : FE X W a f1) (hb : FE X W b f2) : FE X W (.Compare a [.NotEq] [b] pos) (op2 neD f1 f2) := fe_cmp (op_neA hu) ne_ok ha hb (nomark _)
def D.isNon : D → Bool
  | .non => true
  | _ => false
theorem Rep.isNon {K : Frg} {G : Hp} {d : D} {v : V} (h : Rep K G d v) : decide (v = .non) = d.isNon := by
  cases d with
  | non => rw [show v = .non from h]; rfl
  | bl _ => rw [show v = .bl _ from h]; rfl
  | int _ => rw [show v = .int _ from h]; rfl
  | str _ => rw [show v = .str _ from h]; rfl
  | lst _ => obtain ⟨a, _, rfl, _⟩ := h; rfl
  | tup _ => obtain ⟨a, _, rfl, _⟩ := h; rfl
  | scr _ => obtain ⟨a, rfl, _⟩ := h; rfl
  | dk _ _ => obtain ⟨a, _, rfl, _⟩ := h; rfl
  | fk _ _ => obtain ⟨a, _, _, rfl, _⟩ := h; rfl
  | dn _ _ _ => obtain ⟨a, _, _, _, rfl, _⟩ := h; rfl
  | ins _ _ _ => obtain ⟨a, _, _, rfl, _⟩ := h; rfl
  | exn _ _ _ _ _ => obtain ⟨rfl, _⟩ := h; rfl
  | cls _ => rw [show v = .ref _ from h]; rfl
def isND (x y : D) : Option D := if y.isNon then some (.bl x.isNon) else none
def notND (x y : D) : Option D := if y.isNon then some (.bl (!x.isNon)) else none
end FL
namespace FL
open PySem PySem.Spec PyProof.Rows L2
variable [Wrl] [Tabl]
variable {X : Cx} {W : WX} {e a b c : Expr} {f g f1 f2 f3 : EF} {t1 t2 : TF} {pos : Pos}
def asB (ev : EV) (Γ : En) : O Bool := match ev with
  | .d (.bl k) => .ok k Γ
  | _ => .fail
def tstE (f : EF) : TF := fun Γ => (f Γ).bind asB
theorem out_asB {K : Frg} {F : Fr} {Γ : En} {σ : St} {H G : Hp} {ev : EV} {v : V} (R : Rl K F Γ σ H G) (r : vrel K σ G ev v) : Out K W eqrel F σ G (fun Q => ∃ c, v = .bl c ∧ Q c H) (asB ev Γ) := by
  unfold asB
  split
  · exact fun Q q => ⟨_, r, q _ H G R (Le.refl G) rfl⟩
  · trivial
theorem sem_tst {K : Frg} {t : TE} (s : Sem K W (vrel K) t f) : Sem K W eqrel (fun σ H (Q : Bool → Hp → Prop) => t σ H fun x H1 => ∃ c, x = .bl c ∧ Q c H1) (tstE f) :=
  Sem.bind (T := fun x σ H Q => ∃ c, x = .bl c ∧ Q c H) s fun F Γ σ H G ev v R r => out_asB R r
theorem ft_val (h : FE X W e f) (he : ∀ whole, isTrue e X.env whole = (do let v ← whole; standAt e.pos; holding [v] (truthy v)) := by intro _; rfl) : FT X W e (tstE f) := by
  obtain ⟨t, p, s⟩ := h
  exact ⟨_, pt_val p he, sem_tst s⟩
theorem ft_cmp {op : CmpOp} {r : R2} {g : D → D → Option D} (ho : OpR X (compareOp op) r) (hs : Op2 X r g) (ha : FE X W a f1) (hb : FE X W b f2) (hm : behindInMarks op b = false) : FT X W (.Compare a [op] [b] pos) (tstE (op2 g f1 f2)) := by
  obtain ⟨u1, p1, s1⟩ := ha
  obtain ⟨u2, p2, s2⟩ := hb
  exact ⟨_, pt_cmpR ho p1 p2 hm, sem_tst (sem_op2 hs s1 s2)⟩
def andT (t1 t2 : TF) : TF := fun Γ => (t1 Γ).bind fun k Γ1 => if k then t2 Γ1 else .ok false Γ1
def orT (t1 t2 : TF) : TF := fun Γ => (t1 Γ).bind fun k Γ1 => if k then .ok true Γ1 else t2 Γ1
def notT (t : TF) : TF := fun Γ => (t Γ).bind fun k Γ1 => .ok (!k) Γ1
theorem ft_of (h : FW X W e t1) : FT X W e t1 := by
  obtain ⟨t, p, s⟩ := h
  exact ⟨t, p.pt, s⟩
theorem fw_and1 (ha : FT X W a t1) : FW X W (.BoolOp .And [a] pos) t1 := by
  obtain ⟨t, p, s⟩ := ha
  exact ⟨t, pw_and1 p, s⟩
theorem fw_or1 (ha : FT X W a t1) : FW X W (.BoolOp .Or [a] pos) t1 := by
  obtain ⟨t, p, s⟩ := ha
  exact ⟨t, pw_or1 p, s⟩
theorem sem_ite {K : Frg} {α β : Type} {rel : Rel α β} {u1 u2 : St → Hp → (β → Hp → Prop) → Prop} {g1 g2 : En → O α} (h1 : Sem K W rel u1 g1) (h2 : Sem K W rel u2 g2) :
    SemK K W eqrel rel (fun (b : Bool) σ H Q => if b = true then u1 σ H Q else u2 σ H Q) (fun (k : Bool) Γ => if k then g1 Γ else g2 Γ) := fun F Γ σ H G k k' R r => by
  cases (show k' = k from r)
  cases k with
  | true => simpa using h1 F Γ σ H G R
  | false => simpa using h2 F Γ σ H G R
theorem sem_okb {K : Frg} {k : Bool} : Sem K W eqrel (fun _ H Q => Q k H) (fun Γ => .ok k Γ) := fun F Γ σ H G R Q q => q k H G R (Le.refl G) rfl
theorem fw_and {rest : List Expr} (ha : FT X W a t1) (hb : FW X W (.BoolOp .And (b :: rest) pos) t2) : FW X W (.BoolOp .And (a :: b :: rest) pos) (andT t1 t2) := by
  obtain ⟨u1, p1, s1⟩ := ha
  obtain ⟨u2, p2, s2⟩ := hb
  exact ⟨_, pw_and p1 p2, Sem.bind (T := fun (b : Bool) σ H Q => if b = true then u2 σ H Q else Q false H) s1 (sem_ite s2 sem_okb)⟩
theorem fw_or {rest : List Expr} (ha : FT X W a t1) (hb : FW X W (.BoolOp .Or (b :: rest) pos) t2) : FW X W (.BoolOp .Or (a :: b :: rest) pos) (orT t1 t2) := by
  obtain ⟨u1, p1, s1⟩ := ha
  obtain ⟨u2, p2, s2⟩ := hb
  exact ⟨_, pw_or p1 p2, Sem.bind (T := fun (b : Bool) σ H Q => if b = true then Q true H else u2 σ H Q) s1 (sem_ite sem_okb s2)⟩
theorem ft_not (ha : FT X W a t1) : FT X W (.UnaryOp .Not a pos) (notT t1) := by
  obtain ⟨u1, p1, s1⟩ := ha
  refine ⟨_, pt_not p1, Sem.bind (T := fun c _ H Q => Q (!c) H) s1 fun F Γ σ H G k k' R r => ?_⟩
  cases (show k' = k from r)
  exact fun Q q => q _ H G R (Le.refl G) rfl
def andE (f1 f2 : EF) : EF := fun Γ => (tstE f1 Γ).bind fun k Γ1 => if k then f2 Γ1 else .ok (.d (.bl false)) Γ1
def orE (f1 f2 : EF) : EF := fun Γ => (tstE f1 Γ).bind fun k Γ1 => if k then .ok (.d (.bl true)) Γ1 else f2 Γ1
def notE (f : EF) : EF := fun Γ => (tstE f Γ).bind fun k Γ1 => .ok (.d (.bl (!k))) Γ1
theorem fe_one {op} (h : FE X W a f) : FE X W (.BoolOp op [a] pos) f := by
  obtain ⟨t, p, s⟩ := h
  exact ⟨t, pe_one p, s⟩
theorem fe_and {rest : List Expr} (ha : FE X W a f1) (hb : FE X W (.BoolOp .And (b :: rest) pos) f2) : FE X W (.BoolOp .And (a :: b :: rest) pos) (andE f1 f2) := by
  obtain ⟨u1, p1, s1⟩ := ha
  obtain ⟨u2, p2, s2⟩ := hb
  refine ⟨_, pe_and p1 p2, fun F Γ σ H G R => ?_⟩
  have h := Sem.bind (sem_tst s1) (sem_ite (rel := vrel X.K) s2 (sem_c (x := .bl false) (v := .bl false) fun _ => rfl)) F Γ σ H G R
  exact h
theorem fe_or {rest : List Expr} (ha : FE X W a f1) (hb : FE X W (.BoolOp .Or (b :: rest) pos) f2) : FE X W (.BoolOp .Or (a :: b :: rest) pos) (orE f1 f2) := by
  obtain ⟨u1, p1, s1⟩ := ha
  obtain ⟨u2, p2, s2⟩ := hb
  refine ⟨_, pe_or p1 p2, fun F Γ σ H G R => ?_⟩
  have h := Sem.bind (sem_tst s1) (sem_ite (rel := vrel X.K) (sem_c (x := .bl true) (v := .bl true) fun _ => rfl) s2) F Γ σ H G R
  exact h
theorem fe_not (ha : FE X W a f1) : FE X W (.UnaryOp .Not a pos) (notE f1) := by
  obtain ⟨u1, p1, s1⟩ := ha
  refine ⟨_, pe_not p1, fun F Γ σ H G R => ?_⟩
  have h := Sem.bind (T := fun (c : Bool) (_ : St) H (Q : VK) => Q (.bl (!c)) H) (g := fun (k : Bool) Γ => O.ok (EV.d (.bl (!k))) Γ) (rel' := vrel X.K) (sem_tst s1) (fun F Γ σ H G k k' R r => by
    cases (show k' = k from r)
    exact fun Q q => q _ H G R (Le.refl G) rfl) F Γ σ H G R
  exact h
def ifE (t : TF) (f1 f2 : EF) : EF := fun Γ => (t Γ).bind fun k Γ1 => if k then f1 Γ1 else f2 Γ1
theorem fe_if (hc : FT X W c t1) (ha : FE X W a f1) (hb : FE X W b f2) : FE X W (.IfExp c a b pos) (ifE t1 f1 f2) := by
  obtain ⟨u1, p1, s1⟩ := hc
  obtain ⟨u2, p2, s2⟩ := ha
  obtain ⟨u3, p3, s3⟩ := hb
  exact ⟨_, pe_ifExp p1 p2 p3, Sem.bind (T := fun (b : Bool) σ H Q => if b = true then u2 σ H Q else u3 σ H Q) s1 (sem_ite s2 s3)⟩
def chn3 (g g' : D → D → Option D) (f3 : EF) (e1 e2 : EV) (Γ : En) : O EV := (asB3 (fin2 g e1 e2 Γ)).bind fun k Γ2 => if k then (f3 Γ2).bind fun e3 Γ3 => fin2 g' e2 e3 Γ3 else .ok (.d (.bl false)) Γ2
where asB3 (o : O EV) : O Bool := o.bind asB
def chnE (g g' : D → D → Option D) (f1 f2 f3 : EF) : EF := fun Γ => (f1 Γ).bind fun e1 Γ1 => (f2 Γ1).bind fun e2 Γ2 => chn3 g g' f3 e1 e2 Γ2
theorem sem_chn {r r' : R2} {g g' : D → D → Option D} {u1 u2 u3 : TE} (ho : Op2 X r g) (ho' : Op2 X r' g') (h1 : Sem X.K W (vrel X.K) u1 f1) (h2 : Sem X.K W (vrel X.K) u2 f2) (h3 : Sem X.K W (vrel X.K) u3 f3) :
    Sem X.K W (vrel X.K) (tChain r r' u1 u2 u3) (chnE g g' f1 f2 f3) := by
  refine Sem.bind (T := fun b σ H Q => u2 σ H fun b' H1 => r b b' H1 fun z H3 => ∃ k, z = .bl k ∧ if k = true then u3 σ H3 fun w H4 => r' b' w H4 Q else Q (.bl false) H3) h1
    (SemK.bind (T := fun b b' σ H Q => r b b' H fun z H3 => ∃ k, z = .bl k ∧ if k = true then u3 σ H3 fun w H4 => r' b' w H4 Q else Q (.bl false) H3) (vrel_mono X.K) h2.toK fun F Γ σ H G a1 b1 a2 b2 R r1 r2 => ?_)
  unfold chn3 chn3.asB3
  refine Out.bind (rel := eqrel (α := Bool)) (T := fun Q => r b1 b2 H fun z H3 => ∃ k, z = .bl k ∧ Q k H3) (T' := fun k H3 Q => if k = true then u3 σ H3 fun w H4 => r' b2 w H4 Q else Q (.bl false) H3)
    (Out.bind (T' := fun z H3 Q => ∃ k, z = .bl k ∧ Q k H3) (out_fin2 ho R r1 r2) fun ev Γ1 z H1 G1 R1 _ rz => out_asB R1 rz) fun k Γ2 k' H3 G3 R3 le3 rk => ?_
  cases (show k' = k from rk)
  cases k with
  | false => exact fun Q q => q _ H3 G3 R3 (Le.refl _) rfl
  | true =>
    refine Out.bind (T' := fun w H4 Q => r' b2 w H4 Q) (h3 F Γ2 σ H3 G3 R3) fun e3 Γ3 b3 H4 G4 R4 le4 r3 => ?_
    exact out_fin2 ho' R4 (vrel_mono _ _ _ _ _ _ (le3.trans le4) r2) r3
theorem fe_chn {op op' : CmpOp} {r r' : R2} {g g' : D → D → Option D} (ho : OpR X (compareOp op) r) (ho' : OpR X (compareOp op') r') (hs : Op2 X r g) (hs' : Op2 X r' g') (ha : FE X W a f1) (hb : FE X W b f2) (hc : FE X W c f3)
    (hm : lastMarks [op, op'] [b, c] = false := by rfl) : FE X W (.Compare a [op, op'] [b, c] pos) (chnE g g' f1 f2 f3) := by
  obtain ⟨u1, p1, s1⟩ := ha
  obtain ⟨u2, p2, s2⟩ := hb
  obtain ⟨u3, p3, s3⟩ := hc
  exact ⟨_, pe_chain ho ho' p1 p2 p3 hm, sem_chn hs hs' s1 s2 s3⟩
def aNil : AF := fun Γ => .ok [] Γ
def aCons (f : EF) (r : AF) : AF := fun Γ => (f Γ).bind fun e Γ1 => (r Γ1).bind fun es Γ2 => .ok (e :: es) Γ2
theorem fa_nil : FA X W [] aNil := ⟨_, pa_nil, fun F Γ σ H G R Q q => q [] H G R (Le.refl G) .nil⟩
theorem fa_cons {es : List Expr} {r : AF} (ha : FE X W e f) (hr : FA X W es r) (hs : starEach (e :: es) X.env = (false, eval e X.env) :: starEach es X.env := by rfl) : FA X W (e :: es) (aCons f r) := by
  obtain ⟨u1, p1, s1⟩ := ha
  obtain ⟨u2, p2, s2⟩ := hr
  refine ⟨_, pa_cons p1 p2 hs, Sem.bind (T := fun x σ H Q => u2 σ H fun xs H2 => Q (x :: xs) H2) s1 (SemK.bind (T := fun x xs (σ : St) H Q => Q (x :: xs) H) (vrel_mono X.K) s2.toK fun F Γ σ H G a b a' b' R r r' => ?_)⟩
  exact fun Q q => q _ H G R (Le.refl G) (.cons r r')
def looks (Γ : En) : List EV → Option (List D)
  | [] => some []
  | e :: es => (e.look Γ).bind fun x => (looks Γ es).bind fun xs => some (x :: xs)
def LReps (K : Frg) (G H : Hp) : List D → List V → Prop := Paired (LRep K G H)
theorem Rl.looks {K : Frg} {F : Fr} {Γ : En} {σ : St} {H G : Hp} (R : Rl K F Γ σ H G) : ∀ {es : List EV} {vs : List V} {xs : List D}, Paired (vrel K σ G) es vs → FL.looks Γ es = some xs → LReps K G H xs vs
  | _, _, _, .nil, e => by cases e; exact .nil
  | _, _, _, .cons r t, e => by
    unfold FL.looks at e
    obtain ⟨x, e1, e⟩ := Option.bind_eq_some_iff.mp e
    obtain ⟨xs, e2, e⟩ := Option.bind_eq_some_iff.mp e
    cases e
    exact .cons (R.look r e1) (R.looks t e2)
def finN (g : List D → Option D) (es : List EV) (Γ : En) : O EV := match looks Γ es with
  | some xs => (match g xs with | some x => .ok (.d x) Γ | none => .fail)
  | none => .fail
def opN (g : List D → Option D) (r : AF) : EF := fun Γ => (r Γ).bind (finN g)
def OpN (X : Cx) (r : List V → Hp → VK → Prop) (g : List D → Option D) : Prop := ∀ (F : Fr) (Γ : En) (σ : St) (H G : Hp) (ds : List D) (vs : List V) (x : D) (Q : VK), Rl X.K F Γ σ H G → LReps X.K G H ds vs → g ds = some x →
  Kont X.K F Γ σ G x Q → r vs H Q
theorem out_finN {r : List V → Hp → VK → Prop} {g : List D → Option D} (ho : OpN X r g) {F : Fr} {Γ : En} {σ : St} {H G : Hp} {es : List EV} {vs : List V} (R : Rl X.K F Γ σ H G) (rs : vsrel X.K σ G es vs) :
    Out X.K W (vrel X.K) F σ G (fun Q => r vs H Q) (finN g es Γ) := by
  unfold finN
  split
  · rename_i xs e1
    split
    · rename_i x e2
      exact fun Q q => ho F Γ σ H G xs vs x Q R (R.looks rs e1) e2 q
    · trivial
  · trivial
theorem sem_opN {r : List V → Hp → VK → Prop} {g : List D → Option D} {t : TA} {u : AF} (ho : OpN X r g) (h : Sem X.K W (vsrel X.K) t u) : Sem X.K W (vrel X.K) (tCB r t) (opN g u) :=
  Sem.bind (T := fun b σ H Q => r b H Q) h fun F Γ σ H G es vs R rs => out_finN ho R rs
theorem fe_blt {x : Str} {p : Pos} {es : List Expr} {r : List V → Hp → VK → Prop} {g : List D → Option D} {u : AF} {id : String} (hc : CallR X (.builtin id) r) (ho : OpN X r g) (hm : X.mg x = none) (hv : bootBuiltins x = some (.builtin id)) (ha : FA X W (e :: es) u) (hg : Gl X x := by rfl) (hn : x ≠ "__name__" := by decide) (hdb : (x == ("__debug__" : Str)) = false := by decide)
    (he : starEach (e :: es) X.env = (false, eval e X.env) :: starEach es X.env := by rfl) (hpl : (backTo pos (starEach es X.env)).any (·.1) = false := by rfl) : FE X W (.Call (.Name x p) (e :: es) [] pos) (opN g u) := by
  obtain ⟨t, p, s⟩ := ha
  exact ⟨_, pe_callB hc hg hm hv p hn hdb he hpl, sem_opN ho s⟩
theorem fe_bty {x : Str} {p : Pos} {es : List Expr} {r : List V → Hp → VK → Prop} {g : List D → Option D} {u : AF} {T : String} (hc : CallR X (.type T) r) (ho : OpN X r g) (hm : X.mg x = none) (hv : bootBuiltins x = some (.type T)) (ha : FA X W (e :: es) u) (hg : Gl X x := by rfl) (hn : x ≠ "__name__" := by decide) (hdb : (x == ("__debug__" : Str)) = false := by decide)
    (he : starEach (e :: es) X.env = (false, eval e X.env) :: starEach es X.env := by rfl) (hpl : (backTo pos (starEach es X.env)).any (·.1) = false := by rfl) : FE X W (.Call (.Name x p) (e :: es) [] pos) (opN g u) := by
  obtain ⟨t, p, s⟩ := ha
  exact ⟨_, pe_callTy hc hg hm hv p hn hdb he hpl, sem_opN ho s⟩
end FL
namespace FL
open PySem PySem.Spec PyProof.Rows L2
variable [Wrl] [Tabl]
variable {X : Cx} {W : WX} {e a b c o : Expr} {f g f1 f2 f3 fo fa : EF} {t1 t2 : TF} {pos apos : Pos}
def getD : D → D → Option D
  | .lst xs, .int i => atI xs i
  | .tup xs, .int i => atI xs i
  | .str x, .int i => if x.length ≤ sizeLine then (atI x.cps.toList i).map fun c => .str ⟨#[c]⟩ else none
  | .scr ns, .int i => (atI ns i).map D.int
  | _, _ => none
theorem Reps.atI {K : Frg} {G : Hp} {ds : List D} {vs : List V} {i : Int} {d : D} (r : Reps K G ds vs) (h : L2.atI ds i = some d) : ∃ v, L2.atI vs i = some v ∧ Rep K G d v := by
  unfold L2.atI at h ⊢
  rw [r.len]
  obtain ⟨j, h1, h2⟩ := Option.bind_eq_some_iff.mp h
  obtain ⟨v, h3, h4⟩ := r.getD h2
  exact ⟨v, by rw [h1]; exact h3, h4⟩
theorem atI_map {α β : Type} (g : α → β) (xs : List α) (i : Int) : atI (xs.map g) i = (atI xs i).map g := by
  unfold L2.atI
  rw [List.length_map]
  cases ixN xs.length i with
  | none => rfl
  | some j => simp
theorem get_ok : Op2 X (rIx X.K) getD := by
  intro F Γ σ H G d1 d2 v1 v2 x Q R r1 r2 e q
  unfold getD at e
  split at e
  · obtain ⟨a, vs, rfl, h, r⟩ := r1.lst R.gh
    obtain ⟨v, h1, h2⟩ := r.atI e
    exact .inl ⟨a, vs, _, v, rfl, r2.int, .of h, h1, q _ _ _ R (Le.refl G) h2⟩
  · obtain ⟨a, vs, rfl, h, r⟩ := r1.tup
    obtain ⟨v, h1, h2⟩ := r.atI e
    exact .inr (.inl ⟨a, vs, _, v, rfl, r2.int, SqT.le R.gh h, h1, q _ _ _ R (Le.refl G) h2⟩)
  · split at e
    · rename_i hz
      obtain ⟨c, h1, rfl⟩ := Option.map_eq_some_iff.mp e
      exact .inr (.inr ⟨_, _, c, r1.str, r2.int, hz, h1, q _ _ _ R (Le.refl G) rfl⟩)
    · cases e
  · rename_i ns i
    obtain ⟨n, h1, rfl⟩ := Option.map_eq_some_iff.mp e
    obtain ⟨a, rfl, h⟩ := r1.flat (fun o => by cases o <;> (intro z; cases z))
    exact .inl ⟨a, _, _, .int n, rfl, r2.int, SqL.le R.gh h, by rw [atI_map, h1]; rfl, q _ _ _ R (Le.refl G) rfl⟩
  · cases e
theorem fe_ix (ha : FE X W a f1) (hb : FE X W b f2) (hs : PlainIx b := by exact fun _ _ => rfl) : FE X W (.Subscript a b pos) (op2 getD f1 f2) := by
  obtain ⟨u1, p1, s1⟩ := ha
  obtain ⟨u2, p2, s2⟩ := hb
  exact ⟨_, pe_ix ix_seq p1 p2 hs, sem_op2 get_ok s1 s2⟩
abbrev OF := En → O (Option Int)
structure FO (X : Cx) (W : WX) (e : Option Expr) (f : OF) : Prop where
  ex : ∃ t, PO X e t ∧ Sem X.K W eqrel t f
def oNo : OF := fun Γ => .ok none Γ
def asI (ev : EV) (Γ : En) : O (Option Int) := match ev with
  | .d (.int i) => .ok (some i) Γ
  | _ => .fail
def oSome (f : EF) : OF := fun Γ => (f Γ).bind asI
theorem fo_no : FO X W none oNo := ⟨_, po_none, fun F Γ σ H G R Q q => q none H G R (Le.refl G) rfl⟩
theorem fo_some (h : FE X W e f) : FO X W (some e) (oSome f) := by
  obtain ⟨t, p, s⟩ := h
  refine ⟨_, po_some p, Sem.bind (T := fun x σ H Q => ∃ i, x = .int i ∧ Q (some i) H) s fun F Γ σ H G ev v R r => ?_⟩
  unfold asI
  split
  · exact fun Q q => ⟨_, r, q _ H G R (Le.refl G) rfl⟩
  · trivial
def cutL {α : Type} (xs : List α) (lo hi : Option Int) : List α := (xs.drop (HT.sIx xs.length 0 lo)).take (HT.sIx xs.length xs.length hi - HT.sIx xs.length 0 lo)
def cutD (lo hi : Option Int) : D → Option D
  | .lst xs => some (.lst (cutL xs lo hi))
  | .tup xs => some (.tup (cutL xs lo hi))
  | .str x => if x.length ≤ sizeLine then some (.str (cutS x lo hi)) else none
  | .scr ns => some (.lst ((cutL ns lo hi).map D.int))
  | _ => none
def fin3 (ev : EV) (lo hi : Option Int) (Γ : En) : O EV := match (ev.look Γ).bind (cutD lo hi) with
  | some x => .ok (.d x) Γ
  | none => .fail
def slE (f : EF) (l h : OF) : EF := fun Γ => (f Γ).bind fun ev Γ1 => (l Γ1).bind fun lo Γ2 => (h Γ2).bind fun hi Γ3 => fin3 ev lo hi Γ3
def rSlX (K : Frg) : V → Option Int → Option Int → Hp → VK → Prop := fun x lo hi H Q => rSlL K x lo hi H Q ∨ rSlA K x lo hi H Q ∨ rSlS x lo hi H Q
theorem sl_any : SlR X (rSlX X.K) := sl_list.or (sl_tupA.or sl_str)
theorem cutV_ints (ns : List Int) (lo hi : Option Int) : cutV (ns.map V.int) lo hi = (cutL ns lo hi).map V.int := by
  unfold cutV cutL
  rw [List.length_map, List.map_take, List.map_drop]
theorem out_fin3 {F : Fr} {Γ : En} {σ : St} {H G : Hp} {ev : EV} {v : V} {lo hi : Option Int} (R : Rl X.K F Γ σ H G) (r : vrel X.K σ G ev v) : Out X.K W (vrel X.K) F σ G (fun Q => rSlX X.K v lo hi H Q) (fin3 ev lo hi Γ) := by
  unfold fin3
  split
  · rename_i x e
    obtain ⟨y, e1, e2⟩ := Option.bind_eq_some_iff.mp e
    have r := R.look r e1
    intro Q q
    unfold cutD at e2
    split at e2
    · cases e2
      obtain ⟨a, vs, rfl, h, r⟩ := r.lst R.gh
      refine .inl ⟨a, vs, rfl, .of h, fun p hp => ?_⟩
      exact q _ _ _ (R.new hp) (Le.upd (R.gNone hp)) ⟨p, _, rfl, upd_same, Reps.le (Le.upd (R.gNone hp)) _ _ (r.cut lo hi)⟩
    · cases e2
      obtain ⟨a, vs, rfl, h, r⟩ := r.tup
      refine .inr (.inl ⟨a, vs, rfl, SqT.le R.gh h, fun z => ?_, fun z p hp => ?_⟩)
      · have c := r.cut lo hi
        have e : cutV vs lo hi = vs := by
          unfold cutV
          rw [z.1, z.2]
          simp
        rw [e] at c
        exact q _ _ _ R (Le.refl G) ⟨a, vs, rfl, h, c⟩
      · exact q _ _ _ (R.new hp) (Le.upd (R.gNone hp)) ⟨p, _, rfl, .of upd_same, Reps.le (Le.upd (R.gNone hp)) _ _ (r.cut lo hi)⟩
    · split at e2
      · rename_i hz
        cases e2
        exact .inr (.inr ⟨_, r.str, hz, q _ _ _ R (Le.refl G) rfl⟩)
      · cases e2
    · cases e2
      obtain ⟨a, rfl, h⟩ := r.flat (fun o => by cases o <;> (intro z; cases z))
      refine .inl ⟨a, _, rfl, SqL.le R.gh h, fun p hp => ?_⟩
      exact q _ _ _ (R.new hp) (Le.upd (R.gNone hp)) ⟨p, _, rfl, upd_same, by rw [cutV_ints]; exact Reps.of_ints _⟩
    · cases e2
  · trivial
theorem fe_sl {lo hi : Option Expr} {l h : OF} {p2 : Pos} (ha : FE X W a f) (hl : FO X W lo l) (hh : FO X W hi h) : FE X W (.Subscript a (.Slice lo hi none p2) pos) (slE f l h) := by
  obtain ⟨u1, p1, s1⟩ := ha
  obtain ⟨u2, p2, s2⟩ := hl
  obtain ⟨u3, p3, s3⟩ := hh
  refine ⟨_, pe_slice sl_any p1 p2 p3, fun F Γ σ H G R => ?_⟩
  refine Out.bind (T' := fun x H1 Q => u2 σ H1 fun l H2 => u3 σ H2 fun u H3 => rSlX X.K x l u H3 Q) (s1 F Γ σ H G R) fun ev Γ1 v H1 G1 R1 _ r1 => ?_
  refine Out.bind (T' := fun l H2 Q => u3 σ H2 fun u H3 => rSlX X.K v l u H3 Q) (s2 F Γ1 σ H1 G1 R1) fun lo Γ2 lo' H2 G2 R2 le2 r2 => ?_
  cases (show lo' = lo from r2)
  refine Out.bind (T' := fun u H3 Q => rSlX X.K v lo u H3 Q) (s3 F Γ2 σ H2 G2 R2) fun hi Γ3 hi' H3 G3 R3 le3 r3 => ?_
  cases (show hi' = hi from r3)
  exact out_fin3 R3 (vrel_mono _ _ _ _ _ _ (le2.trans le3) r1)
def frz1 (ev : EV) (Γ : En) : Option (D × En) := match ev with
  | .d x => some (x, Γ)
  | .own i => (match Γ[i]? with
    | some (.acc o) => some (o.d, Γ.set i (.im o.d))
    | some (.im x) => some (x, Γ)
    | _ => none)
def frzs : List EV → En → Option (List D × En)
  | [], Γ => some ([], Γ)
  | e :: es, Γ => (frz1 e Γ).bind fun p => (frzs es p.2).bind fun q => some (p.1 :: q.1, q.2)
theorem Rl.frz1 {K : Frg} {F : Fr} {Γ Γ' : En} {σ : St} {H G : Hp} {ev : EV} {v : V} {x : D} (R : Rl K F Γ σ H G) (r : vrel K σ G ev v) (e : FL.frz1 ev Γ = some (x, Γ')) : ∃ G', Rl K F Γ' σ H G' ∧ Le G G' ∧ Rep K G' x v := by
  unfold FL.frz1 at e
  split at e
  · cases e
    exact ⟨G, R, Le.refl G, r⟩
  · split at e
    · rename_i o h
      cases e
      obtain ⟨w, G', h1, R', le, rp⟩ := R.freeze h
      rw [show σ[_]? = some (some v) from r] at h1
      cases h1
      exact ⟨G', R', le, rp⟩
    · rename_i y h
      cases e
      obtain ⟨w, h1, rp⟩ := R.sl _ _ h
      rw [show σ[_]? = some (some v) from r] at h1
      cases h1
      exact ⟨G, R, Le.refl G, rp⟩
    · cases e
theorem Rl.frzs {K : Frg} {F : Fr} {σ : St} {H : Hp} : ∀ {es : List EV} {vs : List V} {xs : List D} {Γ Γ' : En} {G : Hp}, Rl K F Γ σ H G → Paired (vrel K σ G) es vs → FL.frzs es Γ = some (xs, Γ') → ∃ G', Rl K F Γ' σ H G' ∧ Le G G' ∧ Reps K G' xs vs
  | _, _, _, _, _, G, R, .nil, e => by cases e; exact ⟨G, R, Le.refl G, rfl⟩
  | _, _, _, _, _, G, R, .cons r t, e => by
    unfold FL.frzs at e
    obtain ⟨⟨x, Γ1⟩, e1, e⟩ := Option.bind_eq_some_iff.mp e
    obtain ⟨⟨xs, Γ2⟩, e2, e⟩ := Option.bind_eq_some_iff.mp e
    cases e
    obtain ⟨G1, R1, le1, r1⟩ := R.frz1 r e1
    obtain ⟨G2, R2, le2, r2⟩ := Rl.frzs R1 (vsrel_mono K _ _ _ _ _ le1 t) e2
    exact ⟨G2, R2, le1.trans le2, ⟨_, _, rfl, Rep.le le2 _ _ r1, r2⟩⟩
def finT (mk : List D → D) (es : List EV) (Γ : En) : O EV := match frzs es Γ with
  | some (xs, Γ') => if xs.length ≤ sizeLine then .ok (.d (mk xs)) Γ' else .fail
  | none => .fail
def tupE (r : AF) : EF := fun Γ => (r Γ).bind (finT .tup)
def lstE (r : AF) : EF := fun Γ => (r Γ).bind (finT .lst)
theorem fe_tup {es : List Expr} {r : AF} {x1} (h : FA X W es r) : FE X W (.Tuple es x1 pos) (tupE r) := by
  obtain ⟨t, p, s⟩ := h
  refine ⟨_, pe_tup p, Sem.bind (T := fun (xs : List V) σ H1 (Q : VK) => xs.length ≤ sizeLine ∧ ∀ p, H1 p = none → Q (.ref p) (upd H1 p (.tup xs))) s fun F Γ σ H G es vs R rs => ?_⟩
  unfold finT
  split
  · rename_i xs Γ' e
    split
    · rename_i hz
      intro Q q
      obtain ⟨G', R', le, rp⟩ := R.frzs rs e
      refine ⟨by rw [rp.len]; exact hz, fun p hp => ?_⟩
      exact q _ _ _ (R'.new hp) (le.trans (Le.upd (R'.gNone hp))) ⟨p, _, rfl, .of upd_same, Reps.le (Le.upd (R'.gNone hp)) _ _ rp⟩
    · trivial
  · trivial
theorem fe_lst {es : List Expr} {r : AF} (h : FA X W es r) : FE X W (.List es pos) (lstE r) := by
  obtain ⟨t, p, s⟩ := h
  refine ⟨_, pe_lst p, Sem.bind (T := fun (xs : List V) σ H1 (Q : VK) => xs.length ≤ sizeLine ∧ ∀ p, H1 p = none → Q (.ref p) (upd H1 p (.lst xs))) s fun F Γ σ H G es vs R rs => ?_⟩
  unfold finT
  split
  · rename_i xs Γ' e
    split
    · rename_i hz
      intro Q q
      obtain ⟨G', R', le, rp⟩ := R.frzs rs e
      refine ⟨by rw [rp.len]; exact hz, fun p hp => ?_⟩
      exact q _ _ _ (R'.new hp) (le.trans (Le.upd (R'.gNone hp))) ⟨p, _, rfl, upd_same, Reps.le (Le.upd (R'.gNone hp)) _ _ rp⟩
    · trivial
  · trivial
def starI (ev : EV) (Γ : En) : O (List EV) := match ev.look Γ with
  | some (.tup xs) => .ok (xs.map EV.d) Γ
  | some (.lst xs) => .ok (xs.map EV.d) Γ
  | _ => .fail
def aStar (f : EF) (r : AF) : AF := fun Γ => (f Γ).bind fun e Γ1 => (starI e Γ1).bind fun xs Γ1' => (r Γ1').bind fun es Γ2 => .ok (xs ++ es) Γ2
theorem Reps.ev {K : Frg} {σ : St} {G : Hp} : ∀ {ds : List D} {vs : List V}, Reps K G ds vs → Paired (vrel K σ G) (ds.map EV.d) vs
  | [], _, e => by rw [show _ = [] from e]; exact .nil
  | d :: ds, _, ⟨v, r, e, h, t⟩ => by subst e; exact .cons h (Reps.ev t)
theorem Paired.app {α β : Type} {R : α → β → Prop} : ∀ {xs us : List α} {ys ws : List β}, Paired R xs ys → Paired R us ws → Paired R (xs ++ us) (ys ++ ws)
  | _, _, _, _, .nil, q => q
  | _, _, _, _, .cons h t, q => .cons h (Paired.app t q)
theorem fa_star {es : List Expr} {r : AF} {p : Pos} (ha : FE X W e f) (hr : FA X W es r) (hs : starEach (.Starred e p :: es) X.env = (true, eval e X.env) :: starEach es X.env := by rfl) : FA X W (.Starred e p :: es) (aStar f r) := by
  obtain ⟨u1, p1, s1⟩ := ha
  obtain ⟨u2, p2, s2⟩ := hr
  refine ⟨_, StX.pa_star p1 p2 hs, fun F Γ σ H G R => ?_⟩
  refine Out.bind (T' := fun x H1 Q => ∃ p xs, x = V.ref p ∧ (SqT X.K H1 p xs ∨ SqL X.K H1 p xs) ∧ u2 σ H1 fun ys H2 => Q (xs ++ ys) H2) (s1 F Γ σ H G R) fun ev Γ1 v H1 G1 R1 _ r1 => ?_
  refine Out.bind (rel := vsrel X.K) (T := fun Q => ∃ p xs, v = V.ref p ∧ (SqT X.K H1 p xs ∨ SqL X.K H1 p xs) ∧ Q xs H1) (T' := fun xs H2 Q => u2 σ H2 fun ys H3 => Q (xs ++ ys) H3) (r := starI ev Γ1) ?_ fun xs Γ2 us H2 G2 R2 le2 r2 => ?_
  · unfold starI
    split
    · rename_i xs h
      obtain ⟨a, vs, rfl, h, r⟩ := (R1.look r1 h).tup
      exact fun Q q => ⟨a, vs, rfl, .inl (SqT.le R1.gh h), q _ H1 G1 R1 (Le.refl _) r.ev⟩
    · rename_i xs h
      obtain ⟨a, vs, rfl, h, r⟩ := (R1.look r1 h).lst R1.gh
      exact fun Q q => ⟨a, vs, rfl, .inr (.of h), q _ H1 G1 R1 (Le.refl _) r.ev⟩
    · trivial
  · refine Out.bind (T' := fun ys H3 Q => Q (us ++ ys) H3) (s2 F Γ2 σ H2 G2 R2) fun es Γ3 ws H3 G3 R3 le3 r3 => ?_
    exact fun Q q => q _ H3 G3 R3 (Le.refl _) (Paired.app (vsrel_mono X.K _ _ _ _ _ le3 r2) r3)
def D.flat : D → Option V
  | .non => some .non
  | .bl b => some (.bl b)
  | .int i => some (.int i)
  | .str x => some (.str x)
  | _ => none
def flats : List D → Option (List V)
  | [] => some []
  | d :: ds => d.flat.bind fun v => (flats ds).bind fun vs => some (v :: vs)
theorem Rep.flat {K : Frg} {G : Hp} {d : D} {v w : V} (h : Rep K G d v) (e : d.flat = some w) : v = w ∧ flatV w = true := by
  cases d with
  | non => cases e; exact ⟨h, rfl⟩
  | bl b => cases e; exact ⟨h, rfl⟩
  | int i => cases e; exact ⟨h, rfl⟩
  | str x => cases e; exact ⟨h, rfl⟩
  | _ => cases e
theorem Reps.flats {K : Frg} {G : Hp} : ∀ {ds : List D} {vs ws : List V}, Reps K G ds vs → FL.flats ds = some ws → vs = ws ∧ ws.all flatV = true
  | [], _, _, h, e => by cases e; exact ⟨h, rfl⟩
  | d :: ds, _, _, ⟨v, r, ev, h1, h2⟩, e => by
    unfold FL.flats at e
    obtain ⟨x, e1, e⟩ := Option.bind_eq_some_iff.mp e
    obtain ⟨xs, e2, e⟩ := Option.bind_eq_some_iff.mp e
    cases e
    subst ev
    obtain ⟨rfl, f1⟩ := h1.flat e1
    obtain ⟨rfl, f2⟩ := Reps.flats h2 e2
    exact ⟨rfl, by simp [f1, f2]⟩
def inB (x : D) : D → Option Bool
  | .lst ys => (match x.flat, flats ys with
    | some v, some vs => some (inV v vs)
    | _, _ => (match x.py, D.pys ys with
      | some p, some ps => if SeqAt.shaped p && SeqAt.shaped (.list ps) then some (ps.any fun z => PyData.eqv z p) else none
      | _, _ => none))
  | .tup ys => (match x.flat, flats ys with
    | some v, some vs => some (inV v vs)
    | _, _ => none)
  | .str z => (match x with
    | .str y => (match y.cps.toList with
      | [c] => some (decide (c ∈ z.cps.toList))
      | _ => none)
    | _ => none)
  | _ => none
def inD (x y : D) : Option D := (inB x y).map D.bl
def ninD (x y : D) : Option D := (inB x y).map fun b => D.bl !b
def rInX (K : Frg) : R2 := fun x y H Q => rIn K false x y H Q ∨ rInD K x y H Q ∨ (∃ (c : Nat) (z : Str), x = .str ⟨#[c]⟩ ∧ y = .str z ∧ Q (.bl (decide (c ∈ z.cps.toList))) H)
def rNinX (K : Frg) : R2 := fun x y H Q => rIn K true x y H Q ∨ rNotInD K x y H Q ∨ (∃ (c : Nat) (z : Str), x = .str ⟨#[c]⟩ ∧ y = .str z ∧ Q (.bl (!decide (c ∈ z.cps.toList))) H)
theorem op_inX (hu : X.A.units + 65 < cLine) : OpR X (compareOp .In) (rInX X.K) := op_in_seq.or ((op_inD hu).or op_in_sign)
theorem op_ninX (hu : X.A.units + 65 < cLine) : OpR X (compareOp .NotIn) (rNinX X.K) := op_notIn_seq.or ((op_notInD hu).or op_notIn_sign)
theorem inB_ok {K : Frg} {F : Fr} {Γ : En} {σ : St} {H G : Hp} {x y : D} {v w : V} {k : Bool} (R : Rl K F Γ σ H G) (r1 : LRep K G H x v) (r2 : LRep K G H y w) (e : inB x y = some k) (Q : Bool → Prop) (q : Q k) :
    (∃ p xs, w = .ref p ∧ (SqL K H p xs ∨ SqT K H p xs) ∧ flatV v = true ∧ xs.all flatV = true ∧ Q (inV v xs)) ∨ (∃ d ds, Dp K H v d ∧ Dp K H w (.list ds) ∧ SeqAt.shaped d = true ∧ SeqAt.shaped (.list ds) = true ∧ Q (ds.any fun z => PyData.eqv z d)) ∨
    (∃ (c : Nat) (z : Str), v = .str ⟨#[c]⟩ ∧ w = .str z ∧ Q (decide (c ∈ z.cps.toList))) := by
  unfold inB at e
  split at e
  · rename_i ys
    obtain ⟨a, vs, rfl, h, r⟩ := r2.lst R.gh
    split at e
    · rename_i v' vs' h1 h2
      cases e
      obtain ⟨rfl, f1⟩ := (r1.rep R.gh).flat h1
      obtain ⟨rfl, f2⟩ := r.flats h2
      exact .inl ⟨a, _, rfl, .inl (.of h), f1, f2, q⟩
    · split at e
      · rename_i p ps h1 h2
        split at e
        · rename_i hs
          cases e
          obtain ⟨s1, s2⟩ := Bool.and_eq_true_iff.mp hs
          exact .inr (.inl ⟨p, ps, Rep.dp _ _ _ h1 (r1.rep R.gh), .lst (.of h) (Reps.dp _ _ _ h2 (Reps.le R.gh _ _ r)), s1, s2, q⟩)
        · cases e
      · cases e
  · rename_i ys
    obtain ⟨a, vs, rfl, h, r⟩ := r2.tup
    split at e
    · rename_i v' vs' h1 h2
      cases e
      obtain ⟨rfl, f1⟩ := (r1.rep R.gh).flat h1
      obtain ⟨rfl, f2⟩ := r.flats h2
      exact .inl ⟨a, _, rfl, .inr (SqT.le R.gh h), f1, f2, q⟩
    · cases e
  · rename_i z
    split at e
    · rename_i y
      split at e
      · rename_i c hc
        cases e
        refine .inr (.inr ⟨c, z, ?_, r2.str, q⟩)
        have : y = ⟨#[c]⟩ := by
          cases y with
          | mk l => exact congrArg Str.mk (Array.toList_inj.mp hc)
        rw [← this]
        exact r1.str
      · cases e
    · cases e
  · cases e
theorem fe_in (hu : X.A.units + 65 < cLine) (ha : FE X W a f1) (hb : FE X W b f2) (hm : behindInMarks .In b = false := by rfl) : FE X W (.Compare a [.In] [b] pos) (op2 inD f1 f2) := by
  refine fe_cmp (op_inX hu) (fun F Γ σ H G d1 d2 v1 v2 x Q R r1 r2 e q => ?_) ha hb hm
  obtain ⟨k, e', rfl⟩ := Option.map_eq_some_iff.mp (show (inB d1 d2).map D.bl = some x from e)
  exact inB_ok R r1 r2 e' (fun k => Q (.bl k) H) (q _ _ _ R (Le.refl G) rfl)
end FL
namespace FL
open PySem PySem.Spec PyProof.Rows L2
variable [Wrl] [Tabl]
variable {X : Cx} {W : WX} {e a b c o : Expr} {f g f1 f2 f3 fo fa : EF} {t1 t2 : TF} {pos apos : Pos} {es : List Expr} {u : AF}
def one (g : D → Option D) : List D → Option D
  | [x] => g x
  | _ => none
def Op1 (X : Cx) (r : V → Hp → VK → Prop) (g : D → Option D) : Prop := ∀ (F : Fr) (Γ : En) (σ : St) (H G : Hp) (d : D) (v : V) (x : D) (Q : VK), Rl X.K F Γ σ H G → LRep X.K G H d v → g d = some x → Kont X.K F Γ σ G x Q → r v H Q
theorem opN_one {r : List V → Hp → VK → Prop} {g : D → Option D} (h : Op1 X (fun v => r [v]) g) : OpN X r (one g) := by
  intro F Γ σ H G ds vs x Q R rs e q
  cases rs with
  | nil => cases e
  | cons r1 t =>
    cases t with
    | nil => exact h F Γ σ H G _ _ x Q R r1 e q
    | cons _ _ => cases e
def lenD : D → Option D
  | .lst xs => some (.int xs.length)
  | .tup xs => some (.int xs.length)
  | .str x => if x.length ≤ sizeLine then some (.int x.length) else none
  | .scr ns => some (.int ns.length)
  | _ => none
theorem len_ok : Op1 X (fun v H Q => ∃ x n, [v] = [x] ∧ LenV X.K x H n ∧ Q (.int n) H) lenD := by
  intro F Γ σ H G d v x Q R r e q
  unfold lenD at e
  split at e
  · cases e
    obtain ⟨a, vs, rfl, h, r⟩ := r.lst R.gh
    exact ⟨_, _, rfl, .inl ⟨vs, .of h, rfl⟩, q _ _ _ R (Le.refl G) (by rw [← r.len]; rfl)⟩
  · cases e
    obtain ⟨a, vs, rfl, h, r⟩ := r.tup
    exact ⟨_, _, rfl, .inr ⟨vs, SqT.le R.gh h, rfl⟩, q _ _ _ R (Le.refl G) (by rw [← r.len]; rfl)⟩
  · split at e
    · rename_i hz
      cases e
      rw [r.str]
      exact ⟨_, _, rfl, ⟨hz, rfl⟩, q _ _ _ R (Le.refl G) rfl⟩
    · cases e
  · cases e
    obtain ⟨a, rfl, h⟩ := r.flat (fun o => by cases o <;> (intro z; cases z))
    exact ⟨_, _, rfl, .inl ⟨_, SqL.le R.gh h, rfl⟩, q _ _ _ R (Le.refl G) (by rw [List.length_map]; rfl)⟩
  · cases e
theorem fe_len {p : Pos} (hm : X.mg "len" = none) (ha : FE X W e f) (hg : Gl X "len" := by rfl) (he : starEach [e] X.env = (false, eval e X.env) :: starEach [] X.env := by rfl) : FE X W (.Call (.Name "len" p) [e] [] pos) (opN (one lenD) (aCons f aNil)) :=
  fe_blt call_len (opN_one len_ok) hm PySem.boot_len (fa_cons ha fa_nil he) hg (he := he) (hpl := by rfl)
def tupD : D → Option D
  | .lst xs => some (.tup xs)
  | .tup xs => some (.tup xs)
  | _ => none
theorem tup_ok : Op1 X (fun v H Q => ∃ p ys, [v] = [V.ref p] ∧ ((SqL X.K H p ys ∧ ∀ l, H l = none → Q (.ref l) (upd H l (.tup ys))) ∨ (SqT X.K H p ys ∧ Q (.ref p) H))) tupD := by
  intro F Γ σ H G d v x Q R r e q
  unfold tupD at e
  split at e
  · cases e
    obtain ⟨a, vs, rfl, h, r⟩ := r.lst R.gh
    refine ⟨_, vs, rfl, .inl ⟨.of h, fun p hp => ?_⟩⟩
    exact q _ _ _ (R.new hp) (Le.upd (R.gNone hp)) ⟨p, _, rfl, .of upd_same, Reps.le (Le.upd (R.gNone hp)) _ _ r⟩
  · cases e
    obtain ⟨a, vs, rfl, h, r⟩ := r.tup
    exact ⟨_, vs, rfl, .inr ⟨SqT.le R.gh h, q _ _ _ R (Le.refl G) ⟨_, _, rfl, h, r⟩⟩⟩
  · cases e
theorem fe_tupC {p : Pos} (hm : X.mg "tuple" = none) (ha : FE X W e f) (hg : Gl X "tuple" := by rfl) (he : starEach [e] X.env = (false, eval e X.env) :: starEach [] X.env := by rfl) : FE X W (.Call (.Name "tuple" p) [e] [] pos) (opN (one tupD) (aCons f aNil)) :=
  fe_bty call_tuple_of (opN_one tup_ok) hm (by decide +kernel) (fa_cons ha fa_nil he) hg (he := he) (hpl := by rfl)
def bools : List D → Option (List Bool)
  | [] => some []
  | .bl b :: ds => (bools ds).map fun bs => b :: bs
  | _ :: _ => none
theorem bools_eq : ∀ {ds : List D} {bs : List Bool}, bools ds = some bs → ds = bs.map D.bl
  | [], _, e => by cases e; rfl
  | .bl b :: ds, _, e => by
    obtain ⟨bs, e1, rfl⟩ := Option.map_eq_some_iff.mp (show (bools ds).map (fun bs => b :: bs) = some _ from e)
    rw [bools_eq e1]
    rfl
  | .non :: _, _, e => by cases e
  | .int _ :: _, _, e => by cases e
  | .str _ :: _, _, e => by cases e
  | .lst _ :: _, _, e => by cases e
  | .tup _ :: _, _, e => by cases e
  | .scr _ :: _, _, e => by cases e
  | .dk _ _ :: _, _, e => by cases e
  | .fk _ _ :: _, _, e => by cases e
  | .dn _ _ _ :: _, _, e => by cases e
  | .ins _ _ _ :: _, _, e => by cases e
def allD : D → Option D
  | .lst xs => (bools xs).map fun bs => .bl (bs.all id)
  | _ => none
theorem fe_all {p : Pos} (hc : X.calm = true) (hm : X.mg "all" = none) (ha : FE X W e f) (hg : Gl X "all" := by rfl) (he : starEach [e] X.env = (false, eval e X.env) :: starEach [] X.env := by rfl) : FE X W (.Call (.Name "all" p) [e] [] pos) (opN (one allD) (aCons f aNil)) := by
  refine fe_blt (cr_all hc) (opN_one fun F Γ σ H G d v x Q R r e q => ?_) hm (by decide +kernel) (fa_cons ha fa_nil he) hg (he := he) (hpl := by rfl)
  unfold allD at e
  split at e
  · obtain ⟨bs, e1, rfl⟩ := Option.map_eq_some_iff.mp e
    obtain ⟨a, vs, rfl, h, r⟩ := r.lst R.gh
    rw [bools_eq e1] at r
    rw [r.bls] at h
    exact ⟨a, bs, rfl, .of h, q _ _ _ R (Le.refl G) rfl⟩
  · cases e
def intC : D → Option D
  | .int i => some (.int i)
  | .bl k => some (.int (if k then 1 else 0))
  | _ => none
theorem fe_int1 {p : Pos} (hm : X.mg "int" = none) (ha : FE X W e f) (hg : Gl X "int" := by rfl) (he : starEach [e] X.env = (false, eval e X.env) :: starEach [] X.env := by rfl) : FE X W (.Call (.Name "int" p) [e] [] pos) (opN (one intC) (aCons f aNil)) := by
  refine fe_bty call_int1 (opN_one fun F Γ σ H G d v x Q R r e q => ?_) hm (by decide +kernel) (fa_cons ha fa_nil he) hg (he := he) (hpl := by rfl)
  unfold intC at e
  split at e
  · cases e
    exact .inl ⟨_, by rw [r.int], q _ _ _ R (Le.refl G) rfl⟩
  · cases e
    exact .inr ⟨_, by rw [r.bl], q _ _ _ R (Le.refl G) rfl⟩
  · cases e
def absD : D → Option D
  | .int i => some (.int (if i < 0 then -i else i))
  | _ => none
theorem fe_abs {p : Pos} (hm : X.mg "abs" = none) (ha : FE X W e f) (hg : Gl X "abs" := by rfl) (he : starEach [e] X.env = (false, eval e X.env) :: starEach [] X.env := by rfl) : FE X W (.Call (.Name "abs" p) [e] [] pos) (opN (one absD) (aCons f aNil)) := by
  refine fe_blt call_abs (opN_one fun F Γ σ H G d v x Q R r e q => ?_) hm (by decide +kernel) (fa_cons ha fa_nil he) hg (he := he) (hpl := by rfl)
  unfold absD at e
  split at e
  · cases e
    exact ⟨_, by rw [r.int], q _ _ _ R (Le.refl G) rfl⟩
  · cases e
def two (g : D → D → Option D) : List D → Option D
  | [x, y] => g x y
  | _ => none
theorem opN_two {r : List V → Hp → VK → Prop} {g : D → D → Option D} (h : Op2 X (fun v w => r [v, w]) g) : OpN X r (two g) := by
  intro F Γ σ H G ds vs x Q R rs e q
  cases rs with
  | nil => cases e
  | cons r1 t =>
    cases t with
    | nil => cases e
    | cons r2 t =>
      cases t with
      | nil => exact h F Γ σ H G _ _ _ _ x Q R r1 r2 e q
      | cons _ _ => cases e
def maxD := intD (fun _ _ => true) fun i j => .int (if j > i then j else i)
def minD := intD (fun _ _ => true) fun i j => .int (if j < i then j else i)
theorem intD_ok {P : Int → Int → Bool} {k : Int → Int → D} {r : List V → Hp → VK → Prop} (h : ∀ i j H Q, P i j = true → (∀ F Γ σ G, Rl X.K F Γ σ H G → Kont X.K F Γ σ G (k i j) Q → r [.int i, .int j] H Q)) : OpN X r (two (intD P k)) :=
  opN_two fun F Γ σ H G d1 d2 v1 v2 x Q R r1 r2 e q => by
    unfold intD at e
    split at e
    · split at e
      · rename_i hz
        cases e
        show r [v1, v2] H Q
        rw [r1.int, r2.int]
        exact h _ _ H Q hz F Γ σ G R q
      · cases e
    · cases e
theorem fe_max2 {p : Pos} (hc : X.calm = true) (hm : X.mg "max" = none) (ha : FE X W a f1) (hb : FE X W b f2) (hg : Gl X "max" := by rfl) (he : starEach [a, b] X.env = (false, eval a X.env) :: starEach [b] X.env := by rfl) (he2 : starEach [b] X.env = (false, eval b X.env) :: starEach [] X.env := by rfl) (hpl : (backTo pos (starEach [b] X.env)).any (·.1) = false := by rfl) :
    FE X W (.Call (.Name "max" p) [a, b] [] pos) (opN (two maxD) (aCons f1 (aCons f2 aNil))) :=
  fe_blt (call_max2 hc) (intD_ok fun i j H Q _ F Γ σ G R q => ⟨i, j, rfl, q _ _ _ R (Le.refl G) rfl⟩) hm (by decide +kernel) (fa_cons ha (fa_cons hb fa_nil he2) he) hg (he := he) (hpl := hpl)
theorem fe_min2 {p : Pos} (hc : X.calm = true) (hm : X.mg "min" = none) (ha : FE X W a f1) (hb : FE X W b f2) (hg : Gl X "min" := by rfl) (he : starEach [a, b] X.env = (false, eval a X.env) :: starEach [b] X.env := by rfl) (he2 : starEach [b] X.env = (false, eval b X.env) :: starEach [] X.env := by rfl) (hpl : (backTo pos (starEach [b] X.env)).any (·.1) = false := by rfl) :
    FE X W (.Call (.Name "min" p) [a, b] [] pos) (opN (two minD) (aCons f1 (aCons f2 aNil))) :=
  fe_blt (call_min2 hc) (intD_ok fun i j H Q _ F Γ σ G R q => ⟨i, j, rfl, q _ _ _ R (Le.refl G) rfl⟩) hm (by decide +kernel) (fa_cons ha (fa_cons hb fa_nil he2) he) hg (he := he) (hpl := hpl)
def dmD := intD (fun _ j => decide (0 < j ∧ j < 1073741824)) fun i j => .tup [.int (i / j), .int (i % j)]
theorem fe_divmod {p : Pos} (hm : X.mg "divmod" = none) (ha : FE X W a f1) (hb : FE X W b f2) (hg : Gl X "divmod" := by rfl) (he : starEach [a, b] X.env = (false, eval a X.env) :: starEach [b] X.env := by rfl) (he2 : starEach [b] X.env = (false, eval b X.env) :: starEach [] X.env := by rfl) (hpl : (backTo pos (starEach [b] X.env)).any (·.1) = false := by rfl) :
    FE X W (.Call (.Name "divmod" p) [a, b] [] pos) (opN (two dmD) (aCons f1 (aCons f2 aNil))) :=
  fe_blt call_divmod (intD_ok fun i j H Q hP F Γ σ G R q => ⟨i, j, rfl, of_decide_eq_true (p := 0 < j ∧ j < 1073741824) hP, fun p hp =>
    q _ _ _ (R.new hp) (Le.upd (R.gNone hp)) ⟨p, _, rfl, .of upd_same, ⟨_, _, rfl, rfl, _, _, rfl, rfl, rfl⟩⟩⟩) hm (by decide +kernel) (fa_cons ha (fa_cons hb fa_nil he2) he) hg (he := he) (hpl := hpl)
def tyN : D → Option String
  | .non => some "NoneType"
  | .bl _ => some "bool"
  | .int _ => some "int"
  | .str _ => some "str"
  | .lst _ => some "list"
  | .tup _ => some "tuple"
  | .dk _ _ => some "dict"
  | .fk _ _ => none
  | .dn _ _ _ => none
  | .scr _ => none
  | .ins _ _ _ => none
  | .exn _ _ _ _ _ => none
  | .cls _ => none
theorem tyX_of {K : Frg} {H : Hp} {x : D} {v : V} {t : String} (r : Rep K H x v) (e : tyN x = some t) : TyX K H v (.type t) := by
  cases x with
  | non => cases e; rw [show v = _ from r]; exact .base .non
  | bl b => cases e; rw [show v = _ from r]; exact .base (.bl b)
  | int i => cases e; rw [show v = _ from r]; exact .base (.int i)
  | str x => cases e; rw [show v = _ from r]; exact .base (.str x)
  | lst xs =>
    cases e
    obtain ⟨a, vs, rfl, h, _⟩ := r
    exact .base (.lst h)
  | tup xs =>
    cases e
    obtain ⟨a, vs, rfl, h, _⟩ := r
    rcases h with (h | ⟨o, h⟩) | ⟨o, its, n, h1, h2, _⟩
    · exact .base (.tup h)
    · exact .fTuple h
    · exact .kTuple h1 h2
  | dk ks vs =>
    cases e
    obtain ⟨a, kv, rfl, h, _⟩ := r
    exact .base (.dK h)
  | fk _ _ => cases e
  | dn _ _ _ => cases e
  | scr _ => cases e
  | ins _ _ _ => cases e
  | exn _ _ _ _ _ => cases e
  | cls _ => cases e
def IsiOk (K : Frg) (u : Value) (g : D → Option Bool) : Prop := ∀ (H : Hp) (x : D) (v : V) (k : Bool), Rep K H x v → g x = some k → ∃ t, TyX K H v t ∧ PySem.W.kitOne K t u = some k
def isB (n : String) (x : D) : Option Bool := (tyN x).bind fun t => kitB t n
theorem isB_ok {K : Frg} (n : String) : IsiOk K (.type n) (isB n) := fun H x v k r e => by
  obtain ⟨t, e1, e2⟩ := Option.bind_eq_some_iff.mp (show (tyN x).bind (fun t => kitB t n) = some k from e)
  exact ⟨_, tyX_of r e1, kit_ty e2⟩
structure FC (X : Cx) (e : Expr) (u : Value) : Prop where
  ex : ∃ (c : V), ClsV c u ∧ PE X e (tC c)
theorem fc_ty {x : Str} {n : String} (hm : X.mg x = none) (hv : bootBuiltins x = some (.type n)) (hg : Gl X x := by rfl) (hn : x ≠ "__name__" := by decide) (hd : (x == ("__debug__" : Str)) = false := by decide) : FC X (.Name x pos) (.type n) :=
  ⟨.ty n, .ty n, pe_bltn hg hm hv rfl hn hd⟩
theorem fc_own {x : Str} {C : Addr} (hm : X.mg x = some (.ref C)) (hg : Gl X x := by rfl) (hd : (x == ("__debug__" : Str)) = false := by decide) : FC X (.Name x pos) (.ref C) :=
  ⟨.ref C, .own C, pe_glob hg hm rfl hd⟩
def finI (g : D → Option Bool) (ev : EV) (Γ : En) : O EV := match (ev.look Γ).bind g with
  | some k => .ok (.d (.bl k)) Γ
  | none => .fail
def isiE (g : D → Option Bool) (f : EF) : EF := fun Γ => (f Γ).bind (finI g)
theorem fe_isi {p : Pos} {v : Value} {g : D → Option Bool} (hm : X.mg "isinstance" = none) (hi : IsiOk X.K v g) (hc : FC X b v) (ha : FE X W a f) (hg : Gl X "isinstance" := by rfl) (he : starEach [a, b] X.env = (false, eval a X.env) :: starEach [b] X.env := by rfl) (he2 : starEach [b] X.env = (false, eval b X.env) :: starEach [] X.env := by rfl) (hpl : (backTo pos (starEach [b] X.env)).any (·.1) = false := by rfl) :
    FE X W (.Call (.Name "isinstance" p) [a, b] [] pos) (isiE g f) := by
  obtain ⟨t, p1, s1⟩ := ha
  obtain ⟨c, hcv, pc⟩ := hc
  refine ⟨_, pe_callB call_isi hg hm (by decide +kernel) (pa_cons p1 (pa_cons pc pa_nil he2) he) (he := he) (hpl := hpl), Sem.bind (T := fun x σ H Q => rIsi X.K [x, c] H Q) s1 fun F Γ σ H G ev v R r => ?_⟩
  unfold finI
  split
  · rename_i k e
    obtain ⟨x, e1, e2⟩ := Option.bind_eq_some_iff.mp e
    obtain ⟨t, ht, hk⟩ := hi H x v k ((R.look r e1).rep R.gh) e2
    exact fun Q q => ⟨v, c, t, _, k, rfl, hcv, ht, hk, q _ _ _ R (Le.refl G) rfl⟩
  · trivial
def reprP (p : PyData) : Option Str := if p.showable = true ∧ p.hasDict = false ∧ p.depth ≤ 60 ∧ p.shown.length ≤ sizeLine then some p.shown else none
def reprD (x : D) : Option D := x.py.bind fun p => (reprP p).map D.str
theorem call_reprD (hg : X.A.guards = some []) (hu : X.A.units + 65 < cLine) : CallR X (.builtin "repr") (fun xs H Q => ∃ v p z, xs = [v] ∧ Dp X.K H v p ∧ reprP p = some z ∧ Q (.str z) H) := by
  intro pins s σ H xs us Q I r h
  obtain ⟨v, p, z, rfl, dp, hz, q⟩ := h
  obtain ⟨w, rfl, rv⟩ := vals1 r
  unfold reprP at hz
  split at hz
  · rename_i hc
    obtain ⟨c1, c2, c3, c4⟩ := hc
    cases hz
    obtain ⟨as, rd⟩ := Dp.reads I p v w dp rv
    have fin : ∀ h' tk, (∀ b o, s.heap.get? b = some o → h'.get? b = some o) → ∀ t, EP X pins σ Q (.str p.shown t) { s with heap := h', toks := tk } := fun h' tk hk t => ⟨.str p.shown, H, I.kept (t' := tk) hk, ⟨t, rfl⟩, q⟩
    cases dp with
    | non =>
      cases rv
      exact P.repr_of_none (fin s.heap _ (fun _ _ e => e) _)
    | bl b =>
      cases rv
      exact P.repr_of_bool (fin s.heap _ (fun _ _ e => e) _)
    | int i =>
      obtain ⟨t, rfl⟩ := rv
      exact P.repr_of_int (by simpa [PyData.showable] using c1) (fin s.heap _ (fun _ _ e => e) _)
    | str x =>
      obtain ⟨t, rfl⟩ := rv
      exact P.repr_of_str (fin s.heap _ (fun _ _ e => e) _) (by simpa only [PyData.shown] using c4)
    | lst _ _ =>
      cases rv
      exact repr_of_reads' rd c1 (fun z => by rw [c2] at z; cases z) hg (by omega) (fun _ _ e => e) (fun h' t tk hk => fin h' tk hk t) c4
    | tup _ _ =>
      cases rv
      exact repr_of_reads' rd c1 (fun z => by rw [c2] at z; cases z) hg (by omega) (fun _ _ e => e) (fun h' t tk hk => fin h' tk hk t) c4
  · cases hz
theorem fe_repr {p : Pos} (hgd : X.A.guards = some []) (hu : X.A.units + 65 < cLine) (hm : X.mg "repr" = none) (ha : FE X W e f) (hg : Gl X "repr" := by rfl) (he : starEach [e] X.env = (false, eval e X.env) :: starEach [] X.env := by rfl) : FE X W (.Call (.Name "repr" p) [e] [] pos) (opN (one reprD) (aCons f aNil)) := by
  refine fe_blt (call_reprD hgd hu) (opN_one fun F Γ σ H G d v x Q R r e q => ?_) hm (by decide +kernel) (fa_cons ha fa_nil he) hg (he := he) (hpl := by rfl)
  obtain ⟨p, e1, e2⟩ := Option.bind_eq_some_iff.mp (show d.py.bind (fun p => (reprP p).map D.str) = some x from e)
  obtain ⟨z, e3, rfl⟩ := Option.map_eq_some_iff.mp e2
  exact ⟨v, p, z, rfl, Rep.dp d v p e1 (r.rep R.gh), e3, q _ _ _ R (Le.refl G) rfl⟩
def isStr : EV → Bool
  | .d (.str _) => true
  | _ => false
def m1E (g : D → D → Option D) (fo fa : EF) : EF := fun Γ => (fo Γ).bind fun eo Γ1 => if isStr eo then (fa Γ1).bind fun ea Γ2 => fin2 g eo ea Γ2 else .fail
theorem isStr_rep {K : Frg} {σ : St} {G : Hp} {ev : EV} {v : V} (h : isStr ev = true) (r : vrel K σ G ev v) : ∃ a, v = .str a := by
  unfold isStr at h
  split at h
  · exact ⟨_, r⟩
  · cases h
theorem fe_m1 {id : String} {name : Str} {r : V → List V → Hp → VK → Prop} {g : D → D → Option D} (slot : Slot "str" name id) (ty : typeOf (.builtin id) = pure (.type "method_descriptor")) (rule : MtR X id r) (hs : Op2 X (fun v w => r v [w]) g) (ho : FE X W o fo) (ha : FE X W a fa)
    (hst : starEach [a] X.env = [(false, eval a X.env)] := by rfl) (hbase : attributeBase o name X.env (eval o X.env) = eval o X.env := by rfl) (hline : (apos.endLine == pos.line) = true := by rfl) : FE X W (.Call (.Attribute o name apos) [a] [] pos) (m1E g fo fa) := by
  obtain ⟨u1, p1, s1⟩ := ho
  obtain ⟨u2, p2, s2⟩ := ha
  refine ⟨_, pe_m1 slot ty rule p1 p2 hst hbase hline, fun F Γ σ H G R => ?_⟩
  refine Out.bind (T' := fun x H1 Q => (∃ a, x = .str a) ∧ u2 σ H1 fun y H2 => r x [y] H2 Q) (s1 F Γ σ H G R) fun ev Γ1 v H1 G1 R1 _ r1 => ?_
  split
  · rename_i hi
    refine Out.of (Out.bind (T' := fun y H2 Q => r v [y] H2 Q) (s2 F Γ1 σ H1 G1 R1) fun ev2 Γ2 v2 H2 G2 R2 le2 r2 => ?_) fun Q q => ⟨isStr_rep hi r1, q⟩
    exact out_fin2 hs R2 (vrel_mono _ _ _ _ _ _ le2 r1) r2
  · trivial
def splitD : D → D → Option D
  | .str x, .str y => if (y.length == 0) = false ∧ x.length + 2 ≤ sizeLine then some (.lst ((Txt.split x y).map D.str)) else none
  | _, _ => none
theorem fe_split (ho : FE X W o fo) (ha : FE X W a fa) (hst : starEach [a] X.env = [(false, eval a X.env)] := by rfl) (hbase : attributeBase o "split" X.env (eval o X.env) = eval o X.env := by rfl) (hline : (apos.endLine == pos.line) = true := by rfl) :
    FE X W (.Call (.Attribute o "split" apos) [a] [] pos) (m1E splitD fo fa) :=
  fe_m1 F.slot_str_split F.type_str_split mt_split (fun F Γ σ H G d1 d2 v1 v2 x Q R r1 r2 e q => by
    unfold splitD at e
    split at e
    · split at e
      · rename_i hz
        cases e
        exact ⟨_, _, r1.str, by rw [r2.str], hz.1, hz.2, fun p hp => q _ _ _ (R.new hp) (Le.upd (R.gNone hp)) ⟨p, _, rfl, upd_same, Reps.of_strs _⟩⟩
      · cases e
    · cases e) ho ha hst hbase hline
def texts : List D → Option (List Str)
  | [] => some []
  | .str x :: ds => (texts ds).map fun xs => x :: xs
  | _ :: _ => none
theorem texts_eq : ∀ {ds : List D} {xs : List Str}, texts ds = some xs → ds = xs.map D.str
  | [], _, e => by cases e; rfl
  | .str x :: ds, _, e => by
    obtain ⟨xs, e1, rfl⟩ := Option.map_eq_some_iff.mp (show (texts ds).map (fun xs => x :: xs) = some _ from e)
    rw [texts_eq e1]
    rfl
  | .non :: _, _, e => by cases e
  | .int _ :: _, _, e => by cases e
  | .bl _ :: _, _, e => by cases e
  | .lst _ :: _, _, e => by cases e
  | .tup _ :: _, _, e => by cases e
  | .scr _ :: _, _, e => by cases e
  | .dk _ _ :: _, _, e => by cases e
  | .fk _ _ :: _, _, e => by cases e
  | .dn _ _ _ :: _, _, e => by cases e
  | .ins _ _ _ :: _, _, e => by cases e
def joinD : D → D → Option D
  | .str x, .lst ys => (texts ys).bind fun zs => if (zs.map (·.length)).sum + zs.length * x.length ≤ 16777216 then some (.str (Txt.join x zs)) else none
  | .str x, .tup ys => (texts ys).bind fun zs => if (zs.map (·.length)).sum + zs.length * x.length ≤ 16777216 then some (.str (Txt.join x zs)) else none
  | _, _ => none
theorem fe_join (ho : FE X W o fo) (ha : FE X W a fa) (hst : starEach [a] X.env = [(false, eval a X.env)] := by rfl) (hbase : attributeBase o "join" X.env (eval o X.env) = eval o X.env := by rfl) (hline : (apos.endLine == pos.line) = true := by rfl) :
    FE X W (.Call (.Attribute o "join" apos) [a] [] pos) (m1E joinD fo fa) :=
  fe_m1 F.slot_str_join F.type_str_join mt_join (fun F Γ σ H G d1 d2 v1 v2 x Q R r1 r2 e q => by
    unfold joinD at e
    split at e
    · obtain ⟨zs, e1, e2⟩ := Option.bind_eq_some_iff.mp e
      split at e2
      · rename_i hz
        cases e2
        obtain ⟨p, vs, rfl, h, r⟩ := r2.lst R.gh
        rw [r.strs zs (texts_eq e1)] at h
        exact ⟨_, p, zs, r1.str, rfl, .inl (.of h), hz, q _ _ _ R (Le.refl G) rfl⟩
      · cases e2
    · obtain ⟨zs, e1, e2⟩ := Option.bind_eq_some_iff.mp e
      split at e2
      · rename_i hz
        cases e2
        obtain ⟨p, vs, rfl, h, r⟩ := r2.tup
        rw [r.strs zs (texts_eq e1)] at h
        exact ⟨_, p, zs, r1.str, rfl, .inr (SqT.le R.gh h), hz, q _ _ _ R (Le.refl G) rfl⟩
      · cases e2
    · cases e) ho ha hst hbase hline
def swD : D → D → Option D
  | .str x, .str y => some (.bl (Txt.startswith x y))
  | _, _ => none
theorem fe_startswith (ho : FE X W o fo) (ha : FE X W a fa) (hst : starEach [a] X.env = [(false, eval a X.env)] := by rfl) (hbase : attributeBase o "startswith" X.env (eval o X.env) = eval o X.env := by rfl) (hline : (apos.endLine == pos.line) = true := by rfl) :
    FE X W (.Call (.Attribute o "startswith" apos) [a] [] pos) (m1E swD fo fa) :=
  fe_m1 F.slot_str_startswith F.type_str_startswith mt_startswith (fun F Γ σ H G d1 d2 v1 v2 x Q R r1 r2 e q => by
    unfold swD at e
    split at e
    · cases e
      exact ⟨_, _, r1.str, by rw [r2.str], q _ _ _ R (Le.refl G) rfl⟩
    · cases e) ho ha hst hbase hline
def rpD : D → D → Option D
  | .str x, .str y => if x.length ≤ sizeLine then some (.str (Txt.removeprefix x y)) else none
  | _, _ => none
theorem fe_removeprefix (ho : FE X W o fo) (ha : FE X W a fa) (hst : starEach [a] X.env = [(false, eval a X.env)] := by rfl) (hbase : attributeBase o "removeprefix" X.env (eval o X.env) = eval o X.env := by rfl) (hline : (apos.endLine == pos.line) = true := by rfl) :
    FE X W (.Call (.Attribute o "removeprefix" apos) [a] [] pos) (m1E rpD fo fa) :=
  fe_m1 F.slot_str_removeprefix F.type_str_removeprefix mt_removeprefix (fun F Γ σ H G d1 d2 v1 v2 x Q R r1 r2 e q => by
    unfold rpD at e
    split at e
    · split at e
      · rename_i hz
        cases e
        exact ⟨_, _, r1.str, by rw [r2.str], hz, q _ _ _ R (Le.refl G) rfl⟩
      · cases e
    · cases e) ho ha hst hbase hline
end FL
namespace FL
open PySem PySem.Spec PyProof.Rows L2
variable [Wrl] [Tabl]
noncomputable def reb (Γ : En) (σ : St) (H G : Hp) (F : Fr) : Fr :=
  ⟨fun a => open Classical in if (∃ j, ownAt Γ j ∧ σ[j]? = some (some (V.ref a))) ∨ (∃ ps, H a = some (.tbl ps)) then none else H a, G, F.bi, F.ba⟩
section
variable {K : Frg} {F : Fr} {Γ Γ' : En} {σ σ' : St} {H H' G G' : Hp}
theorem reb_he {a : Addr} {o : HO} (h : (reb Γ σ H G F).He a = some o) : H a = some o ∧ (¬ ∃ j, ownAt Γ j ∧ σ[j]? = some (some (V.ref a))) ∧ NT o := by
  unfold reb at h
  simp only at h
  split at h
  · cases h
  · rename_i n; exact ⟨h, fun z => n (.inl z), fun ps z => n (.inr ⟨ps, by rw [h, z]⟩)⟩
theorem reb_of {a : Addr} {o : HO} (h : H a = some o) (n : ¬ ∃ j, ownAt Γ j ∧ σ[j]? = some (some (V.ref a))) (nt : NT o) : (reb Γ σ H G F).He a = some o := by
  unfold reb
  simp only
  rw [if_neg (fun z => z.elim n fun ⟨ps, e⟩ => nt ps (Option.some.inj (h.symm.trans e)))]; exact h
theorem Rl.rebase (R : Rl K F Γ σ H G) : Rl K (reb Γ σ H G F) Γ σ H G where
  len := R.len
  gh := R.gh
  ge := Le.refl G
  he := fun a o e _ => (reb_he e).1
  gn := fun a o e => .inl e
  sl := R.sl
  ac := fun i o e => by
    obtain ⟨a, u, h1, h2, h3, h4, h5, h6⟩ := R.ac i o e
    refine ⟨a, u, h1, h2, h3, ?_, h5, h6⟩
    unfold reb
    simp only
    rw [if_pos (.inl ⟨i, ⟨o, e⟩, h1⟩)]
  bo := fun i o e => by
    obtain ⟨h1, h2, ⟨w, h3⟩, h4, u, h5, h6⟩ := R.bo i o e
    refine ⟨h1, h2, ⟨u, reb_of h5 (fun ⟨j, ⟨o', ho⟩, hj⟩ => ?_) h6.nt⟩, h4, u, h5, h6⟩
    obtain ⟨a, u', g1, _, _, g4, _⟩ := R.ac j o' ho
    rw [hj] at g1
    cases g1
    have g4 : F.He F.ba = none := g4
    rw [h3] at g4; cases g4
  bb := R.bb
  tb := ⟨fun a o e => (reb_he e).2.2, R.tb.t0⟩
theorem Rl.heH (R : Rl K F Γ σ H G) {a : Addr} {o : HO} (e : F.He a = some o) : ∃ u, H a = some u ∧ NT u := by
  cases hb : F.bi with
  | none => exact ⟨o, R.he a o e (.inl hb), R.tb.ht a o e⟩
  | some i =>
    by_cases hp : a = F.ba
    · obtain ⟨o', ho⟩ := R.bb i hb
      obtain ⟨_, _, _, _, u, hu, hr⟩ := R.bo i o' ho
      exact ⟨u, by rw [hp]; exact hu, hr.nt⟩
    · exact ⟨o, R.he a o e (.inr hp), R.tb.ht a o e⟩
theorem Rl.notOwned (R : Rl K F Γ σ H G) {a : Addr} {o : HO} (e : F.He a = some o) : ¬ ∃ j, ownAt Γ j ∧ σ[j]? = some (some (V.ref a)) := fun ⟨j, ⟨o', ho⟩, hj⟩ => by
  obtain ⟨b, u', g1, _, _, g4, _⟩ := R.ac j o' ho
  rw [hj] at g1
  cases g1
  rw [e] at g4; cases g4
theorem Rl.unrebase (R : Rl K F Γ σ H G) (R' : Rl K (reb Γ σ H G F) Γ' σ' H' G') : Rl K F Γ' σ' H' G' where
  len := R'.len
  gh := R'.gh
  ge := R.ge.trans R'.ge
  he := fun a o e hb => R'.he a o (reb_of (R.he a o e hb) (R.notOwned e) (R.tb.ht a o e)) hb
  gn := fun a o e => by
    rcases R'.gn a o e with h | h
    · exact R.gn a o h
    · right
      cases q : F.He a with
      | none => rfl
      | some u =>
        obtain ⟨u', hu, nt⟩ := R.heH q
        rw [reb_of hu (R.notOwned q) nt] at h
        cases h
  sl := R'.sl
  ac := fun i o e => by
    obtain ⟨a, u, h1, h2, h3, h4, h5, h6⟩ := R'.ac i o e
    refine ⟨a, u, h1, h2, h3, ?_, h5, h6⟩
    cases q : F.He a with
    | none => rfl
    | some u =>
      obtain ⟨u', hu, nt⟩ := R.heH q
      rw [reb_of hu (R.notOwned q) nt] at h4
      cases h4
  bo := fun i o e => by
    obtain ⟨h1, h2, ⟨w, h3⟩, h4, u, h5, h6⟩ := R'.bo i o e
    refine ⟨h1, h2, ?_, h4, u, h5, h6⟩
    obtain ⟨o', ho⟩ := R.bb i h1
    obtain ⟨_, _, g3, _⟩ := R.bo i o' ho
    exact g3
  bb := R'.bb
  tb := ⟨R.tb.ht, R'.tb.t0⟩
theorem Rl.stays (R : Rl K F Γ σ H G) (R' : Rl K (reb Γ σ H G F) Γ' σ' H' G') {p : Addr} {u : HO} (hp : H p = some u) (no : ∀ j, ownAt Γ j → σ[j]? ≠ some (some (.ref p))) (hb : F.bi = none ∨ p ≠ F.ba) (hg : G p = none) (nt : NT u) :
    H' p = some u ∧ G' p = none ∧ ∀ j, ownAt Γ' j → σ'[j]? ≠ some (some (.ref p)) := by
  have e : (reb Γ σ H G F).He p = some u := reb_of hp (fun ⟨j, ho, hj⟩ => no j ho hj) nt
  refine ⟨R'.he p u e hb, ?_, fun j ho hj => R'.notOwned e ⟨j, ho, hj⟩⟩
  cases q : G' p with
  | none => rfl
  | some w =>
    rcases R'.gn p w q with h | h
    · rw [show (reb Γ σ H G F).Ge p = G p from rfl, hg] at h; cases h
    · rw [e] at h; cases h
end
inductive VV where
  | e (ev : EV) | n (o : OD)
abbrev VF := En → O VV
def New (K : Frg) (F : Fr) (Γ : En) (σ : St) (H G : Hp) (o : OD) (v : V) : Prop := ∃ (p : Addr) (u : HO), v = .ref p ∧ H p = some u ∧ G p = none ∧ F.He p = none ∧ (F.bi = none ∨ p ≠ F.ba) ∧ (∀ j, ownAt Γ j → σ[j]? ≠ some (some (.ref p))) ∧ ORep K G p o u
def vvrel (K : Frg) (F : Fr) (Γ : En) (σ : St) (H G : Hp) (x : VV) (v : V) : Prop := match x with
  | .e ev => vrel K σ G ev v
  | .n o => New K F Γ σ H G o v
def OutV {α β : Type} (K : Frg) (W : WX) (rel : Fr → En → St → Hp → Hp → α → β → Prop) (F : Fr) (σ : St) (G : Hp) (T : (β → Hp → Prop) → Prop) : O α → Prop
  | .ok a Γ' => ∀ Q : β → Hp → Prop, (∀ b H' G', Rl K F Γ' σ H' G' → Le G G' → rel F Γ' σ H' G' a b → Q b H') → T Q
  | .exc c ns fs Γ' => ∀ Q : β → Hp → Prop, (∀ cls dx H' G', Rl K F Γ' σ H' G' → Le G G' → XRep K G' c ns fs cls dx → W cls dx σ H') → T Q
  | .fail => True
def SemV {α β : Type} (K : Frg) (W : WX) (rel : Fr → En → St → Hp → Hp → α → β → Prop) (t : St → Hp → (β → Hp → Prop) → Prop) (f : En → O α) : Prop := ∀ (F : Fr) (Γ : En) (σ : St) (H G : Hp), Rl K F Γ σ H G → OutV K W rel F σ G (t σ H) (f Γ)
structure FV (X : Cx) (W : WX) (e : Expr) (f : VF) : Prop where
  ex : ∃ t, PE X e t ∧ SemV X.K W (vvrel X.K) t f
variable {X : Cx} {W : WX} {e a b c o : Expr} {f g f1 f2 f3 fo fa : EF} {t1 t2 : TF} {pos apos : Pos} {es : List Expr} {u : AF}
def vE' (f : EF) : VF := fun Γ => match f Γ with
  | .ok ev Γ' => .ok (.e ev) Γ'
  | .exc c ns fs Γ' => .exc c ns fs Γ'
  | .fail => .fail
theorem fv_e (h : FE X W e f) : FV X W e (vE' f) := by
  obtain ⟨t, p, s⟩ := h
  refine ⟨t, p, fun F Γ σ H G R => ?_⟩
  have h1 := s F Γ σ H G R
  unfold vE'
  revert h1
  cases f Γ with
  | fail => exact fun _ => trivial
  | exc c ns fs Γ' => exact fun h1 => h1
  | ok a Γ' => exact fun h1 => h1
def finL (es : List EV) (Γ : En) : O VV := match frzs es Γ with
  | some (xs, Γ') => if xs.length ≤ sizeLine then .ok (.n (.l xs)) Γ' else .fail
  | none => .fail
def lstN (r : AF) : VF := fun Γ => (r Γ).bind finL
theorem OutV.bind {α β α' β' : Type} {K : Frg} {rel : Rel α β} {rel' : Fr → En → St → Hp → Hp → α' → β' → Prop} {F : Fr} {σ : St} {G : Hp} {T : (β → Hp → Prop) → Prop} {T' : β → Hp → (β' → Hp → Prop) → Prop} {g : α → En → O α'} : ∀ {r : O α}, Out K W rel F σ G T r →
    (∀ a Γ1 b H1 G1, Rl K F Γ1 σ H1 G1 → Le G G1 → rel σ G1 a b → OutV K W rel' F σ G1 (T' b H1) (g a Γ1)) → OutV K W rel' F σ G (fun Q => T fun b H1 => T' b H1 Q) (r.bind g)
  | .fail, _, _ => trivial
  | .exc _ _ _ _, h, _ => fun Q q => h _ q
  | .ok a Γ1, h, k => by
    show OutV K W rel' F σ G _ (g a Γ1)
    cases e2 : g a Γ1 with
    | fail => trivial
    | exc c ns fs Γ' =>
      intro Q q
      refine h _ fun b H1 G1 R1 le1 r1 => ?_
      have h2 := k a Γ1 b H1 G1 R1 le1 r1
      rw [e2] at h2
      exact h2 Q fun cls dx H' G' R' le' x => q cls dx H' G' R' (le1.trans le') x
    | ok a' Γ' =>
      intro Q q
      refine h _ fun b H1 G1 R1 le1 r1 => ?_
      have h2 := k a Γ1 b H1 G1 R1 le1 r1
      rw [e2] at h2
      exact h2 Q fun b' H' G' R' le' x => q b' H' G' R' (le1.trans le') x
theorem Rl.baNe {K : Frg} {F : Fr} {Γ : En} {σ : St} {H G : Hp} (R : Rl K F Γ σ H G) {p : Addr} (h : H p = none) : F.bi = none ∨ p ≠ F.ba := by
  cases hb : F.bi with
  | none => exact .inl rfl
  | some i =>
    obtain ⟨o, ho⟩ := R.bb i hb
    obtain ⟨_, _, _, _, u, hu, _⟩ := R.bo i o ho
    exact .inr fun z => by rw [z, hu] at h; cases h
theorem Rl.newN {K : Frg} {F : Fr} {Γ : En} {σ : St} {H G : Hp} (R : Rl K F Γ σ H G) {p : Addr} {u : HO} {o : OD} (h : H p = none) (r : ORep K G p o u) : Rl K F Γ σ (upd H p u) G ∧ New K F Γ σ (upd H p u) G o (.ref p) :=
  ⟨R.newH h, p, u, rfl, upd_same, R.gNone h, R.heNone h, R.baNe h, R.noOwn h, r⟩
theorem fv_lst {r : AF} (h : FA X W es r) : FV X W (.List es pos) (lstN r) := by
  obtain ⟨t, p, s⟩ := h
  refine ⟨_, pe_lst p, fun F Γ σ H G R => ?_⟩
  refine OutV.bind (T' := fun (xs : List V) H1 (Q : VK) => xs.length ≤ sizeLine ∧ ∀ p, H1 p = none → Q (.ref p) (upd H1 p (.lst xs))) (s F Γ σ H G R) fun es Γ1 vs H1 G1 R1 _ rs => ?_
  unfold finL
  split
  · rename_i xs Γ' e
    split
    · rename_i hz
      intro Q q
      obtain ⟨G', R', le, rp⟩ := R1.frzs rs e
      refine ⟨by rw [rp.len]; exact hz, fun p hp => ?_⟩
      obtain ⟨R2, n⟩ := R'.newN (o := .l xs) hp ⟨vs, rfl, rp⟩
      exact q _ _ _ R2 le n
    · trivial
  · trivial
def listN : List EV → En → O VV
  | [e], Γ => (match e.look Γ with
    | some (.lst xs) => .ok (.n (.l xs)) Γ
    | some (.tup xs) => .ok (.n (.l xs)) Γ
    | _ => .fail)
  | _, _ => .fail
theorem fv_list {p : Pos} (hm : X.mg "list" = none) (ha : FE X W e f) (hg : Gl X "list" := by rfl) (he : starEach [e] X.env = (false, eval e X.env) :: starEach [] X.env := by rfl) : FV X W (.Call (.Name "list" p) [e] [] pos) (fun Γ => (aCons f aNil Γ).bind listN) := by
  obtain ⟨t, pa, s⟩ := fa_cons ha fa_nil he
  refine ⟨_, pe_callTy call_list_of hg hm (by decide +kernel) pa (he := he) (hpl := by rfl), fun F Γ σ H G R => ?_⟩
  refine OutV.bind (T' := fun xs H (Q : VK) => ∃ p ys, xs = [V.ref p] ∧ (SqL X.K H p ys ∨ SqT X.K H p ys) ∧ ∀ l, H l = none → Q (.ref l) (upd H l (.lst ys))) (s F Γ σ H G R) fun es Γ1 vs H1 G1 R1 _ rs => ?_
  unfold listN
  split
  · rename_i e
    cases rs with
    | cons r1 t =>
      cases t
      split
      · rename_i xs e1
        obtain ⟨l1, vs1, rfl, h1, q1⟩ := (R1.look r1 e1).lst R1.gh
        refine fun Q q => ⟨l1, vs1, rfl, .inl (.of h1), fun p hp => ?_⟩
        obtain ⟨R2, n⟩ := R1.newN (o := .l xs) hp ⟨_, rfl, q1⟩
        exact q _ _ _ R2 (Le.refl _) n
      · rename_i xs e1
        obtain ⟨l1, vs1, rfl, h1, q1⟩ := (R1.look r1 e1).tup
        refine fun Q q => ⟨l1, vs1, rfl, .inr (SqT.le R1.gh h1), fun p hp => ?_⟩
        obtain ⟨R2, n⟩ := R1.newN (o := .l xs) hp ⟨_, rfl, q1⟩
        exact q _ _ _ R2 (Le.refl _) n
      · trivial
  · trivial
inductive Fl where
  | nx | br | ct | rt (d : D) | rn (o : OD)
abbrev SF := En → O Fl
def Fin (K : Frg) (F : Fr) (Γ' : En) (G : Hp) (D : Ends) : Fl → Prop
  | .nx => ∀ σ' H' G', Rl K F Γ' σ' H' G' → Le G G' → D.nx σ' H'
  | .br => ∀ σ' H' G', Rl K F Γ' σ' H' G' → Le G G' → D.bk σ' H'
  | .ct => ∀ σ' H' G', Rl K F Γ' σ' H' G' → Le G G' → D.ct σ' H'
  | .rt d => ∀ v σ' H' G', Rl K F Γ' σ' H' G' → Le G G' → Rep K G' d v → D.rt v H'
  | .rn o => ∀ v σ' H' G', Rl K F Γ' σ' H' G' → Le G G' → New K F Γ' σ' H' G' o v → D.rt v H'
def OutS (K : Frg) (W : WX) (F : Fr) (G : Hp) (T : Ends → Prop) : O Fl → Prop
  | .ok fl Γ' => ∀ D : Ends, Fin K F Γ' G D fl → T D
  | .exc c ns fs Γ' => ∀ D : Ends, (∀ cls dx σ' H' G', Rl K F Γ' σ' H' G' → Le G G' → XRep K G' c ns fs cls dx → W cls dx σ' H') → T D
  | .fail => True
def SemS (K : Frg) (W : WX) (t : TS) (f : SF) : Prop := ∀ (F : Fr) (Γ : En) (σ : St) (H G : Hp), Rl K F Γ σ H G → OutS K W F G (fun D => t D σ H) (f Γ)
structure FS (X : Cx) (W : WX) (st : Stmt) (f : SF) : Prop where
  ex : ∃ t, PS X st t ∧ SemS X.K W t f
structure FB (X : Cx) (W : WX) (sts : List Stmt) (f : SF) : Prop where
  ex : ∃ t, PSs X sts t ∧ SemS X.K W t f
theorem Fin.le {K : Frg} {F : Fr} {Γ' : En} {G G1 : Hp} {D : Ends} (l : Le G G1) : ∀ {fl : Fl}, Fin K F Γ' G D fl → Fin K F Γ' G1 D fl
  | .nx, h => fun σ' H' G' R le => h σ' H' G' R (l.trans le)
  | .br, h => fun σ' H' G' R le => h σ' H' G' R (l.trans le)
  | .ct, h => fun σ' H' G' R le => h σ' H' G' R (l.trans le)
  | .rt _, h => fun v σ' H' G' R le r => h v σ' H' G' R (l.trans le) r
  | .rn _, h => fun v σ' H' G' R le r => h v σ' H' G' R (l.trans le) r
theorem OutS.bind {α β : Type} {K : Frg} {rel : Rel α β} {F : Fr} {σ : St} {G : Hp} {T : (β → Hp → Prop) → Prop} {T' : β → Hp → Ends → Prop} {g : α → En → O Fl} : ∀ {r : O α}, Out K W rel F σ G T r →
    (∀ a Γ1 b H1 G1, Rl K F Γ1 σ H1 G1 → Le G G1 → rel σ G1 a b → OutS K W F G1 (T' b H1) (g a Γ1)) → OutS K W F G (fun D => T fun b H1 => T' b H1 D) (r.bind g)
  | .fail, _, _ => trivial
  | .exc _ _ _ _, h, _ => fun D q => h _ fun cls dx H' G' R le x => q cls dx σ H' G' R le x
  | .ok a Γ1, h, k => by
    show OutS K W F G _ (g a Γ1)
    cases e2 : g a Γ1 with
    | fail => trivial
    | exc c ns fs Γ' =>
      intro D q
      refine h _ fun b H1 G1 R1 le1 r1 => ?_
      have h2 := k a Γ1 b H1 G1 R1 le1 r1
      rw [e2] at h2
      exact h2 D fun cls dx σ' H' G' R' le' x => q cls dx σ' H' G' R' (le1.trans le') x
    | ok fl Γ' =>
      intro D q
      refine h _ fun b H1 G1 R1 le1 r1 => ?_
      have h2 := k a Γ1 b H1 G1 R1 le1 r1
      rw [e2] at h2
      exact h2 D (q.le le1)
theorem OutS.bindV {α β : Type} {K : Frg} {rel : Fr → En → St → Hp → Hp → α → β → Prop} {F : Fr} {σ : St} {G : Hp} {T : (β → Hp → Prop) → Prop} {T' : β → Hp → Ends → Prop} {g : α → En → O Fl} : ∀ {r : O α}, OutV K W rel F σ G T r →
    (∀ a Γ1 b H1 G1, Rl K F Γ1 σ H1 G1 → Le G G1 → rel F Γ1 σ H1 G1 a b → OutS K W F G1 (T' b H1) (g a Γ1)) → OutS K W F G (fun D => T fun b H1 => T' b H1 D) (r.bind g)
  | .fail, _, _ => trivial
  | .exc _ _ _ _, h, _ => fun D q => h _ fun cls dx H' G' R le x => q cls dx σ H' G' R le x
  | .ok a Γ1, h, k => by
    show OutS K W F G _ (g a Γ1)
    cases e2 : g a Γ1 with
    | fail => trivial
    | exc c ns fs Γ' =>
      intro D q
      refine h _ fun b H1 G1 R1 le1 r1 => ?_
      have h2 := k a Γ1 b H1 G1 R1 le1 r1
      rw [e2] at h2
      exact h2 D fun cls dx σ' H' G' R' le' x => q cls dx σ' H' G' R' (le1.trans le') x
    | ok fl Γ' =>
      intro D q
      refine h _ fun b H1 G1 R1 le1 r1 => ?_
      have h2 := k a Γ1 b H1 G1 R1 le1 r1
      rw [e2] at h2
      exact h2 D (q.le le1)
theorem OutS.of {K : Frg} {F : Fr} {G : Hp} {T T' : Ends → Prop} : ∀ {r : O Fl}, OutS K W F G T r → (∀ D, T D → T' D) → OutS K W F G T' r
  | .ok _ _, h, k => fun D q => k D (h D q)
  | .exc _ _ _ _, h, k => fun D q => k D (h D q)
  | .fail, _, _ => trivial
def seqS (f g : SF) : SF := fun Γ => match f Γ with
  | .ok .nx Γ1 => g Γ1
  | r => r
def nxS : SF := fun Γ => .ok .nx Γ
theorem fb_nil : FB X W [] nxS := ⟨_, pss_nil, fun F Γ σ H G R D h => h σ H G R (Le.refl G)⟩
variable {st : Stmt} {rest sts : List Stmt} {s1 s2 : SF} {f' : VF}
theorem fb_cons (h1 : FS X W st s1) (h2 : FB X W rest s2) : FB X W (st :: rest) (seqS s1 s2) := by
  obtain ⟨t1, p1, m1⟩ := h1
  obtain ⟨t2, p2, m2⟩ := h2
  refine ⟨_, pss_cons p1 p2, fun F Γ σ H G R => ?_⟩
  have h := m1 F Γ σ H G R
  unfold seqS
  split
  · rename_i Γ1 e
    rw [e] at h
    cases e2 : s2 Γ1 with
    | fail => trivial
    | exc c ns fs Γ' =>
      intro D q
      refine h _ fun σ1 H1 G1 R1 le1 => ?_
      have k := m2 F Γ1 σ1 H1 G1 R1
      rw [e2] at k
      exact k D fun cls dx σ' H' G' R' le' x => q cls dx σ' H' G' R' (le1.trans le') x
    | ok fl Γ' =>
      intro D q
      refine h _ fun σ1 H1 G1 R1 le1 => ?_
      have k := m2 F Γ1 σ1 H1 G1 R1
      rw [e2] at k
      exact k D (q.le le1)
  · rename_i r n
    revert h
    cases e : s1 Γ with
    | fail => exact fun _ => trivial
    | exc c ns fs Γ' => exact fun h D q => h _ q
    | ok fl Γ' =>
      cases fl with
      | nx => exact absurd e (n Γ')
      | br => exact fun h D q => h _ q
      | ct => exact fun h D q => h _ q
      | rt d => exact fun h D q => h _ q
      | rn o => exact fun h D q => h _ q
theorem fb_one (h : FS X W st s1) : FB X W [st] s1 := by
  obtain ⟨t1, p1, m1⟩ := h
  exact ⟨_, pss_one p1, m1⟩
def brS : SF := fun Γ => .ok .br Γ
def ctS : SF := fun Γ => .ok .ct Γ
def finR (ev : EV) (Γ : En) : O Fl := match frz1 ev Γ with
  | some (x, Γ') => .ok (.rt x) Γ'
  | none => .fail
def retS (f : EF) : SF := fun Γ => (f Γ).bind finR
theorem fs_ret (h : FE X W e f) : FS X W (.Return (some e) pos) (retS f) := by
  obtain ⟨t, p, s⟩ := h
  refine ⟨_, ps_ret p, fun F Γ σ H G R => ?_⟩
  refine OutS.bind (T' := fun v H1 D => D.rt v H1) (s F Γ σ H G R) fun ev Γ1 v H1 G1 R1 _ r1 => ?_
  unfold finR
  split
  · rename_i x Γ' e
    obtain ⟨G', R', le, rp⟩ := R1.frz1 r1 e
    exact fun D q => q v σ H1 G' R' le rp
  · trivial
def finRV (x : VV) (Γ : En) : O Fl := match x with
  | .e ev => finR ev Γ
  | .n o => .ok (.rn o) Γ
def retV (f : VF) : SF := fun Γ => (f Γ).bind finRV
theorem fs_retV (h : FV X W e f') : FS X W (.Return (some e) pos) (retV f') := by
  obtain ⟨t, p, s⟩ := h
  refine ⟨_, ps_ret p, fun F Γ σ H G R => ?_⟩
  refine OutS.bindV (T' := fun v H1 D => D.rt v H1) (s F Γ σ H G R) fun x Γ1 v H1 G1 R1 _ r1 => ?_
  unfold finRV
  split
  · rename_i ev
    unfold finR
    split
    · rename_i x Γ' e
      obtain ⟨G', R', le, rp⟩ := R1.frz1 r1 e
      exact fun D q => q v σ H1 G' R' le rp
    · trivial
  · rename_i o
    exact fun D q => q v σ H1 G1 R1 (Le.refl _) r1
theorem Rl.setNo' {K : Frg} {F : Fr} {Γ : En} {σ : St} {H G : Hp} (R : Rl K F Γ σ H G) {i : Nat} {o : OD} (h : Γ[i]? = some (.acc o)) : Rl K F (Γ.set i .no) σ H G := by
  obtain ⟨a, u, h1, _⟩ := R.ac i o h
  have k := R.setNo (i := i) (x := some (.ref a)) (fun z => by
    obtain ⟨o', e⟩ := R.bb i z
    rw [h] at e; cases e)
  rwa [show σ.set i (some (.ref a)) = σ from by
    apply List.ext_getElem? ; intro j
    by_cases e : i = j
    · subst e; rw [List.getElem?_set_self (List.getElem?_eq_some_iff.mp h1).1, h1]
    · rw [List.getElem?_set_ne e]] at k
def giv (ev : EV) (Γ : En) : O VV := match ev with
  | .d d => .ok (.e (.d d)) Γ
  | .own i => match Γ[i]? with
    | some (.acc o) => .ok (.n o) (Γ.set i .no)
    | _ => .ok (.e (.own i)) Γ
def givV (f : EF) : VF := fun Γ => (f Γ).bind giv
theorem fv_giv (h : FE X W e f) : FV X W e (givV f) := by
  obtain ⟨t, p, s⟩ := h
  refine ⟨t, p, fun F Γ σ H G R => ?_⟩
  refine OutV.bind (T' := fun v H1 Q => Q v H1) (s F Γ σ H G R) fun ev Γ1 v H1 G1 R1 _ r1 => ?_
  unfold giv
  split
  · exact fun Q q => q v H1 G1 R1 (Le.refl _) r1
  · rename_i i
    split
    · rename_i o eo
      refine fun Q q => q v H1 G1 (R1.setNo' eo) (Le.refl _) ?_
      obtain ⟨p, u, h1, h2, h3, h4, h5, h6⟩ := R1.ac i o eo
      rw [show σ[i]? = some (some v) from r1] at h1
      cases h1
      refine ⟨p, u, rfl, h2, h3, h4, ?_, fun j ⟨o', ho'⟩ hj => ?_, h5⟩
      · cases hb : F.bi with
        | none => exact .inl rfl
        | some k =>
          obtain ⟨ob, hob⟩ := R1.bb k hb
          obtain ⟨_, _, ⟨w, g3⟩, _⟩ := R1.bo k ob hob
          exact .inr fun z => by rw [z, g3] at h4; cases h4
      · rcases get_set ho' with ⟨_, _, z⟩ | ⟨hk, z⟩
        · cases z
        · exact h6 j (fun q => hk q) ⟨o', z⟩ hj
    · exact fun Q q => q v H1 G1 R1 (Le.refl _) r1
def retN : SF := fun Γ => .ok (.rt .non) Γ
def exprS (f : EF) : SF := fun Γ => (f Γ).bind fun _ Γ1 => .ok .nx Γ1
theorem fs_expr (h : FE X W e f) (hs : swapsWith e none pos.line X.env = pure false := by rfl) : FS X W (.Expr e pos) (exprS f) := by
  obtain ⟨t, p, s⟩ := h
  refine ⟨_, ps_expr p hs, fun F Γ σ H G R => ?_⟩
  exact OutS.bind (T' := fun _ H1 D => D.nx σ H1) (s F Γ σ H G R) fun ev Γ1 v H1 G1 R1 _ r1 D q => q σ H1 G1 R1 (Le.refl _)
def ifS (t : TF) (s1 s2 : SF) : SF := fun Γ => (t Γ).bind fun k Γ1 => if k then s1 Γ1 else s2 Γ1
theorem fs_if {sa sb : List Stmt} (hc : FT X W c t1) (ha : FB X W sa s1) (hb : FB X W sb s2) : FS X W (.If c sa sb pos) (ifS t1 s1 s2) := by
  obtain ⟨u1, p1, m1⟩ := hc
  obtain ⟨u2, p2, m2⟩ := ha
  obtain ⟨u3, p3, m3⟩ := hb
  refine ⟨_, ps_if p1 p2 p3, fun F Γ σ H G R => ?_⟩
  refine OutS.bind (T' := fun (b : Bool) H1 D => if b = true then u2 D σ H1 else u3 D σ H1) (m1 F Γ σ H G R) fun k Γ1 k' H1 G1 R1 _ r1 => ?_
  cases (show k' = k from r1)
  cases k with
  | true => exact m2 F Γ1 σ H1 G1 R1
  | false => exact m3 F Γ1 σ H1 G1 R1
def isBor (Γ : En) (i : Nat) : Bool := match Γ[i]? with
  | some (.bor _) => true
  | _ => false
theorem Rl.notBor {K : Frg} {F : Fr} {Γ : En} {σ : St} {H G : Hp} (R : Rl K F Γ σ H G) {i : Nat} (h : isBor Γ i = false) : F.bi ≠ some i := fun z => by
  obtain ⟨o, e⟩ := R.bb i z
  unfold isBor at h
  rw [e] at h
  cases h
def stoV (i : Nat) (x : VV) (Γ : En) : O Fl := match x with
  | .e ev => (match frz1 ev Γ with
    | some (d, Γ') => if isBor Γ' i = false then .ok .nx (Γ'.set i (.im d)) else .fail
    | none => .fail)
  | .n o => if isBor Γ i = false then .ok .nx (Γ.set i (.acc o)) else .fail
def asgV (i : Nat) (f : VF) : SF := fun Γ => (f Γ).bind (stoV i)
theorem out_sto {K : Frg} {F : Fr} {Γ : En} {σ : St} {H G : Hp} {i : Nat} {x : VV} {v : V} (R : Rl K F Γ σ H G) (r : vvrel K F Γ σ H G x v) : OutS K W F G (fun D => D.nx (σ.set i (some v)) H) (stoV i x Γ) := by
  unfold stoV
  split
  · split
    · rename_i d Γ' e
      split
      · rename_i hb
        obtain ⟨G', R', le, rp⟩ := R.frz1 r e
        exact fun D q => q _ H G' (R'.setIm (R'.notBor hb) rp) le
      · trivial
    · trivial
  · split
    · rename_i o hb
      obtain ⟨p, u, rfl, h1, h2, h3, _, h4, h5⟩ := r
      exact fun D q => q _ H G (R.setAcc (R.notBor hb) h1 h2 h3 h4 h5) (Le.refl G)
    · trivial
theorem fs_asg {i : Nat} {x : Str} {f : VF} {p' : Pos} (h : FV X W e f) (hN : X.N.Nodup) (hi : X.N[i]? = some x) (hx : Loc X.env.scope x) (hs : swapsWith e (some (.Name x p')) pos.line X.env = pure false := by rfl) (hf : X.fn x = true ∨ X.env.scope.names.lookup x = some .local := by first | exact .inl rfl | exact .inr rfl | assumption) :
    FS X W (.Assign [.Name x p'] e pos) (asgV i f) := by
  obtain ⟨t, p, s⟩ := h
  refine ⟨_, ps_set hN hi hx p hs hf, fun F Γ σ H G R => ?_⟩
  exact OutS.bindV (T' := fun v H1 D => D.nx (σ.set i (some v)) H1) (s F Γ σ H G R) fun x Γ1 v H1 G1 R1 _ r1 => out_sto R1 r1
abbrev BF := D → En → Option En
def Keeps (sl : List Nat) (σ σ' : St) : Prop := σ'.length = σ.length ∧ ∀ i, i ∉ sl → σ'[i]? = σ[i]?
theorem Keeps.refl (sl : List Nat) (σ : St) : Keeps sl σ σ := ⟨rfl, fun _ _ => rfl⟩
theorem Keeps.trans {sl sl' : List Nat} {σ σ1 σ2 : St} (h : Keeps sl σ σ1) (k : Keeps sl' σ1 σ2) : Keeps (sl ++ sl') σ σ2 :=
  ⟨k.1.trans h.1, fun i hi => (k.2 i fun z => hi (List.mem_append_right _ z)).trans (h.2 i fun z => hi (List.mem_append_left _ z))⟩
structure FG (X : Cx) (tg : Expr) (b : BF) (sl : List Nat) : Prop where
  ex : ∃ g : TG, PG X tg g ∧ ∀ (F : Fr) (Γ : En) (σ : St) (H G : Hp) (d : D) (v : V) (Γ' : En), Rl X.K F Γ σ H G → Rep X.K G d v → b d Γ = some Γ' → ∀ Q : St → Hp → Prop, (∀ σ' H' G', Rl X.K F Γ' σ' H' G' → Le G G' → Keeps sl σ σ' → Q σ' H') → g v σ H Q
structure FGs (X : Cx) (tgs : List Expr) (b : List D → En → Option En) (sl : List Nat) : Prop where
  ex : ∃ g : TGs, PGs X tgs g ∧ ∀ (F : Fr) (Γ : En) (σ : St) (H G : Hp) (d : List D) (v : List V) (Γ' : En), Rl X.K F Γ σ H G → Reps X.K G d v → b d Γ = some Γ' → ∀ Q : St → Hp → Prop, (∀ σ' H' G', Rl X.K F Γ' σ' H' G' → Le G G' → Keeps sl σ σ' → Q σ' H') → g v σ H Q
def bName (i : Nat) : BF := fun d Γ => if isBor Γ i = false then some (Γ.set i (.im d)) else none
theorem fg_name {i : Nat} {x : Str} (hN : X.N.Nodup) (hi : X.N[i]? = some x) (hx : Loc X.env.scope x := by first | exact .inl rfl | exact .inr rfl) (hf : X.fn x = true ∨ X.env.scope.names.lookup x = some .local := by first | exact .inl rfl | exact .inr rfl | assumption) : FG X (.Name x pos) (bName i) [i] :=
  ⟨_, pg_name hN hi hx hf, fun F Γ σ H G d v Γ' R r e Q q => by
    unfold bName at e
    split at e
    · rename_i hb
      cases e
      exact q _ H G (R.setIm (R.notBor hb) r) (Le.refl G) ⟨by rw [List.length_set], fun k hk => List.getElem?_set_ne (fun z => hk (by simp [z]))⟩
    · cases e⟩
def bNil : List D → En → Option En
  | [], Γ => some Γ
  | _, _ => none
def bCons (b : BF) (r : List D → En → Option En) : List D → En → Option En
  | d :: ds, Γ => (b d Γ).bind fun Γ1 => r ds Γ1
  | _, _ => none
theorem fgs_nil : FGs X [] bNil [] := ⟨_, pgs_nil, fun F Γ σ H G d v Γ' R r e Q q => by
  cases d with
  | nil => cases e; exact ⟨r, q _ H G R (Le.refl G) (Keeps.refl _ _)⟩
  | cons _ _ => cases e⟩
theorem fgs_cons {tg : Expr} {tgs : List Expr} {bf : BF} {bs : List D → En → Option En} {sl1 sl2 : List Nat} (h1 : FG X tg bf sl1) (h2 : FGs X tgs bs sl2) (hs : (assignEach (tg :: tgs) X.env).map (·.2) = assign tg X.env :: (assignEach tgs X.env).map (·.2) := by rfl) : FGs X (tg :: tgs) (bCons bf bs) (sl1 ++ sl2) := by
  obtain ⟨g1, p1, m1⟩ := h1
  obtain ⟨g2, p2, m2⟩ := h2
  refine ⟨_, pgs_cons p1 p2 hs, fun F Γ σ H G d v Γ' R r e Q q => ?_⟩
  cases d with
  | nil => cases e
  | cons d ds =>
    obtain ⟨v1, vs, rfl, r1, r2⟩ := r
    obtain ⟨Γ1, e1, e2⟩ := Option.bind_eq_some_iff.mp (show (bf d Γ).bind (fun Γ1 => bs ds Γ1) = some Γ' from e)
    refine ⟨v1, vs, rfl, m1 F Γ σ H G d v1 Γ1 R r1 e1 _ fun σ' H' G' R' le kp => ?_⟩
    exact m2 F Γ1 σ' H' G' ds vs Γ' R' (Reps.le le _ _ r2) e2 Q fun σ2 H2 G2 R2 le2 kp2 => q σ2 H2 G2 R2 (le.trans le2) (kp.trans kp2)
def bTup (n : Nat) (bs : List D → En → Option En) : BF
  | .tup ds, Γ => if ds.length = n then bs ds Γ else none
  | _, _ => none
theorem fg_tup {tgs : List Expr} {k : Nat} {bs : List D → En → Option En} {n : Nat} {sl : List Nat} (hc : X.calm = true) (h : FGs X tgs bs sl) (hn : (assignEach tgs X.env).length = n := by rfl) (hst : (assignEach tgs X.env).findIdx? (·.1) = none := by rfl) : FG X (.Tuple tgs k pos) (bTup n bs) sl := by
  obtain ⟨g, p, m⟩ := h
  refine ⟨_, pg_tup hc p hn hst, fun F Γ σ H G d v Γ' R r e Q q => ?_⟩
  unfold bTup at e
  split at e
  · split at e
    · rename_i ds hl
      obtain ⟨a, vs, rfl, h, r⟩ := r
      exact ⟨a, vs, rfl, SqT.le R.gh h, by rw [r.len]; exact hl, m F Γ σ H G ds vs Γ' R r e Q q⟩
    · cases e
  · cases e
def bUnl (n : Nat) (bs : List D → En → Option En) : BF
  | .lst ds, Γ => if ds.length = n then bs ds Γ else none
  | _, _ => none
theorem fg_unl {tgs : List Expr} {k : Nat} {bs : List D → En → Option En} {n : Nat} {sl : List Nat} (hc : X.calm = true) (h : FGs X tgs bs sl) (hn : (assignEach tgs X.env).length = n := by rfl) (hst : (assignEach tgs X.env).findIdx? (·.1) = none := by rfl) : FG X (.Tuple tgs k pos) (bUnl n bs) sl := by
  obtain ⟨g, p, m⟩ := h
  refine ⟨_, pg_unl hc p hn hst, fun F Γ σ H G d v Γ' R r e Q q => ?_⟩
  unfold bUnl at e
  split at e
  · split at e
    · rename_i ds hl
      obtain ⟨a, vs, rfl, h, r⟩ := r
      exact ⟨a, vs, rfl, .of (R.gh _ _ h), by rw [r.len]; exact hl, m F Γ σ H G ds vs Γ' R r e Q q⟩
    · cases e
  · cases e
def stoB (b : BF) (ev : EV) (Γ : En) : O Fl := match frz1 ev Γ with
  | some (d, Γ1) => (match b d Γ1 with
    | some Γ2 => .ok .nx Γ2
    | none => .fail)
  | none => .fail
def asgB (b : BF) (f : EF) : SF := fun Γ => (f Γ).bind (stoB b)
theorem fs_asgB {tg : Expr} {b : BF} {sl : List Nat} (h : FE X W e f) (hg : FG X tg b sl) (hs : swapsWithSole [tg] e pos.line X.env = pure false := by rfl) (hw : swappedStores [tg] e X.env = pure none := by rfl) (h1 : (assignEach [tg] X.env).map (·.2) = [assign tg X.env] := by rfl) :
    FS X W (.Assign [tg] e pos) (asgB b f) := by
  obtain ⟨t, p, s⟩ := h
  obtain ⟨g, pg, m⟩ := hg
  refine ⟨_, ps_asg p pg hs hw h1, fun F Γ σ H G R => ?_⟩
  refine OutS.bind (T' := fun v H1 D => g v σ H1 D.nx) (s F Γ σ H G R) fun ev Γ1 v H1 G1 R1 _ r1 => ?_
  unfold stoB
  split
  · rename_i d Γ2 e
    split
    · rename_i Γ3 e3
      obtain ⟨G', R', le, rp⟩ := R1.frz1 r1 e
      exact fun D q => m F Γ2 σ H1 G' d v Γ3 R' rp e3 _ fun σ' H' G2 R3 le3 _ => q σ' H' G2 R3 (le.trans le3)
    · trivial
  · trivial
end FL
namespace FL
open PySem PySem.Spec PyProof.Rows L2
variable [Wrl] [Tabl]
variable {X : Cx} {W : WX} {e a b c o : Expr} {f g f1 f2 f3 fo fa : EF} {t1 t2 : TF} {pos apos : Pos} {es : List Expr} {u : AF}
def vvs (K : Frg) (F : Fr) (Γ : En) (σ : St) (H G : Hp) : List VV → List V → Prop
  | [], vs => vs = []
  | x :: xs, vs => ∃ v r, vs = v :: r ∧ vvrel K F Γ σ H G x v ∧ vvs K F Γ σ H G xs r ∧ ∀ o, x = .n o → ∀ (k : Nat) o', xs[k]? = some (.n o') → r[k]? ≠ some v
theorem New.unreb {K : Frg} {F : Fr} {Γ Γ' : En} {σ σ' : St} {H H' G G' : Hp} (R : Rl K F Γ σ H G) {o : OD} {v : V} (n : New K (reb Γ σ H G F) Γ' σ' H' G' o v) : New K F Γ' σ' H' G' o v := by
  obtain ⟨p, u, h1, h2, h3, h4, h5, h6, h7⟩ := n
  refine ⟨p, u, h1, h2, h3, ?_, h5, h6, h7⟩
  cases q : F.He p with
  | none => rfl
  | some u =>
    obtain ⟨u', hu, nt⟩ := R.heH q
    rw [reb_of hu (R.notOwned q) nt] at h4
    cases h4
theorem vvs.unreb {K : Frg} {F : Fr} {Γ Γ' : En} {σ σ' : St} {H H' G G' : Hp} (R : Rl K F Γ σ H G) : ∀ {xs : List VV} {vs : List V}, vvs K (reb Γ σ H G F) Γ' σ' H' G' xs vs → vvs K F Γ' σ' H' G' xs vs
  | [], _, e => e
  | x :: xs, _, ⟨v, r, e, h1, h2, h3⟩ => ⟨v, r, e, (match x, h1 with
    | .e _, h1 => h1
    | .n _, h1 => New.unreb R h1), vvs.unreb R h2, h3⟩
theorem New.stays {K : Frg} {F : Fr} {Γ Γ' : En} {σ : St} {H H' G G' : Hp} (R : Rl K F Γ σ H G) (R' : Rl K (reb Γ σ H G F) Γ' σ H' G') (le : Le G G') {o : OD} {v : V} (n : New K F Γ σ H G o v) : New K F Γ' σ H' G' o v := by
  obtain ⟨p, u, h1, h2, h3, h4, h5, h6, h7⟩ := n
  obtain ⟨g1, g2, g3⟩ := R.stays R' h2 h6 h5 h3 h7.nt
  exact ⟨p, u, h1, g1, g2, h4, h5, g3, h7.le le⟩
theorem New.apart {K : Frg} {F : Fr} {Γ Γ' : En} {σ : St} {H H' G G' : Hp} {o o' : OD} {v w : V} (n : New K F Γ σ H G o v) (m : New K (reb Γ σ H G F) Γ' σ H' G' o' w) : w ≠ v := by
  obtain ⟨p, u, rfl, h2, h3, h4, h5, h6, h7⟩ := n
  obtain ⟨p', u', rfl, g2, g3, g4, g5, g6, g7⟩ := m
  intro z
  cases z
  rw [reb_of h2 (fun ⟨j, ho, hj⟩ => h6 j ho hj) h7.nt] at g4
  cases g4
abbrev VAF := En → O (List VV)
structure FVA (X : Cx) (W : WX) (es : List Expr) (f : VAF) : Prop where
  ex : ∃ t, PA X es t ∧ SemV X.K W (vvs X.K) t f
def vNil : VAF := fun Γ => .ok [] Γ
def vCons (f : VF) (r : VAF) : VAF := fun Γ => (f Γ).bind fun x Γ1 => (r Γ1).bind fun xs Γ2 => .ok (x :: xs) Γ2
theorem fva_nil : FVA X W [] vNil := ⟨_, pa_nil, fun F Γ σ H G R Q q => q [] H G R (Le.refl G) rfl⟩
theorem vvs_new {K : Frg} {F : Fr} {Γ : En} {σ : St} {H G : Hp} : ∀ {xs : List VV} {vs : List V} {k : Nat} {o : OD} {w : V}, vvs K F Γ σ H G xs vs → xs[k]? = some (.n o) → vs[k]? = some w → New K F Γ σ H G o w
  | [], _, _, _, _, _, h, _ => by simp at h
  | x :: xs, _, 0, o, w, ⟨v, r, e, h1, h2, h3⟩, h, g => by
    subst e
    simp at h g
    subst h g
    exact h1
  | x :: xs, _, k + 1, o, w, ⟨v, r, e, h1, h2, h3⟩, h, g => by
    subst e
    exact vvs_new h2 (by simpa using h) (by simpa using g)
theorem fva_cons {vf : VF} {r : VAF} (ha : FV X W e vf) (hr : FVA X W es r) (hs : starEach (e :: es) X.env = (false, eval e X.env) :: starEach es X.env := by rfl) : FVA X W (e :: es) (vCons vf r) := by
  obtain ⟨u1, p1, s1⟩ := ha
  obtain ⟨u2, p2, s2⟩ := hr
  refine ⟨_, pa_cons p1 p2 hs, fun F Γ σ H G R => ?_⟩
  have h1 := s1 F Γ σ H G R
  unfold vCons
  revert h1
  cases e1 : vf Γ with
  | fail => exact fun _ => trivial
  | exc c ns fs Γ' => exact fun h1 Q q => h1 _ q
  | ok x Γ1 =>
    intro h1
    show OutV X.K W (vvs X.K) F σ G _ ((r Γ1).bind fun xs Γ2 => .ok (x :: xs) Γ2)
    cases e2 : r Γ1 with
    | fail => trivial
    | exc c ns fs Γ' =>
      intro Q q
      refine h1 _ fun v H1 G1 R1 le1 r1 => ?_
      have h2 := s2 (reb Γ1 σ H1 G1 F) Γ1 σ H1 G1 R1.rebase
      rw [e2] at h2
      exact h2 _ fun cls dx H' G' R' le' x => q cls dx H' G' (R1.unrebase R') (le1.trans le') x
    | ok xs Γ2 =>
      intro Q q
      refine h1 _ fun v H1 G1 R1 le1 r1 => ?_
      have h2 := s2 (reb Γ1 σ H1 G1 F) Γ1 σ H1 G1 R1.rebase
      rw [e2] at h2
      refine h2 _ fun vs H' G' R' le' r2 => q _ H' G' (R1.unrebase R') (le1.trans le') ⟨v, vs, rfl, ?_, r2.unreb R1, ?_⟩
      · cases x with
        | e ev => exact vrel_mono X.K _ _ _ _ _ le' r1
        | n o => exact New.stays R1 R' le' r1
      · rintro o rfl k o' hk hv
        exact New.apart r1 (vvs_new r2 hk hv) rfl
def setAll (σ : St) : List Nat → List V → St
  | i :: is, v :: vs => setAll (σ.set i (some v)) is vs
  | _, _ => σ
theorem Rl.frz1s {K : Frg} {F : Fr} {Γ Γ' : En} {σ : St} {H G : Hp} {ev : EV} {v : V} {x : D} (R : Rl K F Γ σ H G) (r : vrel K σ G ev v) (e : FL.frz1 ev Γ = some (x, Γ')) :
    ∃ G', Rl K F Γ' σ H G' ∧ Le G G' ∧ Rep K G' x v ∧ ∀ p, G p = none → (∀ j, ownAt Γ j → σ[j]? ≠ some (some (.ref p))) → G' p = none ∧ ∀ j, ownAt Γ' j → σ[j]? ≠ some (some (.ref p)) := by
  unfold FL.frz1 at e
  split at e
  · cases e
    exact ⟨G, R, Le.refl G, r, fun p h1 h2 => ⟨h1, h2⟩⟩
  · split at e
    · rename_i i _ o h
      cases e
      obtain ⟨w, G', h1, R', le, rp⟩ := R.freeze h
      rw [show σ[_]? = some (some v) from r] at h1
      cases h1
      have Rb := R.rebase
      obtain ⟨w, G2, h1, R2, le2, rp2⟩ := Rb.freeze h
      rw [show σ[_]? = some (some v) from r] at h1
      cases h1
      refine ⟨G2, R.unrebase R2, le2, rp2, fun p g1 g2 => ?_⟩
      have own : ∀ j, ownAt (Γ.set i (.im o.d)) j → σ[j]? ≠ some (some (.ref p)) := fun j ⟨o', ho⟩ => by
        rcases get_set ho with ⟨_, _, z⟩ | ⟨_, z⟩
        · cases z
        · exact g2 j ⟨o', z⟩
      refine ⟨?_, own⟩
      cases hp : H p with
      | none => exact R2.gNone hp
      | some u =>
        cases q : G2 p with
        | none => rfl
        | some w =>
          rcases R2.gn p w q with z | z
          · rw [show (reb Γ σ H G F).Ge p = G p from rfl, g1] at z; cases z
          · rw [reb_of hp (fun ⟨j, ho, hj⟩ => g2 j ho hj) (Option.some.inj ((R2.gh p w q).symm.trans hp) ▸ R2.tb.t0.gt p w q)] at z; cases z
    · rename_i y h
      cases e
      obtain ⟨w, h1, rp⟩ := R.sl _ _ h
      rw [show σ[_]? = some (some v) from r] at h1
      cases h1
      exact ⟨G, R, Le.refl G, rp, fun p h1 h2 => ⟨h1, h2⟩⟩
    · cases e
theorem vvs.store {K : Frg} {F : Fr} {Γ Γ' : En} {σ : St} {H G G' : Hp} {i : Nat} {v : V} (le : Le G G') (hG : ∀ p u, H p = some u → G p = none → (∀ j, ownAt Γ j → σ[j]? ≠ some (some (.ref p))) → (v ≠ .ref p ∨ ∀ o, Γ'[i]? ≠ some (.acc o)) → G' p = none ∧ ∀ j, ownAt Γ' j → (σ.set i (some v))[j]? ≠ some (some (.ref p)))
    : ∀ {xs : List VV} {vs : List V}, (∀ (k : Nat) o', xs[k]? = some (.n o') → vs[k]? ≠ some v ∨ ∀ o, Γ'[i]? ≠ some (.acc o)) → (∀ (k : Nat) j, xs[k]? = some (.e (.own j)) → j ≠ i) → vvs K F Γ σ H G xs vs → vvs K F Γ' (σ.set i (some v)) H G' xs vs
  | [], _, _, _, e => e
  | x :: xs, _, hn, ho, ⟨w, r, e, h1, h2, h3⟩ => by
    subst e
    refine ⟨w, r, rfl, ?_, vvs.store le hG (fun k o' hk => ?_) (fun k j hk => ho (k + 1) j (by simpa using hk)) h2, h3⟩
    · cases x with
      | e ev =>
        cases ev with
        | d y => exact Rep.le le _ _ h1
        | own j =>
          show (σ.set i (some v))[j]? = some (some w)
          rw [List.getElem?_set_ne (fun z => ho 0 j rfl z.symm)]
          exact h1
      | n o =>
        obtain ⟨p, u, rfl, g1, g2, g3, g4, g5, g6⟩ := h1
        obtain ⟨k1, k2⟩ := hG p u g1 g2 g5 (by
          rcases hn 0 o rfl with z | z
          · exact .inl fun q => z (by rw [q]; rfl)
          · exact .inr z)
        exact ⟨p, u, rfl, g1, k1, g3, g4, k2, g6.le le⟩
    · rcases hn (k + 1) o' (by simpa using hk) with z | z
      · exact .inl (by simpa using z)
      · exact .inr z
def offOwn (i : Nat) : List VV → Bool
  | [] => true
  | .e (.own j) :: xs => decide (j ≠ i) && offOwn i xs
  | _ :: xs => offOwn i xs
theorem offOwn_ok {i : Nat} : ∀ {xs : List VV}, offOwn i xs = true → ∀ (k : Nat) j, xs[k]? = some (.e (.own j)) → j ≠ i
  | [], _, k, j, h => by simp at h
  | x :: xs, h, k, j, hk => by
    cases x with
    | n o =>
      cases k with
      | zero => simp at hk
      | succ k => exact offOwn_ok (xs := xs) h k j (by simpa using hk)
    | e ev =>
      cases ev with
      | d y =>
        cases k with
        | zero => simp at hk
        | succ k => exact offOwn_ok (xs := xs) h k j (by simpa using hk)
      | own l =>
        obtain ⟨h1, h2⟩ := Bool.and_eq_true_iff.mp (show (decide (l ≠ i) && offOwn i xs) = true from h)
        cases k with
        | zero => simp at hk; subst hk; exact of_decide_eq_true h1
        | succ k => exact offOwn_ok (xs := xs) h2 k j (by simpa using hk)
def stoP : List Nat → List VV → En → O Fl
  | [], [], Γ => .ok .nx Γ
  | i :: is, x :: xs, Γ => if offOwn i xs then seqS (stoV i x) (stoP is xs) Γ else .fail
  | _, _, _ => .fail
theorem out_stoP {K : Frg} : ∀ {is : List Nat} {xs : List VV} {vs : List V} {F : Fr} {Γ : En} {σ : St} {H G : Hp}, Rl K F Γ σ H G → vvs K F Γ σ H G xs vs → OutS K W F G (fun D => D.nx (setAll σ is vs) H) (stoP is xs Γ)
  | [], [], _, F, Γ, σ, H, G, R, r => by
    cases r
    exact fun D q => q σ H G R (Le.refl G)
  | [], _ :: _, _, _, _, _, _, _, _, _ => trivial
  | _ :: _, [], _, _, _, _, _, _, _, _ => trivial
  | i :: is, x :: xs, _, F, Γ, σ, H, G, R, ⟨v, vs, e, h1, h2, h3⟩ => by
    subst e
    unfold stoP
    split
    · rename_i hoff
      have hoff := offOwn_ok hoff
      show OutS K W F G (fun D => D.nx (setAll (σ.set i (some v)) is vs) H) (seqS (stoV i x) (stoP is xs) Γ)
      -- what the first store leaves
      have key : ∀ Γ', stoV i x Γ = .ok .nx Γ' → ∃ G', Rl K F Γ' (σ.set i (some v)) H G' ∧ Le G G' ∧ vvs K F Γ' (σ.set i (some v)) H G' xs vs := by
        intro Γ' hst
        unfold stoV at hst
        split at hst
        · rename_i ev
          split at hst
          · rename_i d Γ1 e1
            split at hst
            · rename_i hb
              cases hst
              obtain ⟨G', R', le, rp, st⟩ := R.frz1s h1 e1
              refine ⟨G', R'.setIm (R'.notBor hb) rp, le, vvs.store le (fun p u _ g1 g2 _ => ?_) (fun k o' hk => .inr fun o z => ?_) hoff h2⟩
              · obtain ⟨k1, k2⟩ := st p g1 g2
                refine ⟨k1, fun j ⟨o, ho⟩ => ?_⟩
                rcases get_set ho with ⟨_, _, z⟩ | ⟨hj, z⟩
                · cases z
                · rw [List.getElem?_set_ne (Ne.symm hj)]; exact k2 j ⟨o, z⟩
              · rcases get_set z with ⟨_, _, z⟩ | ⟨hj, _⟩
                · cases z
                · exact hj rfl
            · cases hst
          · cases hst
        · rename_i o
          split at hst
          · rename_i hb
            cases hst
            obtain ⟨p, u, rfl, k1, k2, k3, k4, k5, k6⟩ := h1
            refine ⟨G, R.setAcc (R.notBor hb) k1 k2 k3 k5 k6, Le.refl G, vvs.store (Le.refl G) (fun q w _ g1 g2 g3 => ⟨g1, fun j ⟨o', ho⟩ => ?_⟩) (fun k o' hk => .inl (h3 o rfl k o' hk)) hoff h2⟩
            rcases get_set ho with ⟨rfl, hl, z⟩ | ⟨hj, z⟩
            · rw [List.getElem?_set_self (by rw [← R.len]; exact hl)]
              intro y
              cases y
              rcases g3 with g3 | g3
              · exact g3 rfl
              · exact g3 o (List.getElem?_set_self hl)
            · rw [List.getElem?_set_ne (Ne.symm hj)]; exact g2 j ⟨o', z⟩
          · cases hst
      cases e1 : stoV i x Γ with
      | fail => unfold seqS; rw [e1]; trivial
      | exc c ns fs Γ' =>
        exfalso
        unfold stoV at e1
        split at e1
        · split at e1
          · split at e1 <;> cases e1
          · cases e1
        · split at e1 <;> cases e1
      | ok fl Γ' =>
        cases fl with
        | nx =>
          obtain ⟨G', R', le, r'⟩ := key Γ' e1
          unfold seqS
          rw [e1]
          have k := out_stoP (is := is) R' r'
          show OutS K W F G _ (stoP is xs Γ')
          revert k
          cases stoP is xs Γ' with
          | fail => exact fun _ => trivial
          | exc c ns fs Γ2 => exact fun k D q => k D fun cls dx σ' H' G2 R2 le2 x => q cls dx σ' H' G2 R2 (le.trans le2) x
          | ok fl Γ2 => exact fun k D q => k D (q.le le)
        | _ =>
          exfalso
          unfold stoV at e1
          split at e1
          · split at e1
            · split at e1 <;> cases e1
            · cases e1
          · split at e1 <;> cases e1
    · trivial
theorem stoV_cases (i : Nat) (x : VV) (Γ : En) : stoV i x Γ = .fail ∨ ∃ Γ', stoV i x Γ = .ok .nx Γ' := by
  unfold stoV
  split
  · split
    · split
      · exact .inr ⟨_, rfl⟩
      · exact .inl rfl
    · exact .inl rfl
  · split
    · exact .inr ⟨_, rfl⟩
    · exact .inl rfl
theorem stoP_cases : ∀ (is : List Nat) (xs : List VV) (Γ : En), stoP is xs Γ = .fail ∨ (is.length = xs.length ∧ ∃ Γ', stoP is xs Γ = .ok .nx Γ')
  | [], [], Γ => .inr ⟨rfl, Γ, rfl⟩
  | [], _ :: _, _ => .inl rfl
  | _ :: _, [], _ => .inl rfl
  | i :: is, x :: xs, Γ => by
    unfold stoP
    split
    · unfold seqS
      rcases stoV_cases i x Γ with h | ⟨Γ', h⟩
      · rw [h]; exact .inl rfl
      · rw [h]
        rcases stoP_cases is xs Γ' with k | ⟨hl, Γ2, k⟩
        · exact .inl k
        · exact .inr ⟨by rw [List.length_cons, List.length_cons, hl], Γ2, k⟩
    · exact .inl rfl
theorem vvs_len {K : Frg} {F : Fr} {Γ : En} {σ : St} {H G : Hp} : ∀ {xs : List VV} {vs : List V}, vvs K F Γ σ H G xs vs → vs.length = xs.length
  | [], _, e => by rw [show _ = [] from e]; rfl
  | _ :: _, _, ⟨_, _, e, _, t, _⟩ => by subst e; rw [List.length_cons, List.length_cons, vvs_len t]
def parS (is : List Nat) (f : VAF) : SF := fun Γ => (f Γ).bind (stoP is)
theorem out_par {is : List Nat} {t : TA} {vf : VAF} (s : SemV X.K W (vvs X.K) t vf) {tail : Ends → St → List V → Hp → Prop} (h : ∀ D σ vs H1, vs.length = is.length → D.nx (setAll σ is vs) H1 → tail D σ vs H1) :
    SemS X.K W (fun D σ H => t σ H fun vs H1 => tail D σ vs H1) (parS is vf) := fun F Γ σ H G R => by
  refine OutS.bindV (T' := fun vs H1 D => tail D σ vs H1) (s F Γ σ H G R) fun xs Γ1 vs H1 G1 R1 _ r1 => ?_
  have k := out_stoP (W := W) (is := is) R1 r1
  rcases stoP_cases is xs Γ1 with e | ⟨hl, Γ', e⟩
  · rw [e]; trivial
  · exact k.of fun D q => h D σ vs H1 (by rw [vvs_len r1, hl]) q
theorem fs_par {i j : Nat} {x y : Str} {px py pt pt2 : Pos} {kt k2} {vf : VAF} (h : FVA X W [a, b] vf) (hc : X.calm = true) (hN : X.N.Nodup) (hi : X.N[i]? = some x) (hj : X.N[j]? = some y) (hij : i ≠ j)
    (hx : X.env.scope.names.lookup x = some .local) (hy : X.env.scope.names.lookup y = some .local)
    (hw : swappedStores [.Tuple [.Name x px, .Name y py] kt pt] (.Tuple [a, b] k2 pt2) X.env = pure (some [x, y]))
    (hs : swapsWithSole [.Tuple [.Name x px, .Name y py] kt pt] (.Tuple [a, b] k2 pt2) pos.line X.env = pure false := by rfl) :
    FS X W (.Assign [.Tuple [.Name x px, .Name y py] kt pt] (.Tuple [a, b] k2 pt2) pos) (parS [i, j] vf) := by
  obtain ⟨t, p, s⟩ := h
  refine ⟨_, ps_par hc hN hi hj hij hx hy p hw hs, out_par s (tail := fun D σ vs H1 => ∃ v w, vs = [v, w] ∧ D.nx ((σ.set i (some v)).set j (some w)) H1) fun D σ vs H1 hl q => ?_⟩
  match vs, hl with
  | [v, w], _ => exact ⟨v, w, rfl, q⟩
theorem fs_par3 {i j l : Nat} {x y z : Str} {px py pz pt pt2 : Pos} {kt k2} {vf : VAF} (h : FVA X W [a, b, c] vf) (hc : X.calm = true) (hN : X.N.Nodup) (hi : X.N[i]? = some x) (hj : X.N[j]? = some y) (hl : X.N[l]? = some z) (hij : i ≠ j) (hil : i ≠ l) (hjl : j ≠ l)
    (hx : X.env.scope.names.lookup x = some .local) (hy : X.env.scope.names.lookup y = some .local) (hz : X.env.scope.names.lookup z = some .local)
    (hw : swappedStores [.Tuple [.Name x px, .Name y py, .Name z pz] kt pt] (.Tuple [a, b, c] k2 pt2) X.env = pure (some [x, y, z]))
    (hs : swapsWithSole [.Tuple [.Name x px, .Name y py, .Name z pz] kt pt] (.Tuple [a, b, c] k2 pt2) pos.line X.env = pure false := by rfl) :
    FS X W (.Assign [.Tuple [.Name x px, .Name y py, .Name z pz] kt pt] (.Tuple [a, b, c] k2 pt2) pos) (parS [i, j, l] vf) := by
  obtain ⟨t, p, s⟩ := h
  refine ⟨_, ps_par3 hc hN hi hj hl hij hil hjl hx hy hz p hw hs, out_par s (tail := fun D σ vs H1 => ∃ u v w, vs = [u, v, w] ∧ D.nx (((σ.set i (some u)).set j (some v)).set l (some w)) H1) fun D σ vs H1 hl q => ?_⟩
  match vs, hl with
  | [u, v, w], _ => exact ⟨u, v, w, rfl, q⟩
end FL
namespace FL
open PySem PySem.Spec PyProof.Rows L2
variable [Wrl] [Tabl]
variable {X : Cx} {W : WX} {e a b c o : Expr} {f g f1 f2 f3 fo fa : EF} {t1 t2 : TF} {pos apos : Pos} {es : List Expr} {u : AF}
def putOwn (Γ : En) (i : Nat) (o : OD) : En := match Γ[i]? with
  | some (.acc _) => Γ.set i (.acc o)
  | some (.bor _) => Γ.set i (.bor o)
  | _ => Γ
theorem Rl.own {K : Frg} {F : Fr} {Γ : En} {σ : St} {H G : Hp} (R : Rl K F Γ σ H G) {i : Nat} {o : OD} (h : ownD Γ i = some o) : ∃ p u, σ[i]? = some (some (V.ref p)) ∧ H p = some u ∧ G p = none ∧ ORep K G p o u ∧
    ∀ o' u', ORep K G p o' u' → Rl K F (putOwn Γ i o') σ (upd H p u') G := by
  unfold ownD at h
  split at h
  · rename_i o' e
    cases h
    obtain ⟨a, u, h1, h2, h3, h4, h5, h6⟩ := R.ac i o e
    refine ⟨a, u, h1, h2, h3, h5, fun o' u' r => ?_⟩
    unfold putOwn
    rw [e]
    exact R.setOwn e h1 r
  · rename_i o' e
    cases h
    obtain ⟨h1, h2, h3, h4, u, h5, h6⟩ := R.bo i o e
    refine ⟨F.ba, u, h2, h5, h4, h6, fun o' u' r => ?_⟩
    unfold putOwn
    rw [e]
    exact R.setBor e r
  · cases h
def finApp (i : Nat) (ev : EV) (Γ : En) : O Fl := match frz1 ev Γ with
  | some (d, Γ1) => (match ownD Γ1 i with
    | some (.l xs) => if xs.length < sizeLine then .ok .nx (putOwn Γ1 i (.l (xs ++ [d]))) else .fail
    | _ => .fail)
  | none => .fail
def isOwnL (Γ : En) (i : Nat) : Bool := match ownD Γ i with
  | some (.l _) => true
  | _ => false
def appS (i : Nat) (f : EF) : SF := fun Γ => if isOwnL Γ i then (f Γ).bind (finApp i) else .fail
theorem isOwnL_ok {Γ : En} {i : Nat} (h : isOwnL Γ i = true) : ∃ xs, ownD Γ i = some (.l xs) := by
  unfold isOwnL at h
  split at h
  · rename_i xs e; exact ⟨xs, e⟩
  · cases h
theorem fs_append {i : Nat} {x : Str} {p p2 : Pos} (ha : FE X W e f) (hN : X.N[i]? = some x) (hv : Vis X.env.scope x) (hd : (x == ("__debug__" : Str)) = false := by decide) (hcd : (x == ("__classdict__" : Str)) = false := by decide)
    (hbase : attributeBase (.Name x p) "append" X.env (eval (.Name x p) X.env) = eval (.Name x p) X.env := by rfl)
    (hfew : ((backTo p2 (starEach [e] X.env)).all (fun x => !x.1) && (backToKw p2 (keywordEach [] X.env)).all (fun x => x.1.isSome)
      && decide (([e] : List Expr).length + ([] : List Keyword).length + (if ([] : List Keyword).isEmpty then 0 else 1) < 30)) = true := by rfl)
    (hline : (apos.endLine == p2.line) = true := by rfl) (hs : starEach [e] X.env = (false, eval e X.env) :: starEach [] X.env := by rfl)
    (hsw : swapsWith (.Call (.Attribute (.Name x p) "append" apos) [e] [] p2) none pos.line X.env = pure false := by rfl) :
    FS X W (.Expr (.Call (.Attribute (.Name x p) "append" apos) [e] [] p2) pos) (appS i f) := by
  obtain ⟨t, pt, s⟩ := ha
  refine ⟨_, ps_expr (pe_bm PySem.F.plainAttrs_list PySem.F.slot_list_append PySem.F.type_list_append mt_append (pe_var hN hv hd hcd) (pa_cons pt pa_nil hs) hbase hfew hline hs (by rfl)) hsw, fun F Γ σ H G R => ?_⟩
  unfold appS
  split
  · rename_i hi
    obtain ⟨ys, ey⟩ := isOwnL_ok hi
    obtain ⟨q0, u0, h0, h1, h2, h3, _⟩ := R.own ey
    obtain ⟨vs0, rfl, _⟩ := h3
    refine OutS.of (OutS.bind (T' := fun v H2 D => rAppend (V.ref q0) [v] H2 fun _ H3 => D.nx σ H3) (s F Γ σ H G R) fun ev Γ1 v H1 G1 R1 le1 r1 => ?_) fun D q => ⟨_, h0, .inl ⟨rfl, _, .of h1⟩, q⟩
    unfold finApp
    split
    · rename_i d Γ2 e2
      obtain ⟨G2, R2, le2, rp⟩ := R1.frz1 r1 e2
      split
      · rename_i xs ex
        split
        · rename_i hz
          obtain ⟨p, u, g1, g2, g3, g4, k⟩ := R2.own ex
          obtain ⟨vs, rfl, g4⟩ := g4
          rw [h0] at g1
          cases g1
          exact fun D q => ⟨_, vs, v, rfl, rfl, g2, by rw [g4.len]; exact hz, q σ _ G2 (k (.l (xs ++ [d])) _ ⟨_, rfl, g4.append (Reps.cons rp Reps.nil)⟩) le2⟩
        · trivial
      · trivial
    · trivial
  · trivial
def finSet (i : Nat) (d : D) (k : Int) (Γ : En) : Option En := match ownD Γ i with
  | some (.l xs) => (ixN xs.length k).map fun j => putOwn Γ i (.l (xs.set j d))
  | _ => none
def bSub (i : Nat) (k : Int) : BF := fun d Γ => finSet i d k Γ
theorem fg_sub {i : Nat} {x : Str} {p : Pos} {k : Int} {j pj} (hN : X.N[i]? = some x) (hv : Vis X.env.scope x) (mk : ∀ to ti, PE X (.Name x p) to → PE X (.Constant (.int k) j pj) ti → PG X (.Subscript (.Name x p) (.Constant (.int k) j pj) pos) (gSub to ti rSetL))
    (hd : (x == ("__debug__" : Str)) = false := by decide) (hcd : (x == ("__classdict__" : Str)) = false := by decide) : FG X (.Subscript (.Name x p) (.Constant (.int k) j pj) pos) (bSub i k) [] := by
  refine ⟨_, mk _ _ (pe_var hN hv hd hcd) pe_int, fun F Γ σ H G d v Γ' R r e Q q => ?_⟩
  unfold bSub finSet at e
  split at e
  · rename_i xs ex
    obtain ⟨jj, e1, rfl⟩ := Option.map_eq_some_iff.mp e
    obtain ⟨p, u, g1, g2, g3, g4, kk⟩ := R.own ex
    obtain ⟨vs, rfl, g4⟩ := g4
    exact ⟨_, g1, p, vs, k, jj, rfl, rfl, g2, by rw [g4.len]; exact e1, q σ _ G (kk (.l (xs.set jj d)) _ ⟨_, rfl, g4.set jj r⟩) (Le.refl G) (Keeps.refl _ _)⟩
  · cases e
def Walks (K : Frg) (J : It) (ds : List D) (G0 : Hp) : Prop := ∀ (F : Fr) (Γ : En) (σ : St) (H G : Hp) (i : Nat), Rl K F Γ σ H G → Le G0 G →
  (∀ d, ds[i]? = some d → J.go i H ∧ ∀ x H', J.yld i H x H' → ∃ G', Rl K F Γ σ H' G' ∧ Le G G' ∧ Rep K G' d x ∧ (H' = H ∨ ∃ p o, H p = none ∧ H' = upd H p o)) ∧ (ds.length ≤ i → J.stop i H)
abbrev IF := En → O (List D)
def OutI (K : Frg) (W : WX) (F : Fr) (σ : St) (G : Hp) (T : (It → Hp → Prop) → Prop) : O (List D) → Prop
  | .ok ds Γ' => ∀ R : It → Hp → Prop, (∀ J H' G', Rl K F Γ' σ H' G' → Le G G' → Walks K J ds G' → R J H') → T R
  | .exc c ns fs Γ' => ∀ R : It → Hp → Prop, (∀ cls dx H' G', Rl K F Γ' σ H' G' → Le G G' → XRep K G' c ns fs cls dx → W cls dx σ H') → T R
  | .fail => True
structure FI (X : Cx) (W : WX) (tg e : Expr) (f : IF) : Prop where
  ex : ∃ wi, PI X tg e wi ∧ ∀ (F : Fr) (Γ : En) (σ : St) (H G : Hp), Rl X.K F Γ σ H G → OutI X.K W F σ G (wi σ H) (f Γ)
theorem OutI.bind {α β : Type} {K : Frg} {rel : Rel α β} {F : Fr} {σ : St} {G : Hp} {T : (β → Hp → Prop) → Prop} {T' : β → Hp → (It → Hp → Prop) → Prop} {g : α → En → O (List D)} : ∀ {r : O α}, Out K W rel F σ G T r →
    (∀ a Γ1 b H1 G1, Rl K F Γ1 σ H1 G1 → Le G G1 → rel σ G1 a b → OutI K W F σ G1 (T' b H1) (g a Γ1)) → OutI K W F σ G (fun Q => T fun b H1 => T' b H1 Q) (r.bind g)
  | .fail, _, _ => trivial
  | .exc _ _ _ _, h, _ => fun Q q => h _ q
  | .ok a Γ1, h, k => by
    show OutI K W F σ G _ (g a Γ1)
    cases e2 : g a Γ1 with
    | fail => trivial
    | exc c ns fs Γ' =>
      intro Q q
      refine h _ fun b H1 G1 R1 le1 r1 => ?_
      have h2 := k a Γ1 b H1 G1 R1 le1 r1
      rw [e2] at h2
      exact h2 Q fun cls dx H' G' R' le' x => q cls dx H' G' R' (le1.trans le') x
    | ok a' Γ' =>
      intro Q q
      refine h _ fun b H1 G1 R1 le1 r1 => ?_
      have h2 := k a Γ1 b H1 G1 R1 le1 r1
      rw [e2] at h2
      exact h2 Q fun J H' G' R' le' x => q J H' G' R' (le1.trans le') x
theorem walks_list {K : Frg} {a : Addr} {vs : List V} {ds : List D} {G0 : Hp} (h : G0 a = some (.lst vs)) (r : Reps K G0 ds vs) : Walks K (Itl K a) ds G0 := fun F Γ σ H G i R le => by
  have hG := le _ _ h
  have hH := R.gh _ _ hG
  have u : ∀ ys, SqL K H a ys → True := fun _ _ => trivial
  refine ⟨fun d hd => ?_, fun hi => ⟨vs, .of hH, by rw [r.len]; exact hi⟩⟩
  obtain ⟨v, h1, h2⟩ := r.getD hd
  refine ⟨⟨vs, v, .of hH, h1⟩, fun x H' y => ?_⟩
  obtain ⟨rfl, y⟩ := y
  have := y vs (.of hH)
  rw [h1] at this
  cases this
  exact ⟨G, R, Le.refl G, Rep.le le _ _ h2, .inl rfl⟩
theorem walks_tup {K : Frg} {a : Addr} {vs : List V} {ds : List D} {G0 : Hp} (h : SqT K G0 a vs) (r : Reps K G0 ds vs) : Walks K (Itt K a) ds G0 := fun F Γ σ H G i R le => by
  have hG := SqT.le le h
  have hH := SqT.le R.gh hG
  refine ⟨fun d hd => ?_, fun hi => ⟨vs, hH, by rw [r.len]; exact hi⟩⟩
  obtain ⟨v, h1, h2⟩ := r.getD hd
  refine ⟨⟨vs, v, hH, h1⟩, fun x H' y => ?_⟩
  obtain ⟨rfl, y⟩ := y
  have := y vs hH
  rw [h1] at this
  cases this
  exact ⟨G, R, Le.refl G, Rep.le le _ _ h2, .inl rfl⟩
theorem walks_range {K : Frg} {lo : Int} {n : Nat} {G0 : Hp} : Walks K (Itr lo n) ((List.range n).map fun i => D.int (lo + (i : Nat))) G0 := fun F Γ σ H G i R le => by
  refine ⟨fun d hd => ?_, fun hi => (by simpa using hi : n ≤ i)⟩
  rw [List.getElem?_map] at hd
  obtain ⟨j, h1, rfl⟩ := Option.map_eq_some_iff.mp hd
  obtain ⟨hl, h1⟩ := List.getElem?_eq_some_iff.mp h1
  rw [List.getElem_range] at h1
  subst h1
  refine ⟨(by simpa using hl : i < n), fun x H' y => ?_⟩
  obtain ⟨rfl, rfl⟩ := y
  exact ⟨G, R, Le.refl G, rfl, .inl rfl⟩
theorem walks_scr {K : Frg} {a : Addr} {ns : List Int} {G0 : Hp} (h : SqL K G0 a (ns.map V.int)) : Walks K (Itl K a) (ns.map D.int) G0 := fun F Γ σ H G i R le => by
  have hH := SqL.le R.gh (SqL.le le h)
  refine ⟨fun d hd => ?_, fun hi => ⟨_, hH, by simpa using hi⟩⟩
  rw [List.getElem?_map] at hd
  obtain ⟨j, h1, rfl⟩ := Option.map_eq_some_iff.mp hd
  have h1' : (ns.map V.int)[i]? = some (V.int j) := by rw [List.getElem?_map, h1]; rfl
  refine ⟨⟨_, _, hH, h1'⟩, fun x H' y => ?_⟩
  obtain ⟨rfl, y⟩ := y
  have := y _ hH
  rw [h1'] at this
  cases this
  exact ⟨G, R, Le.refl G, rfl, .inl rfl⟩
theorem walks_str {K : Frg} {x : Str} {G0 : Hp} : Walks K (Its x) (x.cps.toList.map fun c => D.str ⟨#[c]⟩) G0 := fun F Γ σ H G i R le => by
  refine ⟨fun d hd => ?_, fun hi => (by simpa using hi : x.cps.size ≤ i)⟩
  rw [List.getElem?_map] at hd
  obtain ⟨c, h1, rfl⟩ := Option.map_eq_some_iff.mp hd
  rw [Array.getElem?_toList] at h1
  refine ⟨(Array.getElem?_eq_some_iff.mp h1).1, fun y H' z => ?_⟩
  obtain ⟨rfl, c', h2, rfl⟩ := z
  rw [h1] at h2
  cases h2
  exact ⟨G, R, Le.refl G, rfl, .inl rfl⟩
def itL (ev : EV) (Γ : En) : O (List D) := match frz1 ev Γ with
  | some (.lst ds, Γ') => .ok ds Γ'
  | _ => .fail
def itT (ev : EV) (Γ : En) : O (List D) := match ev with
  | .d (.tup ds) => .ok ds Γ
  | _ => .fail
def itC (ev : EV) (Γ : En) : O (List D) := match ev with
  | .d (.scr ns) => .ok (ns.map D.int) Γ
  | _ => .fail
def itS (ev : EV) (Γ : En) : O (List D) := match ev with
  | .d (.str x) => .ok (x.cps.toList.map fun c => D.str ⟨#[c]⟩) Γ
  | _ => .fail
variable {tg : Expr}
theorem fi_list (h : FE X W e f) : FI X W tg e (fun Γ => (f Γ).bind itL) := by
  obtain ⟨t, p, s⟩ := h
  refine ⟨_, pi_list p, fun F Γ σ H G R => ?_⟩
  refine OutI.bind (T' := fun x H1 R => ∃ a, x = .ref a ∧ (∃ xs, SqL X.K H1 a xs) ∧ R (Itl X.K a) H1) (s F Γ σ H G R) fun ev Γ1 v H1 G1 R1 _ r1 => ?_
  unfold itL
  split
  · rename_i ds Γ' e
    obtain ⟨G', R', le, rp⟩ := R1.frz1 r1 e
    obtain ⟨a, vs, rfl, h, r⟩ := rp
    exact fun Q q => ⟨a, rfl, ⟨vs, .of (R'.gh _ _ h)⟩, q _ H1 G' R' le (walks_list h r)⟩
  · trivial
theorem fi_tup (h : FE X W e f) : FI X W tg e (fun Γ => (f Γ).bind itT) := by
  obtain ⟨t, p, s⟩ := h
  refine ⟨_, pi_tup p, fun F Γ σ H G R => ?_⟩
  refine OutI.bind (T' := fun x H1 R => ∃ a, x = .ref a ∧ (∃ xs, SqT X.K H1 a xs) ∧ R (Itt X.K a) H1) (s F Γ σ H G R) fun ev Γ1 v H1 G1 R1 _ r1 => ?_
  unfold itT
  split
  · obtain ⟨a, vs, rfl, h, r⟩ := r1
    exact fun Q q => ⟨a, rfl, ⟨vs, SqT.le R1.gh h⟩, q _ H1 G1 R1 (Le.refl _) (walks_tup h r)⟩
  · trivial
theorem fi_scr (h : FE X W e f) : FI X W tg e (fun Γ => (f Γ).bind itC) := by
  obtain ⟨t, p, s⟩ := h
  refine ⟨_, pi_list p, fun F Γ σ H G R => ?_⟩
  refine OutI.bind (T' := fun x H1 R => ∃ a, x = .ref a ∧ (∃ xs, SqL X.K H1 a xs) ∧ R (Itl X.K a) H1) (s F Γ σ H G R) fun ev Γ1 v H1 G1 R1 _ r1 => ?_
  unfold itC
  split
  · obtain ⟨a, rfl, h⟩ := r1
    exact fun Q q => ⟨a, rfl, ⟨_, SqL.le R1.gh h⟩, q _ H1 G1 R1 (Le.refl _) (walks_scr h)⟩
  · trivial
theorem fi_str (h : FE X W e f) : FI X W tg e (fun Γ => (f Γ).bind itS) := by
  obtain ⟨t, p, s⟩ := h
  refine ⟨_, pi_str p, fun F Γ σ H G R => ?_⟩
  refine OutI.bind (T' := fun v H1 R => ∃ x, v = .str x ∧ R (Its x) H1) (s F Γ σ H G R) fun ev Γ1 v H1 G1 R1 _ r1 => ?_
  unfold itS
  split
  · exact fun Q q => ⟨_, r1, q _ H1 G1 R1 (Le.refl _) walks_str⟩
  · trivial
def itR1 (es : List EV) (Γ : En) : O (List D) := match es with
  | [.d (.int j)] => if -(2 ^ 62) ≤ j ∧ j < 2 ^ 62 then .ok ((List.range j.toNat).map fun i => D.int (0 + (i : Nat))) Γ else .fail
  | _ => .fail
def itR2 (es : List EV) (Γ : En) : O (List D) := match es with
  | [.d (.int i), .d (.int j)] => if -(2 ^ 62) ≤ i ∧ i < 2 ^ 62 ∧ -(2 ^ 62) ≤ j ∧ j < 2 ^ 62 then .ok ((List.range (j - i).toNat).map fun k => D.int (i + (k : Nat))) Γ else .fail
  | _ => .fail
theorem fi_range1 {p : Pos} (hm : X.mg "range" = none) (h : FA X W [a] u) (hg : Gl X "range" := by rfl) (hs : starEach [a] X.env = [(false, eval a X.env)] := by rfl) : FI X W tg (.Call (.Name "range" p) [a] [] pos) (fun Γ => (u Γ).bind itR1) := by
  obtain ⟨t, p, s⟩ := h
  refine ⟨_, pi_range1 hg hm p hs, fun F Γ σ H G R => ?_⟩
  refine OutI.bind (T' := fun vs H1 R => ∃ j : Int, vs = [.int j] ∧ -(2 ^ 62) ≤ j ∧ j < 2 ^ 62 ∧ R (Itr 0 j.toNat) H1) (s F Γ σ H G R) fun es Γ1 vs H1 G1 R1 _ rs => ?_
  unfold itR1
  split
  · split
    · rename_i j hz
      cases rs with
      | cons r1 t =>
        cases t
        exact fun Q q => ⟨_, by rw [show _ = V.int j from r1], hz.1, hz.2, q _ H1 G1 R1 (Le.refl _) walks_range⟩
    · trivial
  · trivial
def loopS (b : BF) (body : SF) : List D → En → O Fl
  | [], Γ => .ok .nx Γ
  | d :: ds, Γ => match b d Γ with
    | none => .fail
    | some Γ1 => match body Γ1 with
      | .ok .nx Γ2 => loopS b body ds Γ2
      | .ok .ct Γ2 => loopS b body ds Γ2
      | .ok .br Γ2 => .ok .nx Γ2
      | r => r
def forS (it : IF) (b : BF) (body : SF) : SF := fun Γ => (it Γ).bind (loopS b body)
variable {sts : List Stmt} {s1 : SF}
theorem out_loop {K : Frg} {tb : TS} {g : TG} {bf : BF} {body : SF} {sl : List Nat} (mg : ∀ (F : Fr) (Γ : En) (σ : St) (H G : Hp) (d : D) (v : V) (Γ' : En), Rl K F Γ σ H G → Rep K G d v → bf d Γ = some Γ' → ∀ Q : St → Hp → Prop, (∀ σ' H' G', Rl K F Γ' σ' H' G' → Le G G' → Keeps sl σ σ' → Q σ' H') → g v σ H Q)
    (mb : SemS K W tb body) {J : It} {ds : List D} {F : Fr} {Γ : En} {σ : St} {H G : Hp} (R : Rl K F Γ σ H G) (wk : Walks K J ds G) :
    OutS K W F G (fun D => ∃ Wd : Nat → Nat → St → Hp → Prop, (∃ m, Wd 0 m σ H) ∧ ∀ i m σ H, Wd i m σ H →
      (J.stop i H ∧ D.nx σ H) ∨ (J.go i H ∧ ∃ N : St → Hp → Prop, (∀ σ' H', N σ' H' → ∃ m', m' < m ∧ Wd (i + 1) m' σ' H') ∧ ∀ x H', J.yld i H x H' → g x σ H' fun σ2 H2 => tb { D with nx := N, ct := N, bk := D.nx } σ2 H2)) (loopS bf body ds Γ) := by
  -- one statement for all ends
  have main : ∀ r, loopS bf body ds Γ = r → r ≠ .fail → ∀ D : Ends, (match r with
      | .ok fl Γ' => Fin K F Γ' G D fl
      | .exc c ns fs Γ' => ∀ cls dx σ' H' G', Rl K F Γ' σ' H' G' → Le G G' → XRep K G' c ns fs cls dx → W cls dx σ' H'
      | .fail => True) → ∃ Wd : Nat → Nat → St → Hp → Prop, (∃ m, Wd 0 m σ H) ∧ ∀ i m σ H, Wd i m σ H →
      (J.stop i H ∧ D.nx σ H) ∨ (J.go i H ∧ ∃ N : St → Hp → Prop, (∀ σ' H', N σ' H' → ∃ m', m' < m ∧ Wd (i + 1) m' σ' H') ∧ ∀ x H', J.yld i H x H' → g x σ H' fun σ2 H2 => tb { D with nx := N, ct := N, bk := D.nx } σ2 H2) := by
    intro r hr nf D hD
    refine ⟨fun i m σ H => m = ds.length - i ∧ i ≤ ds.length ∧ ∃ Γ1 G1, Rl K F Γ1 σ H G1 ∧ Le G G1 ∧ loopS bf body (ds.drop i) Γ1 = r, ⟨ds.length, by simp, Nat.zero_le _, Γ, G, R, Le.refl G, hr⟩, ?_⟩
    rintro i m σ1 H1 ⟨rfl, hi, Γ1, G1, R1, le1, e1⟩
    obtain ⟨w1, w2⟩ := wk F Γ1 σ1 H1 G1 i R1 le1
    by_cases hlt : i < ds.length
    · have hdrop : ds.drop i = ds[i] :: ds.drop (i + 1) := List.drop_eq_getElem_cons hlt
      rw [hdrop] at e1
      obtain ⟨go, yl⟩ := w1 ds[i] (List.getElem?_eq_getElem hlt)
      refine .inr ⟨go, fun σ' H' => ∃ Γ2 G2, Rl K F Γ2 σ' H' G2 ∧ Le G G2 ∧ loopS bf body (ds.drop (i + 1)) Γ2 = r, fun σ' H' ⟨Γ2, G2, R2, le2, e2⟩ => ⟨ds.length - (i + 1), by omega, rfl, hlt, Γ2, G2, R2, le2, e2⟩, fun x H' y => ?_⟩
      obtain ⟨G2, R2, le2, rx, _⟩ := yl x H' y
      unfold loopS at e1
      cases eb : bf ds[i] Γ1 with
      | none => rw [eb] at e1; exact absurd e1.symm nf
      | some Γ2 =>
        rw [eb] at e1
        refine mg F Γ1 σ1 H' G2 ds[i] x Γ2 R2 rx eb _ fun σ3 H3 G3 R3 le3 _ => ?_
        have k := mb F Γ2 σ3 H3 G3 R3
        have leA : Le G G3 := (le1.trans le2).trans le3
        simp only at e1
        cases ebd : body Γ2 with
        | fail => rw [ebd] at e1; exact absurd e1.symm nf
        | exc c ns fs Γ3 =>
          rw [ebd] at e1 k
          subst e1
          exact k _ fun cls dx σ' H' G' R' le' x => hD cls dx σ' H' G' R' (leA.trans le') x
        | ok fl Γ3 =>
          rw [ebd] at e1 k
          refine k _ ?_
          cases fl with
          | nx => exact fun σ' H' G' R' le' => ⟨Γ3, G', R', leA.trans le', e1⟩
          | ct => exact fun σ' H' G' R' le' => ⟨Γ3, G', R', leA.trans le', e1⟩
          | br =>
            simp only at e1
            subst e1
            exact fun σ' H' G' R' le' => hD σ' H' G' R' (leA.trans le')
          | rt d =>
            simp only at e1
            subst e1
            exact fun v σ' H' G' R' le' rv => hD v σ' H' G' R' (leA.trans le') rv
          | rn o =>
            simp only at e1
            subst e1
            exact fun v σ' H' G' R' le' rv => hD v σ' H' G' R' (leA.trans le') rv
    · have e : i = ds.length := by omega
      subst e
      rw [List.drop_length] at e1
      have e1 : O.ok Fl.nx Γ1 = r := e1
      subst e1
      exact .inl ⟨w2 (Nat.le_refl _), hD σ1 H1 G1 R1 le1⟩
  cases hr : loopS bf body ds Γ with
  | fail => trivial
  | exc c ns fs Γ' => exact fun D q => main _ hr (by simp) D q
  | ok fl Γ' => exact fun D q => main _ hr (by simp) D q
theorem fs_for {it : IF} {bf : BF} {sl : List Nat} (hc : X.calm = true) (hp : PassesOwn (model X.prog X.w) X.A X.env X.xe) (hi : FI X W tg e it) (hg : FG X tg bf sl) (hb : FB X W sts s1) (hs : ∀ x, foldedSetIterable e X.env x = pure x := by intro _; rfl) :
    FS X W (.For tg e sts [] pos) (forS it bf s1) := by
  obtain ⟨wi, pi, mi⟩ := hi
  obtain ⟨g, pg, mg⟩ := hg
  obtain ⟨tb, pb, mb⟩ := hb
  refine ⟨_, ps_for hp hc pi pg pb hs, fun F Γ σ H G R => ?_⟩
  have h := mi F Γ σ H G R
  unfold forS
  revert h
  cases it Γ with
  | fail => exact fun _ => trivial
  | exc c ns fs Γ' => exact fun h D q => h _ fun cls dx H' G' R' le x => q cls dx σ H' G' R' le x
  | ok ds Γ1 =>
    intro h
    show OutS X.K W F G _ (loopS bf s1 ds Γ1)
    cases hl : loopS bf s1 ds Γ1 with
    | fail => trivial
    | exc c ns fs Γ' =>
      intro D q
      refine h _ fun J H1 G1 R1 le1 wk => ?_
      have k := out_loop (W := W) mg mb R1 wk
      rw [hl] at k
      exact k D fun cls dx σ' H' G' R' le' x => q cls dx σ' H' G' R' (le1.trans le') x
    | ok fl Γ' =>
      intro D q
      refine h _ fun J H1 G1 R1 le1 wk => ?_
      have k := out_loop (W := W) mg mb R1 wk
      rw [hl] at k
      exact k D (q.le le1)
def wpE (K : Frg) (W : WX) (f : EF) : TE := fun σ H Q => ∃ F Γ G, Rl K F Γ σ H G ∧ match f Γ with
  | .ok ev Γ' => ∀ v H' G', Rl K F Γ' σ H' G' → Le G G' → vrel K σ G' ev v → Q v H'
  | .exc c ns fs Γ' => ∀ cls dx H' G', Rl K F Γ' σ H' G' → Le G G' → XRep K G' c ns fs cls dx → W cls dx σ H'
  | .fail => False
theorem FE.wp (h : FE X W e f) : PE X e (wpE X.K W f) := by
  obtain ⟨t, p, s⟩ := h
  refine ⟨fun pins s' σ H Q I q => p.run pins s' σ H Q I ?_⟩
  obtain ⟨F, Γ, G, R, q⟩ := q
  have k := s F Γ σ H G R
  revert q k
  cases f Γ with
  | fail => exact fun q _ => q.elim
  | ok ev Γ' => exact fun q k => k Q q
  | exc c ns fs Γ' => exact fun q k => k Q q
def wpT (K : Frg) (W : WX) (f : TF) : TT := fun σ H Q => ∃ F Γ G, Rl K F Γ σ H G ∧ match f Γ with
  | .ok k Γ' => ∀ H' G', Rl K F Γ' σ H' G' → Le G G' → Q k H'
  | .exc c ns fs Γ' => ∀ cls dx H' G', Rl K F Γ' σ H' G' → Le G G' → XRep K G' c ns fs cls dx → W cls dx σ H'
  | .fail => False
theorem FT.wp {t : TF} (h : FT X W e t) : PT X e (wpT X.K W t) := by
  obtain ⟨u, p, s⟩ := h
  refine ⟨fun pins s' σ H Q I q => p.run pins s' σ H Q I ?_⟩
  obtain ⟨F, Γ, G, R, q⟩ := q
  have k := s F Γ σ H G R
  revert q k
  cases t Γ with
  | fail => exact fun q _ => q.elim
  | ok b Γ' => exact fun q k => k Q fun b' H' G' R' le z => by cases z; exact q H' G' R' le
  | exc c ns fs Γ' => exact fun q k => k Q q
def wpG (K : Frg) (b : BF) (sl : List Nat) : TG := fun v σ H Q => ∃ F Γ G d Γ', Rl K F Γ σ H G ∧ Rep K G d v ∧ b d Γ = some Γ' ∧ ∀ σ' H' G', Rl K F Γ' σ' H' G' → Le G G' → Keeps sl σ σ' → Q σ' H'
theorem FG.wp {tg : Expr} {b : BF} {sl : List Nat} (h : FG X tg b sl) : PG X tg (wpG X.K b sl) := by
  obtain ⟨g, p, m⟩ := h
  refine ⟨fun pins s σ H v u Q I r q => p.run pins s σ H v u Q I r ?_⟩
  obtain ⟨F, Γ, G, d, Γ', R, rp, e, q⟩ := q
  exact m F Γ σ H G d v Γ' R rp e Q q
def wpI (K : Frg) (W : WX) (f : IF) : TI := fun σ H Q => ∃ F Γ G, Rl K F Γ σ H G ∧ match f Γ with
  | .ok ds Γ' => ∀ J H' G', Rl K F Γ' σ H' G' → Le G G' → Walks K J ds G' → Q J H'
  | .exc c ns fs Γ' => ∀ cls dx H' G', Rl K F Γ' σ H' G' → Le G G' → XRep K G' c ns fs cls dx → W cls dx σ H'
  | .fail => False
theorem FI.wp {tg : Expr} {f : IF} (h : FI X W tg e f) : PI X tg e (wpI X.K W f) := by
  obtain ⟨u, p, s⟩ := h
  refine ⟨fun pins s' σ H Q I q => p.run pins s' σ H Q I ?_⟩
  obtain ⟨F, Γ, G, R, q⟩ := q
  have k := s F Γ σ H G R
  revert q k
  cases f Γ with
  | fail => exact fun q _ => q.elim
  | ok b Γ' => exact fun q k => k Q q
  | exc c ns fs Γ' => exact fun q k => k Q q
end FL
namespace FL
open PySem PySem.Spec PyProof.Rows L2
variable [Wrl] [Tabl]
variable {X : Cx} {W : WX} {e a b c o : Expr} {f g f1 f2 f3 fo fa : EF} {t1 t2 : TF} {pos apos : Pos} {es : List Expr} {u : AF}
def noW : WX := fun _ _ _ _ => False
def wipeΓ (Γ : En) : List Nat → En
  | [] => Γ
  | v :: vs => (wipeΓ Γ vs).set v .no
theorem wipeΓ_len (Γ : En) : ∀ vs : List Nat, (wipeΓ Γ vs).length = Γ.length
  | [] => rfl
  | v :: vs => by unfold wipeΓ; rw [List.length_set, wipeΓ_len Γ vs]
theorem wipeΓ_out {Γ : En} {i : Nat} : ∀ {vs : List Nat}, i ∉ vs → (wipeΓ Γ vs)[i]? = Γ[i]?
  | [], _ => rfl
  | v :: vs, h => by
    unfold wipeΓ
    rw [List.getElem?_set_ne (fun z => h (by simp [z]))]
    exact wipeΓ_out fun z => h (List.mem_cons_of_mem _ z)
theorem wipeΓ_in {Γ : En} {i : Nat} {x : Sl} : ∀ {vs : List Nat}, i ∈ vs → (wipeΓ Γ vs)[i]? = some x → x = .no
  | v :: vs, h, e => by
    unfold wipeΓ at e
    rcases get_set e with ⟨_, _, z⟩ | ⟨hj, z⟩
    · exact z
    · exact wipeΓ_in ((List.mem_cons.mp h).resolve_left hj) z
theorem Rl.wiped {K : Frg} {F : Fr} {Γ : En} {σ σ' : St} {H G : Hp} {vs : List Nat} (R : Rl K F Γ σ H G) (hb : ∀ v ∈ vs, F.bi ≠ some v) (hl : σ'.length = σ.length) (hs : ∀ i, i ∉ vs → σ'[i]? = σ[i]?) : Rl K F (wipeΓ Γ vs) σ' H G := by
  have out : ∀ {i : Nat} {x : Sl}, (wipeΓ Γ vs)[i]? = some x → x ≠ .no → i ∉ vs ∧ Γ[i]? = some x := fun {i x} e n => by
    by_cases hi : i ∈ vs
    · exact absurd (wipeΓ_in hi e) n
    · exact ⟨hi, by rw [wipeΓ_out hi] at e; exact e⟩
  refine ⟨by rw [wipeΓ_len, hl]; exact R.len, R.gh, R.ge, R.he, R.gn, fun i d e => ?_, fun i o e => ?_, fun i o e => ?_, fun i e => ?_, R.tb⟩
  · obtain ⟨h1, h2⟩ := out e (by simp)
    obtain ⟨v, h3, h4⟩ := R.sl i d h2
    exact ⟨v, by rw [hs i h1]; exact h3, h4⟩
  · obtain ⟨h1, h2⟩ := out e (by simp)
    obtain ⟨a, u, g1, g2, g3, g4, g5, g6⟩ := R.ac i o h2
    refine ⟨a, u, by rw [hs i h1]; exact g1, g2, g3, g4, g5, fun j hj ⟨o', ho⟩ => ?_⟩
    obtain ⟨k1, k2⟩ := out ho (by simp)
    rw [hs j k1]
    exact g6 j hj ⟨o', k2⟩
  · obtain ⟨h1, h2⟩ := out e (by simp)
    obtain ⟨g1, g2, g3⟩ := R.bo i o h2
    exact ⟨g1, by rw [hs i h1]; exact g2, g3⟩
  · obtain ⟨o, h⟩ := R.bb i e
    exact ⟨o, by rw [wipeΓ_out fun z => hb i z e]; exact h⟩
theorem wipe_in {σ : St} {i : Nat} : ∀ {vs : List Nat}, i ∈ vs → i < σ.length → (wipe σ vs)[i]? = some none
  | v :: vs, h, hl => by
    unfold wipe
    by_cases e : v = i
    · subst e; rw [List.getElem?_set_self (by rw [wipe_length]; exact hl)]
    · rw [List.getElem?_set_ne e]
      exact wipe_in ((List.mem_cons.mp h).resolve_left fun z => e z.symm) hl
theorem wipe_eq {σ σ' : St} {vs sl : List Nat} (h : Keeps sl (wipe σ vs) σ') (hs : ∀ i ∈ sl, i ∈ vs) : wipe σ' vs = wipe σ vs := by
  refine List.ext_getElem? fun i => ?_
  have hl : σ'.length = σ.length := h.1.trans (wipe_length σ vs)
  by_cases hi : i ∈ vs
  · by_cases hlt : i < σ.length
    · rw [wipe_in hi hlt, wipe_in hi (by rw [hl]; exact hlt)]
    · rw [List.getElem?_eq_none (by rw [wipe_length, hl]; omega), List.getElem?_eq_none (by rw [wipe_length]; omega)]
  · rw [wipe_out hi, h.2 i fun z => hi (hs i z)]
theorem Rl.updNew {K : Frg} {F : Fr} {Γ : En} {σ : St} {H G : Hp} (R : Rl K F Γ σ H G) {p : Addr} {o u : HO} (hu : H p = some u) (hc : NC p u) (hg : G p = none) (hn : F.He p = none) (hb : F.bi = none ∨ p ≠ F.ba) (ho : ∀ j, ownAt Γ j → σ[j]? ≠ some (some (.ref p))) : Rl K F Γ σ (upd H p o) G where
  len := R.len
  gh := fun a u e => by rw [upd_ne (ne_of_none e hg)]; exact R.gh a u e
  ge := R.ge
  he := fun a u e q => by rw [upd_ne (ne_of_none e hn)]; exact R.he a u e q
  gn := R.gn
  sl := R.sl
  ac := fun i o' e => by
    obtain ⟨a, u, h1, h2, h3, h4, h5, h6⟩ := R.ac i o' e
    have : a ≠ p := fun z => ho i ⟨o', e⟩ (by rw [h1, z])
    exact ⟨a, u, h1, by rw [upd_ne this]; exact h2, h3, h4, h5, h6⟩
  bo := fun i o' e => by
    obtain ⟨h1, h2, h3, h4, u, h5, h6⟩ := R.bo i o' e
    have : F.ba ≠ p := by
      rcases hb with z | z
      · rw [h1] at z; cases z
      · exact Ne.symm z
    exact ⟨h1, h2, h3, h4, u, by rw [upd_ne this]; exact h5, h6⟩
  bb := R.bb
  tb := R.tb.own hu hc
def cmpL (vs : List Nat) (b : BF) (tt : TF) (elt : EF) : List D → List D → En → O VV
  | [], acc, Γ => .ok (.n (.l acc)) Γ
  | d :: ds, acc, Γ => match b d (wipeΓ Γ vs) with
    | none => .fail
    | some Γ1 => match tt Γ1 with
      | .ok false Γ2 => cmpL vs b tt elt ds acc (wipeΓ Γ2 vs)
      | .ok true Γ2 => (match elt Γ2 with
        | .ok ev Γ3 => (match frz1 ev Γ3 with
          | some (x, Γ4) => if acc.length < sizeLine then cmpL vs b tt elt ds (acc ++ [x]) (wipeΓ Γ4 vs) else .fail
          | none => .fail)
        | _ => .fail)
      | _ => .fail
def noBor (Γ : En) (vs : List Nat) : Bool := vs.all fun v => !isBor Γ v
def compV (vs : List Nat) (it : IF) (b : BF) (tt : TF) (elt : EF) : VF := fun Γ => (it Γ).bind fun ds Γ1 => if noBor Γ1 vs then cmpL vs b tt elt ds [] Γ1 else .fail
def trueT : TF := fun Γ => .ok true Γ
structure FTs (X : Cx) (W : WX) (ifs : List Expr) (f : TF) : Prop where
  pt : PTs X ifs (wpT X.K W f)
theorem fts_nil : FTs X W [] trueT := ⟨⟨fun pins s σ H Q I ⟨F, Γ, G, R, q⟩ => pts_nil.run pins s σ H Q I (q H G R (Le.refl G))⟩⟩
theorem fts_one {t : TF} (h : FT X W c t) : FTs X W [c] t := ⟨pts_one h.wp⟩
theorem New.next {K : Frg} {F : Fr} {Γ Γ' : En} {σ : St} {H H' G G' : Hp} {xs : List D} {q : Addr} (n : New K F Γ σ H G (.l xs) (.ref q)) (R : Rl K F Γ σ H G) (R' : Rl K (reb Γ σ H G F) Γ' σ H' G') (le : Le G G') :
    ∃ vs, H q = some (.lst vs) ∧ H' q = some (.lst vs) ∧ Reps K G' xs vs ∧ G' q = none ∧ F.He q = none ∧ (F.bi = none ∨ q ≠ F.ba) ∧ (∀ j, ownAt Γ' j → σ[j]? ≠ some (some (.ref q))) := by
  obtain ⟨p, u, e, h2, h3, h4, h5, h6, vs, rfl, r⟩ := n
  cases e
  obtain ⟨g1, g2, g3⟩ := R.stays R' h2 h6 h5 h3 (fun _ z => by cases z)
  exact ⟨vs, h2, g1, Reps.le le _ _ r, g2, h4, h5, g3⟩
theorem out_cmp {K : Frg} {vs sl : List Nat} {bf : BF} {tt : TF} {elt : EF} (hsl : ∀ i ∈ sl, i ∈ vs) {J : It} {ds : List D} {F : Fr} {Γ : En} {σ : St} {H G : Hp} (R : Rl K F Γ σ H G) (hb : ∀ v ∈ vs, F.bi ≠ some v) (wk : Walks K J ds G) :
    OutV K W (vvrel K) F σ G (fun (Q : VK) => ∀ q, H q = none → ∃ Wd : Nat → Nat → Hp → Prop, (∃ m, Wd 0 m (upd H q (.lst []))) ∧ ∀ i m H, Wd i m H →
      (J.stop i H ∧ Q (.ref q) H) ∨ (J.go i H ∧ ∃ Nx : Hp → Prop, (∀ H', Nx H' → ∃ m', m' < m ∧ Wd (i + 1) m' H') ∧ ∀ x H', J.yld i H x H' → wpG K bf sl x (wipe σ vs) H' fun σ2 H2 => wipe σ2 vs = wipe σ vs ∧ wpT K noW tt σ2 H2 fun b H3 =>
        if b = true then wpE K noW elt σ2 H3 fun y H4 => ∃ acc, H4 q = some (.lst acc) ∧ acc.length < sizeLine ∧ Nx (upd H4 q (.lst (acc ++ [y]))) else Nx H3)) (cmpL vs bf tt elt ds [] Γ) := by
  have back : ∀ {Γ' : En} {σ' : St} {H' G' : Hp} {F' : Fr}, F'.bi = F.bi → Rl K F' Γ' σ' H' G' → σ'.length = σ.length → (∀ i, i ∉ vs → σ'[i]? = σ[i]?) → Rl K F' (wipeΓ Γ' vs) σ H' G' := fun {Γ' σ' H' G' F'} hf R' hl hs =>
    R'.wiped (by rw [hf]; exact hb) hl.symm fun i hi => (hs i hi).symm
  cases hr : cmpL vs bf tt elt ds [] Γ with
  | fail => trivial
  | exc c ns fs Γ' =>
    exfalso
    have no : ∀ (ds acc : List D) (Γ : En) c ns fs Γ', cmpL vs bf tt elt ds acc Γ ≠ .exc c ns fs Γ' := by
      intro ds
      induction ds with
      | nil => intro acc Γ c ns fs Γ' e; cases e
      | cons d ds ih =>
        intro acc Γ c ns fs Γ' e
        unfold cmpL at e
        split at e
        · cases e
        · split at e
          · exact ih _ _ _ _ _ _ e
          · split at e
            · split at e
              · split at e
                · exact ih _ _ _ _ _ _ e
                · cases e
              · cases e
            · cases e
          · cases e
    exact no _ _ _ _ _ _ _ hr
  | ok x Γf =>
    intro Q q D hD
    refine ⟨fun i m H1 => m = ds.length - i ∧ i ≤ ds.length ∧ ∃ Γ1 G1 acc, Rl K F Γ1 σ H1 G1 ∧ Le G G1 ∧ New K F Γ1 σ H1 G1 (.l acc) (.ref D) ∧ cmpL vs bf tt elt (ds.drop i) acc Γ1 = .ok x Γf, ⟨ds.length, by simp, Nat.zero_le _, Γ, G, [], ?_, Le.refl G, ?_, hr⟩, ?_⟩
    · exact R.newH hD
    · exact (R.newN (o := .l []) hD ⟨[], rfl, rfl⟩).2
    rintro i m H1 ⟨rfl, hi, Γ1, G1, acc, R1, le1, n1, e1⟩
    by_cases hlt : i < ds.length
    · have hdrop : ds.drop i = ds[i] :: ds.drop (i + 1) := List.drop_eq_getElem_cons hlt
      rw [hdrop] at e1
      have Rb := R1.rebase
      obtain ⟨go, yl⟩ := (wk _ Γ1 σ H1 G1 i Rb le1).1 ds[i] (List.getElem?_eq_getElem hlt)
      refine .inr ⟨go, fun H' => ∃ Γ2 G2 acc2, Rl K F Γ2 σ H' G2 ∧ Le G G2 ∧ New K F Γ2 σ H' G2 (.l acc2) (.ref D) ∧ cmpL vs bf tt elt (ds.drop (i + 1)) acc2 Γ2 = .ok x Γf, fun H' ⟨Γ2, G2, acc2, R2, le2, n2, e2⟩ => ⟨ds.length - (i + 1), by omega, rfl, hlt, Γ2, G2, acc2, R2, le2, n2, e2⟩, fun y H' hy => ?_⟩
      obtain ⟨G2, R2, le2, ry, _⟩ := yl y H' hy
      have R2w : Rl K (reb Γ1 σ H1 G1 F) (wipeΓ Γ1 vs) (wipe σ vs) H' G2 := R2.wiped hb (wipe_length σ vs) fun i hi => wipe_out hi
      unfold cmpL at e1
      split at e1
      · cases e1
      · rename_i Γ3 eb
        refine ⟨_, _, G2, ds[i], Γ3, R2w, ry, eb, fun σ4 H4 G4 R4 le4 kp => ⟨wipe_eq kp hsl, _, Γ3, G4, R4, ?_⟩⟩
        have hlen : σ4.length = σ.length := kp.1.trans (wipe_length σ vs)
        have hout : ∀ i, i ∉ vs → σ4[i]? = σ[i]? := fun i hi => (kp.2 i fun z => hi (hsl i z)).trans (wipe_out hi)
        split at e1
        · -- left out
          rename_i Γ5 et
          rw [et]
          intro H5 G5 R5 le5
          rw [if_neg Bool.false_ne_true]
          have R5w := back (F' := reb Γ1 σ H1 G1 F) rfl R5 hlen hout
          have leA : Le G1 G5 := (le2.trans le4).trans le5
          exact ⟨_, G5, acc, R1.unrebase R5w, le1.trans leA, New.stays R1 R5w leA n1, e1⟩
        · rename_i Γ5 et
          rw [et]
          intro H5 G5 R5 le5
          rw [if_pos rfl]
          refine ⟨_, Γ5, G5, R5, ?_⟩
          split at e1
          · rename_i ev Γ6 ee
            rw [ee]
            intro v H6 G6 R6 le6 rv
            split at e1
            · rename_i z Γ7 ez
              split at e1
              · rename_i hz
                obtain ⟨G7, R7, le7, rz⟩ := R6.frz1 rv ez
                have R7w := back (F' := reb Γ1 σ H1 G1 F) rfl R7 hlen hout
                have leA : Le G1 G7 := (((le2.trans le4).trans le5).trans le6).trans le7
                obtain ⟨ws, _, g2, g3, g4, g5, g6, g7⟩ := New.next n1 R1 R7w leA
                have R8 := (R1.unrebase R7w).updNew (o := .lst (ws ++ [v])) g2 ⟨fun _ z => (by cases z), fun _ z => by cases z⟩ g4 g5 g6 g7
                refine ⟨ws, g2, by rw [g3.len]; exact hz, _, G7, acc ++ [z], R8, le1.trans leA, ⟨D, _, rfl, upd_same, g4, g5, g6, g7, ws ++ [v], rfl, g3.append (Reps.cons rz Reps.nil)⟩, e1⟩
              · cases e1
            · cases e1
          · cases e1
        · cases e1
    · have e : i = ds.length := by omega
      subst e
      rw [List.drop_length] at e1
      have stop := (wk F Γ1 σ H1 G1 ds.length R1 le1).2 (Nat.le_refl _)
      cases e1
      exact .inl ⟨stop, q _ H1 G1 R1 le1 n1⟩
theorem noBor_ok {K : Frg} {F : Fr} {Γ : En} {σ : St} {H G : Hp} (R : Rl K F Γ σ H G) {vs : List Nat} (h : noBor Γ vs = true) : ∀ v ∈ vs, F.bi ≠ some v := fun v hv => by
  have := List.all_eq_true.mp h v hv
  exact R.notBor (by simpa using this)
section
variable {tg iter elt : Expr} {ifs : List Expr} {scope : Scope} {own : List (Str × Nat)} {it : IF} {bf : BF} {sl : List Nat} {tt : TF} {fe : EF}
theorem sem_lc {wi : TI} (mi : ∀ (F : Fr) (Γ : En) (σ : St) (H G : Hp), Rl X.K F Γ σ H G → OutI X.K W F σ G (wi σ H) (it Γ)) (hsl : ∀ i ∈ sl, i ∈ own.map (·.2)) :
    SemV X.K W (vvrel X.K) (tLc wi (wpG X.K bf sl) (wpT X.K noW tt) (wpE X.K noW fe) (own.map (·.2))) (compV (own.map (·.2)) it bf tt fe) := fun F Γ σ H G R => by
  have h := mi F Γ σ H G R
  unfold compV
  revert h
  cases it Γ with
  | fail => exact fun _ => trivial
  | exc c ns fs Γ' => exact fun h Q q => h _ q
  | ok ds Γ1 =>
    intro h
    show OutV X.K W (vvrel X.K) F σ G _ (if noBor Γ1 (own.map (·.2)) then cmpL (own.map (·.2)) bf tt fe ds [] Γ1 else .fail)
    split
    · rename_i hb
      cases hr : cmpL (own.map (·.2)) bf tt fe ds [] Γ1 with
      | fail => trivial
      | exc c ns fs Γ' =>
        intro Q q
        refine h _ fun J H1 G1 R1 le1 wk => ?_
        have k := out_cmp (W := W) (bf := bf) (tt := tt) (elt := fe) hsl R1 (noBor_ok R1 hb) wk
        rw [hr] at k
        exact k Q fun cls dx H' G' R' le' x => q cls dx H' G' R' (le1.trans le') x
      | ok x Γ' =>
        intro Q q
        refine h _ fun J H1 G1 R1 le1 wk => ?_
        have k := out_cmp (W := W) (bf := bf) (tt := tt) (elt := fe) hsl R1 (noBor_ok R1 hb) wk
        rw [hr] at k
        exact k Q fun b H' G' R' le' r => q b H' G' R' (le1.trans le') r
    · trivial
theorem fv_lc (hc : X.calm = true) (hN : X.N.Nodup) (hi : FI X W tg iter it) (ok : BlkOk X.N X.env.scope scope own) (hsl : ∀ i ∈ sl, i ∈ own.map (·.2))
    (hg : ∀ (s : Shared) (H : Hp) (C : Addr) (cl : List (Str × Addr)) (fp : List Addr), FG (X.blk s H scope (compEnvC scope cl C X.env) fp) tg bf sl) (ht : ∀ (s : Shared) (H : Hp) (C : Addr) (cl : List (Str × Addr)) (fp : List Addr), FTs (X.blk s H scope (compEnvC scope cl C X.env) fp) noW ifs tt)
    (he : ∀ (s : Shared) (H : Hp) (C : Addr) (cl : List (Str × Addr)) (fp : List Addr), FE (X.blk s H scope (compEnvC scope cl C X.env) fp) noW elt fe) (hs : ∀ x, foldedSetIterable iter X.env x = pure x := by intro _; rfl) :
    FV X W (.ListComp elt [⟨tg, iter, ifs, 0⟩] scope pos) (compV (own.map (·.2)) it bf tt fe) := by
  obtain ⟨wi, pi, mi⟩ := hi
  exact ⟨_, pe_lc (g := wpG X.K bf sl) (tt := wpT X.K noW tt) (te := wpE X.K noW fe) hc hN pi ok (fun s H C cl fp => (hg s H C cl fp).wp) (fun s H C cl fp => (ht s H C cl fp).pt) (fun s H C cl fp => (he s H C cl fp).wp) hs, sem_lc mi hsl⟩
end
def telV (f : VF) : EF := fun Γ => match f Γ with
  | .ok (.e ev) Γ' => .ok ev Γ'
  | .ok (.n o) Γ' => .ok (.d o.d) Γ'
  | .exc c ns fs Γ' => .exc c ns fs Γ'
  | .fail => .fail
theorem fe_of {vf : VF} (h : FV X W e vf) : FE X W e (telV vf) := by
  obtain ⟨t, p, s⟩ := h
  refine ⟨t, p, fun F Γ σ H G R => ?_⟩
  have k := s F Γ σ H G R
  unfold telV
  revert k
  cases vf Γ with
  | fail => exact fun _ => trivial
  | exc c ns fs Γ' => exact fun k => k
  | ok x Γ' =>
    cases x with
    | e ev => exact fun k => k
    | n o =>
      intro k Q q
      refine k Q fun v H' G' R' le ⟨p, u, hp, h1, h2, h3, h4, h5, h6⟩ => ?_
      subst hp
      have lu : Le G' (upd G' p u) := Le.upd h2
      exact q _ H' _ (R'.tell h1 h3 h2 h5 h6.nt) (le.trans lu) (h6.rep lu upd_same)
end FL
namespace FL
open PySem PySem.Spec PyProof.Rows L2
variable [Wrl] [Tabl]
inductive Ro where
  | ok (d : D) (out : Option OD) | nw (o : OD) (out : Option OD) | exc (c : Str) (ns : List Str) (fs : List D) (out : Option OD) | fail
abbrev DFn := List D → Ro
def D.od : D → Option OD
  | .lst xs => some (.l xs)
  | .dk ks vs => some (.k ks vs)
  | .dn false ks vs => some (.n ks vs)
  | .ins c ns fs => some (.i c ns fs)
  | _ => none
theorem OD.d_od (o : OD) : o.d.od = some o := by cases o <;> rfl
def startG (b : Option Nat) (n : Nat) (ds : List D) : Option En := match b with
  | none => some (ds.map Sl.im ++ List.replicate (n - ds.length) Sl.no)
  | some i => (ds[i]?.bind D.od).map fun o => (ds.map Sl.im ++ List.replicate (n - ds.length) Sl.no).set i (.bor o)
def outOf (b : Option Nat) (Γ : En) : Option OD := b.bind (ownD Γ)
def runF (b : Option Nat) (n : Nat) (body : SF) : DFn := fun ds => match startG b n ds with
  | none => .fail
  | some Γ => match body Γ with
    | .ok .nx Γ' => .ok .non (outOf b Γ')
    | .ok (.rt d) Γ' => .ok d (outOf b Γ')
    | .ok (.rn o) Γ' => .nw o (outOf b Γ')
    | .ok .br _ => .fail
    | .ok .ct _ => .fail
    | .exc c ns fs Γ' => .exc c ns fs (outOf b Γ')
    | .fail => .fail
structure ArgsAt (K : Frg) (b : Option Nat) (G H : Hp) (ds : List D) (vs : List V) : Prop where
  len : vs.length = ds.length
  rep : ∀ (i : Nat) d v, ds[i]? = some d → vs[i]? = some v → b ≠ some i → Rep K G d v
  lent : ∀ i, b = some i → ∃ (a : Addr) (o : OD) (u : HO), ds[i]? = some o.d ∧ vs[i]? = some (V.ref a) ∧ H a = some u ∧ G a = none ∧ ORep K G a o u
def Lent (b : Option Nat) (vs : List V) (a : Addr) : Prop := ∃ i, b = some i ∧ vs[i]? = some (V.ref a)
structure Aft (K : Frg) (b : Option Nat) (G H : Hp) (vs : List V) (G' H' : Hp) (out : Option OD) : Prop where
  le : Le G G'
  gh : Le G' H'
  keep : ∀ a o, H a = some o → NT o → ¬ Lent b vs a → H' a = some o
  gn : ∀ a o, G' a = some o → G a = some o ∨ ∀ u, H a = some u → ¬ NT u
  lent : ∀ i a, b = some i → vs[i]? = some (V.ref a) → G' a = none ∧ ∃ o u, out = some o ∧ H' a = some u ∧ ORep K G' a o u
  t0 : Tb0 K H' G'
def NewF (K : Frg) (H G' H' : Hp) (o : OD) (v : V) : Prop := ∃ (p : Addr) (u : HO), v = .ref p ∧ H' p = some u ∧ G' p = none ∧ (∀ u, H p = some u → ¬ NT u) ∧ ORep K G' p o u
noncomputable def vis (H : Hp) : Hp := fun a => open Classical in if (∃ ps, H a = some (.tbl ps)) then none else H a
theorem vis_of {H : Hp} {a : Addr} {o : HO} (h : H a = some o) (n : NT o) : vis H a = some o := by
  unfold vis
  rw [if_neg fun ⟨ps, z⟩ => n ps (Option.some.inj (h.symm.trans z))]; exact h
theorem vis_get {H : Hp} {a : Addr} {o : HO} (h : vis H a = some o) : H a = some o ∧ NT o := by
  unfold vis at h
  split at h
  · cases h
  · rename_i n; exact ⟨h, fun ps z => n ⟨ps, by rw [h, z]⟩⟩
theorem vis_none {H : Hp} {a : Addr} (h : vis H a = none) : ∀ u, H a = some u → ¬ NT u := fun u e n => by rw [vis_of e n] at h; cases h
def spF (K : Frg) (b : Option Nat) (Fn : DFn) : Sp := fun vs H Q E => ∃ (G : Hp) (ds : List D), Le G H ∧ Tb0 K H G ∧ ArgsAt K b G H ds vs ∧ match Fn ds with
  | .ok d out => ∀ v H' G', Aft K b G H vs G' H' out → Rep K G' d v → Q v H'
  | .nw o out => ∀ v H' G', Aft K b G H vs G' H' out → NewF K H G' H' o v → Q v H'
  | .exc c ns fs out => ∀ cls dx H' G', Aft K b G H vs G' H' out → XRep K G' c ns fs cls dx → E cls dx H'
  | .fail => False
structure FnG (P : Program) (w : World) (K : Frg) (mg : Str → Option Value) (base : Heap) (CX : CXT) (k : Nat) (f : Addr) (fd : FuncData) (ps : List Str) (sp : Sp) : Prop where
  len : ∀ vs H Q E, sp vs H Q E → vs.length = ps.length
  run : ∀ (A : Around) (outer : List Env) (s : Shared) (H : Hp) (args : Args) (us : List Value) (vs : List V) (Q : VK) (E : XK), Room k A → A.guards = some [] → Env0 P w K mg base A outer s H → BindsTo s fd args (ps.zip us) → Vals vs us → sp vs H Q E →
    codeAny (model P w) A (.call (.ref f) args) (CR CX outer P w H s Q E) s
theorem fn_ofG {CX : CXT} {P : Program} {w : World} {K : Frg} {mg : Str → Option Value} {base : Heap} {k : Nat} {f : Addr} {name qual : Str} {params : Arguments} {body : List Stmt} {scope : Scope} {dV kV doc pm cdv ct oc : Value} {an od : Option Addr}
    {osl : Array (Option Value)} {N ps : List Str} {sp : Sp} (lk : K.lookup f = some ⟨oc, od, .func (PySem.W.fnOf name qual params body scope dV kV doc pm an cdv ct), osl⟩) (hcd : PySem.W.codeIn K cdv qual = true) (S : FnScope N ps scope)
    (len : ∀ vs H Q E, sp vs H Q E → vs.length = ps.length)
    (hbody : ∀ (A : Around) (outer : List Env) (s : Shared) (H : Hp) (vs : List V) (Q : VK) (E : XK), Room k (A.deeper (envOfC qual scope s.heap.objs.size f cdv)) → A.guards = some [] → sp vs H Q E →
      ∃ t, PSs (cxOf CX P w K mg base N qual scope f cdv A outer s H E) body t ∧ t { nx := fun _ H' => Q .non H', rt := Q } (start N vs) H) :
    FnG P w K mg base CX (k + 1) f (PySem.W.fnOf name qual params body scope dV kV doc pm an cdv ct) ps sp := by
  refine ⟨len, fun A outer s H args us vs Q E hr hgd e0 hb r hsp => ?_⟩
  have hl := len _ _ _ _ hsp
  have KX : K.In s.heap := e0.mod.kin.keeps fun b o e => (e0.bs b o e).1
  have lim : s.heap.NoLimit := e0.mod.nolimit.keeps fun b o e => (e0.bs b o e).1
  have hkind : ∀ y ∈ ps.zip us, scope.names.lookup y.1 = some .local ∨ (scope.names.lookup y.1 = some .cell ∧ ((cellsFrom (s.heap.objs.size + 1) scope.names []).lookup y.1).isSome = true) := fun ⟨n, v⟩ hy => by
    rcases S.par n (List.of_mem_zip hy).1 with q | q
    · exact .inl q
    · exact .inr ⟨q, PySem.W.cellsFrom_some _ _ _ (.inl q)⟩
  refine codeAny_call_function hr.depth (KX _ _ lk) rfl S.co S.gen rfl (PySem.W.codeRec_of KX hcd) (hb _ _ _ _ ?_)
  refine wpAny_newFunctionEnv_cells S.kind hkind fun env he s1 x => ?_
  subst he
  refine ⟨lim.keeps x.toInCall.keep, codeAny_func ?_⟩
  obtain ⟨t, ht, hq⟩ := hbody A outer s H vs Q E (hr.deeper _) hgd hsp
  have I : Inv (cxOf CX P w K mg base N qual scope f cdv A outer s H E) [] (start N vs) H s1 := inv_start S hr.hd e0 hl r x
  refine wpAny_mono (ht.run [] s1 (start N vs) H _ I hq) (fun fl s' hs => ?_) fun e s' hs => hs
  have fin : ∀ {σ' : St} {H' : Hp} {v : V} {u : Value}, Inv (cxOf CX P w K mg base N qual scope f cdv A outer s H E) [] σ' H' s' → RelV v u → Q v H' → CE outer P w H s Q u s' :=
    fun {σ' H' v u} J rv q => ⟨v, H', J.os, J.bare, J.base, J.hok, rv, q⟩
  cases fl with
  | ret u =>
    obtain ⟨v, σ', H', J, rv, q⟩ := hs
    exact fin J rv q
  | next =>
    obtain ⟨σ', H', J, q⟩ := hs
    exact fin (v := V.non) (u := Value.none) J rfl q
  | brk =>
    obtain ⟨_, _, _, q⟩ := hs
    exact False.elim q
  | cont =>
    obtain ⟨_, _, _, q⟩ := hs
    exact False.elim q
theorem start_len {N : List Str} {vs : List V} (h : vs.length ≤ N.length) : (L2.start N vs).length = N.length := by
  unfold L2.start
  rw [List.length_append, List.length_map, List.length_replicate]
  omega
theorem start_get {N : List Str} {vs : List V} {i : Nat} {v : V} (h : vs[i]? = some v) : (L2.start N vs)[i]? = some (some v) := by
  unfold L2.start
  rw [List.getElem?_append_left (by rw [List.length_map]; exact (List.getElem?_eq_some_iff.mp h).1), List.getElem?_map, h]
  rfl
theorem rl_start {K : Frg} {b : Option Nat} {N : List Str} {G H : Hp} {ds : List D} {vs : List V} {Γ : En} (gh : Le G H) (tb : Tb0 K H G) (A : ArgsAt K b G H ds vs) (hn : ds.length ≤ N.length) (e : startG b N.length ds = some Γ) :
    ∃ ba, (∀ i, b = some i → vs[i]? = some (V.ref ba)) ∧ Rl K ⟨vis H, G, b, ba⟩ Γ (L2.start N vs) H G := by
  have hv : ∀ a o, vis H a = some o → H a = some o := fun a o e => (vis_get e).1
  have tb' : ∀ ba, Tb K ⟨vis H, G, b, ba⟩ H G := fun ba => ⟨fun a o e => (vis_get e).2, tb⟩
  have look : ∀ (i : Nat) x, (ds.map Sl.im ++ List.replicate (N.length - ds.length) Sl.no)[i]? = some x → (∃ d, ds[i]? = some d ∧ x = .im d) ∨ x = .no := fun i x h => by
    by_cases hi : i < ds.length
    · rw [List.getElem?_append_left (by simpa using hi), List.getElem?_map] at h
      obtain ⟨d, h1, rfl⟩ := Option.map_eq_some_iff.mp h
      exact .inl ⟨d, h1, rfl⟩
    · rw [List.getElem?_append_right (by simpa using hi), List.getElem?_replicate] at h
      split at h
      · cases h; exact .inr rfl
      · cases h
  have hlen : (ds.map Sl.im ++ List.replicate (N.length - ds.length) Sl.no).length = (L2.start N vs).length := by
    rw [start_len (by rw [A.len]; exact hn), List.length_append, List.length_map, List.length_replicate]
    omega
  have imc : ∀ (i : Nat) d, ds[i]? = some d → b ≠ some i → ∃ v, (L2.start N vs)[i]? = some (some v) ∧ Rep K G d v := fun i d h hb => by
    have hi := (List.getElem?_eq_some_iff.mp h).1
    obtain ⟨v, hv⟩ : ∃ v, vs[i]? = some v := ⟨vs[i]'(by rw [A.len]; exact hi), List.getElem?_eq_getElem _⟩
    exact ⟨_, start_get hv, A.rep i d _ h hv hb⟩
  cases b with
  | none =>
    cases e
    refine ⟨0, fun i z => (nomatch z), ⟨hlen, gh, Le.refl G, fun a o e _ => hv a o e, fun a o e => .inl e, fun i d h => ?_, fun i o h => ?_, fun i o h => ?_, fun i z => (nomatch z), tb' 0⟩⟩
    · rcases look i _ h with ⟨d', h1, z⟩ | z
      · cases z; exact imc i d h1 (fun z => (nomatch z))
      · cases z
    · rcases look i _ h with ⟨d', h1, z⟩ | z <;> cases z
    · rcases look i _ h with ⟨d', h1, z⟩ | z <;> cases z
  | some b =>
    obtain ⟨a, o, u, h1, h2, h3, h4, h5⟩ := A.lent b rfl
    have e : (ds[b]?.bind D.od).map (fun o => (ds.map Sl.im ++ List.replicate (N.length - ds.length) Sl.no).set b (.bor o)) = some Γ := e
    rw [h1] at e
    have e : some ((ds.map Sl.im ++ List.replicate (N.length - ds.length) Sl.no).set b (.bor o)) = some Γ := by
      rw [← e]
      show _ = (o.d.od).map _
      rw [OD.d_od]
      rfl
    cases e
    refine ⟨a, fun i z => (by cases z; exact h2), ⟨by rw [List.length_set]; exact hlen, gh, Le.refl G, fun a o e _ => hv a o e, fun a o e => .inl e, fun i d h => ?_, fun i o' h => ?_, fun i o' h => ?_, fun i z => ?_, tb' a⟩⟩
    · rcases get_set h with ⟨_, _, z⟩ | ⟨hj, h⟩
      · cases z
      · rcases look i _ h with ⟨d', g1, z⟩ | z
        · cases z; exact imc i d g1 (fun z => hj (Option.some.inj z).symm)
        · cases z
    · rcases get_set h with ⟨_, _, z⟩ | ⟨hj, h⟩
      · cases z
      · rcases look i _ h with ⟨d', g1, z⟩ | z <;> cases z
    · rcases get_set h with ⟨rfl, _, z⟩ | ⟨hj, h⟩
      · cases z
        exact ⟨rfl, start_get h2, ⟨u, vis_of h3 h5.nt⟩, h4, u, h3, h5⟩
      · rcases look i _ h with ⟨d', g1, z⟩ | z <;> cases z
    · cases z
      have hb : b < ds.length := (List.getElem?_eq_some_iff.mp h1).1
      exact ⟨o, List.getElem?_set_self (by rw [List.length_append, List.length_map]; omega)⟩
theorem Rl.aft {K : Frg} {b : Option Nat} {G H G' H' : Hp} {ba : Addr} {vs : List V} {Γ' : En} {σ' : St} (hv : ∀ i, b = some i → vs[i]? = some (V.ref ba)) (R : Rl K ⟨vis H, G, b, ba⟩ Γ' σ' H' G') : Aft K b G H vs G' H' (outOf b Γ') where
  le := R.ge
  gh := R.gh
  keep := fun a o e nt hl => R.he a o (vis_of e nt) (by
    cases b with
    | none => exact .inl rfl
    | some i => exact .inr fun z => hl ⟨i, rfl, by rw [hv i rfl, z]⟩)
  gn := fun a o e => (R.gn a o e).imp id vis_none
  t0 := R.tb.t0
  lent := fun i a hb e => by
    rw [hv i hb] at e
    cases e
    obtain ⟨o, ho⟩ := R.bb i hb
    obtain ⟨_, _, _, h4, u, h5, h6⟩ := R.bo i o ho
    refine ⟨h4, o, u, ?_, h5, h6⟩
    unfold outOf
    rw [hb]
    show ownD Γ' i = some o
    unfold ownD
    rw [ho]
def spL (K : Frg) (ps : List Str) (b : Option Nat) (Fn : DFn) : Sp := fun vs H Q E => vs.length = ps.length ∧ spF K b Fn vs H Q E
theorem fn_F {P : Program} {w : World} {K : Frg} {mg : Str → Option Value} {base : Heap} {x qual : Str} {params : Arguments} {body : List Stmt} {scope : Scope} {dvs : List V} {kws : List (Str × V)} {f : Addr} {fd : FuncData} {N ps : List Str} {k : Nat} {b : Option Nat} {bd : SF}
    (Fd : FunD K x qual params body scope dvs kws f fd) (S : FnScope N ps scope)
    (hb : ∀ (cdv : Value) (A : Around) (outer : List Env) (s : Shared) (H : Hp) (E : XK), Room k (A.deeper (envOfC qual scope s.heap.objs.size f cdv)) → (A.deeper (envOfC qual scope s.heap.objs.size f cdv)).guards = some [] →
      Takes (cxOf (L2.CX P w) P w K mg base N qual scope f cdv A outer s H E) (fun cls d _ H => E cls d H) → PassesOwn (model P w) (A.deeper (envOfC qual scope s.heap.objs.size f cdv)) (envOfC qual scope s.heap.objs.size f cdv) (cxOf (L2.CX P w) P w K mg base N qual scope f cdv A outer s H E).xe → cdv = cdOf K f →
      FB (cxOf (L2.CX P w) P w K mg base N qual scope f cdv A outer s H E) (fun cls d _ H => E cls d H) body bd) :
    FnG P w K mg base (L2.CX P w) (k + 1) f fd ps (spL K ps b (runF b N.length bd)) := by
  obtain ⟨oc, od, dV, kV, doc, pm, an, cdv, ct, osl, rfl, lk, hcd, _, _⟩ := Fd.ex
  refine fn_ofG lk hcd S (fun vs H Q E h => h.1) fun A outer s H vs Q E hr hgd h => ?_
  obtain ⟨hl, G, ds, gh, tb, ha, h⟩ := h
  have hps : ps.length ≤ N.length := by have := congrArg List.length S.pre; rw [List.length_take] at this; omega
  obtain ⟨t, pt, mt⟩ := (hb cdv A outer s H E hr hgd (takes_of rfl rfl rfl rfl) (passes_of rfl) (by unfold cdOf; rw [lk])).ex
  refine ⟨t, pt, ?_⟩
  unfold runF at h
  cases es : startG b N.length ds with
  | none => rw [es] at h; exact h.elim
  | some Γ =>
    rw [es] at h
    obtain ⟨ba, hv, R⟩ := rl_start gh tb ha (by rw [← ha.len, hl]; exact hps) es
    have m := mt _ _ _ _ _ R
    simp only at h
    revert h m
    cases bd Γ with
    | fail => exact fun h _ => h.elim
    | exc c ns fs Γ' =>
      intro h m
      exact m _ fun cls dx σ' H' G' R' le x => h cls dx H' G' (R'.aft hv) x
    | ok fl Γ' =>
      cases fl with
      | nx =>
        intro h m
        exact m _ fun σ' H' G' R' le => h .non H' G' (R'.aft hv) rfl
      | rt d =>
        intro h m
        exact m _ fun v σ' H' G' R' le rv => h v H' G' (R'.aft hv) rv
      | rn o =>
        intro h m
        exact m _ fun v σ' H' G' R' le ⟨p, u, h1, h2, h3, h4, _, _, h5⟩ => h v H' G' (R'.aft hv) ⟨p, u, h1, h2, h3, vis_none h4, h5⟩
      | br => exact fun h _ => h.elim
      | ct => exact fun h _ => h.elim
end FL
namespace FL
open PySem PySem.Spec PyProof.Rows L2
variable [Wrl] [Tabl]
section
variable {K : Frg} {F : Fr} {Γ : En} {σ : St} {H G : Hp} {p : Addr}
theorem Rl.heNoneV (R : Rl K F Γ σ H G) (h : ∀ u, H p = some u → ¬ NT u) : F.He p = none := by
  cases e : F.He p with
  | none => rfl
  | some o =>
    obtain ⟨u, h1, h2⟩ := R.heH e
    exact absurd h2 (h u h1)
theorem Rl.baNeV (R : Rl K F Γ σ H G) (h : ∀ u, H p = some u → ¬ NT u) : F.bi = none ∨ p ≠ F.ba := by
  cases hb : F.bi with
  | none => exact .inl rfl
  | some i =>
    obtain ⟨o, ho⟩ := R.bb i hb
    obtain ⟨_, _, _, _, u, hu, hr⟩ := R.bo i o ho
    exact .inr fun z => h u (by rw [z]; exact hu) hr.nt
theorem Rl.noOwnV (R : Rl K F Γ σ H G) (h : ∀ u, H p = some u → ¬ NT u) : ∀ j, ownAt Γ j → σ[j]? ≠ some (some (.ref p)) := fun j ⟨o, e⟩ z => by
  obtain ⟨a, u, h1, h2, _, _, h5, _⟩ := R.ac j o e
  rw [h1] at z
  cases z
  exact h u h2 h5.nt
end
variable {X : Cx} {W : WX} {e a o : Expr} {f g f1 f2 f3 fo fa : EF} {pos apos p : Pos} {es : List Expr} {u : AF}
def prep (b : Option Nat) (es : List EV) (Γ : En) : Option (List D × En × Option Nat) := match b with
  | none => (frzs es Γ).map fun p => (p.1, p.2, none)
  | some i => match es[i]? with
    | some (.own j) => (frzs (es.set i (.d .non)) Γ).bind fun p => (ownD p.2 j).map fun o => (p.1.set i o.d, p.2, some j)
    | _ => none
def putL (l : Option Nat) (out : Option OD) (Γ : En) : En := match l, out with
  | some j, some o => putOwn Γ j o
  | _, _ => Γ
def finCall (b : Option Nat) (Fn : DFn) (dd : List D) (es : List EV) (Γ : En) : O VV := match prep b es Γ with
  | none => .fail
  | some (ds, Γ1, l) => match Fn (ds ++ dd) with
    | .ok d out => .ok (.e (.d d)) (putL l out Γ1)
    | .nw o out => .ok (.n o) (putL l out Γ1)
    | .exc c ns fs out => .exc c ns fs (putL l out Γ1)
    | .fail => .fail
theorem paired_get {α β : Type} {R : α → β → Prop} : ∀ {xs : List α} {ys : List β} {i : Nat} {x : α}, Paired R xs ys → xs[i]? = some x → ∃ y, ys[i]? = some y ∧ R x y
  | _, _, _, _, .nil, h => by simp at h
  | _, _, 0, _, .cons r _, h => by simp at h; subst h; exact ⟨_, rfl, r⟩
  | _, _, i + 1, _, .cons _ t, h => by
    obtain ⟨y, h1, h2⟩ := paired_get (i := i) t (by simpa using h)
    exact ⟨y, by simpa using h1, h2⟩
theorem paired_set {α β : Type} {R : α → β → Prop} {x : α} {y : β} (r : R x y) : ∀ {xs : List α} {ys : List β} (i : Nat), Paired R xs ys → Paired R (xs.set i x) (ys.set i y)
  | _, _, _, .nil => .nil
  | _, _, 0, .cons _ t => .cons r t
  | _, _, i + 1, .cons q t => .cons q (paired_set r i t)
theorem prep_ok {K : Frg} {F : Fr} {Γ Γ1 : En} {σ : St} {H G : Hp} {b l : Option Nat} {es : List EV} {vs : List V} {ds : List D} (R : Rl K F Γ σ H G) (rs : vsrel K σ G es vs) (e : prep b es Γ = some (ds, Γ1, l)) :
    ∃ G1, Rl K F Γ1 σ H G1 ∧ Le G G1 ∧ ArgsAt K b G1 H ds vs ∧ (b = none → l = none) ∧ ∀ i, b = some i → ∃ (j : Nat) (a : Addr) (o : OD), l = some j ∧ ownD Γ1 j = some o ∧ σ[j]? = some (some (V.ref a)) ∧ vs[i]? = some (V.ref a) := by
  unfold prep at e
  split at e
  · obtain ⟨⟨xs, Γ2⟩, e1, e2⟩ := Option.map_eq_some_iff.mp e
    cases e2
    obtain ⟨G1, R1, le, rp⟩ := R.frzs rs e1
    refine ⟨G1, R1, le, ⟨rp.len, fun i d v h1 h2 _ => ?_, fun i z => (nomatch z)⟩, fun _ => rfl, fun i z => (nomatch z)⟩
    obtain ⟨v', h3, h4⟩ := rp.getD h1
    rw [h2] at h3
    cases h3
    exact h4
  · rename_i i
    split at e
    · rename_i j hj
      obtain ⟨⟨xs, Γ2⟩, e1, e2⟩ := Option.bind_eq_some_iff.mp e
      obtain ⟨o, e3, e4⟩ := Option.map_eq_some_iff.mp e2
      cases e4
      obtain ⟨v, hv, rv⟩ := paired_get rs hj
      have rs2 : vsrel K σ G (es.set i (.d .non)) (vs.set i .non) := paired_set (show vrel K σ G (.d .non) .non from rfl) i rs
      obtain ⟨G1, R1, le, rp⟩ := R.frzs rs2 e1
      obtain ⟨a, u, g1, g2, g3, g4, _⟩ := R1.own e3
      rw [show σ[j]? = some (some v) from rv] at g1
      cases g1
      have hl : xs.length = vs.length := by have := rp.len; rw [List.length_set] at this; exact this.symm
      refine ⟨G1, R1, le, ⟨by rw [List.length_set, hl], fun k d w h1 h2 hb => ?_, fun k z => ?_⟩, fun z => (nomatch z), fun k z => ?_⟩
      · have hk : i ≠ k := fun z => hb (by rw [z])
        rw [List.getElem?_set_ne hk] at h1
        obtain ⟨w', h3, h4⟩ := rp.getD h1
        rw [List.getElem?_set_ne hk, h2] at h3
        cases h3
        exact h4
      · cases z
        exact ⟨a, o, u, List.getElem?_set_self (by rw [hl]; exact (List.getElem?_eq_some_iff.mp hv).1), hv, g2, g3, g4⟩
      · cases z
        exact ⟨j, a, o, rfl, e3, rv, hv⟩
    · cases e
theorem Rl.call {K : Frg} {F : Fr} {Γ : En} {σ : St} {H G G' H' : Hp} {b l : Option Nat} {vs : List V} {out : Option OD} (R : Rl K F Γ σ H G) (hl : b = none → l = none) (hb : ∀ i, b = some i → ∃ (j : Nat) (a : Addr) (o : OD), l = some j ∧ ownD Γ j = some o ∧ σ[j]? = some (some (V.ref a)) ∧ vs[i]? = some (V.ref a))
    (A : Aft K b G H vs G' H' out) : Rl K F (putL l out Γ) σ H' G' := by
  have gnone : ∀ a u, H a = some u → NT u → G a = none → G' a = none := fun a u h1 nt h2 => by
    cases q : G' a with
    | none => rfl
    | some w =>
      rcases A.gn a w q with z | z
      · rw [h2] at z; cases z
      · exact absurd nt (z u h1)
  cases b with
  | none =>
    rw [hl rfl]
    have nl : ∀ a, ¬ Lent none vs a := fun a ⟨i, z, _⟩ => (nomatch z)
    exact ⟨R.len, A.gh, R.ge.trans A.le, fun a o e q => A.keep a o (R.he a o e q) (R.tb.ht a o e) (nl a), fun a o e => by
        rcases A.gn a o e with z | z
        · exact R.gn a o z
        · exact .inr (R.heNoneV z),
      fun i d e => by
        obtain ⟨v, h1, h2⟩ := R.sl i d e
        exact ⟨v, h1, Rep.le A.le _ _ h2⟩,
      fun i o e => by
        obtain ⟨a, u, h1, h2, h3, h4, h5, h6⟩ := R.ac i o e
        exact ⟨a, u, h1, A.keep a u h2 h5.nt (nl a), gnone a u h2 h5.nt h3, h4, h5.le A.le, h6⟩,
      fun i o e => by
        obtain ⟨h1, h2, h3, h4, u, h5, h6⟩ := R.bo i o e
        exact ⟨h1, h2, h3, gnone _ u h5 h6.nt h4, u, A.keep _ u h5 h6.nt (nl _), h6.le A.le⟩, R.bb, ⟨R.tb.ht, A.t0⟩⟩
  | some i =>
    obtain ⟨j, a0, o, rfl, ho, hs, hv⟩ := hb i rfl
    obtain ⟨hg0, o', u', rfl, hu', r'⟩ := A.lent i a0 rfl hv
    have lentE : ∀ a, Lent (some i) vs a → a = a0 := fun a ⟨k, z, h⟩ => by
      cases z
      rw [hv] at h
      cases h
      rfl
    show Rl K F (putOwn Γ j o') σ H' G'
    unfold ownD at ho
    split at ho
    · -- an own slot
      rename_i o2 ej
      obtain ⟨a, u, h1, h2, h3, h4, h5, h6⟩ := R.ac j o2 ej
      rw [hs] at h1
      cases h1
      have hbi : F.bi ≠ some j := fun z => by
        obtain ⟨o3, e⟩ := R.bb j z
        rw [ej] at e; cases e
      unfold putOwn
      rw [ej]
      refine ⟨by rw [List.length_set]; exact R.len, A.gh, R.ge.trans A.le, fun a o e q => A.keep a o (R.he a o e q) (R.tb.ht a o e) fun z => ?_, fun a o e => ?_, fun k d e => ?_, fun k ob e => ?_, fun k ob e => ?_, fun k e => ?_, ⟨R.tb.ht, A.t0⟩⟩
      · rw [lentE a z, h4] at e; cases e
      · rcases A.gn a o e with z | z
        · exact R.gn a o z
        · exact .inr (R.heNoneV z)
      · rcases get_set e with ⟨_, _, e⟩ | ⟨_, e⟩
        · cases e
        · obtain ⟨v, g1, g2⟩ := R.sl k d e
          exact ⟨v, g1, Rep.le A.le _ _ g2⟩
      · rcases get_set e with ⟨rfl, _, e⟩ | ⟨hk, e⟩
        · cases e
          refine ⟨a0, u', hs, hu', hg0, h4, r', fun m hm ⟨om, em⟩ => ?_⟩
          rcases get_set em with ⟨z, _, _⟩ | ⟨_, em⟩
          · exact absurd z hm
          · exact h6 m hm ⟨om, em⟩
        · obtain ⟨a, w, g1, g2, g3, g4, g5, g6⟩ := R.ac k ob e
          have ne : a ≠ a0 := fun z => by subst z; exact h6 k hk ⟨ob, e⟩ g1
          refine ⟨a, w, g1, A.keep a w g2 g5.nt fun z => ne (lentE a z), gnone a w g2 g5.nt g3, g4, g5.le A.le, fun m hm ⟨om, em⟩ => ?_⟩
          rcases get_set em with ⟨z, _, _⟩ | ⟨_, em⟩
          · subst z; rw [hs]; intro q; cases q; exact ne rfl
          · exact g6 m hm ⟨om, em⟩
      · rcases get_set e with ⟨_, _, e⟩ | ⟨hk, e⟩
        · cases e
        · obtain ⟨g1, g2, ⟨w, g3⟩, g4, x, g5, g6⟩ := R.bo k ob e
          have ne : F.ba ≠ a0 := fun z => by rw [z, h4] at g3; cases g3
          exact ⟨g1, g2, ⟨w, g3⟩, gnone _ x g5 g6.nt g4, x, A.keep _ x g5 g6.nt fun z => ne (lentE _ z), g6.le A.le⟩
      · obtain ⟨o3, e3⟩ := R.bb k e
        exact ⟨o3, by rw [List.getElem?_set_ne fun z => hbi (by rw [z]; exact e)]; exact e3⟩
    · -- the slot that is lent itself
      rename_i o2 ej
      obtain ⟨h1, h2, ⟨w, h3⟩, h4, u, h5, h6⟩ := R.bo j o2 ej
      rw [hs] at h2
      cases h2
      unfold putOwn
      rw [ej]
      refine ⟨by rw [List.length_set]; exact R.len, A.gh, R.ge.trans A.le, fun a o e q => A.keep a o (R.he a o e q) (R.tb.ht a o e) fun z => ?_, fun a o e => ?_, fun k d e => ?_, fun k ob e => ?_, fun k ob e => ?_, fun k e => ?_, ⟨R.tb.ht, A.t0⟩⟩
      · rcases q with q | q
        · rw [h1] at q; cases q
        · exact q (lentE a z)
      · rcases A.gn a o e with z | z
        · exact R.gn a o z
        · exact .inr (R.heNoneV z)
      · rcases get_set e with ⟨_, _, e⟩ | ⟨_, e⟩
        · cases e
        · obtain ⟨v, g1, g2⟩ := R.sl k d e
          exact ⟨v, g1, Rep.le A.le _ _ g2⟩
      · rcases get_set e with ⟨_, _, e⟩ | ⟨hk, e⟩
        · cases e
        · obtain ⟨a, w', g1, g2, g3, g4, g5, g6⟩ := R.ac k ob e
          have ne : a ≠ F.ba := fun z => by rw [z, h3] at g4; cases g4
          refine ⟨a, w', g1, A.keep a w' g2 g5.nt fun z => ne (lentE a z), gnone a w' g2 g5.nt g3, g4, g5.le A.le, fun m hm ⟨om, em⟩ => ?_⟩
          rcases get_set em with ⟨_, _, e⟩ | ⟨_, em⟩
          · cases e
          · exact g6 m hm ⟨om, em⟩
      · rcases get_set e with ⟨rfl, _, e⟩ | ⟨hk, e⟩
        · cases e
          exact ⟨h1, hs, ⟨w, h3⟩, hg0, u', hu', r'⟩
        · obtain ⟨g1, _⟩ := R.bo k ob e
          rw [h1] at g1; cases g1; exact absurd rfl hk
      · rw [h1] at e
        cases e
        exact ⟨o', List.getElem?_set_self (List.getElem?_eq_some_iff.mp ej).1⟩
    · cases ho
theorem ArgsAt.app {K : Frg} {b : Option Nat} {G H : Hp} {ds dd : List D} {vs dvs : List V} (A : ArgsAt K b G H ds vs) (r : Reps K G dd dvs) : ArgsAt K b G H (ds ++ dd) (vs ++ dvs) where
  len := by rw [List.length_append, List.length_append, A.len, r.len]
  rep := fun i d v h1 h2 hb => by
    by_cases hi : i < ds.length
    · rw [List.getElem?_append_left hi] at h1
      rw [List.getElem?_append_left (by rw [A.len]; exact hi)] at h2
      exact A.rep i d v h1 h2 hb
    · rw [List.getElem?_append_right (by omega)] at h1
      rw [List.getElem?_append_right (by rw [A.len]; omega), A.len] at h2
      obtain ⟨v', h3, h4⟩ := r.getD h1
      rw [h2] at h3
      cases h3
      exact h4
  lent := fun i hb => by
    obtain ⟨a, o, u, h1, h2, h3⟩ := A.lent i hb
    exact ⟨a, o, u, by rw [List.getElem?_append_left (List.getElem?_eq_some_iff.mp h1).1]; exact h1, by rw [List.getElem?_append_left (List.getElem?_eq_some_iff.mp h2).1]; exact h2, h3⟩
theorem putL_own {l : Option Nat} {out : Option OD} {Γ : En} {j : Nat} (h : ownAt (putL l out Γ) j) : ownAt Γ j := by
  obtain ⟨o, h⟩ := h
  unfold putL at h
  split at h
  · unfold putOwn at h
    split at h
    · rename_i e
      rcases get_set h with ⟨rfl, _, _⟩ | ⟨_, h⟩
      · exact ⟨_, e⟩
      · exact ⟨_, h⟩
    · rcases get_set h with ⟨_, _, z⟩ | ⟨_, h⟩
      · cases z
      · exact ⟨_, h⟩
    · exact ⟨_, h⟩
  · exact ⟨_, h⟩
theorem NewF.new {K : Frg} {F : Fr} {Γ Γ' : En} {σ : St} {H G G' H' : Hp} {o : OD} {v : V} (R : Rl K F Γ σ H G) (ho : ∀ j, ownAt Γ' j → ownAt Γ j) (n : NewF K H G' H' o v) : New K F Γ' σ H' G' o v := by
  obtain ⟨p, u, h1, h2, h3, h4, h5⟩ := n
  exact ⟨p, u, h1, h2, h3, R.heNoneV h4, R.baNeV h4, fun j hj => R.noOwnV h4 j (ho j hj), h5⟩
theorem out_call {K : Frg} {W : WX} {F : Fr} {Γ : En} {σ : St} {H G : Hp} {b : Option Nat} {Fn : DFn} {dd : List D} {dvs : List V} {es : List EV} {vs : List V} (R : Rl K F Γ σ H G) (rs : vsrel K σ G es vs) (hd : ∀ G, Reps K G dd dvs) :
    OutV K W (vvrel K) F σ G (fun Q => spF K b Fn (vs ++ dvs) H Q (fun cls dx H' => W cls dx σ H')) (finCall b Fn dd es Γ) := by
  unfold finCall
  split
  · trivial
  · rename_i ds Γ1 l e
    obtain ⟨G1, R1, le, A, hn, hl⟩ := prep_ok R rs e
    have A2 := A.app (hd G1)
    have hl2 : ∀ i, b = some i → ∃ (j : Nat) (a : Addr) (o : OD), l = some j ∧ ownD Γ1 j = some o ∧ σ[j]? = some (some (V.ref a)) ∧ (vs ++ dvs)[i]? = some (V.ref a) := fun i hb => by
      obtain ⟨j, a, o, h1, h2, h3, h4⟩ := hl i hb
      exact ⟨j, a, o, h1, h2, h3, by rw [List.getElem?_append_left (List.getElem?_eq_some_iff.mp h4).1]; exact h4⟩
    split
    · rename_i d out ef
      intro Q q
      refine ⟨G1, ds ++ dd, R1.gh, R1.tb.t0, A2, ?_⟩
      rw [ef]
      exact fun v H' G' Af rv => q v H' G' (R1.call hn hl2 Af) (le.trans Af.le) rv
    · rename_i o out ef
      intro Q q
      refine ⟨G1, ds ++ dd, R1.gh, R1.tb.t0, A2, ?_⟩
      rw [ef]
      exact fun v H' G' Af nw => q v H' G' (R1.call hn hl2 Af) (le.trans Af.le) (nw.new R1 fun j => putL_own)
    · rename_i c ns fs out ef
      intro Q q
      refine ⟨G1, ds ++ dd, R1.gh, R1.tb.t0, A2, ?_⟩
      rw [ef]
      exact fun cls dx H' G' Af x => q cls dx H' G' (R1.call hn hl2 Af) (le.trans Af.le) x
    · trivial
def finCallN (b : Option Nat) (Fn : DFn) (dd : List D) (x : VV) (Γ : En) : O VV := match x, b with
  | .n o, some 0 => (match Fn (o.d :: dd) with
    | .ok d _ => .ok (.e (.d d)) Γ
    | .nw o' _ => .ok (.n o') Γ
    | .exc c ns fs _ => .exc c ns fs Γ
    | .fail => .fail)
  | _, _ => .fail
theorem Rl.aftN {K : Frg} {F : Fr} {Γ : En} {σ : St} {H G G' H' : Hp} {vs : List V} {out : Option OD} {a : Addr} {u : HO} (R : Rl K F Γ σ H G) (hu : H a = some u) (hn : F.He a = none) (hb : F.bi = none ∨ a ≠ F.ba) (ho : ∀ j, ownAt Γ j → σ[j]? ≠ some (some (.ref a))) (hl : ∀ a', Lent (some 0) vs a' → a' = a)
    (A : Aft K (some 0) G H vs G' H' out) : Rl K F Γ σ H' G' := by
  have gnone : ∀ a u, H a = some u → NT u → G a = none → G' a = none := fun a u h1 nt h2 => by
    cases q : G' a with
    | none => rfl
    | some w =>
      rcases A.gn a w q with z | z
      · rw [h2] at z; cases z
      · exact absurd nt (z u h1)
  exact ⟨R.len, A.gh, R.ge.trans A.le, fun b o e q => A.keep b o (R.he b o e q) (R.tb.ht b o e) fun z => (by rw [hl b z, hn] at e; cases e), fun a o e => by
        rcases A.gn a o e with z | z
        · exact R.gn a o z
        · exact .inr (R.heNoneV z),
      fun i d e => by
        obtain ⟨v, h1, h2⟩ := R.sl i d e
        exact ⟨v, h1, Rep.le A.le _ _ h2⟩,
      fun i o e => by
        obtain ⟨b, u, h1, h2, h3, h4, h5, h6⟩ := R.ac i o e
        exact ⟨b, u, h1, A.keep b u h2 h5.nt fun z => ho i ⟨o, e⟩ (by rw [← hl b z]; exact h1), gnone b u h2 h5.nt h3, h4, h5.le A.le, h6⟩,
      fun i o e => by
        obtain ⟨h1, h2, h3, h4, u, h5, h6⟩ := R.bo i o e
        refine ⟨h1, h2, h3, gnone _ u h5 h6.nt h4, u, A.keep _ u h5 h6.nt fun z => ?_, h6.le A.le⟩
        rcases hb with hb | hb
        · rw [h1] at hb; cases hb
        · exact hb (hl _ z).symm, R.bb, ⟨R.tb.ht, A.t0⟩⟩
theorem out_callN {K : Frg} {W : WX} {F : Fr} {Γ : En} {σ : St} {H G : Hp} {b : Option Nat} {Fn : DFn} {dd : List D} {dvs : List V} {x : VV} {v : V} (R : Rl K F Γ σ H G) (rs : vvrel K F Γ σ H G x v) (hd : ∀ G, Reps K G dd dvs) :
    OutV K W (vvrel K) F σ G (fun Q => spF K b Fn ([v] ++ dvs) H Q (fun cls dx H' => W cls dx σ H')) (finCallN b Fn dd x Γ) := by
  unfold finCallN
  split
  · rename_i o
    obtain ⟨p, u, rfl, h1, h2, h3, h4, h5, h6⟩ := rs
    have A : ArgsAt K (some 0) G H (o.d :: dd) ([V.ref p] ++ dvs) := ⟨by simp [(hd G).len], fun i d v e1 e2 hb => by
      cases i with
      | zero => exact absurd rfl hb
      | succ i =>
        obtain ⟨v', h3, h4⟩ := (hd G).getD (show dd[i]? = some d from e1)
        rw [show dvs[i]? = some v from e2] at h3
        cases h3
        exact h4, fun i hi => by cases hi; exact ⟨p, o, u, rfl, rfl, h1, h2, h6⟩⟩
    have hl : ∀ a', Lent (some 0) ([V.ref p] ++ dvs) a' → a' = p := fun a' ⟨i, z, h⟩ => by cases z; cases h; rfl
    split
    · rename_i d out ef
      intro Q q
      refine ⟨G, _, R.gh, R.tb.t0, A, ?_⟩
      rw [ef]
      exact fun v H' G' Af rv => q v H' G' (R.aftN h1 h3 h4 h5 hl Af) Af.le rv
    · rename_i o' out ef
      intro Q q
      refine ⟨G, _, R.gh, R.tb.t0, A, ?_⟩
      rw [ef]
      exact fun v H' G' Af nw => q v H' G' (R.aftN h1 h3 h4 h5 hl Af) Af.le (nw.new R fun j h => h)
    · rename_i c ns fs out ef
      intro Q q
      refine ⟨G, _, R.gh, R.tb.t0, A, ?_⟩
      rw [ef]
      exact fun cls dx H' G' Af x => q cls dx H' G' (R.aftN h1 h3 h4 h5 hl Af) Af.le x
    · trivial
  · trivial
section
variable {CX : CXT} {k : Nat} {fa' C : Addr} {fd : FuncData} {ps ks : List Str} {sp : Sp} {dvs : List V} {ds : List Value} {E : XK} {x m : Str}
theorem pass_at (tk : Takes X W) (σ : St) : PassesAt (L2.CX X.prog X.w) X σ (fun cls d H => W cls d σ H) := fun pins H s e s' I c => tk e s' (XE.of_call I (fun cls d H' h => h) c)
theorem run_G {pins : List (Addr × Obj)} {σ : St} {H : Hp} {s : Shared} {Q : VK} {us : List Value} {vs : List V} (F : FnG X.prog X.w X.K X.mg X.base (L2.CX X.prog X.w) k fa' fd ps sp) (hr : Room k X.A) (hg : X.A.guards = some []) (hb : Binds X.K fd ps ds) (hd : Vals dvs ds) (tk : Takes X W)
    (I : Inv X pins σ H s) (r : Vals vs us) (h : sp (vs ++ dvs) H Q (fun cls d H' => W cls d σ H')) : wpAny (model X.prog X.w) X.A (call (.ref fa') us) (EP X pins σ Q) X.xe s := by
  have r2 : Vals (vs ++ dvs) (us ++ ds) := r.append hd
  have hl : (us ++ ds).length = ps.length := by rw [← r2.length]; exact F.len _ _ _ _ h
  refine wpAny_call (codeAny_mono (F.run X.A X.stack s H ⟨us, []⟩ (us ++ ds) (vs ++ dvs) Q _ hr hg I.env0 (hb s us I.kIn hl) r2 h) fun r s' hq => ?_)
  cases r with
  | error e => exact pass_at tk σ pins H s e s' I hq
  | ok fl =>
    cases fl with
    | ret u => exact I.after hq
    | next => exact False.elim hq
    | brk => exact False.elim hq
    | cont => exact False.elim hq
def callV (b : Option Nat) (n : Nat) (Fn : DFn) (dd : List D) (u : AF) : VF := fun Γ => (u Γ).bind fun es Γ1 => if es.length = n then finCall b Fn dd es Γ1 else .fail
theorem vsrel_len {K : Frg} {σ : St} {G : Hp} : ∀ {es : List EV} {vs : List V}, vsrel K σ G es vs → vs.length = es.length
  | _, _, .nil => rfl
  | _, _, .cons _ t => by rw [List.length_cons, List.length_cons, vsrel_len t]
theorem OutV.of {α β : Type} {K : Frg} {W : WX} {rel : Fr → En → St → Hp → Hp → α → β → Prop} {F : Fr} {σ : St} {G : Hp} {T T' : (β → Hp → Prop) → Prop} : ∀ {r : O α}, OutV K W rel F σ G T r → (∀ Q, T Q → T' Q) → OutV K W rel F σ G T' r
  | .ok _ _, h, k => fun D q => k D (h D q)
  | .exc _ _ _ _, h, k => fun D q => k D (h D q)
  | .fail, _, _ => trivial
theorem sem_callG {Γ : En} {σ : St} {H G : Hp} {Fr : Fr} {b : Option Nat} {Fn : DFn} {dd : List D} {n : Nat} {es : List EV} {vs : List V} (R : Rl X.K Fr Γ σ H G) (rs : vsrel X.K σ G es vs) (hd : ∀ G, Reps X.K G dd dvs) (hn : n + dvs.length = ps.length) :
    OutV X.K W (vvrel X.K) Fr σ G (fun Q => spL X.K ps b Fn (vs ++ dvs) H Q (fun cls dx H' => W cls dx σ H')) (if es.length = n then finCall b Fn dd es Γ else .fail) := by
  split
  · rename_i h
    have hl : (vs ++ dvs).length = ps.length := by rw [List.length_append, vsrel_len rs, h]; exact hn
    exact OutV.of (out_call R rs hd) fun Q q => ⟨hl, q⟩
  · trivial
theorem fv_call {b : Option Nat} {Fn : DFn} {dd : List D} {n : Nat} (F : FnG X.prog X.w X.K X.mg X.base (L2.CX X.prog X.w) k fa' fd ps (spL X.K ps b Fn)) (hm : X.mg x = some (.ref fa')) (kp : PySem.W.keepIn X.K (.ref fa') = true) (hb : Binds X.K fd ps ds) (hd : Vals dvs ds) (hdd : ∀ G, Reps X.K G dd dvs)
    (hr : Room k X.A) (hgd : X.A.guards = some []) (tk : Takes X W) (hn : n + dvs.length = ps.length) (ha : FA X W (e :: es) u) (hg : Gl X x := by rfl) (hdb : (x == ("__debug__" : Str)) = false := by decide)
    (he : starEach (e :: es) X.env = (false, eval e X.env) :: starEach es X.env := by rfl) (hpl : (backTo pos (starEach es X.env)).any (·.1) = false := by rfl) :
    FV X W (.Call (.Name x p) (e :: es) [] pos) (callV b n Fn dd u) := by
  obtain ⟨t, pt, s⟩ := ha
  refine ⟨fun σ H Q => t σ H fun vs H1 => spL X.K ps b Fn (vs ++ dvs) H1 Q (fun cls d H' => W cls d σ H'), ⟨fun pins s' σ H Q I h => ?_⟩, fun Fr Γ σ H G R => ?_⟩
  · refine wpAny_Call_Name_kw (ld_glob I hg hm ?_ hdb)
    refine PySem.W.callWith_K (h₀ := X.base) I.ok.mod.kin kp (thn (pt.run pos pins s' σ H _ I h) fun us s1 ⟨vs, H1, I1, r, q⟩ => ⟨I1.kIn, ?_⟩) he hpl
    exact run_G F hr hgd hb hd tk I1 r q
  · exact OutV.bind (T' := fun vs H1 Q => spL X.K ps b Fn (vs ++ dvs) H1 Q (fun cls d H' => W cls d σ H')) (s Fr Γ σ H G R) fun es' Γ1 vs H1 G1 R1 _ rs => sem_callG R1 rs hdd hn
def call1V (b : Option Nat) (Fn : DFn) (dd : List D) (f : VF) : VF := fun Γ => (f Γ).bind (finCallN b Fn dd)
theorem OutV.bindV {α β α' β' : Type} {K : Frg} {W : WX} {rel : Fr → En → St → Hp → Hp → α → β → Prop} {rel' : Fr → En → St → Hp → Hp → α' → β' → Prop} {F : Fr} {σ : St} {G : Hp} {T : (β → Hp → Prop) → Prop} {T' : β → Hp → (β' → Hp → Prop) → Prop} {g : α → En → O α'} : ∀ {r : O α}, OutV K W rel F σ G T r →
    (∀ a Γ1 b H1 G1, Rl K F Γ1 σ H1 G1 → Le G G1 → rel F Γ1 σ H1 G1 a b → OutV K W rel' F σ G1 (T' b H1) (g a Γ1)) → OutV K W rel' F σ G (fun Q => T fun b H1 => T' b H1 Q) (r.bind g)
  | .fail, _, _ => trivial
  | .exc _ _ _ _, h, _ => fun Q q => h _ q
  | .ok a Γ1, h, k => by
    show OutV K W rel' F σ G _ (g a Γ1)
    cases e2 : g a Γ1 with
    | fail => trivial
    | exc c ns fs Γ' =>
      intro Q q
      refine h _ fun b H1 G1 R1 le1 r1 => ?_
      have h2 := k a Γ1 b H1 G1 R1 le1 r1
      rw [e2] at h2
      exact h2 Q fun cls dx H' G' R' le' x => q cls dx H' G' R' (le1.trans le') x
    | ok a' Γ' =>
      intro Q q
      refine h _ fun b H1 G1 R1 le1 r1 => ?_
      have h2 := k a Γ1 b H1 G1 R1 le1 r1
      rw [e2] at h2
      exact h2 Q fun b' H' G' R' le' x => q b' H' G' R' (le1.trans le') x
theorem fv_call1 {b : Option Nat} {Fn : DFn} {dd : List D} {vf : VF} (F : FnG X.prog X.w X.K X.mg X.base (L2.CX X.prog X.w) k fa' fd ps (spL X.K ps b Fn)) (hm : X.mg x = some (.ref fa')) (kp : PySem.W.keepIn X.K (.ref fa') = true) (hb : Binds X.K fd ps ds) (hd : Vals dvs ds) (hdd : ∀ G, Reps X.K G dd dvs)
    (hr : Room k X.A) (hgd : X.A.guards = some []) (tk : Takes X W) (hn : 1 + dvs.length = ps.length) (ha : FV X W e vf) (hg : Gl X x := by rfl) (hdb : (x == ("__debug__" : Str)) = false := by decide)
    (he : starEach [e] X.env = (false, eval e X.env) :: starEach [] X.env := by rfl) :
    FV X W (.Call (.Name x p) [e] [] pos) (call1V b Fn dd vf) := by
  obtain ⟨t, pt, s⟩ := ha
  refine ⟨fun σ H Q => t σ H fun v H1 => spL X.K ps b Fn ([v] ++ dvs) H1 Q (fun cls d H' => W cls d σ H'), ⟨fun pins s' σ H Q I h => ?_⟩, fun Fr Γ σ H G R => ?_⟩
  · refine wpAny_Call_Name_kw (ld_glob I hg hm ?_ hdb)
    refine PySem.W.callWith_K (h₀ := X.base) I.ok.mod.kin kp (thn ((pa_cons pt pa_nil he).run pos pins s' σ H (fun vs H1 => spL X.K ps b Fn (vs ++ dvs) H1 Q (fun cls d H' => W cls d σ H')) I h) fun us s1 ⟨vs, H1, I1, r, q⟩ => ⟨I1.kIn, ?_⟩) he rfl
    exact run_G F hr hgd hb hd tk I1 r q
  · refine OutV.bindV (T' := fun v H1 Q => spL X.K ps b Fn ([v] ++ dvs) H1 Q (fun cls d H' => W cls d σ H')) (s Fr Γ σ H G R) fun x Γ1 v H1 G1 R1 _ rs => ?_
    refine OutV.of (out_callN R1 rs hdd) fun Q q => ⟨by rw [List.length_append]; exact hn, q⟩
end
end FL
namespace FL
open PySem PySem.Spec PyProof.Rows L2
variable [Wrl] [Tabl]
variable {X : Cx} {W : WX} {e a o : Expr} {f g f1 f2 f3 fo fa : EF} {pos apos kpos p : Pos} {es : List Expr} {u uk : AF} {kws : List Keyword} {nm : Option Str}
def pick {α : Type} (pm : List Nat) (xs : List α) : List α := pm.filterMap (xs[·]?)
section
variable {k : Nat} {fa' C : Addr} {fd : FuncData} {ps ks : List Str} {sp : Sp} {dvs : List V} {ds : List Value} {E : XK} {x m : Str} {pm : List Nat} {n : Nat} {b : Option Nat} {Fn : DFn} {dd : List D}
def callK (b : Option Nat) (n m np : Nat) (pm : List Nat) (Fn : DFn) (dd : List D) (u uk : AF) : VF := fun Γ => (u Γ).bind fun es Γ1 => (uk Γ1).bind fun zs Γ2 =>
  if es.length = n ∧ zs.length = m ∧ (pick pm (es ++ (zs ++ dd.map EV.d))).length = np then finCall b Fn [] (pick pm (es ++ (zs ++ dd.map EV.d))) Γ2 else .fail
end
def badS : SF := fun _ => .fail
theorem takes_noW {X : Cx} : Takes X noW := fun u s' ⟨_, _, _, _, _, _, _, _, _, _, _, _, _, _, _, _, w⟩ => w.elim
end FL
namespace FL
open PySem PySem.Spec PyProof.Rows L2
def BB [Wrl] [Tabl] (K : Frg) (mg : Str → Option Value) (base : Heap) : Prop := ∀ t ∈ Tabl.tl K, LamX.TabB base mg t.1 t.2.1
def Entry (K : Frg) (cs : List (Addr × Addr)) (a : Addr) (H : Hp) : Prop :=
  ∀ b u, H b = some u → K.lookup b = none ∧ ((b = a ∧ ∃ o xs, u = .frz o (.lst xs)) ∨ (∃ p ∈ cs, b = p.2 ∧ u = .tbl #[]))
section
variable {P : Program} {w : World} {K : Frg} {mg mb : Str → Option Value} {k : Nat} {fa a : Addr} {fd : FuncData} {x : Str} {sp : Sp} {s₁ : Shared} {vs : List Value} {ns : List Int} {cs : List (Addr × Addr)}
theorem end_core (KX : K.In s₁.heap) (hns : s₁.heap.Ns mainGlobals mg) (hb : s₁.heap.Ns builtinsNs mb) (hbb : ∀ x : Str, x ≠ "__name__" → mb x = bootBuiltins x) (hlim : s₁.heap.NoLimit) (hg : s₁.gens = #[])
    (hT : ∀ p ∈ cs, s₁.heap.get? p.2 = some eT) (C : ∀ p ∈ cs, PySem.W.CodeHd s₁.heap p.1 p.2)
    (hbm : ∃ (bm : Addr) (ob : Obj), mg "__builtins__" = some (.ref bm) ∧ bm ≠ builtinsNs ∧ s₁.heap.get? bm = some ob ∧ ob.cls = .type "module" ∧ ob.dict = some builtinsNs ∧ ob.data = .plain)
    (ha : s₁.heap.get? a = some { cls := .type "list", data := .seq vs.toArray }) (hr : Room k callerA)
    (F : ∀ base : Heap, K.In base → base.Ns mainGlobals mg → (∀ p ∈ cs, LamX.TabB base mg p.1 p.2) → FnG P w K mg base (L2.CX P w) k fa fd [x] sp) (hbind : ∀ (s : Shared) (u : Value), BindsTo s fd ⟨[u], []⟩ [(x, u)])
    (H : Hp) (hO : Entry K cs a H) (hH : ∀ p ∈ cs, H p.2 = some (.tbl #[])) (hsp : sp [.ref a] H (fun v _ => v = .bl true) fun _ _ _ => False) (hok : HOk P w H s₁.heap) :
    codeAny (model P w) callerA (.call (.ref fa) ⟨[.ref a], []⟩) (fun r s' => r = .ok (.ret (.bool true)) ∧ OldK s₁.heap s'.heap ∧ s'.os = s₁.os ∧ AllBare s'.gens) s₁ := by
  have seen : ∀ {b : Addr} {o : Obj}, s₁.heap.get? b = some o → H b ≠ none → K.lookup b = none ∧ (o = { cls := .type "list", data := .seq vs.toArray } ∨ o = eT) := fun {b o} e h => by
    cases q : H b with
    | none => exact absurd q h
    | some u =>
      obtain ⟨n, z | ⟨p, hp, z, _⟩⟩ := hO b u q
      · refine ⟨n, .inl ?_⟩
        rw [z.1, ha] at e
        exact (Option.some.inj e).symm
      · refine ⟨n, .inr ?_⟩
        rw [z, hT p hp] at e
        exact (Option.some.inj e).symm
  have clear : ∀ {b : Addr} {o : Obj}, s₁.heap.get? b = some o → o ≠ { cls := .type "list", data := .seq vs.toArray } → o ≠ eT → H b = none := fun {b o} e n1 n2 => Classical.byContradiction fun h => (seen e h).2.elim n1 n2
  have dicts : ∀ {b : Addr} {o : Obj} {es : Array DictEntry} {ep : Nat}, s₁.heap.get? b = some o → o.data = .dict es ep → H b = none := fun {b o es ep} e d => clear e (fun z => by rw [z] at d; cases d) fun z => by rw [z] at d; cases d
  have ns : ∀ {b : Addr} {m : Str → Option Value}, s₁.heap.Ns b m → (hidT s₁.heap H).Ns b m := fun {b m} ⟨o, es, ep, e, d, r⟩ => ⟨o, es, ep, hidT_get e (dicts e d), d, r⟩
  have kin : K.In (hidT s₁.heap H) := fun b o e => hidT_get (KX b o e) (Classical.byContradiction fun h => by
    rw [(seen (KX b o e) h).1] at e
    cases e)
  obtain ⟨mc, l1, l2⟩ := hlim
  have notNs : ∀ {b c : Addr} {m : Str → Option Value} {o : Obj}, s₁.heap.Ns c m → s₁.heap.get? b = some o → (∀ es ep, o.data ≠ .dict es ep) → b ≠ c := fun {b c m o} ⟨o', es, ep, e', d', _⟩ e n z => by
    rw [z, e'] at e
    cases e
    exact n _ _ d'
  have TB : ∀ p ∈ cs, LamX.TabB (hidT s₁.heap H) mg p.1 p.2 := fun p hp => by
    obtain ⟨o, us, file, tf, flags, tg, inF, text, tt, e1, r1, r2, r3⟩ := C p hp
    have c1 : H p.1 = none := clear e1 (fun z => by rw [z] at r2; cases r2) fun z => by
      rw [z] at r2
      cases r2
      simp at r3
    obtain ⟨bm, ob, b1, b2, b3, b4, b5, b6⟩ := hbm
    refine ⟨⟨o, us, file, tf, flags, tg, inF, text, tt, hidT_get e1 c1, r1, r2, r3⟩, ?_, fun z => notNs hns (hT p hp) (fun _ _ q => by cases q) z.symm⟩
    refine ⟨bm, ob, b1, b2, notNs hns b3 (fun _ _ q => by rw [b6] at q; cases q), fun z => ?_, hidT_get b3 (clear b3 (fun z => by rw [z] at b6; cases b6) fun z => by rw [z] at b6; cases b6), b4, b5, b6⟩
    rw [z, hT p hp] at b3
    cases b3
    cases b6
  have e0 : Env0 P w K mg (hidT s₁.heap H) callerA [] s₁ H := ⟨rfl, ⟨kin, ns hns, ⟨mb, ns hb, hbb⟩, mc, ns l1, l2⟩, fun b o e => of_hidT e, Nat.le_of_eq (hidT_size _ _), trivial, fun b hb => absurd (show b ∈ ([] : List Addr) from hb) (by simp), hok, .of_eq hg⟩
  refine codeAny_mono ((F _ kin (ns hns) TB).run callerA [] s₁ H ⟨[.ref a], []⟩ [.ref a] [.ref a] _ _ hr rfl e0 (hbind s₁ (.ref a)) (.cons rfl .nil) hsp) fun r s' h => ?_
  match r, h with
  | .error e, h =>
    obtain ⟨_, _, _, _, _, _, _, _, _, _, _, _, z⟩ := (h : L2.CX P w [] H s₁ (fun _ _ _ => False) e s')
    exact z.elim
  | .ok .next, h => exact False.elim h
  | .ok .brk, h => exact False.elim h
  | .ok .cont, h => exact False.elim h
  | .ok (.ret u), h =>
    obtain ⟨v, H', os, bare, un, hok', r', q⟩ := h
    obtain rfl : v = .bl true := q
    obtain rfl : u = Value.bool true := r'
    have was : ∀ b o, s₁.heap.get? b = some o → s'.heap.get? b = some o ∨ ∃ p ∈ cs, b = p.2 := fun b o e => by
      cases z : H b with
      | none => exact .inl (un.keep b o e z (by intro y; exact absurd (show b ∈ ([] : List Addr) from y) (by simp)) (by simp))
      | some u =>
        obtain ⟨_, ⟨_, ob, xs, y⟩ | ⟨p, hp, y, _⟩⟩ := hO b u z
        · subst y
          obtain ⟨e1, _⟩ := hok b _ z
          obtain ⟨e2, _⟩ := hok' b _ (un.frzs b ob _ z)
          rw [e] at e1
          cases e1
          exact .inl e2
        · exact .inr ⟨p, hp, y⟩
    have more : ∀ p ∈ cs, ∃ ps : Array Value, s'.heap.get? p.2 = some { cls := .none, data := .fields ps } := fun p hp => by
      obtain ⟨m, z⟩ := un.tbls p.2 #[] (hH p hp)
      exact ⟨_, hok' p.2 _ z⟩
    refine ⟨rfl, ⟨fun b o e => ?_, fun b o e => ?_⟩, os, bare⟩
    · rcases was b o e with z | ⟨p, hp, z⟩
      · exact .inl z
      · obtain ⟨ps, m⟩ := more p hp
        subst z
        have eo := (hT p hp).symm.trans e
        cases eo
        exact .inr (.inl ⟨((C p hp).tab (hT p hp)).isCodeTable, rfl, #[], ps, rfl, by rw [Array.empty_append]; exact m⟩)
    · rcases was b o e with z | ⟨p, hp, z⟩
      · exact ⟨o, z⟩
      · obtain ⟨ps, m⟩ := more p hp
        exact ⟨_, by rw [z]; exact m⟩
theorem end_call (KX : K.In s₁.heap) (hns : s₁.heap.Ns mainGlobals mg) (hb : s₁.heap.Ns builtinsNs mb) (hbb : ∀ x : Str, x ≠ "__name__" → mb x = bootBuiltins x) (hlim : s₁.heap.NoLimit) (hg : s₁.gens = #[])
    (hT : ∀ p ∈ cs, s₁.heap.get? p.2 = some eT) (nT : ∀ p ∈ cs, K.lookup p.2 = none) (C : ∀ p ∈ cs, PySem.W.CodeHd s₁.heap p.1 p.2)
    (hbm : ∃ (bm : Addr) (ob : Obj), mg "__builtins__" = some (.ref bm) ∧ bm ≠ builtinsNs ∧ s₁.heap.get? bm = some ob ∧ ob.cls = .type "module" ∧ ob.dict = some builtinsNs ∧ ob.data = .plain)
    (ha : s₁.heap.get? a = some { cls := .type "list", data := .seq vs.toArray }) (hi : IntsAre vs ns) (hl : ns.length ≤ sizeLine) (hr : Room k callerA)
    (F : ∀ base : Heap, K.In base → base.Ns mainGlobals mg → (∀ p ∈ cs, LamX.TabB base mg p.1 p.2) → FnG P w K mg base (L2.CX P w) k fa fd [x] sp) (hbind : ∀ (s : Shared) (u : Value), BindsTo s fd ⟨[u], []⟩ [(x, u)])
    (hsp : ∀ H : Hp, (∀ p ∈ cs, H p.2 = some (.tbl #[])) → SqL K H a (ns.map V.int) → sp [.ref a] H (fun v _ => v = .bl true) fun _ _ _ => False) :
    codeAny (model P w) callerA (.call (.ref fa) ⟨[.ref a], []⟩) (fun r s' => r = .ok (.ret (.bool true)) ∧ OldK s₁.heap s'.heap ∧ s'.os = s₁.os ∧ AllBare s'.gens) s₁ := by
  have core := end_core KX hns hb hbb hlim hg hT C hbm ha hr F hbind
  let H0 : Hp := fun b => open Classical in if (∃ p ∈ cs, b = p.2) then some (.tbl #[]) else none
  have t0 : ∀ p ∈ cs, H0 p.2 = some (.tbl #[]) := fun p hp => if_pos ⟨p, hp, rfl⟩
  have g0 : ∀ b u, H0 b = some u → ∃ p ∈ cs, b = p.2 ∧ u = .tbl #[] := fun b u e => by
    by_cases h : ∃ p ∈ cs, b = p.2
    · obtain ⟨p, hp, rfl⟩ := h
      rw [t0 p hp] at e
      cases e
      exact ⟨p, hp, rfl, rfl⟩
    · rw [show H0 b = none from if_neg h] at e
      cases e
  have ok0 : ∀ b u, H0 b = some u → ObjOk P w H0 s₁.heap b u := fun b u e => by
    obtain ⟨p, hp, rfl, rfl⟩ := g0 b u e
    exact hT p hp
  cases hk : K.lookup a with
  | some o =>
    -- the script stands among the module's objects
    have e := (KX a o hk).symm.trans ha
    cases e
    refine core H0 (fun b u e => ?_) t0 (hsp _ t0 (.inr ⟨_, vs.toArray, _, hk, rfl, rfl, rfl, by rw [List.size_toArray, hi.length]; exact hl, by simpa using vals_ints hi⟩)) ok0
    obtain ⟨p, hp, rfl, rfl⟩ := g0 b u e
    exact ⟨nT p hp, .inr ⟨p, hp, rfl, rfl⟩⟩
  | none =>
    have ap : ∀ p ∈ cs, p.2 ≠ a := fun p hp z => by
      have y := hT p hp
      rw [z, ha] at y
      cases y
    let H1 : Hp := upd H0 a (.frz { cls := .type "list", data := .seq vs.toArray } (.lst (ns.map V.int)))
    have t1 : ∀ p ∈ cs, H1 p.2 = some (.tbl #[]) := fun p hp => (upd_ne (ap p hp)).trans (t0 p hp)
    refine core H1 (fun b u e => ?_) t1 (hsp _ t1 (.inl (.inr ⟨_, upd_same⟩))) fun b u z => ?_
    · by_cases h : b = a
      · subst h
        have e := (upd_same (H := H0)).symm.trans e
        cases e
        exact ⟨hk, .inl ⟨rfl, _, _, rfl⟩⟩
      · obtain ⟨p, hp, rfl, rfl⟩ := g0 b u ((upd_ne h).symm.trans e)
        exact ⟨nT p hp, .inr ⟨p, hp, rfl, rfl⟩⟩
    · by_cases h : b = a
      · subst h
        have e := (upd_same (H := H0)).symm.trans z
        cases e
        exact ⟨ha, by rw [List.length_map]; exact hl, vs, _, vals_ints hi, ha⟩
      · obtain ⟨p, hp, rfl, rfl⟩ := g0 b u ((upd_ne h).symm.trans z)
        exact hT p hp
end
structure TabsOk [Wrl] [Tabl] (K : Frg) (h : Heap) : Prop where
  hT : ∀ t ∈ Tabl.tl K, h.get? t.2.1 = some eT
  nT : ∀ t ∈ Tabl.tl K, K.lookup t.2.1 = none
  cd : ∀ t ∈ Tabl.tl K, PySem.W.CodeHd h t.1 t.2.1
theorem end_law [Tabl] {l : PySem.W.OpenLaw} {n k : Nat} {q : Program} {loose : List Str} {XP : (Str → Option Value) → Heap → Prop} {YP : World → Heap → Prop} {d : DefRec} {x : Str}
    (hn : l.most = some n) (hn2 : n ≤ sizeLine) (hdf : d.params.defaults = []) (hr : Room k callerA)
    (F : ∀ (w : World) (mg : Str → Option Value) (fa : Addr) (h : Heap), YP w h → h.Ns mainGlobals mg → mg d.name = some (.ref fa) → letI : Wrl := ⟨l.prog, w⟩
      ∃ (K : PySem.W.Frag) (fd : FuncData) (sp : Sp), K.In h ∧ TabsOk K h ∧ (∀ (s : Shared) (u : Value), BindsTo s fd ⟨[u], []⟩ [(x, u)]) ∧
        (∀ (H : Hp) (a : Addr) (ns : List Int), ns.length ≤ n → LamX.Tabs (Tabl.tabs K) H → SqL K H a (ns.map V.int) → sp [.ref a] H (fun v _ => v = .bl true) fun _ _ _ => False) ∧
        ∀ base : Heap, K.In base → base.Ns mainGlobals mg → BB K mg base → FnG l.prog w K mg base (L2.CX l.prog w) k fa fd [x] sp) :
    PySem.W.WalkO q loose XP YP l.row.toRowW d [] (fun f vs => PySem.call f vs) :=
  Att.attach_call hn hdf fun w s₀ s₁ mg mb fa o pm cd doc a vs ns G Y ho hd hcd hmg hobj hints hlen hg => by
    letI : Wrl := ⟨l.prog, w⟩
    obtain ⟨K, fd, sp, KX, TO, hb, hsp, hF⟩ := F w mg fa _ Y G.T.g hmg
    have un : ∀ {Q : Addr × Addr → Prop}, (∀ t ∈ Tabl.tl K, Q (t.1, t.2.1)) → ∀ p ∈ (Tabl.tl K).map (fun t => (t.1, t.2.1)), Q p := fun {Q} h p hp => by
      obtain ⟨t, ht, rfl⟩ := List.mem_map.mp hp
      exact h t ht
    refine end_call (cs := (Tabl.tl K).map fun t => (t.1, t.2.1)) KX G.T.g G.T.b G.T.builtins G.T.nolimit hg (un TO.hT) (un TO.nT) (un TO.cd) G.T.bmain hobj hints (Nat.le_trans hlen hn2) hr (fun base h1 h2 h3 => hF base h1 h2 fun t ht => h3 _ (List.mem_map.mpr ⟨t, ht, rfl⟩)) hb fun H hH hS => hsp H a ns hlen (fun p hp => ?_) hS
    obtain ⟨t, ht, rfl⟩ := List.mem_map.mp hp
    exact LamX.TabS.nil (hH _ (List.mem_map.mpr ⟨t, ht, rfl⟩))
theorem law_sp [Wrl] [Tabl] {K : Frg} {x : Str} {Fn : DFn} (h : ∀ ns : List Int, Fn [.scr ns] = .ok (.bl true) none) (H : Hp) (a : Addr) (ns : List Int) (hT : LamX.Tabs (Tabl.tabs K) H) (hS : SqL K H a (ns.map V.int)) : spL K [x] none Fn [.ref a] H (fun v _ => v = .bl true) fun _ _ _ => False := by
  have hS' : SqL K (vis H) a (ns.map V.int) := by
    rcases hS with hS | hS
    · rcases hS with e | ⟨o, e⟩
      · exact .inl (.inl (vis_of e fun _ z => by cases z))
      · exact .inl (.inr ⟨o, vis_of e fun _ z => by cases z⟩)
    · exact .inr hS
  refine ⟨rfl, vis H, [.scr ns], fun a o e => (vis_get e).1, ⟨fun a o e => (vis_get e).2, hT⟩, ⟨rfl, fun i d v h1 h2 _ => ?_, fun i z => nomatch z⟩, ?_⟩
  · cases i with
    | zero => cases h1; cases h2; exact ⟨a, rfl, hS'⟩
    | succ i => simp at h1
  · rw [h ns]
    exact fun v H' G' _ r => r
section
variable [Wrl]
mutual
theorem cst_ok {K : Frg} : ∀ (d : D) (u : Value), cst K d u = true → ∃ v, RelV v u ∧ ∀ G, Rep K G d v
  | .non, .none, h => ⟨.non, rfl, fun _ => rfl⟩
  | .bl b, .bool c, h => ⟨.bl c, rfl, fun _ => by rw [eq_of_beq (show (b == c) = true from h)]; rfl⟩
  | .int i, .int j t, h => ⟨.int j, ⟨t, rfl⟩, fun _ => by rw [of_decide_eq_true (p := i = j) h]; rfl⟩
  | .str x, .str y t, h => ⟨.str y, ⟨t, rfl⟩, fun _ => by rw [of_decide_eq_true (p := x = y) h]; rfl⟩
  | .tup ds, .ref a, h => by
    unfold cst at h
    split at h
    · rename_i c od its n sl q
      obtain ⟨h1, h2⟩ := He.ba h
      obtain ⟨h3, h4⟩ := He.ba h2
      obtain ⟨vs, h5, h6⟩ := csts_ok ds its.toList h4
      exact ⟨.ref a, rfl, fun G => ⟨a, vs, rfl, .inr ⟨_, its, n, q, congrArg Value.type (of_decide_eq_true h1), rfl, of_decide_eq_true h3, h5⟩, h6 G⟩⟩
    · cases h
  | .lst _, u, h => by unfold cst at h; cases h
  | .scr _, u, h => by unfold cst at h; cases h
  | .dk _ _, u, h => by unfold cst at h; cases h
  | .fk _ _, u, h => by unfold cst at h; cases h
  | .dn _ _ _, u, h => by unfold cst at h; cases h
  | .ins _ _ _, u, h => by unfold cst at h; cases h
theorem csts_ok {K : Frg} : ∀ (ds : List D) (us : List Value), csts K ds us = true → ∃ vs, Vals vs us ∧ ∀ G, Reps K G ds vs
  | [], [], _ => ⟨[], .nil, fun _ => rfl⟩
  | d :: ds, u :: us, h => by
    obtain ⟨h1, h2⟩ := He.ba (show (cst K d u && csts K ds us) = true from h)
    obtain ⟨v, r1, r2⟩ := cst_ok d u h1
    obtain ⟨vs, r3, r4⟩ := csts_ok ds us h2
    exact ⟨v :: vs, .cons r1 r3, fun G => ⟨v, vs, rfl, r2 G, r4 G⟩⟩
end
theorem cstB_ok {K : Frg} {mg : Str → Option Value} {h : Heap} (X : K.In h) (G : h.Ns mainGlobals mg) {x : Str} {d : D} (c : cstB K x d = true) : ∃ (v : V) (u : Value), mg x = some u ∧ RelV v u ∧ ∀ G, Rep K G d v := by
  unfold cstB at c
  split at c
  · rename_i u e
    obtain ⟨v, h1, h2⟩ := cst_ok d u c
    refine ⟨v, u, ?_, h1, h2⟩
    exact PySem.W.mg_of X G e
  · cases c
end
end FL
namespace FL
open PySem PySem.Spec PyProof.Rows L2
variable [Wrl] [Tabl]
variable {X : Cx} {W : WX} {e a b c o tg iter : Expr} {f g f1 f2 f3 fo fa : EF} {pos apos kpos p : Pos} {es : List Expr}
theorem pi_or {t1 t2 : TI} (h1 : PI X tg iter t1) (h2 : PI X tg iter t2) : PI X tg iter (fun σ H R => t1 σ H R ∨ t2 σ H R) :=
  ⟨fun pins s σ H R I q => q.elim (fun q => h1.run pins s σ H R I q) fun q => h2.run pins s σ H R I q⟩
def itA (ev : EV) (Γ : En) : O (List D) := match ev with
  | .d (.tup ds) => .ok ds Γ
  | .d (.scr ns) => .ok (ns.map D.int) Γ
  | .d (.str x) => .ok (x.cps.toList.map fun c => D.str ⟨#[c]⟩) Γ
  | _ => itL ev Γ
def anyI (f : EF) : IF := fun Γ => (f Γ).bind itA
theorem OutI.or {K : Frg} {F : Fr} {σ : St} {G : Hp} {T1 T2 T : (It → Hp → Prop) → Prop} : ∀ {r : O (List D)}, OutI K W F σ G T1 r ∨ OutI K W F σ G T2 r → (∀ Q, T1 Q → T Q) → (∀ Q, T2 Q → T Q) → OutI K W F σ G T r
  | .ok _ _, h, k1, k2 => fun Q q => h.elim (fun h => k1 _ (h Q q)) fun h => k2 _ (h Q q)
  | .exc _ _ _ _, h, k1, k2 => fun Q q => h.elim (fun h => k1 _ (h Q q)) fun h => k2 _ (h Q q)
  | .fail, _, _, _ => trivial
theorem fi_any (h : FE X W e f) : FI X W tg e (anyI f) := by
  obtain ⟨t1, p1, s1⟩ := fi_list (tg := tg) h
  obtain ⟨t2, p2, s2⟩ := fi_tup (tg := tg) h
  obtain ⟨t3, p3, s3⟩ := fi_scr (tg := tg) h
  obtain ⟨t4, p4, s4⟩ := fi_str (tg := tg) h
  refine ⟨_, pi_or (pi_or p1 p2) (pi_or p3 p4), fun F Γ σ H G R => ?_⟩
  have k1 := s1 F Γ σ H G R
  have k2 := s2 F Γ σ H G R
  have k3 := s3 F Γ σ H G R
  have k4 := s4 F Γ σ H G R
  unfold anyI
  revert k1 k2 k3 k4
  cases f Γ with
  | fail => exact fun _ _ _ _ => trivial
  | exc c ns fs Γ' => exact fun k _ _ _ => OutI.or (T1 := t1 σ H) (T2 := t1 σ H) (.inl k) (fun Q q => .inl (.inl q)) fun Q q => .inl (.inl q)
  | ok ev Γ' =>
    intro k1 k2 k3 k4
    show OutI X.K W F σ G _ (itA ev Γ')
    unfold itA
    split
    · exact OutI.or (T1 := t2 σ H) (T2 := t2 σ H) (.inl k2) (fun Q q => .inl (.inr q)) fun Q q => .inl (.inr q)
    · exact OutI.or (T1 := t3 σ H) (T2 := t3 σ H) (.inl k3) (fun Q q => .inr (.inl q)) fun Q q => .inr (.inl q)
    · exact OutI.or (T1 := t4 σ H) (T2 := t4 σ H) (.inl k4) (fun Q q => .inr (.inr q)) fun Q q => .inr (.inr q)
    · exact OutI.or (T1 := t1 σ H) (T2 := t1 σ H) (.inl k1) (fun Q q => .inl (.inl q)) fun Q q => .inl (.inl q)
def rng1 (u : AF) : IF := fun Γ => (u Γ).bind itR1
def rng2 (u : AF) : IF := fun Γ => (u Γ).bind itR2
theorem fi_rng1 {u : AF} (hm : X.mg "range" = none) (h : FA X W [a] u) (hg : Gl X "range" := by rfl) (hs : starEach [a] X.env = [(false, eval a X.env)] := by rfl) : FI X W tg (.Call (.Name "range" p) [a] [] pos) (rng1 u) := fi_range1 hm h hg hs
theorem pg_or {g1 g2 : TG} (h1 : PG X tg g1) (h2 : PG X tg g2) : PG X tg (fun v σ H Q => g1 v σ H Q ∨ g2 v σ H Q) := by
  constructor
  intros
  rename_i q
  rcases q with q | q
  · apply h1.run <;> assumption
  · apply h2.run <;> assumption
def bSeq (n : Nat) (bs : List D → En → Option En) : BF
  | .tup ds, Γ => if ds.length = n then bs ds Γ else none
  | .lst ds, Γ => if ds.length = n then bs ds Γ else none
  | _, _ => none
theorem fg_seq {tgs : List Expr} {k : Nat} {bs : List D → En → Option En} {n : Nat} {sl : List Nat} (hc : X.calm = true) (h : FGs X tgs bs sl) (hn : (assignEach tgs X.env).length = n := by rfl) (hst : (assignEach tgs X.env).findIdx? (·.1) = none := by rfl) : FG X (.Tuple tgs k pos) (bSeq n bs) sl := by
  obtain ⟨g1, p1, m1⟩ := fg_tup (k := k) (pos := pos) hc h hn hst
  obtain ⟨g2, p2, m2⟩ := fg_unl (k := k) (pos := pos) hc h hn hst
  refine ⟨_, pg_or p1 p2, fun F Γ σ H G d v Γ' R r e Q q => ?_⟩
  unfold bSeq at e
  split at e
  · exact .inl (m1 F Γ σ H G _ v Γ' R r e Q q)
  · exact .inr (m2 F Γ σ H G _ v Γ' R r e Q q)
  · cases e
def addV2 (e1 e2 : EV) (Γ : En) : O VV := match e1.look Γ, e2.look Γ with
  | some (.lst xs), some (.lst ys) => if xs.length + ys.length ≤ sizeLine then .ok (.n (.l (xs ++ ys))) Γ else .fail
  | some d1, some d2 => (match addD d1 d2 with | some x => .ok (.e (.d x)) Γ | none => .fail)
  | _, _ => .fail
def addV (f1 f2 : EF) : VF := fun Γ => (f1 Γ).bind fun e1 Γ1 => (f2 Γ1).bind (addV2 e1)
theorem fv_add (ha : FE X W a f1) (hb : FE X W b f2) : FV X W (.BinOp a .Add b pos) (addV f1 f2) := by
  obtain ⟨u1, p1, s1⟩ := ha
  obtain ⟨u2, p2, s2⟩ := hb
  refine ⟨_, pe_op op_addA p1 p2, fun F Γ σ H G R => ?_⟩
  refine OutV.bind (T' := fun x H1 Q => u2 σ H1 fun y H2 => rAddA X.K x y H2 Q) (s1 F Γ σ H G R) fun ev Γ1 v H1 G1 R1 _ r1 => ?_
  refine OutV.bind (T' := fun y H2 Q => rAddA X.K v y H2 Q) (s2 F Γ1 σ H1 G1 R1) fun ev2 Γ2 v2 H2 G2 R2 le2 r2 => ?_
  unfold addV2
  split
  · rename_i xs ys e1 e2
    split
    · rename_i hz
      intro Q q
      obtain ⟨l1, vs1, rfl, h1, q1⟩ := (R2.look (vrel_mono _ _ _ _ _ _ le2 r1) e1).lst R2.gh
      obtain ⟨l2, vs2, rfl, h2, q2⟩ := (R2.look r2 e2).lst R2.gh
      refine .inr (.inr (.inl ⟨l1, l2, vs1, vs2, rfl, rfl, h1, h2, by rw [q1.len, q2.len]; exact hz, fun p hp => ?_⟩))
      obtain ⟨R3, n⟩ := R2.newN (o := .l (xs ++ ys)) hp ⟨_, rfl, q1.append q2⟩
      exact q _ _ _ R3 (Le.refl _) n
    · trivial
  · rename_i d1 d2 _ e1 e2
    split
    · rename_i x e3
      exact fun Q q => add_ok F Γ2 σ H2 G2 d1 d2 v v2 x Q R2 (R2.look (vrel_mono _ _ _ _ _ _ le2 r1) e1) (R2.look r2 e2) e3 fun v H' G' R' le r => q v H' G' R' le r
    · trivial
  · trivial
theorem ft_lt (ha : FE X W a f1) (hb : FE X W b f2) : FT X W (.Compare a [.Lt] [b] pos) (tstE (op2 ltD f1 f2)) := ft_cmp op_lt (int0_ok fun _ _ _ => rfl) ha hb (nomark _)
theorem ft_gt (ha : FE X W a f1) (hb : FE X W b f2) : FT X W (.Compare a [.Gt] [b] pos) (tstE (op2 gtD f1 f2)) := ft_cmp op_gt (int0_ok fun _ _ _ => rfl) ha hb (nomark _)
theorem ft_ge (ha : FE X W a f1) (hb : FE X W b f2) : FT X W (.Compare a [.GtE] [b] pos) (tstE (op2 geD f1 f2)) := ft_cmp op_ge (int0_ok fun _ _ _ => rfl) ha hb (nomark _)
theorem ft_eq (hu : X.A.units + 64 < cLine) (ha : FE X W a f1) (hb : FE X W b f2) : FT X W (.Compare a [.Eq] [b] pos) (tstE (op2 eqD f1 f2)) := ft_cmp (op_eqA hu) eq_ok ha hb (nomark _)
theorem ft_ne (hu : X.A.units + 64 < cLine) (ha : FE X W a f1) (hb : FE X W b f2) : FT X W (.Compare a [.NotEq] [b] pos) (tstE (op2 neD f1 f2)) := ft_cmp (op_neA hu) ne_ok ha hb (nomark _)
theorem isN_ok : Op2 X (fun x y H Q => y = .non ∧ Q (.bl (decide (x = .non))) H) isND := by
  intro F Γ σ H G d1 d2 v1 v2 x Q R r1 r2 e q
  unfold isND at e
  split at e
  · rename_i h
    cases e
    refine ⟨?_, ?_⟩
    · have := (r2.rep R.gh).isNon
      rw [h] at this
      exact of_decide_eq_true this
    · rw [(r1.rep R.gh).isNon]
      exact q _ _ _ R (Le.refl G) rfl
  · cases e
theorem notN_ok : Op2 X (fun x y H Q => y = .non ∧ Q (.bl (!decide (x = .non))) H) notND := by
  intro F Γ σ H G d1 d2 v1 v2 x Q R r1 r2 e q
  unfold notND at e
  split at e
  · rename_i h
    cases e
    refine ⟨?_, ?_⟩
    · have := (r2.rep R.gh).isNon
      rw [h] at this
      exact of_decide_eq_true this
    · rw [(r1.rep R.gh).isNon]
      exact q _ _ _ R (Le.refl G) rfl
  · cases e
theorem ft_isN {j p} (ha : FE X W a f1) : FT X W (.Compare a [.Is] [.Constant .none j p] pos) (tstE (op2 isND f1 (cE .non))) := ft_cmp op_isN isN_ok ha fe_non (nomark _)
theorem ft_notN {j p} (ha : FE X W a f1) : FT X W (.Compare a [.IsNot] [.Constant .none j p] pos) (tstE (op2 notND f1 (cE .non))) := ft_cmp op_notN notN_ok ha fe_non (nomark _)
theorem ft_in (hu : X.A.units + 65 < cLine) (ha : FE X W a f1) (hb : FE X W b f2) (hm : behindInMarks .In b = false := by rfl) : FT X W (.Compare a [.In] [b] pos) (tstE (op2 inD f1 f2)) := by
  refine ft_cmp (op_inX hu) (fun F Γ σ H G d1 d2 v1 v2 x Q R r1 r2 e q => ?_) ha hb hm
  obtain ⟨k, e', rfl⟩ := Option.map_eq_some_iff.mp (show (inB d1 d2).map D.bl = some x from e)
  exact inB_ok R r1 r2 e' (fun k => Q (.bl k) H) (q _ _ _ R (Le.refl G) rfl)
theorem ft_nin (hu : X.A.units + 65 < cLine) (ha : FE X W a f1) (hb : FE X W b f2) (hm : behindInMarks .NotIn b = false := by rfl) : FT X W (.Compare a [.NotIn] [b] pos) (tstE (op2 ninD f1 f2)) := by
  refine ft_cmp (op_ninX hu) (fun F Γ σ H G d1 d2 v1 v2 x Q R r1 r2 e q => ?_) ha hb hm
  obtain ⟨k, e', rfl⟩ := Option.map_eq_some_iff.mp (show (inB d1 d2).map (fun b => D.bl !b) = some x from e)
  rcases inB_ok R r1 r2 e' (fun k => Q (.bl (!k)) H) (q _ _ _ R (Le.refl G) rfl) with h | h | h
  · exact .inl h
  · exact .inr (.inl h)
  · exact .inr (.inr h)
def fdOf (K : Frg) (f : Addr) : FuncData := match K.lookup f with
  | some ⟨_, _, .func fd, _⟩ => fd
  | _ => default
theorem fdOf_eq {K : Frg} {x qual : Str} {params : Arguments} {body : List Stmt} {scope : Scope} {dvs : List V} {kws : List (Str × V)} {f : Addr} {fd : FuncData} (F : FunD K x qual params body scope dvs kws f fd) : fd = fdOf K f := by
  obtain ⟨oc, od, dV, kV, doc, pm, an, cdv, ct, osl, rfl, lk, _⟩ := F.ex
  unfold fdOf
  rw [lk]
structure Tx (fa : List He.Fa) (fn : List He.DefD) (ex : Frg → Bool) (K : Frg) (mg : Str → Option Value) : Prop where
  hh : ∃ h : Heap, K.In h ∧ h.Ns mainGlobals mg
  c : He.SaysD fa fn K
  e : ex K = true
section
variable {fas : List He.Fa} {fn : List He.DefD} {ex : Frg → Bool} {K : Frg} {mg : Str → Option Value}
theorem Tx.free (T : Tx fas fn ex K mg) (i : Nat) {x : Str} (h : fas[i]? = some (.free x)) : mg x = none := by
  obtain ⟨_, X, G⟩ := T.hh
  exact He.free_ok X G (T.c.fact i h)
theorem Tx.glo (T : Tx fas fn ex K mg) (i : Nat) {x : Str} (h : fas[i]? = some (.glo x)) : mg x = some (.ref (He.ga K x)) := by
  obtain ⟨_, X, G⟩ := T.hh
  exact He.glo_ok X G (T.c.fact i h)
theorem Tx.fund (T : Tx fas fn ex K mg) (i : Nat) {d : He.DefD} (h : fn[i]? = some d) : FunD K d.name d.qual d.params d.body d.scope (d.dvs K) (d.kws K) (He.fAd K d.at_) (fdOf K (He.fAd K d.at_)) := by
  obtain ⟨fd, F⟩ := T.c.def_ i h
  rw [← fdOf_eq F]
  exact F
theorem Tx.con (T : Tx fas fn ex K mg) {x : Str} {d : D} (h : cstB K x d = true) : ∃ (v : V) (u : Value), mg x = some u ∧ RelV v u ∧ ∀ G, Rep K G d v := by
  obtain ⟨_, X, G⟩ := T.hh
  exact cstB_ok X G h
end
theorem Room.u65 {k : Nat} {A : Around} (r : Room k A) : A.units + 65 < cLine := by have := r.un; omega
end FL
namespace FL
open PySem PySem.Spec PyProof.Rows L2
variable [Wrl] [Tabl]
variable {X : Cx} {W : WX} {e a b c o tg iter : Expr} {f g f1 f2 f3 fo fa : EF} {pos apos kpos p : Pos} {es : List Expr}
def finU (ev : EV) (Γ : En) : O EV := match ev with
  | .d (.int i) => .ok (.d (.int (-i))) Γ
  | _ => .fail
def negE (f : EF) : EF := fun Γ => (f Γ).bind finU
theorem fe_neg (ha : FE X W a f) : FE X W (.UnaryOp .USub a pos) (negE f) := by
  obtain ⟨t, p, s⟩ := ha
  refine ⟨_, pe_un un_neg p, Sem.bind (T := fun x σ H Q => rU (fun i => .int (-i)) x H Q) s fun F Γ σ H G ev v R r => ?_⟩
  unfold finU
  split
  · exact fun Q q => ⟨_, r, q _ H G R (Le.refl G) rfl⟩
  · trivial
theorem fg_sub1 {i : Nat} {x : Str} {p : Pos} {k : Int} {j pj} (hN : X.N[i]? = some x) (hv : Vis X.env.scope x) (hd : (x == ("__debug__" : Str)) = false := by decide) (hcd : (x == ("__classdict__" : Str)) = false := by decide) :
    FG X (.Subscript (.Name x p) (.Constant (.int k) j pj) pos) (bSub i k) [] := fg_sub hN hv (fun _ _ a b => pg_sub a b set_list) hd hcd
theorem lt0 : Op2 X (rI0 fun i j => .bl (decide (i < j))) ltD := int0_ok fun _ _ _ => rfl
theorem le0 : Op2 X (rI0 fun i j => .bl (decide (i ≤ j))) leD := int0_ok fun _ _ _ => rfl
def blkB (N : List Str) (sc scope : Scope) (own : List (Str × Nat)) : Bool :=
  (match scope.kind with | .function => true | _ => false) && (scope.names.all fun y => scope.names.lookup y.1 == some y.2) && (own.all fun p => N[p.2]? == some p.1) &&
  (scope.names.all fun y => !(y.2 == .free) || (sc.names.lookup y.1 == some .cell || sc.names.lookup y.1 == some .free)) &&
  (scope.names.all fun y => !(y.2 == .local || y.2 == .cell) || (own.any fun p => p.1 == y.1) || !(N.any fun n => n == y.1))
theorem blk_of {N : List Str} {sc scope : Scope} {own : List (Str × Nat)} (h : blkB N sc scope own = true) : BlkOk N sc scope own := by
  unfold blkB at h
  simp only [Bool.and_eq_true, List.all_eq_true, beq_iff_eq] at h
  obtain ⟨⟨⟨⟨h1, h2⟩, h3⟩, h4⟩, h5⟩ := h
  refine ⟨?_, h2, h3, fun y hy e => ?_, fun y hy e => ?_⟩
  · split at h1
    · assumption
    · cases h1
  · have := h4 y hy
    rw [e] at this
    simpa using this
  · have := h5 y hy
    rcases e with e | e
    all_goals
      rw [e] at this
      simp only [Bool.or_eq_true, List.any_eq_true, beq_iff_eq, Bool.not_eq_true', List.any_eq_false] at this
      rcases this with (h | ⟨p, hp, e⟩) | h
      · simp at h
      · exact .inl (List.mem_map.mpr ⟨p, hp, e⟩)
      · exact .inr fun z => (by simpa using h _ z)
end FL
namespace FL
open PySem PySem.Spec PyProof.Rows L2
def Sl.isB : Sl → Bool
  | .bor _ => true
  | _ => false
def seqK (s2 : SF) (r : O Fl) : O Fl := match r with
  | .ok .nx Γ1 => s2 Γ1
  | r => r
def ifK (s1 s2 : SF) (k : Bool) : SF := fun Γ => if k then s1 Γ else s2 Γ
def andK (t : TF) (k : Bool) : TF := fun Γ => if k then t Γ else .ok false Γ
def orK (t : TF) (k : Bool) : TF := fun Γ => if k then .ok true Γ else t Γ
def ifEK (f1 f2 : EF) (k : Bool) : EF := fun Γ => if k then f1 Γ else f2 Γ
def andEK (f : EF) (k : Bool) : EF := fun Γ => if k then f Γ else .ok (.d (.bl false)) Γ
def orEK (f : EF) (k : Bool) : EF := fun Γ => if k then .ok (.d (.bl true)) Γ else f Γ
def rtK (r : Option (D × En)) : O Fl := match r with
  | some (x, Γ') => .ok (.rt x) Γ'
  | none => .fail
def stK (i : Nat) (r : Option (D × En)) : O Fl := match r with
  | some (d, Γ') => if isBor Γ' i = false then .ok .nx (Γ'.set i (.im d)) else .fail
  | none => .fail
def nxK (r : Option En) : O Fl := match r with
  | some Γ => .ok .nx Γ
  | none => .fail
def sbK (bf : BF) (r : Option (D × En)) : O Fl := match r with
  | some (d, Γ1) => nxK (bf d Γ1)
  | none => .fail
def apL (i : Nat) (d : D) (Γ : En) (r : Option OD) : O Fl := match r with
  | some (.l xs) => if xs.length < sizeLine then .ok .nx (putOwn Γ i (.l (xs ++ [d]))) else .fail
  | _ => .fail
def apK (i : Nat) (r : Option (D × En)) : O Fl := match r with
  | some (d, Γ1) => apL i d Γ1 (ownD Γ1 i)
  | none => .fail
def oK (Γ : En) (r : Option D) : O EV := match r with
  | some x => .ok (.d x) Γ
  | none => .fail
def bK (Γ : En) (r : Option Bool) : O EV := match r with
  | some x => .ok (.d (.bl x)) Γ
  | none => .fail
def veK (r : O EV) : O VV := match r with
  | .ok ev Γ' => .ok (.e ev) Γ'
  | .exc c ns fs Γ' => .exc c ns fs Γ'
  | .fail => .fail
def teK (r : O VV) : O EV := match r with
  | .ok (.e ev) Γ' => .ok ev Γ'
  | .ok (.n o) Γ' => .ok (.d o.d) Γ'
  | .exc c ns fs Γ' => .exc c ns fs Γ'
  | .fail => .fail
def caK (Γ1 : En) (l : Option Nat) (r : Ro) : O VV := match r with
  | .ok d out => .ok (.e (.d d)) (putL l out Γ1)
  | .nw o out => .ok (.n o) (putL l out Γ1)
  | .exc c ns fs out => .exc c ns fs (putL l out Γ1)
  | .fail => .fail
def prK (Fn : DFn) (dd : List D) (r : Option (List D × En × Option Nat)) : O VV := match r with
  | none => .fail
  | some (ds, Γ1, l) => caK Γ1 l (Fn (ds ++ dd))
def cnK (Γ : En) (r : Ro) : O VV := match r with
  | .ok d _ => .ok (.e (.d d)) Γ
  | .nw o' _ => .ok (.n o') Γ
  | .exc c ns fs _ => .exc c ns fs Γ
  | .fail => .fail
def fiK (b : Option Nat) (r : O Fl) : Ro := match r with
  | .ok .nx Γ' => .ok .non (outOf b Γ')
  | .ok (.rt d) Γ' => .ok d (outOf b Γ')
  | .ok (.rn o) Γ' => .nw o (outOf b Γ')
  | .ok .br _ => .fail
  | .ok .ct _ => .fail
  | .exc c ns fs Γ' => .exc c ns fs (outOf b Γ')
  | .fail => .fail
def ruK (b : Option Nat) (s : SF) (r : Option En) : Ro := match r with
  | none => .fail
  | some Γ => fiK b (s Γ)
namespace Ev
variable {f f1 f2 f3 : EF} {t t1 t2 : TF} {s s1 s2 : SF} {Γ : En} {vf : VF} {r u uk : AF} {bf : BF}
theorem seqS : FL.seqS s1 s2 Γ = seqK s2 (s1 Γ) := rfl
theorem seqK0 : seqK s2 (.ok .nx Γ) = s2 Γ := rfl
theorem seqK1 {d} : seqK s2 (.ok (.rt d) Γ) = .ok (.rt d) Γ := rfl
theorem seqK2 {d} : seqK s2 (.ok (.rn d) Γ) = .ok (.rn d) Γ := rfl
theorem seqK3 : seqK s2 (.ok .br Γ) = .ok .br Γ := rfl
theorem seqK4 : seqK s2 (.ok .ct Γ) = .ok .ct Γ := rfl
theorem seqK5 {c ns fs} : seqK s2 (.exc c ns fs Γ) = .exc c ns fs Γ := rfl
theorem seqK6 : seqK s2 .fail = .fail := rfl
theorem nxS : nxS Γ = .ok .nx Γ := rfl
theorem brS : brS Γ = .ok .br Γ := rfl
theorem ctS : ctS Γ = .ok .ct Γ := rfl
theorem badS : badS Γ = .fail := rfl
theorem retN : retN Γ = .ok (.rt .non) Γ := rfl
theorem retS : retS f Γ = (f Γ).bind finR := rfl
theorem retV : retV vf Γ = (vf Γ).bind finRV := rfl
theorem finRVe {ev} : finRV (.e ev) Γ = FL.finR ev Γ := rfl
theorem finRVn {o} : finRV (.n o) Γ = .ok (.rn o) Γ := rfl
theorem finR {ev} : FL.finR ev Γ = rtK (frz1 ev Γ) := by unfold FL.finR rtK; rcases frz1 ev Γ with _ | ⟨x, Γ'⟩ <;> rfl
theorem rtK1 {x} : rtK (some (x, Γ)) = .ok (.rt x) Γ := rfl
theorem givV : givV f Γ = (f Γ).bind giv := rfl
theorem givd {x} : giv (.d x) Γ = .ok (.e (.d x)) Γ := rfl
theorem givo {i} : giv (.own i) Γ = (match Γ[i]? with | some (.acc o) => .ok (.n o) (Γ.set i .no) | _ => .ok (.e (.own i)) Γ) := rfl
theorem exprS : exprS f Γ = (f Γ).bind fun _ Γ1 => .ok .nx Γ1 := rfl
theorem ifS : FL.ifS t s1 s2 Γ = (t Γ).bind (ifK s1 s2) := rfl
theorem ifK1 : ifK s1 s2 true Γ = s1 Γ := rfl
theorem ifK0 : ifK s1 s2 false Γ = s2 Γ := rfl
theorem asgV {i} : asgV i vf Γ = (vf Γ).bind (stoV i) := rfl
theorem stoVe {i ev} : stoV i (.e ev) Γ = stK i (frz1 ev Γ) := by unfold FL.stoV stK; show (match frz1 ev Γ with | some (d, Γ') => (if FL.isBor Γ' i = false then (O.ok Fl.nx (Γ'.set i (.im d)) : O Fl) else O.fail) | none => O.fail) = _; rcases frz1 ev Γ with _ | ⟨x, Γ'⟩ <;> rfl
theorem stK1 {i d} : stK i (some (d, Γ)) = if FL.isBor Γ i = false then .ok .nx (Γ.set i (.im d)) else .fail := rfl
theorem stoVn {i o} : stoV i (.n o) Γ = if isBor Γ i = false then .ok .nx (Γ.set i (.acc o)) else .fail := rfl
theorem asgB : asgB bf f Γ = (f Γ).bind (stoB bf) := rfl
theorem stoB {ev} : FL.stoB bf ev Γ = sbK bf (frz1 ev Γ) := by unfold FL.stoB sbK; rcases frz1 ev Γ with _ | ⟨x, Γ'⟩ <;> rfl
theorem sbK1 {d} : sbK bf (some (d, Γ)) = nxK (bf d Γ) := rfl
theorem nxK1 : nxK (some Γ) = .ok .nx Γ := rfl
theorem bName {i d} : bName i d Γ = if isBor Γ i = false then some (Γ.set i (.im d)) else none := rfl
theorem bSub {i k d} : bSub i k d Γ = finSet i d k Γ := rfl
theorem bNil : bNil [] Γ = some Γ := rfl
theorem bCons {b r d ds} : bCons b r (d :: ds) Γ = (b d Γ).bind fun Γ1 => r ds Γ1 := rfl
theorem bSeqT {n bs ds} : bSeq n bs (.tup ds) Γ = if ds.length = n then bs ds Γ else none := rfl
theorem bSeqL {n bs ds} : bSeq n bs (.lst ds) Γ = if ds.length = n then bs ds Γ else none := rfl
theorem finSet {i d k} : finSet i d k Γ = (match ownD Γ i with | some (.l xs) => (ixN xs.length k).map fun j => putOwn Γ i (.l (xs.set j d)) | _ => none) := rfl
theorem ownD {i} : ownD Γ i = (match Γ[i]? with | some (.acc o) => some o | some (.bor o) => some o | _ => none) := rfl
theorem putOwn {i o} : putOwn Γ i o = (match Γ[i]? with | some (.acc _) => Γ.set i (.acc o) | some (.bor _) => Γ.set i (.bor o) | _ => Γ) := rfl
theorem appS {i} : appS i f Γ = if isOwnL Γ i then (f Γ).bind (finApp i) else .fail := rfl
theorem isOwnL {i} : isOwnL Γ i = (match FL.ownD Γ i with | some (.l _) => true | _ => false) := rfl
theorem finApp {i ev} : FL.finApp i ev Γ = apK i (frz1 ev Γ) := by unfold FL.finApp apK; rcases frz1 ev Γ with _ | ⟨x, Γ'⟩ <;> rfl
theorem apK1 {i d} : apK i (some (d, Γ)) = apL i d Γ (FL.ownD Γ i) := rfl
theorem apL1 {i d xs} : apL i d Γ (some (.l xs)) = if xs.length < sizeLine then .ok .nx (FL.putOwn Γ i (.l (xs ++ [d]))) else .fail := rfl
theorem cE {x} : cE x Γ = .ok (.d x) Γ := rfl
theorem vE {i} : vE i Γ = (match Γ[i]? with | some (.im x) => .ok (.d x) Γ | some (.acc _) => .ok (.own i) Γ | some (.bor _) => .ok (.own i) Γ | _ => .fail) := rfl
theorem lookd {x} : EV.look Γ (.d x) = some x := rfl
theorem looko {i} : EV.look Γ (.own i) = (FL.ownD Γ i).map OD.d := rfl
theorem odl {xs} : OD.d (.l xs) = .lst xs := rfl
theorem op2 {g} : op2 g f1 f2 Γ = (f1 Γ).bind fun e1 Γ1 => (f2 Γ1).bind fun e2 Γ2 => fin2 g e1 e2 Γ2 := rfl
theorem fin2 {g e1 e2} : FL.fin2 g e1 e2 Γ = oK Γ ((e1.look Γ).bind fun a => (e2.look Γ).bind (g a)) := by
  unfold FL.fin2 oK
  cases e1.look Γ with
  | none => rfl
  | some a => cases e2.look Γ <;> rfl
theorem oK1 {x} : oK Γ (some x) = .ok (.d x) Γ := rfl
theorem oK0 : oK Γ none = .fail := rfl
theorem addV : addV f1 f2 Γ = (f1 Γ).bind fun e1 Γ1 => (f2 Γ1).bind (addV2 e1) := rfl
theorem opN {g} : opN g r Γ = (r Γ).bind (finN g) := rfl
theorem finN {g es} : FL.finN g es Γ = oK Γ ((looks Γ es).bind g) := by unfold FL.finN oK; cases looks Γ es <;> rfl
theorem looks0 : looks Γ [] = some [] := rfl
theorem looks1 {e es} : looks Γ (e :: es) = (e.look Γ).bind fun x => (looks Γ es).bind fun xs => some (x :: xs) := rfl
theorem one {g x} : one g [x] = g x := rfl
theorem two {g x y} : two g [x, y] = g x y := rfl
theorem aNil : aNil Γ = .ok [] Γ := rfl
theorem aCons : aCons f r Γ = (f Γ).bind fun e Γ1 => (r Γ1).bind fun es Γ2 => .ok (e :: es) Γ2 := rfl
theorem frzd {x} : frz1 (.d x) Γ = some (x, Γ) := rfl
theorem frzo {i} : frz1 (.own i) Γ = (match Γ[i]? with | some (.acc o) => some (o.d, Γ.set i (.im o.d)) | some (.im x) => some (x, Γ) | _ => none) := rfl
theorem frzs0 : frzs [] Γ = some ([], Γ) := rfl
theorem frzs1 {e es} : frzs (e :: es) Γ = (frz1 e Γ).bind fun p => (frzs es p.2).bind fun q => some (p.1 :: q.1, q.2) := rfl
theorem frzsD : ∀ {ds : List D}, frzs (ds.map EV.d) Γ = some (ds, Γ)
  | [] => rfl
  | d :: ds => by
    show (frzs (ds.map EV.d) Γ).bind _ = _
    rw [frzsD]; rfl
theorem tstE : tstE f Γ = (f Γ).bind asB := rfl
theorem asB {k} : asB (.d (.bl k)) Γ = .ok k Γ := rfl
theorem andT : FL.andT t1 t2 Γ = (t1 Γ).bind (andK t2) := rfl
theorem andK1 : andK t2 true Γ = t2 Γ := rfl
theorem andK0 : andK t2 false Γ = .ok false Γ := rfl
theorem orT : FL.orT t1 t2 Γ = (t1 Γ).bind (orK t2) := rfl
theorem orK1 : orK t2 true Γ = .ok true Γ := rfl
theorem orK0 : orK t2 false Γ = t2 Γ := rfl
theorem notT : notT t Γ = (t Γ).bind fun k Γ1 => .ok (!k) Γ1 := rfl
theorem ifE : FL.ifE t f1 f2 Γ = (t Γ).bind (ifEK f1 f2) := rfl
theorem ifEK1 : ifEK f1 f2 true Γ = f1 Γ := rfl
theorem ifEK0 : ifEK f1 f2 false Γ = f2 Γ := rfl
theorem vE' : FL.vE' f Γ = veK (f Γ) := rfl
theorem veK1 {ev} : veK (.ok ev Γ) = .ok (.e ev) Γ := rfl
theorem veK2 {c ns fs} : veK (.exc c ns fs Γ) = .exc c ns fs Γ := rfl
theorem telV : FL.telV vf Γ = teK (vf Γ) := rfl
theorem teK1 {ev} : teK (.ok (.e ev) Γ) = .ok ev Γ := rfl
theorem teK2 {o} : teK (.ok (.n o) Γ) = .ok (.d o.d) Γ := rfl
theorem teK3 {c ns fs} : teK (.exc c ns fs Γ) = .exc c ns fs Γ := rfl
theorem bindO {α β : Type} {a : α} {k : α → En → O β} : (O.ok a Γ).bind k = k a Γ := rfl
theorem bindX {α β : Type} {c ns fs} {k : α → En → O β} : (O.exc c ns fs Γ : O α).bind k = .exc c ns fs Γ := rfl
theorem bindF {α β : Type} {k : α → En → O β} : (O.fail : O α).bind k = .fail := rfl
theorem tupE : tupE r Γ = (r Γ).bind (finT .tup) := rfl
theorem lstE : lstE r Γ = (r Γ).bind (finT .lst) := rfl
theorem finT {mk es} : finT mk es Γ = (match frzs es Γ with | some (xs, Γ') => if xs.length ≤ sizeLine then .ok (.d (mk xs)) Γ' else .fail | none => .fail) := rfl
theorem lstN : lstN r Γ = (r Γ).bind finL := rfl
theorem finL {es} : finL es Γ = (match frzs es Γ with | some (xs, Γ') => if xs.length ≤ sizeLine then .ok (.n (.l xs)) Γ' else .fail | none => .fail) := rfl
theorem slE {l h : OF} : slE f l h Γ = (f Γ).bind fun ev Γ1 => (l Γ1).bind fun lo Γ2 => (h Γ2).bind fun hi Γ3 => fin3 ev lo hi Γ3 := rfl
theorem fin3 {ev lo hi} : FL.fin3 ev lo hi Γ = oK Γ ((ev.look Γ).bind (cutD lo hi)) := rfl
theorem oNo : oNo Γ = .ok none Γ := rfl
theorem oSome : oSome f Γ = (f Γ).bind asI := rfl
theorem asI {i} : asI (.d (.int i)) Γ = .ok (some i) Γ := rfl
theorem isiE {g} : isiE g f Γ = (f Γ).bind (finI g) := rfl
theorem finI {g ev} : FL.finI g ev Γ = bK Γ ((ev.look Γ).bind g) := rfl
theorem bK1 {k} : bK Γ (some k) = .ok (.d (.bl k)) Γ := rfl
theorem callV {b n Fn dd} : callV b n Fn dd u Γ = (u Γ).bind fun es Γ1 => if es.length = n then finCall b Fn dd es Γ1 else .fail := rfl
theorem finCall {b Fn dd es} : FL.finCall b Fn dd es Γ = prK Fn dd (prep b es Γ) := by
  unfold FL.finCall prK
  rcases prep b es Γ with _ | ⟨ds, Γ1, l⟩
  · rfl
  · show _ = caK Γ1 l (Fn (ds ++ dd))
    unfold caK
    try dsimp only
    try (cases Fn (ds ++ dd) <;> rfl)
theorem prK1 {Fn dd ds l} : prK Fn dd (some (ds, Γ, l)) = caK Γ l (Fn (ds ++ dd)) := rfl
theorem caK1 {l d out} : caK Γ l (.ok d out) = .ok (.e (.d d)) (putL l out Γ) := rfl
theorem caK2 {l d out} : caK Γ l (.nw d out) = .ok (.n d) (putL l out Γ) := rfl
theorem caK3 {l c ns fs out} : caK Γ l (.exc c ns fs out) = .exc c ns fs (putL l out Γ) := rfl
theorem callK {b n m np pm Fn dd} : callK b n m np pm Fn dd u uk Γ = (u Γ).bind fun es Γ1 => (uk Γ1).bind fun zs Γ2 =>
  if es.length = n ∧ zs.length = m ∧ (pick pm (es ++ (zs ++ dd.map EV.d))).length = np then FL.finCall b Fn [] (pick pm (es ++ (zs ++ dd.map EV.d))) Γ2 else .fail := rfl
theorem prep0 {es} : prep none es Γ = (frzs es Γ).map fun p => (p.1, p.2, none) := rfl
theorem prep1 {i es} : prep (some i) es Γ = (match es[i]? with
    | some (.own j) => (frzs (es.set i (.d .non)) Γ).bind fun p => (FL.ownD p.2 j).map fun o => (p.1.set i o.d, p.2, some j)
    | _ => none) := rfl
theorem putL0 {out} : putL none out Γ = Γ := rfl
theorem putL1 {j o} : putL (some j) (some o) Γ = FL.putOwn Γ j o := rfl
theorem runF {b n s ds} : FL.runF b n s ds = ruK b s (startG b n ds) := by
  unfold FL.runF ruK
  cases startG b n ds <;> rfl
theorem ruK1 {b s} : ruK b s (some Γ) = fiK b (s Γ) := rfl
theorem fiK1 {b} : fiK b (.ok .nx Γ) = .ok .non (outOf b Γ) := rfl
theorem fiK2 {b d} : fiK b (.ok (.rt d) Γ) = .ok d (outOf b Γ) := rfl
theorem fiK3 {b d} : fiK b (.ok (.rn d) Γ) = .nw d (outOf b Γ) := rfl
theorem fiK4 {b c ns fs} : fiK b (.exc c ns fs Γ) = .exc c ns fs (outOf b Γ) := rfl
theorem startG0 {n ds} : startG none n ds = some (ds.map Sl.im ++ List.replicate (n - ds.length) Sl.no) := rfl
theorem startG1 {i n ds} : startG (some i) n ds = (ds[i]?.bind D.od).map fun o => (ds.map Sl.im ++ List.replicate (n - ds.length) Sl.no).set i (.bor o) := rfl
theorem odlst {xs} : D.od (.lst xs) = some (.l xs) := rfl
theorem out0 : outOf none Γ = none := rfl
theorem out1 {i} : outOf (some i) Γ = FL.ownD Γ i := rfl
theorem forS {it body} : forS it bf body Γ = (it Γ).bind (loopS bf body) := rfl
theorem parS {is} {vf : VAF} : parS is vf Γ = (vf Γ).bind (stoP is) := rfl
theorem vNil : vNil Γ = .ok [] Γ := rfl
theorem vCons {r : VAF} : vCons vf r Γ = (vf Γ).bind fun x Γ1 => (r Γ1).bind fun xs Γ2 => .ok (x :: xs) Γ2 := rfl
theorem anyI : anyI f Γ = (f Γ).bind itA := rfl
theorem getL {xs : List D} {i : Int} : FL.getD (.lst xs) (.int i) = L2.atI xs i := rfl
theorem getT {xs : List D} {i : Int} : FL.getD (.tup xs) (.int i) = L2.atI xs i := rfl
theorem getC {xs : List Int} {i : Int} : FL.getD (.scr xs) (.int i) = (L2.atI xs i).map D.int := rfl
theorem atI {α : Type} {xs : List α} {k : Nat} : L2.atI xs (k : Int) = xs[k]? := by
  unfold L2.atI L2.ixN
  rw [if_pos (Int.natCast_nonneg k)]
  by_cases h : k < xs.length
  · rw [if_pos (by omega)]; simp
  · rw [if_neg (by omega), List.getElem?_eq_none (by omega)]; rfl
theorem atI0 {α : Type} {xs : List α} : L2.atI xs 0 = xs[0]? := atI (k := 0)
theorem atI1 {α : Type} {xs : List α} : L2.atI xs 1 = xs[1]? := atI (k := 1)
theorem atI2 {α : Type} {xs : List α} : L2.atI xs 2 = xs[2]? := atI (k := 2)
theorem andE : FL.andE f1 f2 Γ = (FL.tstE f1 Γ).bind (andEK f2) := rfl
theorem andEK1 : andEK f2 true Γ = f2 Γ := rfl
theorem andEK0 : andEK f2 false Γ = .ok (.d (.bl false)) Γ := rfl
theorem orE : FL.orE f1 f2 Γ = (FL.tstE f1 Γ).bind (orEK f2) := rfl
theorem orEK1 : orEK f2 true Γ = .ok (.d (.bl true)) Γ := rfl
theorem orEK0 : orEK f2 false Γ = f2 Γ := rfl
theorem notE : notE f Γ = (FL.tstE f Γ).bind fun k Γ1 => .ok (.d (.bl (!k))) Γ1 := rfl
theorem chnE {g g'} : chnE g g' f1 f2 f3 Γ = (f1 Γ).bind fun e1 Γ1 => (f2 Γ1).bind fun e2 Γ2 => chn3 g g' f3 e1 e2 Γ2 := rfl
theorem chn3 {g g' e1 e2} : FL.chn3 g g' f3 e1 e2 Γ = ((FL.fin2 g e1 e2 Γ).bind FL.asB).bind fun k Γ2 => if k then (f3 Γ2).bind fun e3 Γ3 => FL.fin2 g' e2 e3 Γ3 else .ok (.d (.bl false)) Γ2 := rfl
theorem lenL {xs} : lenD (.lst xs) = some (.int xs.length) := rfl
theorem lenT {xs} : lenD (.tup xs) = some (.int xs.length) := rfl
theorem lenC {xs} : lenD (.scr xs) = some (.int xs.length) := rfl
theorem lenS {x : Str} : lenD (.str x) = if x.length ≤ sizeLine then some (.int x.length) else none := rfl
theorem isSS {x} : isB "str" (.str x) = some true := rfl
theorem isST {x} : isB "str" (.tup x) = some false := rfl
theorem isTT {x} : isB "tuple" (.tup x) = some true := rfl
theorem eqS {x y} : eqD (.str x) (.str y) = some (.bl (decide (x = y))) := rfl
theorem neS {x y} : neD (.str x) (.str y) = some (.bl (!decide (x = y))) := rfl
theorem isN0 : isND .non .non = some (.bl true) := rfl
theorem isNT {x} : isND (.tup x) .non = some (.bl false) := rfl
theorem isNS {x} : isND (.str x) .non = some (.bl false) := rfl
theorem notN0 : notND .non .non = some (.bl false) := rfl
theorem notNT {x} : notND (.tup x) .non = some (.bl true) := rfl
theorem m1E {g fo fa} : m1E g fo fa Γ = (fo Γ).bind fun eo Γ1 => if isStr eo then (fa Γ1).bind fun ea Γ2 => FL.fin2 g eo ea Γ2 else .fail := rfl
theorem isStrS {x} : isStr (.d (.str x)) = true := rfl
theorem aStar : aStar f r Γ = (f Γ).bind fun e Γ1 => (starI e Γ1).bind fun xs Γ1' => (r Γ1').bind fun es Γ2 => .ok (xs ++ es) Γ2 := rfl
theorem starT {xs} : starI (.d (.tup xs)) Γ = .ok (xs.map EV.d) Γ := rfl
theorem starL {xs} : starI (.d (.lst xs)) Γ = .ok (xs.map EV.d) Γ := rfl
theorem itT {xs} : itA (.d (.tup xs)) Γ = .ok xs Γ := rfl
theorem itC {xs : List Int} : itA (.d (.scr xs)) Γ = .ok (xs.map D.int) Γ := rfl
theorem itS {x : Str} : itA (.d (.str x)) Γ = .ok (x.cps.toList.map fun c => D.str ⟨#[c]⟩) Γ := rfl
theorem itL {xs} : itA (.d (.lst xs)) Γ = .ok xs Γ := rfl
theorem itR1 {j : Int} (h0 : 0 ≤ j) (h1 : j ≤ 1000000) : FL.itR1 [.d (.int j)] Γ = .ok ((List.range j.toNat).map fun i => D.int (0 + (i : Nat))) Γ := by
  unfold FL.itR1
  exact if_pos ⟨by omega, by omega⟩
theorem rng1 : rng1 u Γ = (u Γ).bind FL.itR1 := rfl
theorem rng2 : rng2 u Γ = (u Γ).bind FL.itR2 := rfl
theorem tupL {xs} : tupD (.lst xs) = some (.tup xs) := rfl
theorem tupT {xs} : tupD (.tup xs) = some (.tup xs) := rfl
theorem addT {xs ys} : addD (.tup xs) (.tup ys) = if xs.length + ys.length ≤ sizeLine then some (.tup (xs ++ ys)) else none := rfl
theorem addS {x y : Str} : addD (.str x) (.str y) = if x.length + y.length ≤ sizeLine then some (.str (x ++ y)) else none := rfl
theorem addL {xs ys} : addD (.lst xs) (.lst ys) = if xs.length + ys.length ≤ sizeLine then some (.lst (xs ++ ys)) else none := rfl
theorem addV2I {i j} : addV2 (.d (.int i)) (.d (.int j)) Γ = .ok (.e (.d (.int (i + j)))) Γ := rfl
theorem addV2S {x y : Str} : addV2 (.d (.str x)) (.d (.str y)) Γ = (match addD (.str x) (.str y) with | some x => .ok (.e (.d x)) Γ | none => .fail) := rfl
theorem addV2T {x y} : addV2 (.d (.tup x)) (.d (.tup y)) Γ = (match addD (.tup x) (.tup y) with | some x => .ok (.e (.d x)) Γ | none => .fail) := rfl
theorem cutT {xs lo hi} : cutD lo hi (.tup xs) = some (.tup (cutL xs lo hi)) := rfl
theorem cutLL {xs lo hi} : cutD lo hi (.lst xs) = some (.lst (cutL xs lo hi)) := rfl
theorem sz0 : (0 ≤ sizeLine) = True := eq_true (by decide)
theorem sz1 : (1 ≤ sizeLine) = True := eq_true (by decide)
theorem sz2 : (2 ≤ sizeLine) = True := eq_true (by decide)
theorem sz3 : (3 ≤ sizeLine) = True := eq_true (by decide)
theorem sz4 : (4 ≤ sizeLine) = True := eq_true (by decide)
theorem sz5 : (5 ≤ sizeLine) = True := eq_true (by decide)
theorem sz6 : (6 ≤ sizeLine) = True := eq_true (by decide)
theorem sz7 : (7 ≤ sizeLine) = True := eq_true (by decide)
theorem sz8 : (8 ≤ sizeLine) = True := eq_true (by decide)
theorem sz9 : (9 ≤ sizeLine) = True := eq_true (by decide)
theorem sz10 : (10 ≤ sizeLine) = True := eq_true (by decide)
theorem sz11 : (11 ≤ sizeLine) = True := eq_true (by decide)
theorem sz12 : (12 ≤ sizeLine) = True := eq_true (by decide)
theorem sz13 : (13 ≤ sizeLine) = True := eq_true (by decide)
theorem sz14 : (14 ≤ sizeLine) = True := eq_true (by decide)
theorem sz15 : (15 ≤ sizeLine) = True := eq_true (by decide)
theorem sz16 : (16 ≤ sizeLine) = True := eq_true (by decide)
theorem sz17 : (17 ≤ sizeLine) = True := eq_true (by decide)
theorem sz18 : (18 ≤ sizeLine) = True := eq_true (by decide)
theorem sz19 : (19 ≤ sizeLine) = True := eq_true (by decide)
theorem sz20 : (20 ≤ sizeLine) = True := eq_true (by decide)
theorem sz21 : (21 ≤ sizeLine) = True := eq_true (by decide)
theorem sz22 : (22 ≤ sizeLine) = True := eq_true (by decide)
theorem sz23 : (23 ≤ sizeLine) = True := eq_true (by decide)
theorem sz24 : (24 ≤ sizeLine) = True := eq_true (by decide)
theorem sz25 : (25 ≤ sizeLine) = True := eq_true (by decide)
theorem sz26 : (26 ≤ sizeLine) = True := eq_true (by decide)
theorem sz27 : (27 ≤ sizeLine) = True := eq_true (by decide)
theorem sz28 : (28 ≤ sizeLine) = True := eq_true (by decide)
theorem sz29 : (29 ≤ sizeLine) = True := eq_true (by decide)
theorem sz30 : (30 ≤ sizeLine) = True := eq_true (by decide)
theorem sz31 : (31 ≤ sizeLine) = True := eq_true (by decide)
theorem sz32 : (32 ≤ sizeLine) = True := eq_true (by decide)
theorem sz33 : (33 ≤ sizeLine) = True := eq_true (by decide)
theorem sz34 : (34 ≤ sizeLine) = True := eq_true (by decide)
theorem sz35 : (35 ≤ sizeLine) = True := eq_true (by decide)
theorem sz36 : (36 ≤ sizeLine) = True := eq_true (by decide)
theorem sz37 : (37 ≤ sizeLine) = True := eq_true (by decide)
theorem sz38 : (38 ≤ sizeLine) = True := eq_true (by decide)
theorem sz39 : (39 ≤ sizeLine) = True := eq_true (by decide)
theorem sz40 : (40 ≤ sizeLine) = True := eq_true (by decide)
theorem sz41 : (41 ≤ sizeLine) = True := eq_true (by decide)
theorem sz42 : (42 ≤ sizeLine) = True := eq_true (by decide)
theorem sz43 : (43 ≤ sizeLine) = True := eq_true (by decide)
theorem sz44 : (44 ≤ sizeLine) = True := eq_true (by decide)
theorem sz45 : (45 ≤ sizeLine) = True := eq_true (by decide)
theorem ix30 : L2.ixN 3 0 = some 0 := rfl
theorem ix31 : L2.ixN 3 1 = some 1 := rfl
theorem ix32 : L2.ixN 3 2 = some 2 := rfl
theorem addI {i j} : addD (.int i) (.int j) = some (.int (i + j)) := rfl
theorem subI {i j} : subD (.int i) (.int j) = some (.int (i - j)) := rfl
theorem ltI {i j} : ltD (.int i) (.int j) = some (.bl (decide (i < j))) := rfl
theorem leI {i j} : leD (.int i) (.int j) = some (.bl (decide (i ≤ j))) := rfl
theorem gtI {i j} : gtD (.int i) (.int j) = some (.bl (decide (j < i))) := rfl
theorem geI {i j} : geD (.int i) (.int j) = some (.bl (decide (j ≤ i))) := rfl
theorem intI {i} : intC (.int i) = some (.int i) := rfl
theorem mulI {i j} : mulD (.int i) (.int j) = if (-(2 ^ 64) < i ∧ i < 2 ^ 64) ∨ (-(2 ^ 64) < j ∧ j < 2 ^ 64) then some (.int (i * j)) else none := rfl
theorem modI {i j} : modD (.int i) (.int j) = if decide (0 < j) = true then some (.int (i % j)) else none := rfl
theorem fdivI {i j} : fdivD (.int i) (.int j) = if decide (0 < j ∧ j < 1073741824) = true then some (.int (i / j)) else none := rfl
theorem dmI {i j} : dmD (.int i) (.int j) = if decide (0 < j ∧ j < 1073741824) = true then some (.tup [.int (i / j), .int (i % j)]) else none := rfl
theorem isBz {x : Sl} : FL.isBor (x :: Γ) 0 = x.isB := by cases x <;> rfl
theorem isBs {x : Sl} {n : Nat} : FL.isBor (x :: Γ) (n + 1) = FL.isBor Γ n := by unfold FL.isBor; rw [List.getElem?_cons_succ]
theorem isB0 : Sl.isB .no = false := rfl
theorem isB1 {d} : Sl.isB (.im d) = false := rfl
theorem isB2 {o} : Sl.isB (.acc o) = false := rfl
theorem isB3 {o} : Sl.isB (.bor o) = true := rfl
theorem itAo {i} : itA (.own i) Γ = FL.itL (.own i) Γ := rfl
theorem itLe {ev} : FL.itL ev Γ = (match frz1 ev Γ with | some (.lst ds, Γ') => .ok ds Γ' | _ => .fail) := rfl
theorem stoP0 : stoP [] [] Γ = .ok .nx Γ := rfl
theorem stoP1 {i is x xs} : stoP (i :: is) (x :: xs) Γ = if offOwn i xs then FL.seqS (stoV i x) (stoP is xs) Γ else .fail := rfl
theorem offOwn0 {i} : offOwn i [] = true := rfl
theorem offOwnd {i d xs} : offOwn i (.e (.d d) :: xs) = offOwn i xs := rfl
theorem offOwnn {i o xs} : offOwn i (.n o :: xs) = offOwn i xs := rfl
theorem maxI {i j} : maxD (.int i) (.int j) = some (.int (if j > i then j else i)) := rfl
theorem minI {i j} : minD (.int i) (.int j) = some (.int (if j < i then j else i)) := rfl
theorem absI {i} : absD (.int i) = some (.int (if i < 0 then -i else i)) := rfl
theorem call1V {b Fn dd} : FL.call1V b Fn dd vf Γ = (vf Γ).bind (finCallN b Fn dd) := rfl
theorem finCallN0 {Fn dd o} : finCallN (some 0) Fn dd (.n o) Γ = cnK Γ (Fn (o.d :: dd)) := rfl
theorem cnK1 {d out} : cnK Γ (.ok d out) = .ok (.e (.d d)) Γ := rfl
theorem cnK2 {o out} : cnK Γ (.nw o out) = .ok (.n o) Γ := rfl
theorem cnK3 {c ns fs out} : cnK Γ (.exc c ns fs out) = .exc c ns fs Γ := rfl
theorem wipe0 : wipeΓ Γ [] = Γ := rfl
theorem wipe1 {v vs} : wipeΓ Γ (v :: vs) = (wipeΓ Γ vs).set v .no := rfl
theorem addV2L {x y : List D} : addV2 (.d (.lst x)) (.d (.lst y)) Γ = if x.length + y.length ≤ sizeLine then .ok (.n (.l (x ++ y))) Γ else .fail := rfl
theorem pick0 {α : Type} {xs : List α} : pick [] xs = [] := rfl
theorem pick1 {α : Type} {i : Nat} {pm : List Nat} {xs : List α} : pick (i :: pm) xs = (match xs[i]? with | some x => x :: pick pm xs | none => pick pm xs) := by
  unfold pick
  rw [List.filterMap_cons]
  cases xs[i]? <;> rfl
theorem addV2own {i ys} : addV2 (.own i) (.d (.lst ys)) Γ = (match FL.ownD Γ i with | some (.l xs) => if xs.length + ys.length ≤ sizeLine then .ok (.n (.l (xs ++ ys))) Γ else .fail | _ => .fail) := by
  unfold addV2
  rw [looko, lookd]
  cases h : FL.ownD Γ i with
  | none => rfl
  | some o => cases o <;> rfl
theorem sl0 : (0 < sizeLine) = True := eq_true (by decide)
theorem sl1 : (1 < sizeLine) = True := eq_true (by decide)
theorem sl2 : (2 < sizeLine) = True := eq_true (by decide)
theorem sl3 : (3 < sizeLine) = True := eq_true (by decide)
theorem sl4 : (4 < sizeLine) = True := eq_true (by decide)
theorem sl5 : (5 < sizeLine) = True := eq_true (by decide)
theorem sl6 : (6 < sizeLine) = True := eq_true (by decide)
theorem sl7 : (7 < sizeLine) = True := eq_true (by decide)
theorem sl8 : (8 < sizeLine) = True := eq_true (by decide)
theorem sl9 : (9 < sizeLine) = True := eq_true (by decide)
theorem sl10 : (10 < sizeLine) = True := eq_true (by decide)
theorem sl11 : (11 < sizeLine) = True := eq_true (by decide)
theorem sl12 : (12 < sizeLine) = True := eq_true (by decide)
theorem sl13 : (13 < sizeLine) = True := eq_true (by decide)
theorem sl14 : (14 < sizeLine) = True := eq_true (by decide)
theorem sl15 : (15 < sizeLine) = True := eq_true (by decide)
theorem sl16 : (16 < sizeLine) = True := eq_true (by decide)
theorem sl17 : (17 < sizeLine) = True := eq_true (by decide)
theorem sl18 : (18 < sizeLine) = True := eq_true (by decide)
theorem sl19 : (19 < sizeLine) = True := eq_true (by decide)
theorem sl20 : (20 < sizeLine) = True := eq_true (by decide)
theorem sl21 : (21 < sizeLine) = True := eq_true (by decide)
theorem sl22 : (22 < sizeLine) = True := eq_true (by decide)
theorem sl23 : (23 < sizeLine) = True := eq_true (by decide)
theorem sl24 : (24 < sizeLine) = True := eq_true (by decide)
theorem sl25 : (25 < sizeLine) = True := eq_true (by decide)
theorem sl26 : (26 < sizeLine) = True := eq_true (by decide)
theorem sl27 : (27 < sizeLine) = True := eq_true (by decide)
theorem sl28 : (28 < sizeLine) = True := eq_true (by decide)
theorem sl29 : (29 < sizeLine) = True := eq_true (by decide)
theorem eqI {i j : Int} : eqD (.int i) (.int j) = some (.bl (decide (i = j))) := rfl
theorem neI {i j : Int} : neD (.int i) (.int j) = some (.bl (!decide (i = j))) := rfl
end Ev
end FL
namespace FL
open PySem PySem.Spec PyProof.Rows L2
def Ev.all := (And.intro @Ev.seqS (And.intro @Ev.seqK0 (And.intro @Ev.seqK1 (And.intro @Ev.seqK2 (And.intro @Ev.seqK3 (And.intro @Ev.seqK4 (And.intro @Ev.seqK5 (And.intro @Ev.seqK6 (And.intro @Ev.nxS (And.intro @Ev.brS (And.intro @Ev.ctS (And.intro @Ev.badS (And.intro @Ev.retN (And.intro @Ev.retS (And.intro @Ev.retV (And.intro @Ev.finRVe (And.intro @Ev.finRVn (And.intro @Ev.finR (And.intro @Ev.rtK1 (And.intro @Ev.givV (And.intro @Ev.givd (And.intro @Ev.givo (And.intro @Ev.exprS (And.intro @Ev.ifS (And.intro @Ev.ifK1 (And.intro @Ev.ifK0 (And.intro @Ev.asgV (And.intro @Ev.stoVe (And.intro @Ev.stK1 (And.intro @Ev.stoVn (And.intro @Ev.asgB (And.intro @Ev.stoB (And.intro @Ev.sbK1 (And.intro @Ev.nxK1 (And.intro @Ev.bName (And.intro @Ev.bSub (And.intro @Ev.bNil (And.intro @Ev.bCons (And.intro @Ev.bSeqT (And.intro @Ev.bSeqL (And.intro @Ev.finSet (And.intro @Ev.ownD (And.intro @Ev.putOwn (And.intro @Ev.appS (And.intro @Ev.isOwnL (And.intro @Ev.finApp (And.intro @Ev.apK1 (And.intro @Ev.apL1 (And.intro @Ev.cE (And.intro @Ev.vE (And.intro @Ev.lookd (And.intro @Ev.looko (And.intro @Ev.odl (And.intro @Ev.op2 (And.intro @Ev.fin2 (And.intro @Ev.oK1 (And.intro @Ev.oK0 (And.intro @Ev.addV (And.intro @Ev.opN (And.intro @Ev.finN (And.intro @Ev.looks0 (And.intro @Ev.looks1 (And.intro @Ev.one (And.intro @Ev.two (And.intro @Ev.aNil (And.intro @Ev.aCons (And.intro @Ev.frzd (And.intro @Ev.frzo (And.intro @Ev.frzs0 (And.intro @Ev.frzs1 (And.intro @Ev.frzsD (And.intro @Ev.tstE (And.intro @Ev.asB (And.intro @Ev.andT (And.intro @Ev.andK1 (And.intro @Ev.andK0 (And.intro @Ev.orT (And.intro @Ev.orK1 (And.intro @Ev.orK0 (And.intro @Ev.notT (And.intro @Ev.ifE (And.intro @Ev.ifEK1 (And.intro @Ev.ifEK0 (And.intro @Ev.vE' (And.intro @Ev.veK1 (And.intro @Ev.veK2 (And.intro @Ev.telV (And.intro @Ev.teK1 (And.intro @Ev.teK2 (And.intro @Ev.teK3 (And.intro @Ev.bindO (And.intro @Ev.bindX (And.intro @Ev.bindF (And.intro @Ev.tupE (And.intro @Ev.lstE (And.intro @Ev.finT (And.intro @Ev.lstN (And.intro @Ev.finL (And.intro @Ev.slE (And.intro @Ev.fin3 (And.intro @Ev.oNo (And.intro @Ev.oSome (And.intro @Ev.asI (And.intro @Ev.isiE (And.intro @Ev.finI (And.intro @Ev.bK1 (And.intro @Ev.callV (And.intro @Ev.finCall (And.intro @Ev.prK1 (And.intro @Ev.caK1 (And.intro @Ev.caK2 (And.intro @Ev.caK3 (And.intro @Ev.callK (And.intro @Ev.prep0 (And.intro @Ev.prep1 (And.intro @Ev.putL0 (And.intro @Ev.putL1 (And.intro @Ev.runF (And.intro @Ev.ruK1 (And.intro @Ev.fiK1 (And.intro @Ev.fiK2 (And.intro @Ev.fiK3 (And.intro @Ev.fiK4 (And.intro @Ev.startG0 (And.intro @Ev.startG1 (And.intro @Ev.odlst (And.intro @Ev.out0 (And.intro @Ev.out1 (And.intro @Ev.parS (And.intro @Ev.vNil (And.intro @Ev.vCons (And.intro @Ev.anyI (And.intro @Ev.getL (And.intro @Ev.getT (And.intro @Ev.getC (And.intro @Ev.atI0 (And.intro @Ev.atI1 (And.intro @Ev.atI2 (And.intro @Ev.andE (And.intro @Ev.andEK1 (And.intro @Ev.andEK0 (And.intro @Ev.orE (And.intro @Ev.orEK1 (And.intro @Ev.orEK0 (And.intro @Ev.notE (And.intro @Ev.chnE (And.intro @Ev.chn3 (And.intro @Ev.lenL (And.intro @Ev.lenT (And.intro @Ev.lenC (And.intro @Ev.lenS (And.intro @Ev.isSS (And.intro @Ev.isST (And.intro @Ev.isTT (And.intro @Ev.eqS (And.intro @Ev.neS (And.intro @Ev.isN0 (And.intro @Ev.isNT (And.intro @Ev.isNS (And.intro @Ev.notN0 (And.intro @Ev.notNT (And.intro @Ev.m1E (And.intro @Ev.isStrS (And.intro @Ev.aStar (And.intro @Ev.starT (And.intro @Ev.starL (And.intro @Ev.itT (And.intro @Ev.itC (And.intro @Ev.itS (And.intro @Ev.itL (And.intro @Ev.rng1 (And.intro @Ev.rng2 (And.intro @Ev.tupL (And.intro @Ev.tupT (And.intro @Ev.addT (And.intro @Ev.addS (And.intro @Ev.addL (And.intro @Ev.addV2I (And.intro @Ev.addV2S (And.intro @Ev.addV2T (And.intro @Ev.cutT (And.intro @Ev.cutLL (And.intro @Ev.sz0 (And.intro @Ev.sz1 (And.intro @Ev.sz2 (And.intro @Ev.sz3 (And.intro @Ev.sz4 (And.intro @Ev.sz5 (And.intro @Ev.sz6 (And.intro @Ev.sz7 (And.intro @Ev.sz8 (And.intro @Ev.sz9 (And.intro @Ev.sz10 (And.intro @Ev.sz11 (And.intro @Ev.sz12 (And.intro @Ev.sz13 (And.intro @Ev.sz14 (And.intro @Ev.sz15 (And.intro @Ev.sz16 (And.intro @Ev.sz17 (And.intro @Ev.sz18 (And.intro @Ev.sz19 (And.intro @Ev.sz20 (And.intro @Ev.sz21 (And.intro @Ev.sz22 (And.intro @Ev.sz23 (And.intro @Ev.sz24 (And.intro @Ev.sz25 (And.intro @Ev.sz26 (And.intro @Ev.sz27 (And.intro @Ev.sz28 (And.intro @Ev.sz29 (And.intro @Ev.sz30 (And.intro @Ev.sz31 (And.intro @Ev.sz32 (And.intro @Ev.sz33 (And.intro @Ev.sz34 (And.intro @Ev.sz35 (And.intro @Ev.sz36 (And.intro @Ev.sz37 (And.intro @Ev.sz38 (And.intro @Ev.sz39 (And.intro @Ev.sz40 (And.intro @Ev.sz41 (And.intro @Ev.sz42 (And.intro @Ev.sz43 (And.intro @Ev.sz44 (And.intro @Ev.sz45 (And.intro @Ev.ix30 (And.intro @Ev.ix31 (And.intro @Ev.ix32 (And.intro @Ev.addI (And.intro @Ev.subI (And.intro @Ev.ltI (And.intro @Ev.leI (And.intro @Ev.gtI (And.intro @Ev.geI (And.intro @Ev.intI (And.intro @Ev.mulI (And.intro @Ev.modI (And.intro @Ev.fdivI (And.intro @Ev.dmI (And.intro @Ev.isBz (And.intro @Ev.isBs (And.intro @Ev.isB0 (And.intro @Ev.isB1 (And.intro @Ev.isB2 (And.intro @Ev.isB3 (And.intro @Ev.itAo (And.intro @Ev.itLe (And.intro @Ev.stoP0 (And.intro @Ev.stoP1 (And.intro @Ev.offOwn0 (And.intro @Ev.offOwnd (And.intro @Ev.offOwnn (And.intro @Ev.maxI (And.intro @Ev.minI (And.intro @Ev.absI (And.intro @Ev.call1V (And.intro @Ev.finCallN0 (And.intro @Ev.cnK1 (And.intro @Ev.cnK2 (And.intro @Ev.cnK3 (And.intro @Ev.wipe0 (And.intro @Ev.wipe1 (And.intro @Ev.addV2L (And.intro @Ev.pick0 (And.intro @Ev.pick1 (And.intro @Ev.addV2own (And.intro @Ev.sl0 (And.intro @Ev.sl1 (And.intro @Ev.sl2 (And.intro @Ev.sl3 (And.intro @Ev.sl4 (And.intro @Ev.sl5 (And.intro @Ev.sl6 (And.intro @Ev.sl7 (And.intro @Ev.sl8 (And.intro @Ev.sl9 (And.intro @Ev.sl10 (And.intro @Ev.sl11 (And.intro @Ev.sl12 (And.intro @Ev.sl13 (And.intro @Ev.sl14 (And.intro @Ev.sl15 (And.intro @Ev.sl16 (And.intro @Ev.sl17 (And.intro @Ev.sl18 (And.intro @Ev.sl19 (And.intro @Ev.sl20 (And.intro @Ev.sl21 (And.intro @Ev.sl22 (And.intro @Ev.sl23 (And.intro @Ev.sl24 (And.intro @Ev.sl25 (And.intro @Ev.sl26 (And.intro @Ev.sl27 (And.intro @Ev.sl28 (And.intro @Ev.sl29 (And.intro @Ev.eqI @Ev.neI))))))))))))))))))))))))))))))))))))))))))))))))))))))))))))))))))))))))))))))))))))))))))))))))))))))))))))))))))))))))))))))))))))))))))))))))))))))))))))))))))))))))))))))))))))))))))))))))))))))))))))))))))))))))))))))))))))))))))))))))))))))))))))))))))))))))))))))))))))))))))))))))))))))))))))
end FL
namespace FL
open PySem PySem.Spec PyProof.Rows L2
section
variable [Wrl] [Tabl]
variable {X : Cx} {W : WX} {e a b c o tg iter : Expr} {f g f1 f2 f3 fo fa : EF} {pos apos kpos p : Pos} {es : List Expr}
def isLst (ev : EV) (Γ : En) : Bool := match ev.look Γ with
  | some (.lst _) => true
  | _ => false
def m1L (g : D → D → Option D) (fo fa : EF) : EF := fun Γ => (fo Γ).bind fun eo Γ1 => if isLst eo Γ1 then (fa Γ1).bind fun ea Γ2 => fin2 g eo ea Γ2 else .fail
def lmK (g : D → D → Option D) (fa : EF) (eo : EV) (Γ1 : En) : O EV := if isLst eo Γ1 then (fa Γ1).bind fun ea Γ2 => fin2 g eo ea Γ2 else .fail
end
namespace Ev
variable {Γ : En}
theorem m1L {g fo fa} : FL.m1L g fo fa Γ = (fo Γ).bind (lmK g fa) := rfl
theorem lmK1 {g fa eo} : lmK g fa eo Γ = if isLst eo Γ then (fa Γ).bind fun ea Γ2 => FL.fin2 g eo ea Γ2 else .fail := rfl
theorem isLstd {xs} : isLst (.d (.lst xs)) Γ = true := rfl
theorem isLsto {i} : isLst (.own i) Γ = (match FL.ownD Γ i with | some (.l _) => true | _ => false) := by
  unfold isLst
  rw [looko]
  cases FL.ownD Γ i with
  | none => rfl
  | some o => cases o <;> rfl
def all2 := And.intro @m1L (And.intro @lmK1 (And.intro @isLstd @isLsto))
end Ev
end FL
namespace FL
open PySem PySem.Spec PyProof.Rows L2
variable [Wrl] [Tabl]
variable {X : Cx} {W : WX} {e a b c o tg iter value : Expr} {f g f1 f2 f3 fo fa : EF} {pos pos' apos kpos p : Pos} {es : List Expr} {u uk : AF} {kws : List Keyword}
def maK (Γ1 : En) (r : Ro) : O VV := match r with
  | .ok .non (some o) => .ok (.n o) Γ1
  | .exc c ns fs _ => .exc c ns fs Γ1
  | _ => .fail
def finMake (Fn : DFn) (c : Str) (dd : List D) (es : List EV) (Γ : En) : O VV := match frzs es Γ with
  | none => .fail
  | some (ds, Γ1) => maK Γ1 (Fn (.ins c [] [] :: (ds ++ dd)))
theorem out_make {K : Frg} {F : Fr} {Γ : En} {σ : St} {H G : Hp} {Fn : DFn} {cn : Str} {dd : List D} {dvs : List V} {es : List EV} {vs : List V} (R : Rl K F Γ σ H G) (rs : vsrel K σ G es vs) (hd : ∀ G, Reps K G dd dvs) :
    OutV K W (vvrel K) F σ G (fun Q => ∀ x dx, H x = none → H dx = none → dx ≠ x → spF K (some 0) Fn (.ref x :: (vs ++ dvs)) (upd (upd H dx (.own x)) x (.ins (He.ga K cn) dx [])) (fun v H2 => v = .non ∧ Q (.ref x) H2) (fun cls d H' => W cls d σ H')) (finMake Fn cn dd es Γ) := by
  unfold finMake
  split
  · trivial
  · rename_i ds Γ1 e
    obtain ⟨G1, R1, le, rp⟩ := R.frzs rs e
    have core : ∀ x dx, H x = none → H dx = none → dx ≠ x → ∃ u : HO, Rl K F Γ1 σ (upd (upd H dx (.own x)) x u) G1 ∧ u = .ins (He.ga K cn) dx [] ∧ G1 x = none ∧ F.He x = none ∧ (F.bi = none ∨ x ≠ F.ba) ∧ (∀ j, ownAt Γ1 j → σ[j]? ≠ some (some (.ref x))) ∧
        ArgsAt K (some 0) G1 (upd (upd H dx (.own x)) x u) (.ins cn [] [] :: (ds ++ dd)) (.ref x :: (vs ++ dvs)) := fun x dx hx hdx ne => by
      have R2 := R1.newH (p := dx) (o := .own x) hdx
      have hx2 : upd H dx (.own x) x = none := by rw [upd_ne (Ne.symm ne)]; exact hx
      have ro : ORep K G1 x (.i cn [] []) (.ins (He.ga K cn) dx []) := ⟨dx, [], rfl, rfl, rfl⟩
      obtain ⟨R3, p, u, e1, h1, h2, h3, h4, h5, h6⟩ := R2.newN (p := x) (u := .ins (He.ga K cn) dx []) (o := .i cn [] []) hx2 ro
      cases e1
      refine ⟨_, R3, rfl, h2, h3, h4, h5, ⟨?_, fun i d v e1 e2 hb => ?_, fun i hi => ?_⟩⟩
      · rw [List.length_cons, List.length_cons, List.length_append, List.length_append, rp.len, (hd G1).len]
      · cases i with
        | zero => exact absurd rfl hb
        | succ i =>
          obtain ⟨v', k1, k2⟩ := (rp.append (hd G1)).getD (show (ds ++ dd)[i]? = some d by simpa using e1)
          rw [show (vs ++ dvs)[i]? = some v by simpa using e2] at k1
          cases k1
          exact k2
      · cases hi
        exact ⟨x, .i cn [] [], _, rfl, rfl, upd_same, h2, ro⟩
    have hl : ∀ x a', Lent (some 0) (V.ref x :: (vs ++ dvs)) a' → a' = x := fun x a' ⟨i, z, h⟩ => by cases z; cases h; rfl
    unfold maK
    split
    · rename_i o ef
      intro Q q x dx hx hdx ne
      obtain ⟨u, R3, rfl, h2, h3, h4, h5, A⟩ := core x dx hx hdx ne
      refine ⟨G1, _, R3.gh, R3.tb.t0, A, ?_⟩
      rw [ef]
      intro v H' G' Af rv
      refine ⟨rv, ?_⟩
      obtain ⟨k1, o', u', eo, k2, k3⟩ := Af.lent 0 x rfl rfl
      cases eo
      exact q _ H' G' (R3.aftN upd_same h3 h4 h5 (hl x) Af) (le.trans Af.le) ⟨x, u', rfl, k2, k1, h3, h4, h5, k3⟩
    · rename_i c ns fs out ef
      intro Q q x dx hx hdx ne
      obtain ⟨u, R3, rfl, h2, h3, h4, h5, A⟩ := core x dx hx hdx ne
      refine ⟨G1, _, R3.gh, R3.tb.t0, A, ?_⟩
      rw [ef]
      intro cls d H' G' Af xr
      exact q _ _ H' G' (R3.aftN upd_same h3 h4 h5 (hl x) Af) (le.trans Af.le) xr
    · trivial
section
variable {k n : Nat} {fa' C : Addr} {fd : FuncData} {ps ks : List Str} {sp : Sp} {dvs : List V} {ds : List Value} {x m cn fn : Str} {Fn : DFn} {dd : List D} {pm : List Nat}
theorem run_makeG {pins : List (Addr × Obj)} {σ : St} {H : Hp} {s : Shared} {Q : VK} {us : List Value} {vs : List V} (M : Mk X.K C fa') (F : FnG X.prog X.w X.K X.mg X.base (L2.CX X.prog X.w) k fa' fd ps sp) (hr : Room (k + 1) X.A) (hg : X.A.guards = some []) (hb : Binds X.K fd ps ds) (hd : Vals dvs ds)
    (tk : Takes X W) (I : Inv X pins σ H s) (r : Vals vs us)
    (h : ∀ x dx, H x = none → H dx = none → dx ≠ x → sp (.ref x :: (vs ++ dvs)) (upd (upd H dx (.own x)) x (.ins C dx [])) (fun v H2 => v = .non ∧ Q (.ref x) H2) (fun cls d H' => W cls d σ H')) :
    wpAny (model X.prog X.w) X.A (call (.ref C) us) (EP X pins σ Q) X.xe s := by
  have hq := h (s.heap.objs.size + 1) s.heap.objs.size (I.hok.fresh (Nat.le_succ _)) (I.hok.fresh (Nat.le_refl _)) (Nat.ne_of_lt (Nat.lt_succ_self _))
  have I2 := Inv.made (C := C) I
  have r2 : Vals (V.ref (s.heap.objs.size + 1) :: (vs ++ dvs)) (Value.ref (s.heap.objs.size + 1) :: (us ++ ds)) := .cons rfl (r.append hd)
  have hl : (Value.ref (s.heap.objs.size + 1) :: us ++ ds).length = ps.length := by
    have e := r2.length
    rw [F.len _ _ _ _ hq] at e
    exact e.symm
  refine wpAny_call (make_map (f := fa') I.kIn M.makes M.init (beq_iff_eq.mp M.fn) (codeAny_mono (F.run _ X.stack _ _ ⟨Value.ref (s.heap.objs.size + 1) :: us, []⟩ (Value.ref (s.heap.objs.size + 1) :: (us ++ ds)) _ _ _ (hr.make C us []) hg
    (I2.env0.make C us []) (hb _ (Value.ref (s.heap.objs.size + 1) :: us) I2.kIn hl) r2 hq) fun r s' hq' => ?_))
  cases r with
  | error e => exact pass_at tk σ pins _ _ e s' I2 hq'
  | ok fl =>
    cases fl with
    | ret u =>
      obtain ⟨v, H', I3, rv, ev, q3⟩ := I2.after hq'
      subst ev
      exact ⟨rv, ⟨V.ref (s.heap.objs.size + 1), H', I3, rfl, q3⟩⟩
    | next => exact False.elim hq'
    | brk => exact False.elim hq'
    | cont => exact False.elim hq'
def makeV (n : Nat) (Fn : DFn) (c : Str) (dd : List D) (u : AF) : VF := fun Γ => (u Γ).bind fun es Γ1 => if es.length = n then finMake Fn c dd es Γ1 else .fail
theorem fv_make (M : Mk X.K (He.ga X.K cn) fa') (F : FnG X.prog X.w X.K X.mg X.base (L2.CX X.prog X.w) k fa' fd ps (spL X.K ps (some 0) Fn)) (hm : X.mg x = some (.ref (He.ga X.K cn))) (hb : Binds X.K fd ps ds) (hd : Vals dvs ds) (hdd : ∀ G, Reps X.K G dd dvs)
    (hr : Room (k + 1) X.A) (hgd : X.A.guards = some []) (tk : Takes X W) (hn : n + 1 + dvs.length = ps.length) (ha : FA X W (e :: es) u) (hg : Gl X x := by rfl) (hdb : (x == ("__debug__" : Str)) = false := by decide)
    (he : starEach (e :: es) X.env = (false, eval e X.env) :: starEach es X.env := by rfl) (hpl : (backTo pos (starEach es X.env)).any (·.1) = false := by rfl) :
    FV X W (.Call (.Name x p) (e :: es) [] pos) (makeV n Fn cn dd u) := by
  obtain ⟨t, pt, s⟩ := ha
  refine ⟨fun σ H Q => t σ H fun vs H1 => ∀ x dx, H1 x = none → H1 dx = none → dx ≠ x → spL X.K ps (some 0) Fn (.ref x :: (vs ++ dvs)) (upd (upd H1 dx (.own x)) x (.ins (He.ga X.K cn) dx [])) (fun v H2 => v = .non ∧ Q (.ref x) H2) (fun cls d H' => W cls d σ H'), ⟨fun pins s' σ H Q I h => ?_⟩, fun Fr Γ σ H G R => ?_⟩
  · refine wpAny_Call_Name_kw (ld_glob I hg hm ?_ hdb)
    refine PySem.W.callWith_K (h₀ := X.base) I.ok.mod.kin M.kp (thn (pt.run pos pins s' σ H _ I h) fun us s1 ⟨vs, H1, I1, r, q⟩ => ⟨I1.kIn, ?_⟩) he hpl
    exact run_makeG M F hr hgd hb hd tk I1 r q
  · refine OutV.bind (T' := fun (vs : List V) (H1 : Hp) (Q : VK) => ∀ x dx, H1 x = none → H1 dx = none → dx ≠ x → spL X.K ps (some 0) Fn (.ref x :: (vs ++ dvs)) (upd (upd H1 dx (.own x)) x (.ins (He.ga X.K cn) dx [])) (fun v H2 => v = .non ∧ Q (.ref x) H2) (fun cls d H' => W cls d σ H')) (s Fr Γ σ H G R) fun es' Γ1 vs H1 G1 R1 _ rs => ?_
    split
    · rename_i hlen
      have hl : (vs ++ dvs).length + 1 = ps.length := by rw [List.length_append, vsrel_len rs, hlen]; omega
      exact OutV.of (out_make R1 rs hdd) fun Q q x dx h1 h2 h3 => ⟨hl, q x dx h1 h2 h3⟩
    · trivial
def makeK (n m np : Nat) (pm : List Nat) (Fn : DFn) (c : Str) (dd : List D) (u uk : AF) : VF := fun Γ => (u Γ).bind fun es Γ1 => (uk Γ1).bind fun zs Γ2 =>
  if es.length = n ∧ zs.length = m ∧ (pick pm (es ++ (zs ++ dd.map EV.d))).length + 1 = np then finMake Fn c [] (pick pm (es ++ (zs ++ dd.map EV.d))) Γ2 else .fail
def insOf (c : Str) (ev : EV) (Γ : En) : Option (List Str × List D) := match ev.look Γ with
  | some (.ins c' ns fs) => if c' = c then some (ns, fs) else none
  | _ => none
def fldOf (f : Str) : List Str → List D → Option D
  | n :: ns, d :: ds => if n = f then some d else fldOf f ns ds
  | _, _ => none
def fldE (c f : Str) (fo : EF) : EF := fun Γ => (fo Γ).bind fun ev Γ1 => match (insOf c ev Γ1).bind (fun p => fldOf f p.1 p.2) with
  | some d => .ok (.d d) Γ1
  | none => .fail
theorem insOf_ok {K : Frg} {F : Fr} {Γ : En} {σ : St} {H G : Hp} (R : Rl K F Γ σ H G) {ev : EV} {v : V} {ns : List Str} {fs : List D} (r : vrel K σ G ev v) (e : insOf cn ev Γ = some (ns, fs)) :
    ∃ a dx fv, v = .ref a ∧ H a = some (.ins (He.ga K cn) dx fv) ∧ fv.map (·.1) = ns ∧ Reps K G fs (fv.map (·.2)) := by
  unfold insOf at e
  split at e
  · rename_i c' ns' fs' el
    split at e
    · rename_i hc
      cases e
      subst hc
      rcases R.look r el with ⟨a, dx, fv, rfl, h, n, rp⟩ | ⟨a, u, o, rfl, eo, hu, ro⟩
      · exact ⟨a, dx, fv, rfl, R.gh _ _ h, n, rp⟩
      · cases o with
        | i c ns fs =>
          cases eo
          obtain ⟨dx, fv, rfl, n, rp⟩ := ro
          exact ⟨a, dx, fv, rfl, hu, n, rp⟩
        | l _ => cases eo
        | k _ _ => cases eo
        | n _ _ => cases eo
    · cases e
  · cases e
theorem fldOf_ok {K : Frg} {G : Hp} : ∀ {ns : List Str} {fs : List D} {fv : List (Str × V)} {d : D}, fv.map (·.1) = ns → Reps K G fs (fv.map (·.2)) → fldOf fn ns fs = some d → ∃ v, fv.lookup fn = some v ∧ Rep K G d v
  | [], _, fv, d, h, _, e => by unfold fldOf at e; cases e
  | n :: ns, [], fv, d, h, _, e => by unfold fldOf at e; cases e
  | n :: ns, d0 :: ds, [], d, h, _, e => by cases h
  | n :: ns, d0 :: ds, (y, v) :: fv, d, h, rp, e => by
    obtain ⟨rfl, h2⟩ := List.cons_eq_cons.mp (show y :: fv.map (·.1) = n :: ns from h)
    obtain ⟨v', r', e', r1, r2⟩ := rp
    obtain ⟨rfl, rfl⟩ := List.cons_eq_cons.mp (show v :: fv.map (·.2) = v' :: r' from e')
    unfold fldOf at e
    split at e
    · rename_i hy
      cases e
      subst hy
      exact ⟨v, by rw [List.lookup_cons, beq_self_eq_true], r1⟩
    · rename_i hy
      obtain ⟨w, h3, h4⟩ := fldOf_ok h2 r2 e
      refine ⟨w, ?_, h4⟩
      rw [List.lookup_cons, beq_eq_false_iff_ne.mpr (Ne.symm hy)]
      exact h3
theorem fe_fld (cl : Cls X.K (He.ga X.K cn)) (na : NoAttr X.K (He.ga X.K cn) fn) (ho : FE X W o fo) (hab : attributeBase o fn X.env (eval o X.env) = eval o X.env := by rfl) : FE X W (.Attribute o fn pos) (fldE cn fn fo) := by
  obtain ⟨t, p, s⟩ := ho
  refine ⟨_, pe_fld p hab, Sem.bind (T := fun (x : V) σ (H1 : Hp) (Q : VK) => ∃ a C dx fs v, x = .ref a ∧ H1 a = some (.ins C dx fs) ∧ Cls X.K C ∧ NoAttr X.K C fn ∧ fs.lookup fn = some v ∧ Q v H1) s fun F Γ σ H G ev v R r => ?_⟩
  split
  · rename_i d e
    obtain ⟨⟨ns, fs⟩, e1, e2⟩ := Option.bind_eq_some_iff.mp e
    obtain ⟨a, dx, fv, rfl, h, n, rp⟩ := insOf_ok R r e1
    obtain ⟨w, h3, h4⟩ := fldOf_ok n rp e2
    exact fun Q q => ⟨a, _, dx, fv, w, rfl, h, cl, na, h3, q w H G R (Le.refl G) h4⟩
  · trivial
def noX (r : O VV) : O VV := match r with
  | .exc _ _ _ _ => .fail
  | r => r
theorem OutV.noX {α : Type} {K : Frg} {W : WX} {rel : Fr → En → St → Hp → Hp → VV → α → Prop} {F : Fr} {σ : St} {G : Hp} {T : (α → Hp → Prop) → Prop} : ∀ {r : O VV}, OutV K noW rel F σ G T r → OutV K W rel F σ G T (noX r)
  | .ok _ _, h => h
  | .exc _ _ _ _, _ => trivial
  | .fail, _ => trivial
def propV (c : Str) (Fn : DFn) (fo : EF) : VF := fun Γ => (fo Γ).bind fun ev Γ1 => if (insOf c ev Γ1).isSome then noX (finCall none Fn [] [ev] Γ1) else .fail
theorem getpropG {C g2 p2 a2 dx : Addr} {fs : List (Str × V)} {pins : List (Addr × Obj)} {σ : St} {H : Hp} {s : Shared} {Q : VK} {b : Bool} (I : Inv X pins σ H s) (ea : H a2 = some (.ins C dx fs)) (c : Cls X.K C) (hp : PropOf X.K C fn p2 g2)
    (F : FnG X.prog X.w X.K X.mg X.base (L2.CX X.prog X.w) k g2 fd ps sp) (hr : Room (k + 1) X.A) (hg : X.A.guards = some []) (hb : Binds X.K fd ps []) (h : sp [.ref a2] H Q (fun _ _ _ => False)) :
    wpAny (model X.prog X.w) X.A (getAttr (.ref a2) fn b) (EP X pins σ Q) X.xe s := by
  obtain ⟨mA, O, _, _, _, _⟩ := ins_get I.hok ea
  obtain ⟨od, J, _⟩ := O.look
  obtain ⟨rest, hrec⟩ := hp.rec_
  have I1 := I.tok (s.toks + 1)
  have hl : ([Value.ref a2] ++ []).length = ps.length := by
    rw [← F.len _ _ _ _ h]; rfl
  have hc : (PySem.W.clsIn X.K C).isSome = true := by
    obtain ⟨cd, hc, _⟩ := PySem.W.any_some c.hd
    rw [hc]
    rfl
  refine PySem.W.get_bind I.kIn J (PySem.W.plainGet_of (c.get fn)).1 (PySem.W.findObj_data hc hp.at_ hp.get hp.tak) (PySem.W.plainGet_of (c.get fn)).2 (wpAny_call (PySem.W.prop_get (s := { s with toks := s.toks + 1 }) I.kIn hrec ?_))
  refine codeAny_mono (F.run X.A.in1 X.stack { s with toks := s.toks + 1 } H ⟨[.ref a2], []⟩ [.ref a2] [.ref a2] Q _ hr.in1 hg I1.env0.in1 (hb _ [.ref a2] I1.kIn hl) (.cons rfl .nil) h) fun r s' hq => ?_
  cases r with
  | error er =>
    obtain ⟨_, _, _, _, _, _, _, _, _, _, _, _, z⟩ := (hq : L2.CX X.prog X.w X.stack H { s with toks := s.toks + 1 } (fun _ _ _ => False) er s')
    exact z.elim
  | ok fl =>
    cases fl with
    | ret u =>
      obtain ⟨v, H', I3, rv, q3⟩ := I1.after hq
      show wpAny _ _ (handedOut u) _ _ _
      rw [PySem.W.handedOut_of (handed_of rv)]
      exact wpAny_pure ⟨v, H', I3, rv, q3⟩
    | next => exact False.elim hq
    | brk => exact False.elim hq
    | cont => exact False.elim hq
theorem fv_prop {g2 p2 : Addr} (cl : Cls X.K (He.ga X.K cn)) (hp : PropOf X.K (He.ga X.K cn) fn p2 g2) (F : FnG X.prog X.w X.K X.mg X.base (L2.CX X.prog X.w) k g2 fd ps (spL X.K ps none Fn)) (hb : Binds X.K fd ps [])
    (hr : Room (k + 1) X.A) (hgd : X.A.guards = some []) (hn : 1 = ps.length) (ho : FE X W o fo) (hab : attributeBase o fn X.env (eval o X.env) = eval o X.env := by rfl) :
    FV X W (.Attribute o fn pos) (propV cn Fn fo) := by
  obtain ⟨t, pt, s⟩ := ho
  refine ⟨fun σ H Q => t σ H fun x H1 => ∃ a dx fs, x = .ref a ∧ H1 a = some (.ins (He.ga X.K cn) dx fs) ∧ spL X.K ps none Fn [.ref a] H1 Q (fun _ _ _ => False), ⟨fun pins s' σ H Q I h => ?_⟩, fun Fr Γ σ H G R => ?_⟩
  · refine attr_of hab (thn (pt.run pins s' σ H _ I h) fun u s1 ⟨x, H1, I1, rx, a, dx, fs, ex, ea, q⟩ => ?_)
    subst ex
    obtain rfl : u = Value.ref a := rx
    exact getpropG I1 ea cl hp F hr hgd hb q
  · refine OutV.bind (T' := fun (x : V) (H1 : Hp) (Q : VK) => ∃ a dx fs, x = .ref a ∧ H1 a = some (.ins (He.ga X.K cn) dx fs) ∧ spL X.K ps none Fn [.ref a] H1 Q (fun _ _ _ => False)) (s Fr Γ σ H G R) fun ev Γ1 v H1 G1 R1 _ rv => ?_
    split
    · rename_i hi
      obtain ⟨⟨ns, fs⟩, e1⟩ := Option.isSome_iff_exists.mp hi
      obtain ⟨a, dx, fv, rfl, h, n, rp⟩ := insOf_ok R1 rv e1
      have rs : vsrel X.K σ G1 [ev] [V.ref a] := .cons rv .nil
      refine OutV.noX (OutV.of (out_call (W := noW) (dvs := []) (dd := []) (b := none) R1 rs (fun _ => rfl)) fun Q q => ⟨a, dx, fv, rfl, h, by rw [← hn]; rfl, q⟩)
    · trivial
def methV (b : Option Nat) (n : Nat) (c m : Str) (Fn : DFn) (dd : List D) (fo : EF) (u : AF) : VF := fun Γ => (fo Γ).bind fun eo Γ1 => match insOf c eo Γ1 with
  | some (ns, _) => if ns.contains m then .fail else (u Γ1).bind fun es Γ2 => if es.length = n then finCall b Fn dd (eo :: es) Γ2 else .fail
  | none => .fail
theorem look_none {fv : List (Str × V)} {ns : List Str} (h : fv.map (·.1) = ns) (e : ¬ ns.contains m = true) : fv.lookup m = none := by
  rw [List.lookup_eq_none_iff]
  intro p hp
  exact bne_iff_ne.mpr fun z => e (by rw [← h, List.contains_iff_mem]; exact List.mem_map.mpr ⟨p, hp, z.symm⟩)
theorem fv_meth {b : Option Nat} {pl : PySem.Sem Bool} (cl : Cls X.K (He.ga X.K cn)) (hm : Meth X.K (He.ga X.K cn) m fa') (F : FnG X.prog X.w X.K X.mg X.base (L2.CX X.prog X.w) k fa' fd ps (spL X.K ps b Fn)) (hb : Binds X.K fd ps ds) (hd : Vals dvs ds) (hdd : ∀ G, Reps X.K G dd dvs)
    (hr : Room k X.A) (hgd : X.A.guards = some []) (tk : Takes X W) (hn : n + 1 + dvs.length = ps.length) (ho : FE X W o fo) (ha : FA X W (e :: es) u)
    (hst : starEach (e :: es) X.env = (false, eval e X.env) :: starEach es X.env := by rfl) (hpl : (backTo pos (starEach es X.env)).any (·.1) = false := by rfl)
    (ht : eval (.Call (.Attribute o m apos) (e :: es) [] pos) X.env = (do
      let ov ← eval o X.env
      standAt apos.atName
      let (f, first) ← holding [ov] (getMethod ov m pl)
      callWith pos f first (backTo pos (starEach (e :: es) X.env)) (backToKw pos (keywordEach [] X.env))) := by rfl) :
    FV X W (.Call (.Attribute o m apos) (e :: es) [] pos) (methV b n cn m Fn dd fo u) := by
  obtain ⟨t1, p1, s1⟩ := ho
  obtain ⟨t2, p2, s2⟩ := ha
  refine ⟨fun σ H Q => t1 σ H fun x H1 => ∃ a dx fs, x = .ref a ∧ H1 a = some (.ins (He.ga X.K cn) dx fs) ∧ fs.lookup m = none ∧ t2 σ H1 fun vs H2 => spL X.K ps b Fn (x :: (vs ++ dvs)) H2 Q (fun cls d H' => W cls d σ H'), ⟨fun pins s' σ H Q I h => ?_⟩, fun Fr Γ σ H G R => ?_⟩
  · refine PySem.W.methodCall_KW (pl := pl) (thn (p1.run pins s' σ H _ I h) fun u s1 ⟨x, H1, I1, rx, a, dx, fs, ex, ea, l, q⟩ => ?_) ht
    subst ex
    obtain rfl : u = Value.ref a := rx
    refine getmeth_ok I1 ea cl hm l ?_
    refine PySem.W.callWith_K (first := [.ref a]) (h₀ := X.base) I.ok.mod.kin hm.kp (thn (p2.run pos pins s1 σ H1 _ I1 q) fun us s2 ⟨vs, H2, I2, r, q2⟩ => ⟨I2.kIn, ?_⟩) hst hpl
    exact run_G (us := .ref a :: us) (vs := .ref a :: vs) F hr hgd hb hd tk I2 (.cons rfl r) q2
  · refine OutV.bind (T' := fun (x : V) (H1 : Hp) (Q : VK) => ∃ a dx fs, x = .ref a ∧ H1 a = some (.ins (He.ga X.K cn) dx fs) ∧ fs.lookup m = none ∧ t2 σ H1 fun vs H2 => spL X.K ps b Fn (x :: (vs ++ dvs)) H2 Q (fun cls d H' => W cls d σ H')) (s1 Fr Γ σ H G R) fun eo Γ1 v H1 G1 R1 _ rv => ?_
    split
    · rename_i ns fs e1
      split
      · trivial
      · rename_i hns
        obtain ⟨a, dx, fv, rfl, h, n', rp⟩ := insOf_ok R1 rv e1
        refine OutV.of (OutV.bind (T' := fun vs H2 Q => spL X.K ps b Fn (V.ref a :: (vs ++ dvs)) H2 Q (fun cls d H' => W cls d σ H')) (s2 Fr Γ1 σ H1 G1 R1) fun es Γ2 vs H2 G2 R2 le2 rs => ?_) fun Q q => ⟨a, dx, fv, rfl, h, look_none n' hns, q⟩
        split
        · rename_i hlen
          have rs2 : vsrel X.K σ G2 (eo :: es) (V.ref a :: vs) := .cons (vrel_mono _ _ _ _ _ _ le2 rv) rs
          have hl : ((V.ref a :: vs) ++ dvs).length = ps.length := by rw [List.length_append, List.length_cons, vsrel_len rs, hlen]; exact hn
          exact OutV.of (out_call (b := b) R2 rs2 hdd) fun Q q => ⟨hl, q⟩
        · trivial
    · trivial
def putFD (f : Str) (d : D) : List Str → List D → List Str × List D
  | n :: ns, e :: es => if n = f then (n :: ns, d :: es) else let r := putFD f d ns es; (n :: r.1, e :: r.2)
  | _, _ => ([f], [d])
def setFK (i : Nat) (c f : Str) (r : Option (D × En)) : O Fl := match r with
  | some (d, Γ1) => (match ownD Γ1 i with
    | some (.i c' ns fs) => if c' = c ∧ ns.length < 1000 then .ok .nx (putOwn Γ1 i (.i c (putFD f d ns fs).1 (putFD f d ns fs).2)) else .fail
    | _ => .fail)
  | none => .fail
def setF (i : Nat) (c f : Str) (fv : EF) : SF := fun Γ => (fv Γ).bind fun ev Γ1 => setFK i c f (frz1 ev Γ1)
theorem putFD_ok {K : Frg} {G : Hp} {d : D} {v : V} (r : Rep K G d v) : ∀ {ns : List Str} {fs : List D} {fv : List (Str × V)}, fv.map (·.1) = ns → Reps K G fs (fv.map (·.2)) → (putF fn v fv).map (·.1) = (putFD fn d ns fs).1 ∧ Reps K G (putFD fn d ns fs).2 ((putF fn v fv).map (·.2))
  | [], fs, [], _, rp => by
    cases fs with
    | nil => exact ⟨rfl, v, [], rfl, r, rfl⟩
    | cons d0 ds => obtain ⟨_, _, e, _⟩ := rp; cases e
  | [], _, _ :: _, h, _ => by cases h
  | n :: ns, [], [], h, _ => by cases h
  | n :: ns, [], (y, w) :: fv, h, rp => by cases (show w :: fv.map (·.2) = [] from rp)
  | n :: ns, d0 :: ds, [], h, _ => by cases h
  | n :: ns, d0 :: ds, (y, w) :: fv, h, rp => by
    obtain ⟨rfl, h2⟩ := List.cons_eq_cons.mp (show y :: fv.map (·.1) = n :: ns from h)
    obtain ⟨v', r', e', r1, r2⟩ := rp
    obtain ⟨rfl, rfl⟩ := List.cons_eq_cons.mp (show w :: fv.map (·.2) = v' :: r' from e')
    unfold putFD putF
    by_cases hy : y = fn
    · subst hy
      rw [if_pos rfl, if_pos rfl]
      exact ⟨by rw [List.map_cons, h2], v, _, rfl, r, r2⟩
    · rw [if_neg hy, if_neg hy]
      obtain ⟨k1, k2⟩ := putFD_ok r h2 r2
      exact ⟨by rw [List.map_cons, k1], w, _, rfl, r1, k2⟩
theorem fs_setf {i : Nat} {y : Str} {py : Pos} (cl : Cls X.K (He.ga X.K cn)) (na : NoAttr X.K (He.ga X.K cn) fn) (hN : X.N[i]? = some y) (hv : Vis X.env.scope y) (hval : FE X W value f) (hd : (y == ("__debug__" : Str)) = false := by decide) (hcd : (y == ("__classdict__" : Str)) = false := by decide)
    (hs : swapsWith value (some (.Attribute (.Name y py) fn pos')) pos.line X.env = pure false := by rfl) : FS X W (.Assign [.Attribute (.Name y py) fn pos'] value pos) (setF i cn fn f) := by
  obtain ⟨t, pt, s⟩ := hval
  refine ⟨_, ps_fld (pe_var hN hv hd hcd) pt hs, fun F Γ σ H G R => ?_⟩
  refine OutS.bind (T' := fun (v : V) (H1 : Hp) (D : Ends) => ∃ w, σ[i]? = some (some w) ∧ ∃ a C dx fs, w = .ref a ∧ H1 a = some (.ins C dx fs) ∧ Cls X.K C ∧ NoAttr X.K C fn ∧ fs.length < 1000 ∧ D.nx σ (upd H1 a (.ins C dx (putF fn v fs)))) (s F Γ σ H G R) fun ev Γ1 v H1 G1 R1 _ r1 => ?_
  unfold setFK
  split
  · rename_i d Γ2 e2
    obtain ⟨G2, R2, le2, rp⟩ := R1.frz1 r1 e2
    split
    · rename_i c' ns fs ex
      split
      · rename_i hc
        obtain ⟨rfl, hlen⟩ := hc
        obtain ⟨q0, u, g1, g2, g3, g4, k⟩ := R2.own ex
        obtain ⟨dx, fv, rfl, hn, hr⟩ := g4
        obtain ⟨k1, k2⟩ := putFD_ok (fn := fn) rp hn hr
        exact fun D q => ⟨_, g1, q0, _, dx, fv, rfl, g2, cl, na, by rw [← hn, List.length_map] at hlen; exact hlen, q σ _ G2 (k (.i c' (putFD fn d ns fs).1 (putFD fn d ns fs).2) (.ins (He.ga X.K c') dx (putF fn v fv)) ⟨dx, _, rfl, k1, k2⟩) le2⟩
      · trivial
    · trivial
  · trivial
end
end FL
namespace FL
open PySem PySem.Spec PyProof.Rows L2
variable [Wrl] [Tabl]
variable {X : Cx} {W : WX} {e a b c o tg iter value : Expr} {f g f1 f2 f3 fo fa : EF} {pos pos' apos kpos p : Pos} {es : List Expr} {u uk : AF} {kws : List Keyword}
section
variable {k n : Nat} {f' C : Addr} {fd : FuncData} {ps ks : List Str} {sp : Sp} {x m cn fn : Str} {Fn : DFn}
theorem run_special {A : Around} {pins : List (Addr × Obj)} {σ : St} {H : Hp} {s : Shared} {Q : Value → Shared → Prop} {us : List Value} {vs : List V} (F : FnG X.prog X.w X.K X.mg X.base (L2.CX X.prog X.w) k f' fd ps sp) (hr : Room k A) (hg : A.guards = some []) (e0 : Env0 X.prog X.w X.K X.mg X.base A X.stack s H) (hb : Binds X.K fd ps [])
    (I : Inv X pins σ H s) (r : Vals vs us) (T : VK) (h : sp vs H T (fun _ _ _ => False)) (hq : ∀ v H' u s', Inv X pins σ H' s' → RelV v u → T v H' → Q u s') : wpAny (model X.prog X.w) A (call (.ref f') us) Q X.xe s := by
  have hl : (us ++ []).length = ps.length := by rw [List.append_nil, ← r.length]; exact F.len _ _ _ _ h
  have hb' := hb s us I.kIn hl
  rw [List.append_nil] at hb'
  refine wpAny_call (codeAny_mono (F.run A X.stack s H ⟨us, []⟩ us vs T _ hr hg e0 hb' r h) fun r s' hq' => ?_)
  cases r with
  | error er =>
    obtain ⟨_, _, _, _, _, _, _, _, _, _, _, _, z⟩ := (hq' : L2.CX X.prog X.w X.stack H s (fun _ _ _ => False) er s')
    exact z.elim
  | ok fl =>
    cases fl with
    | ret u =>
      obtain ⟨v, H', I3, rv, q3⟩ := I.after hq'
      exact hq v H' u s' I3 rv q3
    | next => exact False.elim hq'
    | brk => exact False.elim hq'
    | cont => exact False.elim hq'
def rIns (C : Addr) (sp : Sp) (P : V → Prop) : List V → Hp → VK → Prop := fun xs H Q => ∃ a dx fs, xs = [.ref a] ∧ H a = some (.ins C dx fs) ∧ sp [.ref a] H (fun v H' => P v ∧ Q v H') (fun _ _ _ => False)
def isS (v : V) : Prop := ∃ y, v = .str y
theorem call_strI (hs : PySem.W.findIn X.K (.ref C) "__str__" = some (some (.ref f'))) (hf : PySem.W.isFn X.K (.ref f') = true) (F : FnG X.prog X.w X.K X.mg X.base (L2.CX X.prog X.w) k f' fd ps sp) (hr : Room (k + 2) X.A) (hg : X.A.guards = some []) (hb : Binds X.K fd ps []) : CallR X (.type "str") (rIns C sp isS) := by
  intro pins s σ H xs us Q I r h
  obtain ⟨a, dx, fs, rfl, ea, h⟩ := h
  obtain rfl := Vals.ref1 r
  obtain ⟨mA, J, _⟩ := ins_get I.hok ea
  obtain ⟨od, J, _⟩ := J.look
  refine PySem.W.kso_call hr.in1.in1.units0 I.kIn J hs hf ?_
  refine run_special (vs := [V.ref a]) F hr.in1.in1 hg I.env0.in1.in1 hb I (.cons rfl .nil) _ h fun v H' u s' I' rv q => ?_
  obtain ⟨⟨y, rfl⟩, q⟩ := q
  obtain ⟨t, rfl⟩ := rv
  exact ⟨.str y, H', I', ⟨t, rfl⟩, q⟩
end
end FL
namespace FL
open PySem PySem.Spec PyProof.Rows L2
variable [Wrl] [Tabl]
variable {X : Cx} {W : WX} {e a b c o tg iter value : Expr} {f g f1 f2 f3 fo fa : EF} {pos pos' apos kpos p : Pos} {es : List Expr} {u uk : AF} {kws : List Keyword}
structure OwnC (K : Frg) (cn : Str) : Prop where
  cl : Cls K (He.ga K cn)
  ha : PySem.W.findIn K (.ref (He.ga K cn)) "__class__" = some (some (.builtin "object.__class__"))
  hn : PySem.W.specialIn K (.builtin "object.__class__") "__get__" = some (some (.builtin "getset_descriptor.__get__"))
  htk : PySem.W.takesIn K (.builtin "object.__class__") = some true
  hm : PySem.W.mroIn K (He.ga K cn) (.type "object") = some true
theorem ownB_ok {K : Frg} {cn : Str} (h : ownB K cn = true) : OwnC K cn := by
  obtain ⟨h1, h⟩ := He.ba h
  obtain ⟨h2, h⟩ := He.ba h
  obtain ⟨h3, h⟩ := He.ba h
  obtain ⟨h4, h5⟩ := He.ba h
  exact ⟨He.cls_ok h1, He.eqO_ok h2, He.eqO_ok h3, of_decide_eq_true h4, of_decide_eq_true h5⟩
theorem tyN_mem {x : D} {t : String} (h : tyN x = some t) : t ∈ btys := by
  cases x <;> first | (cases h; decide) | cases h
def isC (cs : List Str) (c : Str) (x : D) : Option Bool := match x with
  | .ins c' _ _ => if cs.contains c' then some (decide (c' = c)) else none
  | .scr _ => none
  | .fk _ _ => none
  | .dn _ _ _ => none
  | .exn _ _ _ _ _ => none
  | .cls _ => none
  | _ => some false
theorem tyX_ins {K : Frg} {H : Hp} {cn : Str} {ns : List Str} {fs : List D} {v : V} (O : OwnC K cn) (r : Rep K H (.ins cn ns fs) v) : TyX K H v (.ref (He.ga K cn)) := by
  obtain ⟨a, dx, fv, rfl, h, _⟩ := r
  exact .base (.ins h O.cl O.ha O.hn O.htk O.hm)
theorem isC_ok {K : Frg} {cs : List Str} {c : Str} (hB : isCB K cs c = true) : IsiOk K (.ref (He.ga K c)) (isC cs c) := fun H x v k r e => by
  obtain ⟨h1, h2⟩ := He.ba hB
  have flat : ∀ t, tyN x = some t → isC cs c x = some false → ∃ t, TyX K H v t ∧ PySem.W.kitOne K t (.ref (He.ga K c)) = some k := fun t ht hf => by
    rw [hf] at e
    cases e
    exact ⟨_, tyX_of r ht, of_decide_eq_true (List.all_eq_true.mp h1 t (tyN_mem ht))⟩
  cases x with
  | non => exact flat _ rfl rfl
  | bl _ => exact flat _ rfl rfl
  | int _ => exact flat _ rfl rfl
  | str _ => exact flat _ rfl rfl
  | lst _ => exact flat _ rfl rfl
  | tup _ => exact flat _ rfl rfl
  | dk _ _ => exact flat _ rfl rfl
  | fk _ _ => cases e
  | dn _ _ _ => cases e
  | scr _ => cases e
  | exn _ _ _ _ _ => cases e
  | cls _ => cases e
  | ins c' ns fs =>
    unfold isC at e
    simp only at e
    split at e
    · rename_i hc
      cases e
      obtain ⟨h3, h4⟩ := He.ba (List.all_eq_true.mp h2 c' (List.contains_iff_mem.mp hc))
      exact ⟨_, tyX_ins (ownB_ok h3) r, of_decide_eq_true h4⟩
    · cases e
def txK (r : O VV) : O EV := match r with
  | .ok (.e (.d (.str y))) Γ => .ok (.d (.str y)) Γ
  | _ => .fail
theorem out_txt {K : Frg} {F : Fr} {σ : St} {G : Hp} {T : (V → Hp → Prop) → Prop} : ∀ {r : O VV}, OutV K noW (vvrel K) F σ G T r → Out K W (vrel K) F σ G (fun Q => T fun v H' => isS v ∧ Q v H') (txK r)
  | .ok (.e (.d (.str y))) Γ', h => fun Q q => h _ fun v H' G' R le rv => ⟨⟨y, rv⟩, q v H' G' R le rv⟩
  | .ok (.e (.d .non)) _, _ => trivial
  | .ok (.e (.d (.bl _))) _, _ => trivial
  | .ok (.e (.d (.int _))) _, _ => trivial
  | .ok (.e (.d (.lst _))) _, _ => trivial
  | .ok (.e (.d (.tup _))) _, _ => trivial
  | .ok (.e (.d (.scr _))) _, _ => trivial
  | .ok (.e (.d (.dk _ _))) _, _ => trivial
  | .ok (.e (.d (.fk _ _))) _, _ => trivial
  | .ok (.e (.d (.dn _ _ _))) _, _ => trivial
  | .ok (.e (.d (.ins _ _ _))) _, _ => trivial
  | .ok (.e (.d (.exn _ _ _ _ _))) _, _ => trivial
  | .ok (.e (.d (.cls _))) _, _ => trivial
  | .ok (.e (.own _)) _, _ => trivial
  | .ok (.n _) _, _ => trivial
  | .exc _ _ _ _, _ => trivial
  | .fail, _ => trivial
def textE (cn : Str) (Fn : DFn) (fo : EF) : EF := fun Γ => (fo Γ).bind fun ev Γ1 => if (insOf cn ev Γ1).isSome then txK (finCall none Fn [] [ev] Γ1) else .fail
section
variable {k n : Nat} {f' : Addr} {fd : FuncData} {ps ks : List Str} {x m cn fn : Str} {Fn : DFn}
theorem sem_text {t : TE} (s : Sem X.K W (vrel X.K) t f) (hn : 1 = ps.length) : Sem X.K W (vrel X.K) (fun σ H Q => t σ H fun v H1 => rIns (He.ga X.K cn) (spL X.K ps none Fn) isS [v] H1 Q) (textE cn Fn f) :=
  Sem.bind (T := fun v σ H1 Q => rIns (He.ga X.K cn) (spL X.K ps none Fn) isS [v] H1 Q) s fun F Γ σ H G ev v R rv => by
    split
    · rename_i hi
      obtain ⟨⟨ns, fs⟩, e1⟩ := Option.isSome_iff_exists.mp hi
      obtain ⟨a, dx, fv, rfl, h, n, rp⟩ := insOf_ok R rv e1
      have rs : vsrel X.K σ G [ev] [V.ref a] := .cons rv .nil
      exact Out.of (out_txt (out_call (W := noW) (dvs := []) (dd := []) (b := none) (Fn := Fn) R rs (fun _ => rfl))) fun Q q => ⟨a, dx, fv, rfl, h, by rw [← hn]; rfl, q⟩
    · trivial
theorem fe_strI {p : Pos} (hs : PySem.W.findIn X.K (.ref (He.ga X.K cn)) "__str__" = some (some (.ref f'))) (hf : PySem.W.isFn X.K (.ref f') = true) (F : FnG X.prog X.w X.K X.mg X.base (L2.CX X.prog X.w) k f' fd ps (spL X.K ps none Fn)) (hr : Room (k + 2) X.A) (hgd : X.A.guards = some []) (hb : Binds X.K fd ps [])
    (hm : X.mg "str" = none) (hn : 1 = ps.length) (ha : FE X W e f) (hg : Gl X "str" := by rfl) (he : starEach [e] X.env = (false, eval e X.env) :: starEach [] X.env := by rfl) : FE X W (.Call (.Name "str" p) [e] [] pos) (textE cn Fn f) := by
  obtain ⟨t, pt, s⟩ := ha
  exact ⟨_, pe_callTy (call_strI hs hf F hr hgd hb) hg hm (by decide +kernel) (pa_cons pt pa_nil he) (by decide) (by decide) he (by rfl), sem_text s hn⟩
def trueI (cn : Str) (fo : EF) : EF := fun Γ => (fo Γ).bind fun ev Γ1 => if (insOf cn ev Γ1).isSome then .ok (.d (.bl true)) Γ1 else .fail
def eqK (r : O VV) : O EV := match r with
  | .ok (.e (.d (.bl b))) Γ => .ok (.d (.bl b)) Γ
  | _ => .fail
def okTy (cs : List Str) (ev : EV) (Γ : En) : Bool := match ev.look Γ with
  | some (.ins c _ _) => cs.contains c
  | some (.scr _) => false
  | some (.fk _ _) => false
  | some (.dn _ _ _) => false
  | some (.exn _ _ _ _ _) => false
  | some (.cls _) => false
  | some _ => true
  | none => false
def eqiE (cs : List Str) (cn : Str) (Fn : DFn) (f1 f2 : EF) : EF := fun Γ => (f1 Γ).bind fun e1 Γ1 => (f2 Γ1).bind fun e2 Γ2 => if ((insOf cn e1 Γ2).isSome && okTy cs e2 Γ2) = true then eqK (finCall none Fn [] [e1, e2] Γ2) else .fail
def fmtE (f : EF) : EF := fun Γ => (f Γ).bind fun ev Γ1 => match ev with
  | .d (.str y) => if y.length ≤ sizeLine then .ok (.d (.str y)) Γ1 else .fail
  | .d (.int i) => if i.natAbs.log2 < 1920 then .ok (.d (.str (Str.ofString (toString i)))) Γ1 else .fail
  | _ => .fail
def jsE : List EF → Str → EF
  | [], acc, Γ => .ok (.d (.str acc)) Γ
  | f :: fs, acc, Γ => (f Γ).bind fun ev Γ1 => match ev with
    | .d (.str y) => if (acc ++ y).length ≤ sizeLine then jsE fs (acc ++ y) Γ1 else .fail
    | _ => .fail
end
end FL
namespace FL
open PySem PySem.Spec PyProof.Rows L2
variable [Wrl] [Tabl]
theorem funX {K : Frg} {x : DefX} (e : fnA K (x.adr K) = x.d.val) (c : okA K x = true) : ∃ fd, FunD K x.d.name x.d.qual x.d.params x.d.body x.d.scope (x.d.dvs K) (x.d.kws K) (x.adr K) fd := by
  obtain ⟨kp, c2⟩ := He.ba c
  unfold fnA at e
  cases q : K.lookup (x.adr K) with
  | none =>
    rw [q] at c2
    cases c2
  | some o =>
    obtain ⟨oc, od, dt, osl⟩ := o
    rw [q] at c2 e
    cases dt with
    | func fd =>
      obtain ⟨n1, n2, n3, n4, n5, n6, n7, n8, n9, n10, n11, n12, n13, n14, n15⟩ := fd
      have e2 : (some (n1, n2, n3, n4, n5, n6, n7, n15) : He.FnW) = some (x.d.name, x.d.qual, x.d.params, .stmts x.d.body, x.d.scope, mainGlobals, [], builtinsNs) := e
      simp only [Option.some.injEq, Prod.mk.injEq] at e2
      obtain ⟨h1, h2, h3, h4, h5, h6, h7, h8⟩ := e2
      subst h1 h2 h3 h4 h5 h6 h7 h8
      have c3 : (PySem.W.codeIn K n13 x.d.qual && (He.dflB K n8 (x.d.dvs K) && He.kwdB K n9 (x.d.kws K))) = true := c2
      obtain ⟨k1, k2⟩ := He.ba c3
      obtain ⟨k3, k4⟩ := He.ba k2
      exact ⟨_, ⟨oc, od, n8, n9, n10, n11, n12, n13, n14, osl, rfl, q, k1, He.dflB_ok k3, He.kwdB_ok k4⟩, kp⟩
    | _ => cases c2
structure Ty (fa : List He.Fa) (fn : List He.DefD) (ex : Frg → Bool) (xs : List DefX) (K : Frg) (mg : Str → Option Value) : Prop where
  t : Tx fa fn ex K mg
  o : xs.all (okA K) = true
  s : SaysX xs K
theorem Ty.mk' {fa : List He.Fa} {fn : List He.DefD} {ex : Frg → Bool} {xs : List DefX} {K : Frg} {mg : Str → Option Value} (hh : ∃ h : Heap, K.In h ∧ h.Ns mainGlobals mg) (c : He.SaysD fa fn K) (e : exX ex xs K = true) (s : SaysX xs K) : Ty fa fn ex xs K mg := by
  obtain ⟨e1, e2⟩ := He.ba e
  exact ⟨⟨hh, c, e1⟩, e2, s⟩
theorem Ty.funx {fa : List He.Fa} {fn : List He.DefD} {ex : Frg → Bool} {xs : List DefX} {K : Frg} {mg : Str → Option Value} (T : Ty fa fn ex xs K mg) (i : Nat) {x : DefX} (h : xs[i]? = some x) : FunD K x.d.name x.d.qual x.d.params x.d.body x.d.scope (x.d.dvs K) (x.d.kws K) (x.adr K) (fdOf K (x.adr K)) := by
  have h1 := List.all_eq_true.mp T.o x (List.mem_of_getElem? h)
  have h2 : (xs.map (fun x => fnA K (x.adr K)))[i]? = (xs.map fun x => x.d.val)[i]? := by rw [show xs.map (fun x => fnA K (x.adr K)) = xs.map fun x => x.d.val from T.s]
  rw [List.getElem?_map, List.getElem?_map, h] at h2
  obtain ⟨fd, F⟩ := funX (Option.some.inj h2) h1
  rw [← fdOf_eq F]
  exact F
theorem propB_ok {K : Frg} {c f : Str} (h : propB K c f = true) : PropOf K (He.ga K c) f (prAd K c f) (gtAd K c f) := by
  obtain ⟨h1, h⟩ := He.ba h
  obtain ⟨h2, h⟩ := He.ba h
  obtain ⟨h3, h4⟩ := He.ba h
  refine ⟨He.eqO_ok h1, He.eqO_ok h2, of_decide_eq_true h3, ?_⟩
  split at h4
  · rename_i g rest e
    exact ⟨rest, by rw [e]; unfold gtAd; rw [e]⟩
  · cases h4
theorem dfB_ok {K : Frg} {p : Str × Option Str} {i : Nat} {d : D} (h : dfB K p i d = true) (G : Hp) : Reps K G [d] [V.ref (He.dflAt p i K)] := by
  obtain ⟨v, h1, h2⟩ := cst_ok d _ h
  have e : v = .ref (He.dflAt p i K) := by
    cases v with
    | ref a => cases h1; rfl
    | non => cases h1
    | bl _ => cases h1
    | int _ => obtain ⟨_, z⟩ := h1; cases z
    | str _ => obtain ⟨_, z⟩ := h1; cases z
    | byt _ => exact absurd h1 (by rintro ⟨_, z⟩; cases z)
    | flt _ => exact absurd h1 (by rintro ⟨_, z⟩; cases z)
    | _ => cases h1
  subst e
  exact ⟨_, [], rfl, h2 G, rfl⟩
end FL
namespace FL
open PySem PySem.Spec PyProof.Rows L2
variable [Wrl] [Tabl]
variable {X : Cx} {W : WX} {e a b c o tg iter value : Expr} {f g f1 f2 f3 fo fa : EF} {pos pos' apos kpos p : Pos}
section
variable {k n : Nat} {f' : Addr} {fd : FuncData} {ps ks : List Str} {x m cn fn : Str} {Fn : DFn}
def neK (r : O VV) : O EV := match r with
  | .ok (.e (.d (.bl b))) Γ => .ok (.d (.bl (!b))) Γ
  | _ => .fail
def neiE (cs : List Str) (cn : Str) (Fn : DFn) (f1 f2 : EF) : EF := fun Γ => (f1 Γ).bind fun e1 Γ1 => (f2 Γ1).bind fun e2 Γ2 => if ((insOf cn e1 Γ2).isSome && okTy cs e2 Γ2) = true then neK (finCall none Fn [] [e1, e2] Γ2) else .fail
end
end FL
namespace FLB
open PySem PySem.Spec PyProof.Rows L2
set_option maxHeartbeats 4000000 in
theorem meets_enum1 {v : Value} {o : Obj} {H : Heap → Prop} (B : Begins v o H) :
    Meets (Builtin.«enumerate.__new__» ⟨[.type "enumerate", v], []⟩) (fun _ R s => H s.heap ∧
      R (.ok (.ret (.ref (s.heap.push o).objs.size))) { s with heap := (s.heap.push o).push { cls := .type "enumerate", data := .fields #[.none, .bool false, .ref s.heap.objs.size, rawInt 0, .none, .none] } }) :=
  .of_wp fun prog w A R s h => by
    obtain ⟨hp, g, d, tk, os⟩ := s; obtain ⟨h1, h⟩ := h
    have hsub := sub_enumerate
    have q1 : ∀ {A' : Around} {E : Value → Shared → Prop} {Q : Value → Shared → Prop}, Q (.ref hp.objs.size) ⟨hp.push o, g, d, tk, os⟩ → wpAny (model prog w) A' (pyIter v) Q E ⟨hp, g, d, tk, os⟩ :=
      fun q => B.iter prog w _ _ ⟨hp, g, d, tk, os⟩ _ h1 q
    wp_walk using q1
    refine wpAny_stack_any fun st => wpAny_pure ?_
    split
    · rename_i c _ _ _ _ _
      cases (c == Value.type "enumerate")
      · wp_walk using q1
        exact ⟨_, rfl, h⟩
      · wp_walk using q1
        exact ⟨_, rfl, h⟩
    · wp_walk using q1
      exact ⟨_, rfl, h⟩
theorem enum_begins1 {prog : Program} {w : World} {A : Around} {E : Value → Shared → Prop} {s : Shared} {v : Value} {o : Obj} {H : Heap → Prop} {Q : Value → Shared → Prop} (B : Begins v o H) (h1 : H s.heap)
    (h : ∀ h', IsEnum h' (s.heap.objs.size + 1) s.heap.objs.size 0 .none → h'.get? s.heap.objs.size = some o → h'.objs.size = s.heap.objs.size + 2 →
      (∀ b o, s.heap.get? b = some o → h'.get? b = some o) → Q (.ref (s.heap.objs.size + 1)) { s with heap := h' }) :
    wpAny (model prog w) A (call (.type "enumerate") [v]) Q E s := by
  refine callType_new F.called_enumerate (by decide) (F.typeCall_enumerate_1 _) (F.newCall_enumerate_1 _) (fun obj => F.args_object_init_2 obj _) F.entry_enumerate_new
    (meets_enum1 B) ⟨h1, ?_⟩
  have hz : (s.heap.push o).objs.size = s.heap.objs.size + 1 := Heap.size_push ..
  show _ ∧ _
  rw [hz]
  have he : IsEnum ((s.heap.push o).push { cls := .type "enumerate", data := .fields #[.none, .bool false, .ref s.heap.objs.size, rawInt 0, .none, .none] }) (s.heap.objs.size + 1) s.heap.objs.size 0 .none := by
    have := Heap.get?_push_size (s.heap.push o) (o := { cls := .type "enumerate", data := .fields #[.none, .bool false, .ref s.heap.objs.size, rawInt 0, .none, .none] }) rfl
    rw [hz] at this; exact this
  refine ⟨⟨_, he, rfl⟩, h _ he (Heap.get?_push_of_some _ (Heap.get?_push_size _ B.free)) (by rw [Heap.size_push, hz]) fun b o x => Heap.get?_push_of_some _ (Heap.get?_push_of_some _ x)⟩
def IteT (K : PySem.W.Frag) (a : Addr) : It :=
  ⟨fun i H => ∃ (xs : List V) (x : V), SqT K H a xs ∧ xs[i]? = some x, fun i H v H' => ∃ T x, v = .ref T ∧ H T = none ∧ H' = upd H T (.tup [.int (i : Nat), x]) ∧ ∀ xs, SqT K H a xs → xs[i]? = some x, fun i H => ∃ xs : List V, SqT K H a xs ∧ xs.length ≤ i⟩
theorem turn_enumT {P : Program} {w : World} {K : PySem.W.Frag} {elts : List Expr} {kk : Nat} {tpos : Pos} (a e it : Addr) (hae : a ≠ e) (hai : a ≠ it) :
    Turn P w K (.Tuple elts kk tpos) (IteT K a) [e, it] e (fun i h => (∃ old, IsEnum h e it ((i : Nat) : Int) old) ∧ h.IsTupleIter it a i ∧ e ≠ it) where
  mem := by simp
  obj := fun i h st b hb => by
    obtain ⟨⟨old, he⟩, ⟨o, ho, hc, hd⟩, _⟩ := st
    have e' : b = e ∨ b = it := by simpa using hb
    rcases e' with z | z
    · rw [z]; exact ⟨_, he, fun v q => nomatch q⟩
    · rw [z]; exact ⟨o, ho, fun v q => by rw [hd] at q; cases q⟩
  keep := fun i h h' st k => let ⟨⟨old, he⟩, hi, hne⟩ := st; ⟨⟨old, k e (by simp) _ he⟩, hi.at fun o q => k it (by simp) o q, hne⟩
  item := by
    intro X hP hw hK hc i pins s σ H E I hf st hg
    subst hP hw hK
    obtain ⟨⟨old, he⟩, hit, hne⟩ := st
    obtain ⟨xs, x, hq, hx⟩ := hg
    obtain ⟨its, rv, p, hz⟩ := I.tuple hq
    obtain ⟨u, hu, ru⟩ := rv.get hx
    have hel : e < s.heap.objs.size := Heap.lt_size he
    have hil : it < s.heap.objs.size := by obtain ⟨_, q, _⟩ := hit; exact Heap.lt_size q
    have hlt : i < its.toArray.size := by simpa using (List.getElem?_eq_some_iff.mp hu).1
    refine wpAny_pyNext_enum_itemD (Draws.tuple (A := X.A.in1) (show X.A.in1.handled = none from I.ok.hd hc) it a hai its.toArray) he ⟨hit, p⟩ hlt hne (by simp [hne, Ne.symm hae]) fun x' h' tk hP ho hst' hT hsz hk => ?_
    obtain ⟨hit', _⟩ := hst'
    have exu : x' = u := by
      have hu' : its.toArray[i]? = some u := by simpa using hu
      rw [hu'] at hP
      exact (Option.some.inj hP).symm
    subst exu
    refine ⟨_, rfl, wpAny_letOwnedTupleGo_enum (s := { s with heap := h', toks := tk + 1 }) ho fun h'' he' sb => ?_⟩
    have hT2 : h''.get? s.heap.objs.size = some { cls := .type "tuple", data := .seq #[.int i tk, x'] } := (sb.2 _ (Nat.ne_of_gt hel)).trans hT
    have new : ObjOk X.prog X.w (upd H s.heap.objs.size (.tup [.int (i : Nat), x])) h'' s.heap.objs.size (.tup [.int (i : Nat), x]) :=
      ⟨by show 2 ≤ sizeLine; decide, [.int i tk, x'], .cons ⟨_, rfl⟩ (.cons ru .nil), ⟨_, hT2, rfl, _, rfl⟩⟩
    have I1 : Inv X pins σ (upd H s.heap.objs.size (.tup [.int (i : Nat), x])) { s with heap := h'', toks := tk + 1 } :=
      I.turnedNew (ch := [e, it]) (fun b ob hb q => (sb.2 b (fun z => hb (by simp [z]))).trans (hk b ob (fun z => hb (by simp [z])) (fun z => hb (by simp [z])) q)) hf (Nat.le_refl _) new
    refine ⟨.ref s.heap.objs.size, _, I1, rfl, ⟨_, x, rfl, I.hok.fresh (Nat.le_refl _), rfl, fun ys hy => by rw [I.tuple_inj hy hq]; exact hx⟩, ⟨⟨x', ?_⟩, hit'.at fun o q => (sb.2 it (Ne.symm hne)).trans q, hne⟩, fun b hb => ?_⟩
    · have e1 : ((i + 1 : Nat) : Int) = (i : Int) + 1 := by omega
      rw [e1]; exact he'
    · have hb' : b < s.heap.objs.size := by
        have e' : b = e ∨ b = it := by simpa using hb
        rcases e' with z | z
        · rw [z]; exact hel
        · rw [z]; exact hil
      rw [upd_ne (Nat.ne_of_lt hb')]
      exact (hf b hb).1
  done := by
    intro X hP hw hK hc i pins s σ H E I hf st hg
    subst hP hw hK
    obtain ⟨⟨old, he⟩, hit, hne⟩ := st
    obtain ⟨xs, hq, hx⟩ := hg
    obtain ⟨its, rv, p, hz⟩ := I.tuple hq
    obtain ⟨f0, f1, f2, f3, f4, f5⟩ := hf it (by simp)
    have hl := rv.length
    have hT : s.TypeIs (.ref e) "enumerate" := ⟨_, he, rfl⟩
    unfold pyNext
    refine wpAny_bind (wpAny_attempt (wpAny_callSpecial?_slot (name := Str.ofString "__next__") hT F.slot_enumerate_next
      (wpAny_call_entry F.slot_enumerate_next hT F.entry_enumerate_next ?_ (F.args_enumerate_next_1 _))))
    show wpAny _ _ (field (.ref e) 2 >>= _) _ _ _
    refine wpAny_bind (wpAny_field he rfl (x := .ref it) rfl ?_)
    refine wpAny_bind (wpAny_nextOf_tuple_end (I.ok.hd hc) hit p (by simp; omega) fun h' x' eb hx' => ?_)
    obtain ⟨o, ho, hcx⟩ := hx'
    refine wpAny_bind (wpAny_isInstance (T := "StopIteration") (b := true) ⟨o, ho, hcx⟩ isSubtype_stop ?_)
    exact wpAny_pure ⟨rfl, I.turned (t' := s.toks) (fun b o hb q => eb b o hb q) f0 f1 f3 f4 f5⟩
  self := fun A i s Q E st h => let ⟨⟨_, he⟩, _⟩ := st; wpAny_pyIter_enum he h
def iEnumT (K : PySem.W.Frag) (ta : TA) : TI := fun σ H R => ta σ H fun vs H1 => ∃ a xs, vs = [.ref a] ∧ SqT K H1 a xs ∧ R (IteT K a) H1
theorem pi_enumT {X : Cx} {e : Expr} {ta : TA} {p pos tpos : Pos} {elts : List Expr} {kk : Nat} (hg : Gl X "enumerate") (hm : X.mg "enumerate" = none) (ha : PA X [e] ta) (hs : starEach [e] X.env = [(false, eval e X.env)] := by rfl) :
    PI X (.Tuple elts kk tpos) (.Call (.Name "enumerate" p) [e] [] pos) (iEnumT X.K ta) := by
  refine ⟨fun pins s σ H R I h => ?_⟩
  refine Call_ (ld_blt I hg hm boot_enumerate (PyProof.Rows.callWith_type1 (thn (ha.run pos pins s σ H _ I h) fun us s1 ⟨vs, H1, I1, r1, q1⟩ => ?_) hs rfl))
  obtain ⟨a, xs, ex, hq, q⟩ := q1
  subst ex
  cases r1 with
  | cons r rr =>
    cases rr
    cases r
    obtain ⟨its, rv, p', hz⟩ := I1.tuple hq
    have hal : a < s1.heap.objs.size := by obtain ⟨_, q, _⟩ := id p'; exact Heap.lt_size q
    refine enum_begins1 (begins_tuple a its.toArray) p' fun h' he hit hsz hk => wpAny_pyIter_enum he ?_
    have I2 : Inv X pins σ H1 { s1 with heap := h' } := I1.kept (t' := s1.toks) hk
    refine ⟨s1.heap.objs.size + 1, [s1.heap.objs.size + 1, s1.heap.objs.size], _, _, H1, rfl, I2, turn_enumT a (s1.heap.objs.size + 1) s1.heap.objs.size (Nat.ne_of_lt (Nat.lt_succ_of_lt hal)) (Nat.ne_of_lt hal), ⟨⟨.none, he⟩, ⟨_, hit, rfl, rfl⟩, Nat.succ_ne_self _⟩, fun b hb => ?_, q⟩
    have e' : b = s1.heap.objs.size + 1 ∨ b = s1.heap.objs.size := by simpa using hb
    have hle : s1.heap.objs.size ≤ b := by
      rcases e' with z | z
      · rw [z]; exact Nat.le_add_right _ _
      · rw [z]; exact Nat.le_refl _
    exact I1.fpOk hle (I1.hok.fresh hle)
end FLB
namespace FL
open PySem PySem.Spec PyProof.Rows L2
variable [Wrl] [Tabl]
variable {X : Cx} {W : WX} {e a b c o tg iter value : Expr} {f g f1 f2 f3 fo fa : EF} {pos pos' apos kpos p tpos : Pos} {es : List Expr} {u uk : AF} {kws : List Keyword}
def enumD : Nat → List D → List D
  | _, [] => []
  | i, d :: ds => .tup [.int (i : Nat), d] :: enumD (i + 1) ds
theorem enumD_get : ∀ {ds : List D} {i k : Nat}, (enumD k ds)[i]? = ds[i]?.map fun d => .tup [.int ((k + i : Nat) : Int), d]
  | [], i, k => by simp [enumD]
  | d :: ds, 0, k => by simp [enumD]
  | d :: ds, i + 1, k => by
    show (enumD (k + 1) ds)[i]? = _
    rw [enumD_get, List.getElem?_cons_succ, show k + 1 + i = k + (i + 1) by omega]
theorem enumD_len : ∀ (ds : List D) (k : Nat), (enumD k ds).length = ds.length
  | [], _ => rfl
  | d :: ds, k => by rw [enumD, List.length_cons, List.length_cons, enumD_len]
theorem walks_pairs {K : Frg} {J : It} {ds : List D} {vs : List V} {G0 : Hp} (r : Reps K G0 ds vs) (hgo : ∀ H i x, (∀ (F : Fr) (Γ : En) (σ : St) (G : Hp), Rl K F Γ σ H G → Le G0 G → vs[i]? = some x → J.go i H)) (hst : ∀ H i, (∀ (F : Fr) (Γ : En) (σ : St) (G : Hp), Rl K F Γ σ H G → Le G0 G → vs.length ≤ i → J.stop i H))
    (hy : ∀ H i v H', (∀ (F : Fr) (Γ : En) (σ : St) (G : Hp), Rl K F Γ σ H G → Le G0 G → J.yld i H v H' → ∃ T x, v = .ref T ∧ H T = none ∧ H' = upd H T (.tup [.int (i : Nat), x]) ∧ vs[i]? = some x)) : Walks K J (enumD 0 ds) G0 := fun F Γ σ H G i R le => by
  refine ⟨fun d hd => ?_, fun hi => hst H i F Γ σ G R le (by rw [r.len]; rw [enumD_len] at hi; exact hi)⟩
  rw [enumD_get] at hd
  obtain ⟨d0, h1, rfl⟩ := Option.map_eq_some_iff.mp hd
  obtain ⟨v, h2, h3⟩ := r.getD h1
  refine ⟨hgo H i v F Γ σ G R le h2, fun x H' y => ?_⟩
  obtain ⟨T, x', rfl, hT, rfl, hx⟩ := hy H i x H' F Γ σ G R le y
  rw [h2] at hx
  cases hx
  have R1 := R.newH (o := .tup [.int (i : Nat), v]) hT
  have R2 := R1.tell (p := T) upd_same (R.heNone hT) (R.gNone hT) (R.noOwn hT)
  refine ⟨_, R2, Le.upd (R.gNone hT), ⟨T, _, rfl, .of upd_same, .int (i : Nat), _, rfl, by rw [Nat.zero_add]; rfl, v, _, rfl, Rep.le (le.trans (Le.upd (R.gNone hT))) _ _ h3, rfl⟩, .inr ⟨T, _, hT, rfl⟩⟩
theorem walks_enumT {K : Frg} {a : Addr} {vs : List V} {ds : List D} {G0 : Hp} (h : SqT K G0 a vs) (r : Reps K G0 ds vs) : Walks K (FLB.IteT K a) (enumD 0 ds) G0 :=
  walks_pairs r (fun H i x F Γ σ G R le hx => ⟨vs, x, SqT.le R.gh (SqT.le le h), hx⟩) (fun H i F Γ σ G R le hi => ⟨vs, SqT.le R.gh (SqT.le le h), hi⟩) fun H i v H' F Γ σ G R le y => by
    obtain ⟨T, x, e1, e2, e3, e4⟩ := y
    exact ⟨T, x, e1, e2, e3, e4 vs (SqT.le R.gh (SqT.le le h))⟩
theorem walks_enumL {K : Frg} {a : Addr} {vs : List V} {ds : List D} {G0 : Hp} (h : G0 a = some (.lst vs)) (r : Reps K G0 ds vs) : Walks K (Ite K a) (enumD 0 ds) G0 :=
  walks_pairs r (fun H i x F Γ σ G R le hx => ⟨vs, x, .of (R.gh _ _ (le _ _ h)), hx⟩) (fun H i F Γ σ G R le hi => ⟨vs, .of (R.gh _ _ (le _ _ h)), hi⟩) fun H i v H' F Γ σ G R le y => by
    obtain ⟨T, x, e1, e2, e3, e4⟩ := y
    exact ⟨T, x, e1, e2, e3, e4 vs (.of (R.gh _ _ (le _ _ h)))⟩
def enL (ev : EV) (Γ : En) : O (List D) := match frz1 ev Γ with
  | some (.lst ds, Γ') => .ok (enumD 0 ds) Γ'
  | _ => .fail
def enA (ev : EV) (Γ : En) : O (List D) := match ev with
  | .d (.tup ds) => .ok (enumD 0 ds) Γ
  | _ => enL ev Γ
def enumI (f : EF) : IF := fun Γ => (f Γ).bind enA
theorem fi_enum {elts : List Expr} {kk : Nat} (hm : X.mg "enumerate" = none) (h : FE X W e f) (hg : Gl X "enumerate" := by rfl) (hs : starEach [e] X.env = [(false, eval e X.env)] := by rfl) : FI X W (.Tuple elts kk tpos) (.Call (.Name "enumerate" p) [e] [] pos) (enumI f) := by
  obtain ⟨t, pt, s⟩ := h
  have pa : PA X [e] (tCons t tNil) := pa_cons pt pa_nil hs
  refine ⟨_, pi_or (FLB.pi_enumT hg hm pa hs) (pi_enum hg hm pa hs), fun F Γ σ H G R => ?_⟩
  have k := s F Γ σ H G R
  refine OutI.or (T1 := FLB.iEnumT X.K (tCons t tNil) σ H) (T2 := iEnum X.K (tCons t tNil) σ H) (r := enumI f Γ) ?_ (fun Q q => .inl q) (fun Q q => .inr q)
  unfold enumI
  revert k
  cases f Γ with
  | fail => exact fun _ => .inl trivial
  | exc c ns fs Γ' => exact fun k => .inl fun Q q => k _ q
  | ok ev Γ' =>
    intro k
    show OutI X.K W F σ G _ (enA ev Γ') ∨ OutI X.K W F σ G _ (enA ev Γ')
    unfold enA
    split
    · left
      intro Q q
      refine k _ fun v H1 G1 R1 le1 r1 => ?_
      obtain ⟨a, vs, rfl, hv, rp⟩ := r1
      exact ⟨a, vs, rfl, SqT.le R1.gh hv, q _ _ G1 R1 le1 (walks_enumT hv rp)⟩
    · right
      unfold enL
      split
      · rename_i ds Γ2 e2
        intro Q q
        refine k _ fun v H1 G1 R1 le1 r1 => ?_
        obtain ⟨G2, R2, le2, rp⟩ := R1.frz1 r1 e2
        obtain ⟨a, vs, rfl, hv, rp⟩ := rp
        exact ⟨a, vs, rfl, .of (R2.gh _ _ hv), q _ _ G2 R2 (le1.trans le2) (walks_enumL hv rp)⟩
      · trivial
section
variable {k n : Nat} {fa' : Addr} {fd : FuncData} {ps ks : List Str} {sp : Sp} {dvs : List V} {ds : List Value} {x m cn fn : Str} {Fn : DFn} {dd : List D} {pm : List Nat} {b : Option Nat}
def methK (b : Option Nat) (n mk np : Nat) (pm : List Nat) (c m : Str) (Fn : DFn) (dd : List D) (fo : EF) (u uk : AF) : VF := fun Γ => (fo Γ).bind fun eo Γ1 => match insOf c eo Γ1 with
  | some (ns, _) => if ns.contains m then .fail else (u Γ1).bind fun es Γ2 => (uk Γ2).bind fun zs Γ3 =>
      if es.length = n ∧ zs.length = mk ∧ (pick pm ((eo :: es) ++ (zs ++ dd.map EV.d))).length = np then finCall b Fn [] (pick pm ((eo :: es) ++ (zs ++ dd.map EV.d))) Γ3 else .fail
  | none => .fail
end
end FL
namespace FL
open PySem PySem.Spec PyProof.Rows L2
section
variable [Wrl] [Tabl]
def insO (c : Str) (r : Option OD) : Option (List Str × List D) := match r with
  | some (.i c' ns fs) => if c' = c then some (ns, fs) else none
  | _ => none
def flC (c f : Str) (ev : EV) (Γ : En) : O EV := oK Γ ((insOf c ev Γ).bind fun p => fldOf f p.1 p.2)
def prC (c : Str) (Fn : DFn) (ev : EV) (Γ : En) : O VV := if (insOf c ev Γ).isSome then noX (finCall none Fn [] [ev] Γ) else .fail
def mkC (n : Nat) (Fn : DFn) (c : Str) (dd : List D) (es : List EV) (Γ : En) : O VV := if es.length = n then finMake Fn c dd es Γ else .fail
def fmK (Fn : DFn) (c : Str) (dd : List D) (r : Option (List D × En)) : O VV := match r with
  | none => .fail
  | some (ds, Γ1) => maK Γ1 (Fn (.ins c [] [] :: (ds ++ dd)))
def meI (b : Option Nat) (n : Nat) (m : Str) (Fn : DFn) (dd : List D) (u : AF) (eo : EV) (Γ : En) (r : Option (List Str × List D)) : O VV := match r with
  | some (ns, _) => if ns.contains m then .fail else (u Γ).bind fun es Γ2 => if es.length = n then finCall b Fn dd (eo :: es) Γ2 else .fail
  | none => .fail
def meC (b : Option Nat) (n : Nat) (c m : Str) (Fn : DFn) (dd : List D) (u : AF) (eo : EV) (Γ : En) : O VV := meI b n m Fn dd u eo Γ (insOf c eo Γ)
def mkI (b : Option Nat) (n mk np : Nat) (pm : List Nat) (m : Str) (Fn : DFn) (dd : List D) (u uk : AF) (eo : EV) (Γ : En) (r : Option (List Str × List D)) : O VV := match r with
  | some (ns, _) => if ns.contains m then .fail else (u Γ).bind fun es Γ2 => (uk Γ2).bind fun zs Γ3 =>
      if es.length = n ∧ zs.length = mk ∧ (pick pm ((eo :: es) ++ (zs ++ dd.map EV.d))).length = np then finCall b Fn [] (pick pm ((eo :: es) ++ (zs ++ dd.map EV.d))) Γ3 else .fail
  | none => .fail
def mkC' (b : Option Nat) (n mk np : Nat) (pm : List Nat) (c m : Str) (Fn : DFn) (dd : List D) (u uk : AF) (eo : EV) (Γ : En) : O VV := mkI b n mk np pm m Fn dd u uk eo Γ (insOf c eo Γ)
def sfC (i : Nat) (c f : Str) (ev : EV) (Γ : En) : O Fl := setFK i c f (frz1 ev Γ)
def sfD (i : Nat) (c f : Str) (d : D) (Γ : En) (r : Option OD) : O Fl := match r with
  | some (.i c' ns fs) => if c' = c ∧ ns.length < 1000 then .ok .nx (putOwn Γ i (.i c (putFD f d ns fs).1 (putFD f d ns fs).2)) else .fail
  | _ => .fail
def txC (cn : Str) (Fn : DFn) (ev : EV) (Γ : En) : O EV := if (insOf cn ev Γ).isSome then txK (finCall none Fn [] [ev] Γ) else .fail
def trC (cn : Str) (ev : EV) (Γ : En) : O EV := if (insOf cn ev Γ).isSome then .ok (.d (.bl true)) Γ else .fail
def eqC (cs : List Str) (cn : Str) (Fn : DFn) (e1 e2 : EV) (Γ : En) : O EV := if ((insOf cn e1 Γ).isSome && okTy cs e2 Γ) = true then eqK (finCall none Fn [] [e1, e2] Γ) else .fail
def neC (cs : List Str) (cn : Str) (Fn : DFn) (e1 e2 : EV) (Γ : En) : O EV := if ((insOf cn e1 Γ).isSome && okTy cs e2 Γ) = true then neK (finCall none Fn [] [e1, e2] Γ) else .fail
def jsC (fs : List EF) (acc : Str) (ev : EV) (Γ : En) : O EV := match ev with
  | .d (.str y) => if (acc ++ y).length ≤ sizeLine then jsE fs (acc ++ y) Γ else .fail
  | _ => .fail
def fmC (ev : EV) (Γ : En) : O EV := match ev with
  | .d (.str y) => if y.length ≤ sizeLine then .ok (.d (.str y)) Γ else .fail
  | .d (.int i) => if i.natAbs.log2 < 1920 then .ok (.d (.str (Str.ofString (toString i)))) Γ else .fail
  | _ => .fail
end
namespace Ev
variable {f f1 f2 : EF} {Γ : En} {vf : VF} {u uk : AF} {cn c c' m : Str} {Fn : DFn} {b : Option Nat} {dd ds : List D} {n : Nat} {ns : List Str} {fs : List D} {cs : List Str}
theorem ins_d : insOf c (.d (.ins c' ns fs)) Γ = if c' = c then some (ns, fs) else none := rfl
theorem ins_o {i} : insOf c (.own i) Γ = insO c (FL.ownD Γ i) := by
  unfold insOf insO
  rw [looko]
  cases FL.ownD Γ i with
  | none => rfl
  | some o => cases o <;> rfl
theorem ins_oi : insO c (some (.i c' ns fs)) = if c' = c then some (ns, fs) else none := rfl
theorem isSomeS {α : Type} {x : α} : (some x).isSome = true := rfl
theorem fld {x : Str} : fldE c x f Γ = (f Γ).bind (flC c x) := by
  unfold fldE flC
  congr 1
theorem flC1 {x : Str} {ev} : flC c x ev Γ = oK Γ ((insOf c ev Γ).bind fun p => fldOf x p.1 p.2) := rfl
theorem prop : propV c Fn f Γ = (f Γ).bind (prC c Fn) := rfl
theorem prC1 {ev} : prC c Fn ev Γ = if (insOf c ev Γ).isSome then noX (FL.finCall none Fn [] [ev] Γ) else .fail := rfl
theorem noX1 {v} : noX (.ok v Γ) = .ok v Γ := rfl
theorem make : makeV n Fn c dd u Γ = (u Γ).bind (mkC n Fn c dd) := rfl
theorem mkC1 {es} : mkC n Fn c dd es Γ = if es.length = n then finMake Fn c dd es Γ else .fail := rfl
theorem fmk {es} : finMake Fn c dd es Γ = fmK Fn c dd (frzs es Γ) := by unfold finMake fmK; cases frzs es Γ <;> rfl
theorem fmK1 : fmK Fn c dd (some (ds, Γ)) = maK Γ (Fn (.ins c [] [] :: (ds ++ dd))) := rfl
theorem maK1 {o} : maK Γ (.ok .non (some o)) = .ok (.n o) Γ := rfl
theorem makeKK {k np pm} : makeK n k np pm Fn c dd u uk Γ = (u Γ).bind fun es Γ1 => (uk Γ1).bind fun zs Γ2 =>
  if es.length = n ∧ zs.length = k ∧ (pick pm (es ++ (zs ++ dd.map EV.d))).length + 1 = np then finMake Fn c [] (pick pm (es ++ (zs ++ dd.map EV.d))) Γ2 else .fail := rfl
theorem meth : methV b n c m Fn dd f u Γ = (f Γ).bind (meC b n c m Fn dd u) := by
  unfold methV meC meI
  congr 1
theorem meC1 {eo} : meC b n c m Fn dd u eo Γ = meI b n m Fn dd u eo Γ (insOf c eo Γ) := rfl
theorem meI1 {eo} : meI b n m Fn dd u eo Γ (some (ns, fs)) = if ns.contains m then .fail else (u Γ).bind fun es Γ2 => if es.length = n then FL.finCall b Fn dd (eo :: es) Γ2 else .fail := rfl
theorem methKK {k np pm} : methK b n k np pm c m Fn dd f u uk Γ = (f Γ).bind (mkC' b n k np pm c m Fn dd u uk) := by
  unfold methK mkC' mkI
  congr 1
theorem mkC'1 {k np pm eo} : mkC' b n k np pm c m Fn dd u uk eo Γ = mkI b n k np pm m Fn dd u uk eo Γ (insOf c eo Γ) := rfl
theorem mkI1 {k np pm eo} : mkI b n k np pm m Fn dd u uk eo Γ (some (ns, fs)) = if ns.contains m then .fail else (u Γ).bind fun es Γ2 => (uk Γ2).bind fun zs Γ3 =>
      if es.length = n ∧ zs.length = k ∧ (pick pm ((eo :: es) ++ (zs ++ dd.map EV.d))).length = np then FL.finCall b Fn [] (pick pm ((eo :: es) ++ (zs ++ dd.map EV.d))) Γ3 else .fail := rfl
theorem setf {i x} : setF i c x f Γ = (f Γ).bind (sfC i c x) := rfl
theorem sfC1 {i x ev} : sfC i c x ev Γ = setFK i c x (frz1 ev Γ) := rfl
theorem setFK1 {i x d} : setFK i c x (some (d, Γ)) = sfD i c x d Γ (FL.ownD Γ i) := by
  first
  | (unfold setFK sfD; dsimp only; done)
  | (unfold setFK sfD; dsimp only; rcases FL.ownD Γ i with _ | o <;> first | rfl | (cases o <;> rfl))
theorem sfD1 {i x d} : sfD i c x d Γ (some (.i c' ns fs)) = if c' = c ∧ ns.length < 1000 then .ok .nx (FL.putOwn Γ i (.i c (putFD x d ns fs).1 (putFD x d ns fs).2)) else .fail := rfl
theorem odi : OD.d (.i c ns fs) = .ins c ns fs := rfl
theorem odins : D.od (.ins c ns fs) = some (.i c ns fs) := rfl
theorem text : textE c Fn f Γ = (f Γ).bind (txC c Fn) := rfl
theorem txC1 {ev} : txC c Fn ev Γ = if (insOf c ev Γ).isSome then txK (FL.finCall none Fn [] [ev] Γ) else .fail := rfl
theorem txK1 {y} : txK (.ok (.e (.d (.str y))) Γ) = .ok (.d (.str y)) Γ := rfl
theorem truei : trueI c f Γ = (f Γ).bind (trC c) := rfl
theorem trC1 {ev} : trC c ev Γ = if (insOf c ev Γ).isSome then .ok (.d (.bl true)) Γ else .fail := rfl
theorem eqi : eqiE cs c Fn f1 f2 Γ = (f1 Γ).bind fun e1 Γ1 => (f2 Γ1).bind (eqC cs c Fn e1) := rfl
theorem eqC1 {e1 e2} : eqC cs c Fn e1 e2 Γ = if ((insOf c e1 Γ).isSome && okTy cs e2 Γ) = true then eqK (FL.finCall none Fn [] [e1, e2] Γ) else .fail := rfl
theorem eqK1 {b} : eqK (.ok (.e (.d (.bl b))) Γ) = .ok (.d (.bl b)) Γ := rfl
theorem nei : neiE cs c Fn f1 f2 Γ = (f1 Γ).bind fun e1 Γ1 => (f2 Γ1).bind (neC cs c Fn e1) := rfl
theorem neC1 {e1 e2} : neC cs c Fn e1 e2 Γ = if ((insOf c e1 Γ).isSome && okTy cs e2 Γ) = true then neK (FL.finCall none Fn [] [e1, e2] Γ) else .fail := rfl
theorem neK1 {b} : neK (.ok (.e (.d (.bl b))) Γ) = .ok (.d (.bl (!b))) Γ := rfl
theorem okTyd : okTy cs (.d (.ins c ns fs)) Γ = cs.contains c := rfl
def okO (cs : List Str) (r : Option OD) : Bool := match r with
  | some (.i c _ _) => cs.contains c
  | some (.n _ _) => false
  | some _ => true
  | none => false
theorem okTyo {i} : okTy cs (.own i) Γ = okO cs (FL.ownD Γ i) := by
  unfold okTy okO
  rw [looko]
  cases FL.ownD Γ i with
  | none => rfl
  | some o => cases o <;> rfl
theorem okO1 : okO cs (some (.i c ns fs)) = cs.contains c := rfl
theorem isC1 : isC cs c (.ins c' ns fs) = if cs.contains c' then some (decide (c' = c)) else none := rfl
theorem js0 {acc} : jsE [] acc Γ = .ok (.d (.str acc)) Γ := rfl
theorem js1 {fs acc} : jsE (f :: fs) acc Γ = (f Γ).bind (jsC fs acc) := by
  show (f Γ).bind _ = _
  congr 1
theorem fmt : fmtE f Γ = (f Γ).bind fmC := by
  unfold fmtE
  congr 1
theorem enum : enumI f Γ = (f Γ).bind enA := rfl
theorem enAt {ds} : enA (.d (.tup ds)) Γ = .ok (enumD 0 ds) Γ := rfl
theorem enAl {ds} : enA (.d (.lst ds)) Γ = .ok (enumD 0 ds) Γ := rfl
theorem enAo {i} : enA (.own i) Γ = enL (.own i) Γ := rfl
theorem enL1 {ev} : enL ev Γ = (match frz1 ev Γ with | some (.lst ds, Γ') => .ok (enumD 0 ds) Γ' | _ => .fail) := rfl
def all3 := (And.intro @ins_d (And.intro @ins_o (And.intro @ins_oi (And.intro @isSomeS (And.intro @fld (And.intro @flC1 (And.intro @prop (And.intro @prC1 (And.intro @noX1 (And.intro @make (And.intro @mkC1 (And.intro @fmk (And.intro @fmK1 (And.intro @maK1 (And.intro @makeKK (And.intro @meth (And.intro @meC1 (And.intro @meI1 (And.intro @methKK (And.intro @mkC'1 (And.intro @mkI1 (And.intro @setf (And.intro @sfC1 (And.intro @setFK1 (And.intro @sfD1 (And.intro @odi (And.intro @odins (And.intro @text (And.intro @txC1 (And.intro @txK1 (And.intro @truei (And.intro @trC1 (And.intro @eqi (And.intro @eqC1 (And.intro @eqK1 (And.intro @nei (And.intro @neC1 (And.intro @neK1 (And.intro @okTyd (And.intro @okTyo (And.intro @okO1 (And.intro @isC1 (And.intro @js0 (And.intro @js1 (And.intro @fmt (And.intro @enum (And.intro @enAt (And.intro @enAl (And.intro @enAo @enL1)))))))))))))))))))))))))))))))))))))))))))))))))
end Ev
end FL
namespace HT
open PySem PyProof.Rows
open PySem.SeqAt
open PySem.AutoSeq1 (wpAny_loadPart')
open PySem.MeetsSeq PySem.MeetsSeq2 PySem.MeetsSeq3
section
variable {prog : Program} {w : World} {A : Around} {E : Value → Shared → Prop} {s : Shared}
theorem adjust_rev (n : Nat) : Builtin.Slice.sliceAdjust none none (-1) (n : Int) = ((n : Int) - 1, -1) := rfl
theorem places_rev (n : Nat) : Builtin.Slice.slicePlaces ((n : Int) - 1) (-1) (-1) = n := by
  unfold Builtin.Slice.slicePlaces
  rw [if_neg (by decide)]
  split
  · have : ((n : Int) - 1 - (-1) - 1) / (- -1) + 1 = n := by
      rw [show (- -1 : Int) = 1 from rfl, Int.ediv_one]; omega
    rw [this]; rfl
  · omega
theorem filterMap_some {α β : Type} {f : α → Option β} {g : α → β} : ∀ l : List α, (∀ m ∈ l, f m = some (g m)) → l.filterMap f = l.map g
  | [], _ => rfl
  | x :: l, h => by
    rw [List.filterMap_cons, h x List.mem_cons_self, List.map_cons, filterMap_some l fun m hm => h m (List.mem_cons_of_mem _ hm)]
theorem pick_rev (xs : Array Value) : ((List.range xs.size).filterMap fun (m : Nat) => xs[((xs.size : Int) - 1 + (m : Int) * (-1)).toNat]?).toArray = xs.toList.reverse.toArray := by
  congr 1
  rw [filterMap_some (g := fun m => xs.toList.reverse.getD m default) _ fun m hm => by
    have hm := List.mem_range.mp hm
    have e : ((xs.size : Int) - 1 + (m : Int) * (-1)).toNat = xs.size - 1 - m := by omega
    show xs[((xs.size : Int) - 1 + (m : Int) * (-1)).toNat]? = some (xs.toList.reverse.getD m default)
    rw [e, List.getD_eq_getElem?_getD, List.getElem?_reverse (by simpa using hm), Array.length_toList, Array.getElem?_toList, Array.getElem?_eq_getElem (by omega)]
    rfl]
  apply List.ext_getElem?
  intro i
  rw [List.getElem?_map]
  by_cases hi : i < xs.size
  · rw [List.getElem?_range hi]
    show some (xs.toList.reverse.getD i default) = _
    rw [List.getD_eq_getElem?_getD, List.getElem?_eq_getElem (by simpa using hi)]; rfl
  · rw [List.getElem?_eq_none (by simpa using hi), List.getElem?_eq_none (by simpa using hi)]; rfl
theorem sliceApplied_rev {sl : Addr} {vl vu vs : Value} {n : Nat} {Q : Int × Int × Nat → Shared → Prop} (hs : s.heap.IsSliceOf sl vl vu vs) (pl : IsPart vl none) (pu : IsPart vu none) (ps : IsPart vs (some (-1)))
    (h : Q ((n : Int) - 1, -1, n) s) : wpAny (model prog w) A (Builtin.Slice.sliceApplied (.ref sl) (pure (n : Int))) Q E s := by
  obtain ⟨os, hos, hcs, hds⟩ := id hs
  unfold Builtin.Slice.sliceApplied Builtin.Slice.sliceFields
  refine wpAny_bind (wpAny_bind (wpAny_field hos hds (x := vl) rfl (wpAny_bind (wpAny_field hos hds (x := vu) rfl (wpAny_bind (wpAny_field hos hds (x := vs) rfl (wpAny_pure ?_)))))))
  refine wpAny_bind (slicePart_ ps ?_)
  show wpAny _ _ (if ((-1 : Int) == 0) = true then _ else _) _ _ s
  rw [if_neg (by decide)]
  refine wpAny_bind (slicePart_ pl (wpAny_bind (slicePart_ pu (wpAny_bind (wpAny_pure ?_)))))
  show wpAny _ _ (match Builtin.Slice.sliceAdjust none none (-1) (n : Int) with | (lo, hi) => pure (lo, (-1 : Int), Builtin.Slice.slicePlaces lo hi (-1))) _ _ s
  rw [adjust_rev n]
  show wpAny _ _ (pure ((n : Int) - 1, (-1 : Int), Builtin.Slice.slicePlaces ((n : Int) - 1) (-1) (-1))) _ _ s
  rw [places_rev]
  exact wpAny_pure h
theorem getItem_tuple_rev {t sl : Addr} {items : Array Value} {vl vu vs : Value} {Q : Value → Shared → Prop} (ht : IsTup s.heap t items) (hs : s.heap.IsSliceOf sl vl vu vs) (pl : IsPart vl none) (pu : IsPart vu none) (ps : IsPart vs (some (-1)))
    (h : Q (.ref s.heap.objs.size) { s with heap := s.heap.push { cls := .type "tuple", data := .seq items.toList.reverse.toArray } })
    (hsz : items.size ≤ sizeLine) : wpAny (model prog w) A (getItem (.ref t) (.ref sl)) Q E s := by
  have htake : sizeOk (.seq items.toList.reverse.toArray) := by
    show items.toList.reverse.toArray.size ≤ sizeLine
    rw [List.size_toArray, List.length_reverse, Array.length_toList]; exact hsz
  obtain ⟨os, hos, hcs, hds⟩ := id hs
  have hTs : s.TypeIs (.ref sl) "slice" := ⟨os, hos, hcs⟩
  unfold getItem
  try with_reducible refine wpAny_holding ?_
  first | refine wpAny_bind (wpAny_pure ?_) | skip
  refine wpAny_bind (wpAny_sequenceKey ht.typeIs (by decide) ?_)
  refine wpAny_bind (wpAny_callSpecial?_slot (name := Str.ofString "__getitem__") ht.typeIs PyProof.Rows.slot_tuple_getitem
    (wpAny_call_entry PyProof.Rows.slot_tuple_getitem ht.typeIs entry_tuple_getitem ?_ (args_tuple_getitem _ _)))
  show wpAny _ _ (Builtin.Tuple.tupleItemsOf (.ref t) >>= _) _ _ s
  refine wpAny_bind (tupleItemsOf_ ht ?_)
  refine wpAny_bind (wpAny_typeOf hTs ?_)
  rw [if_pos (by decide)]
  refine wpAny_bind (sliceApplied_rev hs pl pu ps ?_)
  have hno : ¬ (((((items.size : Int) - 1) == 0 && (-1 : Int) == 1 && items.size == items.size)) = true) := by
    intro q
    rw [Bool.and_eq_true, Bool.and_eq_true] at q
    exact absurd q.1.2 (by decide)
  show wpAny _ _ (if ((((items.size : Int) - 1) == 0 && (-1 : Int) == 1 && items.size == items.size)) = true then _ else _) _ _ s
  rw [if_neg hno, pick_rev]
  first
    | exact wpAny_bind (m := Builtin.Tuple.tupleExact _) (wpAny_newObj_type (wpAny_pure ⟨_, rfl, wpAny_pure h⟩) htake)
    | exact wpAny_bind (m := Builtin.Tuple.tupleExact _) (wpAny_newObj_type (wpAny_bind (wpAny_pure (wpAny_pure ⟨_, rfl, wpAny_pure h⟩))) htake)
    | exact wpAny_bind (wpAny_bind (m := Builtin.Tuple.tupleExact _) (wpAny_newObj_type (wpAny_pure (wpAny_pure ⟨_, rfl, wpAny_pure h⟩)) htake))
    | exact wpAny_bind (wpAny_bind (m := Builtin.Tuple.tupleExact _) (wpAny_newObj_type (wpAny_pure ⟨_, rfl, wpAny_pure h⟩) htake))
end
end HT
namespace FL
open PySem PySem.Spec PyProof.Rows L2
variable [Wrl] [Tabl]
section
variable {X : Cx} {W : WX} {e : Expr} {f : EF} {te : TE}
def rRev (K : Frg) (x : V) (H : Hp) (Q : VK) : Prop := ∃ a xs, x = .ref a ∧ ((SqL K H a xs ∧ ∀ p, H p = none → Q (.ref p) (upd H p (.lst xs.reverse))) ∨ (SqT K H a xs ∧ ∀ p, H p = none → Q (.ref p) (upd H p (.tup xs.reverse))))
theorem pe_rev {k : Nat} {p1 p2 p3 pos : Pos} (he : PE X e te) : PE X (.Subscript e (.Slice none none (some (.UnaryOp .USub (.Constant (.int 1) k p1) p2)) p3) pos) (fun σ H Q => te σ H fun x H1 => rRev X.K x H1 Q) := by
  refine ⟨fun pins s σ H Q I h => ?_⟩
  refine Subscript_ (thn (he.run pins s σ H _ I h) fun v s1 ⟨x, H1, I1, r1, q1⟩ => ?_)
  obtain ⟨a, xs, ex, q⟩ := q1
  subst ex
  cases r1
  have hst : PO X (some (.UnaryOp .USub (.Constant (.int 1) k p1) p2)) (tPart (tUn (rU fun i => .int (-i)) (tC (.int 1)))) := po_some (pe_un un_neg pe_int)
  refine wpAny_Slice (thn (po_none.run pins s1 σ H1 (fun o H2 => o = none ∧ H2 = H1) I1 ⟨rfl, rfl⟩) fun vl s2 ⟨l, H2, I2, pl, el, e2⟩ => ?_)
  subst el e2
  refine thn (po_none.run pins s2 σ H2 (fun o H3 => o = none ∧ H3 = H2) I2 ⟨rfl, rfl⟩) fun vu s3 ⟨u, H3, I3, pu, eu, e3⟩ => ?_
  subst eu e3
  refine thn (hst.run pins s3 σ H3 (fun o H4 => o = some (-1) ∧ H4 = H3) I3 ⟨1, rfl, -1, rfl, rfl, rfl⟩) fun vs s4 ⟨o, H4, I4, ps, eo, e4⟩ => ?_
  subst eo e4
  have I5 : Inv X pins σ H4 { s4 with heap := s4.heap.push { cls := .type "slice", data := .fields #[vl, vu, vs] } } := I4.kept (t' := s4.toks) fun b ob q => Heap.get?_push_of_some _ q
  show wpAny (model X.prog X.w) X.A (subscriptTail e (.Slice none none (some (.UnaryOp .USub (.Constant (.int 1) k p1) p2)) p3) (.ref a) (.ref s4.heap.objs.size)) (EP X pins σ Q) X.xe { s4 with heap := s4.heap.push { cls := .type "slice", data := .fields #[vl, vu, vs] } }
  rcases q with ⟨hx, q⟩ | ⟨hx, q⟩
  · obtain ⟨its, r, ht, hz⟩ := I5.list hx
    have hlen := r.length
    refine tail_any (ops := [.ref a, .ref s4.heap.objs.size]) ht.isList.typeIs (PySem.slot_list_getitem.lookup) ?_ (by with_unfolding_all rfl)
    refine wpAny_getItem_list_slice ht.isList (Heap.IsSliceOf.new _ vl vu vs) pl pu ps (by decide) ?_ (by rw [List.size_toArray]; omega)
    rw [PySem.W.krv_pick]
    refine ⟨.ref _, _, I5.laid (t' := s4.toks) (o := .lst xs.reverse) (fun b ob q => Heap.get?_push_of_some _ q) (Nat.le_refl _) ?_, rfl, q _ (I5.hok.fresh (Nat.le_refl _))⟩
    exact ⟨by rw [List.length_reverse]; exact hz, _, 0, r.reverse, Heap.get?_push_size _ rfl⟩
  · obtain ⟨its, r, ht, hz⟩ := I5.tuple hx
    have hlen : its.toArray.size = xs.length := by rw [List.size_toArray]; exact r.length.symm
    refine tail_any (ops := [.ref a, .ref s4.heap.objs.size]) ht.typeIs (PyProof.Rows.slot_tuple_getitem.lookup) ?_ (by with_unfolding_all rfl)
    refine HT.getItem_tuple_rev ht (Heap.IsSliceOf.new _ vl vu vs) pl pu ps ?_ (by rw [hlen]; exact hz)
    refine ⟨.ref _, _, I5.laid (t' := s4.toks) (o := .tup xs.reverse) (fun b ob q => Heap.get?_push_of_some _ q) (Nat.le_refl _) ?_, rfl, q _ (I5.hok.fresh (Nat.le_refl _))⟩
    exact ⟨by rw [List.length_reverse]; exact hz, _, r.reverse, IsTup.new _ _⟩
def revD : D → Option D
  | .lst ds => some (.lst ds.reverse)
  | .tup ds => some (.tup ds.reverse)
  | _ => none
def revK (ev : EV) (Γ : En) : O EV := oK Γ ((ev.look Γ).bind revD)
def revE (f : EF) : EF := fun Γ => (f Γ).bind revK
theorem Reps.snoc {K : Frg} {G : Hp} {d : D} {v : V} (h : Rep K G d v) : ∀ {ds : List D} {vs : List V}, Reps K G ds vs → Reps K G (ds ++ [d]) (vs ++ [v])
  | [], _, e => by rw [show _ = [] from e]; exact ⟨v, [], rfl, h, rfl⟩
  | x :: ds, _, ⟨w, r, e, h1, h2⟩ => by subst e; exact ⟨w, _, rfl, h1, Reps.snoc h h2⟩
theorem Reps.rev {K : Frg} {G : Hp} : ∀ {ds : List D} {vs : List V}, Reps K G ds vs → Reps K G ds.reverse vs.reverse
  | [], _, e => by rw [show _ = [] from e]; exact rfl
  | x :: ds, _, ⟨w, r, e, h1, h2⟩ => by
    subst e
    rw [List.reverse_cons, List.reverse_cons]
    exact Reps.snoc h1 (Reps.rev h2)
theorem fe_rev {k : Nat} {p1 p2 p3 pos : Pos} (ha : FE X W e f) : FE X W (.Subscript e (.Slice none none (some (.UnaryOp .USub (.Constant (.int 1) k p1) p2)) p3) pos) (revE f) := by
  obtain ⟨u1, p1, s1⟩ := ha
  refine ⟨_, pe_rev p1, fun F Γ σ H G R => ?_⟩
  refine Out.bind (T' := fun x H1 Q => rRev X.K x H1 Q) (s1 F Γ σ H G R) fun ev Γ1 v H1 G1 R1 _ r1 => ?_
  unfold revK oK
  cases e : (ev.look Γ1).bind revD with
  | none => trivial
  | some x =>
    intro Q q
    obtain ⟨y, e1, e2⟩ := Option.bind_eq_some_iff.mp e
    have r := R1.look r1 e1
    unfold revD at e2
    split at e2
    · cases e2
      obtain ⟨a, vs, rfl, h, rp⟩ := r.lst R1.gh
      exact ⟨a, vs, rfl, .inl ⟨.of h, fun p hp => q _ _ _ (R1.new hp) (Le.upd (R1.gNone hp)) ⟨p, _, rfl, upd_same, Reps.rev (Reps.le (Le.upd (R1.gNone hp)) _ _ rp)⟩⟩⟩
    · cases e2
      obtain ⟨a, vs, rfl, h, rp⟩ := r.tup
      exact ⟨a, vs, rfl, .inr ⟨SqT.le R1.gh h, fun p hp => q _ _ _ (R1.new hp) (Le.upd (R1.gNone hp)) ⟨p, _, rfl, .of upd_same, Reps.rev (Reps.le (Le.upd (R1.gNone hp)) _ _ rp)⟩⟩⟩
    · cases e2
end
end FL
namespace FL
open PySem PySem.Spec PyProof.Rows L2
def xiCx (P : Program) (w : World) (K : Frg) (mg : Str → Option Value) (base : Heap) (N : List Str) (qual : Str) (scope : Scope) (f : Addr) (cd : Value) (cc : Addr) (A : Around) (outer : List Env) (s : Shared) (H : Hp) (E : XK) : Cx :=
  { cxOf (L2.CX P w) P w K mg base N qual scope f cd A outer s H E with
    A := A.deeper (PySem.W.ksEnv qual scope s.heap.objs.size f cd cc)
    env := PySem.W.ksEnv qual scope s.heap.objs.size f cd cc
    stack := PySem.W.ksEnv qual scope s.heap.objs.size f cd cc :: outer
    fn := fun _ => false
    xe := fun e s' => wpAny (model P w) (A.deeper (PySem.W.ksEnv qual scope s.heap.objs.size f cd cc)) (leaving (PySem.W.ksEnv qual scope s.heap.objs.size f cd cc) e) (fun _ s'' => L2.CX P w outer H s E e s'') (fun e' s'' => L2.CX P w outer H s E e' s'') s' }
structure XScope (N ps : List Str) (sc : Scope) : Prop where
  kind : sc.kind = .function
  co : sc.isCoroutine = false
  gen : sc.isGenerator = false
  nd : N.Nodup
  pre : N.take ps.length = ps
  par : ∀ x ∈ ps, sc.names.lookup x = some .local
  vis : ∀ x ∈ N, x ∈ ps
  nocell : ∀ x ∈ sc.names, x.2 ≠ .cell
  free : ∀ x ∈ sc.names, x.2 = .free → x.1 = "__class__"
  hs : sc.names.lookup ("super" : Str) = some .globalImplicit
  hc : sc.names.lookup ("__class__" : Str) = some .free
structure XIni (P : Program) (K : Frg) (B i : String) (C f : Addr) (qual : Str) (params : Arguments) (body : List Stmt) (scope : Scope) (cc cda : Addr) (fd : FuncData) : Prop where
  lk : ∃ (oc : Value) (od : Option Addr) (name : Str) (dV kV doc pm : Value) (an : Option Addr) (ct : Value) (osl : Array (Option Value)), fd = PySem.W.ksFn name qual params body scope dV kV doc pm an (.ref cda) ct cc ∧ K.lookup f = some ⟨oc, od, .func fd, osl⟩
  cd : PySem.W.codeIn K (.ref cda) qual = true
  co : ∃ (ccl : Value) (cdd : Option Addr) (vs : Array Value) (ccs : Array (Option Value)) (file : Str) (tf : Tok), K.lookup cda = some ⟨ccl, cdd, .fields vs, ccs⟩ ∧ vs[2]? = some (.str file tf) ∧ ((P.main.file : Str) == file) = true
  ce : ∃ (cl : Value) (cld : Option Addr) (csl : Array (Option Value)), K.lookup cc = some ⟨cl, cld, .cell (some (.ref C)), csl⟩
  cls : ∃ cd, PySem.W.clsIn K C = some cd
  me : PySem.W.mroIn K C (.ref C) = some true
  up : PySem.W.ks_superIn K C C "__init__" = some (some (.builtin i))
  ve : PySem.W.subIn K (.ref C) (.type B) = some true
  th : PySem.W.nsIn K cStatics "thirdparty.any" = some none
theorem zip_rev {ps : List Str} {us : List Value} {i : Nat} {y : Str} {u : Value} (nd : ps.Nodup) (h1 : ps[i]? = some y) (h2 : us[i]? = some u) : (ps.zip us).reverse.lookup y = some u := by
  have hm : (y, u) ∈ (ps.zip us).reverse := List.mem_reverse.mpr (List.mem_of_getElem? (i := i) (by rw [List.getElem?_zip_eq_some]; exact ⟨h1, h2⟩))
  obtain ⟨v, hv⟩ := mem_lookup hm
  have hv2 := List.mem_reverse.mp (PySem.mem_of_lookup hv)
  obtain ⟨j, hj⟩ := List.getElem?_of_mem hv2
  obtain ⟨k1, k2⟩ := List.getElem?_zip_eq_some.mp hj
  have e : j = i := by
    obtain ⟨l1, e1⟩ := List.getElem?_eq_some_iff.mp k1
    obtain ⟨l2, e2⟩ := List.getElem?_eq_some_iff.mp h1
    exact (List.getElem_inj nd).mp (e1.trans e2.symm)
  subst e
  rw [h2] at k2
  rw [hv, k2]
section
variable {P : Program} {w : World} {K : Frg} {mg : Str → Option Value} {base : Heap} {N ps : List Str} {qual : Str} {scope : Scope} {f C cc cda : Addr} {cd : Value} {A : Around} {outer : List Env} {s : Shared} {H : Hp} {E : XK} {us : List Value} {vs : List V}
theorem xi_cells {x : Str} {c : Addr} (h : ([("__class__", cc)] : List (Str × Addr)).lookup x = some c) : x = "__class__" ∧ c = cc := by
  have := PySem.mem_of_lookup h
  rw [List.mem_singleton] at this
  cases this
  exact ⟨rfl, rfl⟩
theorem xi_start (S : XScope N ps scope) (hd : A.handled = none) (e0 : Env0 P w K mg base A outer s H) (hl : vs.length = ps.length) (r : Vals vs us) (hcc : ∃ o, base.get? cc = some o ∧ o.data = .cell (some (.ref C)))
    {h₀ : Heap} {tk : Nat} (hns : h₀.Ns s.heap.objs.size fun x => (ps.zip us).reverse.lookup x) (kp : ∀ b o, s.heap.get? b = some o → h₀.get? b = some o) :
    Inv (xiCx P w K mg base N qual scope f cd cc A outer s H E) [] (L2.start N vs) H { s with heap := h₀, toks := tk } := by
  have hpl : ps.length ≤ N.length := by have := congrArg List.length S.pre; rw [List.length_take] at this; omega
  obtain ⟨oc, hoc, hcd⟩ := hcc
  have hoc2 := e0.bs cc oc hoc
  have noA : ∀ b : Addr, b ∉ (xiCx P w K mg base N qual scope f cd cc A outer s H E).ex := fun b z => absurd (show b ∈ ([] : List Addr) from z) (by simp)
  refine ⟨⟨e0.mod, S.kind, rfl, rfl, Nat.le_refl _, fun y z c h1 h2 => ?_, fun y hy => ?_, fun y c h _ => Bool.noConfusion (show false = true from h), fun _ => hd, Around.frames_deeper e0.frames, .inr ⟨rfl, rfl⟩, fun b z => absurd z (noA b), e0.bs, e0.bsz, fun b _ _ => noA b, fun b z => absurd z (noA b), e0.funs, e0.frf⟩,
    rfl, e0.bare, Un.kept kp, ⟨_, hns, fun i y v h1 h2 h3 => ?_⟩, fun y c h => ⟨some (.ref C), ?_⟩, e0.hok.fresh (Nat.le_refl _), fun y c h => ?_, fun p hp => absurd (show p ∈ ([] : List (Addr × Obj)) from hp) (by simp), e0.hok.kept kp, ?_⟩
  · exact (xi_cells h1).1.trans (xi_cells h2).1.symm
  · have hy : scope.names.lookup y = some .cell ∨ scope.names.lookup y = some .free := hy
    rcases hy with hy | hy
    · exact absurd rfl (S.nocell _ (PySem.mem_of_lookup hy))
    · rw [show y = "__class__" from S.free _ (PySem.mem_of_lookup hy) rfl]
      exact ⟨cc, by first | rfl | decide +kernel⟩
  · have hi : i < vs.length := by
      rcases Nat.lt_or_ge i vs.length with hi | hi
      · exact hi
      · unfold L2.start at h2
        rw [List.getElem?_append_right (by simpa using hi), List.getElem?_replicate] at h2
        split at h2 <;> cases h2
    have ha : vs[i]? = some v := by
      unfold L2.start at h2
      rw [List.getElem?_append_left (by simpa using hi), List.getElem?_map] at h2
      cases e : vs[i]? with
      | none => rw [e] at h2; cases h2
      | some a => rw [e] at h2; cases h2; rfl
    obtain ⟨u, hu, rv⟩ := r.get ha
    have hp : ps[i]? = some y := by
      have h1 : N[i]? = some y := h1
      rw [← S.pre, List.getElem?_take_of_lt (by omega)]; exact h1
    have ndP : ps.Nodup := by rw [← S.pre]; exact S.nd.sublist (List.take_sublist _ _)
    exact ⟨u, rv, .inl ⟨S.par y (List.mem_of_getElem? hp), zip_rev ndP hp hu⟩⟩
  · rw [(xi_cells h).2]
    exact ⟨oc, kp _ _ hoc2.1, hcd⟩
  · rw [(xi_cells h).2]
    exact hoc2.2
  · unfold L2.start
    show _ = N.length
    rw [List.length_append, List.length_map, List.length_replicate]
    omega
def XCall (p0 p1 p2 p3 : Pos) (pl : Env → PySem.Sem Bool) : Prop := ∀ env : Env, eval (.Call (.Attribute (.Call (.Name "super" p0) [] [] p1) "__init__" p2) [] [] p3) env = (do
  let ov ← attributeBase (.Call (.Name "super" p0) [] [] p1) "__init__" env (eval (.Call (.Name "super" p0) [] [] p1) env)
  standAt p2.atName
  let (g, first) ← holding [ov] (getMethod ov "__init__" (pl env))
  callWith p3 g first (backTo p3 (starEach [] env)) [])
theorem boot_super : bootBuiltins "super" = some (.type "super") := by first | decide +kernel | kernel_rfl
theorem xi_super {σ : St} {s1 : Shared} {a : Addr} {body : List Stmt} {params : Arguments} {fd : FuncData} {ar : Arg} {p0 p1 p2 p3 : Pos} {Q : Value → Shared → Prop} (T : OexC K C) (Xi : XIni P K "ValueError" "ValueError.__init__" C f qual params body scope cc cda fd) (S : XScope N ps scope)
    (hpar : (params.posonlyargs ++ params.args).head? = some ar) (hN : N[0]? = some ar.arg) (hm : mg "super" = none) (htop : (P.main.scope.names.lookup ("super" : Str)).isSome = false)
    (I : Inv (xiCx P w K mg base N qual scope f (.ref cda) cc A outer s H E) [] σ H s1) (h0 : σ[0]? = some (some (.ref a))) (ea : H a = some (exo a C none)) {X : Value → Shared → Prop} {pl : Env → PySem.Sem Bool} (hev : XCall p0 p1 p2 p3 pl)
    (h : ∀ s2, Inv (xiCx P w K mg base N qual scope f (.ref cda) cc A outer s H E) [] σ H s2 → Q .none s2) :
    _root_.PySem.wpAt (model P w) (A.deeper (PySem.W.ksEnv qual scope s.heap.objs.size f (.ref cda) cc)) (.func body (PySem.W.ksEnv qual scope s.heap.objs.size f (.ref cda) cc)) (eval (.Call (.Attribute (.Call (.Name "super" p0) [] [] p1) "__init__" p2) [] [] p3) (PySem.W.ksEnv qual scope s.heap.objs.size f (.ref cda) cc)) Q X s1 := by
  obtain ⟨oc, od, name, dV, kV, doc, pm, an, ct, osl, rfl, lk⟩ := Xi.lk
  obtain ⟨ccl, cdd, vs, ccs, file, tf, lkc, hvs, hfile⟩ := Xi.co
  obtain ⟨cl, cld, csl, lke⟩ := Xi.ce
  obtain ⟨cd, hcd⟩ := Xi.cls
  obtain ⟨nm, q, NN, bs, bm, sn, sub, ab, col, dd, k0, k1, k2, k3, k5, hC, hbm⟩ := T.cls
  have hsup : PySem.W.alongIn K "__init__" ((cd.mro.dropWhile (· != .ref C)).drop 1) = some (some (.builtin "ValueError.__init__")) := by
    have u := Xi.up
    unfold PySem.W.ks_superIn at u
    rw [hcd] at u
    exact u
  have kin := I.kIn
  obtain ⟨t1, hx⟩ := exo_at I.hok ea
  obtain ⟨mb, hblt, hbb⟩ := I.mod.blt
  obtain ⟨m, hns, hloc⟩ := I.loc
  have hpar0 : ar.arg ∈ ps := S.vis _ (List.mem_of_getElem? hN)
  have hla := S.par _ hpar0
  obtain ⟨u, ru, lo⟩ := hloc 0 ar.arg (.ref a) hN h0 (.inl hla)
  obtain rfl : u = Value.ref a := ru
  have hv : m ar.arg = some (.ref a) := by
    rcases lo with ⟨_, z⟩ | ⟨z, _⟩
    · exact z
    · have z : scope.names.lookup ar.arg = some .cell ∨ scope.names.lookup ar.arg = some .free := z
      rcases z with z | z <;> rw [hla] at z <;> cases z
  obtain ⟨oD, hD1, hD2⟩ : ∃ oD, s1.heap.get? C = some oD ∧ oD.data = .cls cd := by
    unfold PySem.W.clsIn at hcd
    split at hcd
    · rename_i c d cd' sl ho
      cases hcd
      exact ⟨_, kin _ _ ho, rfl⟩
    · cases hcd
  refine ks_wpAt_MethodCall ?_ (hev _)
  refine ks_wpAt_super_base (env := PySem.W.ksEnv qual scope s.heap.objs.size f (.ref cda) cc) S.hs S.hc (by decide) rfl (kin _ _ lk) rfl hpar rfl (kin _ _ lkc) rfl hvs hfile htop ?_
  refine PySem.W.ks_loadName_global S.kind S.hs (PySem.Calls.loadGlobal_builtin (env := PySem.W.ksEnv qual scope s.heap.objs.size f (.ref cda) cc) (I.mod.glob.keeps I.bk) hm (hblt.keeps I.bk) ((hbb _ (by decide)).trans boot_super) ⟨rfl, ?_⟩)
  refine wpAny_loadName_free S.kind S.hc (by first | rfl | decide +kernel) ⟨_, kin _ _ lke, rfl⟩ ?_
  refine wpAny_loadName_local S.kind hla hns hv ?_
  refine ks_wpAny_isType_cls hD1 hD2 ⟨rfl, ?_⟩
  obtain ⟨hp, g, d, t, os⟩ := s1
  refine ks_wpAny_call_super hD1 hD2 hx rfl (fun c z => nomatch z) (PySem.W.looks_mroIn kin Xi.me) (fun h2 hso k => ?_)
  have I2 := I.kept (t' := t) k
  have kin2 := I2.kIn
  have hx2 := k _ _ hx
  have J : PySem.W.InstAt h2 a (PySem.W.excObj C t1 none .none) C none := ⟨hx2, rfl, rfl, trivial⟩
  refine PySem.W.kxs_getMethod PySem.W.kxs_ValueError hso (PySem.W.looks_opaque kin2 Xi.th) (l₀ := cd.mro) (fun A Q E s k q => wpAny_bind ((PySem.W.looks_clsIn kin2 hcd) A _ E s k (wpAny_pure q))) rfl kin2 hsup (J.type.andThen (PySem.W.looks_subIn kin2 Xi.ve)) (PySem.W.ks_ne kin2 J hcd) (by decide) ?_
  have k3 : ∀ b o, h2.get? b = some o → (h2.push (PySem.W.kxs_mw "ValueError.__init__" a)).get? b = some o := fun b o e => Heap.get?_push_of_some _ e
  have I3 := I2.kept (t' := t + 1) k3
  have hu : (h2.push (PySem.W.kxs_mw "ValueError.__init__" a)).get? h2.objs.size = some (PySem.W.kxs_mw "ValueError.__init__" a) := Heap.get?_push_at rfl rfl
  refine PySem.W.kxs_callWith (i := "ValueError.__init__") (x := a) rfl (evalArgs_empty ⟨hu, ?_⟩)
  have he := k3 _ _ hx2
  have hC3 := I3.kIn _ _ hC
  refine wpAny_call (codeAny_of_tree ?_)
  show wpAny _ _ (callAny (.ref h2.objs.size) ⟨[], []⟩) _ _ _
  simp only [callAny]
  refine wpAny_bind (wpAny_load hu ?_)
  simp only [PySem.W.kxs_mw, show (Value.type "method-wrapper" == Value.type "method" || Value.type "method-wrapper" == Value.type "builtin_function_or_method" || Value.type "method-wrapper" == Value.type "method-wrapper") = true by decide, if_true]
  refine PySem.W.KFB.if_so (by decide) ?_
  refine wpAny_bind (PySem.W.check_bound_init F.excBase_ValueError.toExcCallFacts hC3 he rfl ?_)
  refine wpAny_bind (wpAny_pure (wpAny_pure ?_))
  refine ⟨plainId_quiet F.excBase_ValueError.init.plain _, codeAny_builtin F.excBase_ValueError.initEntry ?_⟩
  refine PySem.W.exc_init_tree (cls := .ref C) (t0 := t1) (dv := none) (c2 := .none) (c3 := .none) (b4 := .bool false) he (Nat.zero_le _) fun h4 k4 e4 _ => ?_
  have J4 := I3.write (t' := t + 1) (x := a) (e := a) (o := exo a C none) (by rw [ea]; exact True.intro) (.inl rfl) (fun b u hb e => k4 b u hb e) ⟨_, e4⟩ (exo_ok e4)
  have eu : upd H a (exo a C none) = H := by
    funext b
    by_cases hb : b = a
    · rw [hb, upd_same, ea]
    · rw [upd_ne hb]
  rw [eu] at J4
  exact h _ J4
theorem fn_xinit {k : Nat} {sp : Sp} {params : Arguments} {fd : FuncData} {ar : Arg} {p0 p1 p2 p3 p4 : Pos} {rest : List Stmt} {t : TS} {pl : Env → PySem.Sem Bool} (T : OexC K C) (Xi : XIni P K "ValueError" "ValueError.__init__" C f qual params (.Expr (.Call (.Attribute (.Call (.Name "super" p0) [] [] p1) "__init__" p2) [] [] p3) p4 :: rest) scope cc cda fd) (S : XScope N ps scope)
    (hpar : (params.posonlyargs ++ params.args).head? = some ar) (hN : N[0]? = some ar.arg) (hm : mg "super" = none) (htop : (P.main.scope.names.lookup ("super" : Str)).isSome = false) (hev : XCall p0 p1 p2 p3 pl) (hsw : ∀ env : Env, swapsWith (.Call (.Attribute (.Call (.Name "super" p0) [] [] p1) "__init__" p2) [] [] p3) none p4.line env = pure false)
    (hrest : ∀ (A : Around) (outer : List Env) (s : Shared) (H : Hp) (E : XK), PSs (xiCx P w K mg base N qual scope f (.ref cda) cc A outer s H E) rest t) (hl : ∀ vs H Q E, sp vs H Q E → vs.length = ps.length)
    (hsp : ∀ vs H Q E, sp vs H Q E → ∃ a ws, vs = .ref a :: ws ∧ H a = some (exo a C none) ∧ t { nx := fun _ H' => Q .non H', rt := Q } (L2.start N vs) H) : FnOk P w K mg base (L2.CX P w) (k + 1) f fd ps sp := by
  refine ⟨hl, fun A outer s H args us vs Q E hr e0 hb r h => ?_⟩
  obtain ⟨a, ws, rfl, ea, ht⟩ := hsp _ _ _ _ h
  have hlen := hl _ _ _ _ h
  have kin : K.In s.heap := e0.mod.kin.keeps fun b o e => (e0.bs b o e).1
  have lim : s.heap.NoLimit := e0.mod.nolimit.keeps fun b o e => (e0.bs b o e).1
  have Xi2 := Xi
  obtain ⟨oc, od, name, dV, kV, doc, pm, an, ct, osl, rfl, lk⟩ := Xi.lk
  obtain ⟨cl, cld, csl, lke⟩ := Xi.ce
  refine ks_codeAny_call_defAt hr.depth (kin _ _ lk) rfl lim (PySem.W.codeRec_of kin Xi.cd) rfl hb S.nocell (fun ⟨n, v⟩ hy => S.par n (List.of_mem_zip hy).1) (fun h₀ hns kp => ?_) S.co S.gen S.kind
  have I : Inv (xiCx P w K mg base N qual scope f (.ref cda) cc A outer s H E) [] (L2.start N (.ref a :: ws)) H ⟨h₀, s.gens, s.drawn, s.toks + (ps.zip us).length, s.os⟩ :=
    xi_start S hr.hd e0 hlen r ⟨_, e0.mod.kin _ _ lke, rfl⟩ hns kp
  have h0 : (L2.start N (V.ref a :: ws))[0]? = some (some (.ref a)) := by
    unfold L2.start
    rw [List.getElem?_append_left (by simp)]
    rfl
  refine ks_wpAt_execs_cons (ks_wpAt_Expr_any (xi_super T Xi2 S hpar hN hm htop I h0 ea hev fun s2 I2 => ?_) (by
    show (scope.kind == .module && _) = false
    rw [S.kind]; rfl) (hsw _))
  refine wpAt_of_wpAny (wpAny_mono ((hrest A outer s H E).run [] s2 (L2.start N (.ref a :: ws)) H _ I2 ht) (fun fl s' hs => ?_) fun e s' hs => hs)
  have fin : ∀ {σ' : St} {H' : Hp} {v : V} {u : Value}, Inv (xiCx P w K mg base N qual scope f (.ref cda) cc A outer s H E) [] σ' H' s' → RelV v u → Q v H' → CE outer P w H s Q u s' :=
    fun {σ' H' v u} J rv q => ⟨v, H', J.os, J.bare, J.base, J.hok, rv, q⟩
  match fl, hs with
  | .ret u, ⟨v, σ', H', J, rv, q⟩ => exact fin J rv q
  | .next, ⟨σ', H', J, q⟩ => exact fin (v := V.non) (u := Value.none) J rfl q
  | .brk, ⟨_, _, _, q⟩ => exact False.elim q
  | .cont, ⟨_, _, _, q⟩ => exact False.elim q
def spXi (C : Addr) (n : Str) : Sp := fun vs H Q _ => ∃ a x, vs = [.ref a, x] ∧ H a = some (exo a C none) ∧ ∀ d, H d = none → d ≠ a → Q .non (upd (upd H d (exd d [(n, x)])) a (exo a C (some d)))
theorem fn_xinit1 {k : Nat} {params : Arguments} {fd : FuncData} {ar : Arg} {p0 p1 p2 p3 p4 q1 q2 q3 q4 : Pos} {self x n : Str} {pl : Env → PySem.Sem Bool} (T : OexC K C)
    (Xi : XIni P K "ValueError" "ValueError.__init__" C f qual params [.Expr (.Call (.Attribute (.Call (.Name "super" p0) [] [] p1) "__init__" p2) [] [] p3) p4, .Assign [.Attribute (.Name self q1) n q2] (.Name x q3) q4] scope cc cda fd) (S : XScope [self, x] [self, x] scope)
    (hpar : (params.posonlyargs ++ params.args).head? = some ar) (har : ar.arg = self) (hm : mg "super" = none) (htop : (P.main.scope.names.lookup ("super" : Str)).isSome = false) (hev : XCall p0 p1 p2 p3 pl) (hsw0 : ∀ env : Env, swapsWith (.Call (.Attribute (.Call (.Name "super" p0) [] [] p1) "__init__" p2) [] [] p3) none p4.line env = pure false) (hno : PySem.W.findIn K (.ref C) n = some none)
    (hsw : ∀ env : Env, swapsWith (.Name x q3) (some (.Attribute (.Name self q1) n q2)) q4.line env = pure false)
    (d1 : (self == ("__debug__" : Str)) = false) (d2 : (self == ("__classdict__" : Str)) = false) (d3 : (x == ("__debug__" : Str)) = false) (d4 : (x == ("__classdict__" : Str)) = false) : FnOk P w K mg base (L2.CX P w) (k + 1) f fd [self, x] (spXi C n) := by
  refine fn_xinit (N := [self, x]) T Xi S hpar (by rw [har]; rfl) hm htop hev hsw0 (t := tOst K n (tVar 0) (tVar 1)) (fun A outer s H E => pss_one (ps_ost (X := xiCx P w K mg base [self, x] qual scope f (.ref cda) cc A outer s H E) (pe_var (i := 0) rfl (.inl (S.par self (by simp))) d1 d2) (pe_var (i := 1) rfl (.inl (S.par x (by simp))) d3 d4) (hsw _))) (fun vs H Q E ⟨a, y, e, _⟩ => by rw [e]; rfl) fun vs H Q E ⟨a, y, e, ea, q⟩ => ?_
  subst e
  refine ⟨a, [y], rfl, ea, y, rfl, .ref a, rfl, a, C, rfl, T, hno, .inl ⟨ea, fun d hd ne => ?_⟩⟩
  exact q d hd ne
end
end FL
namespace FL
open PySem PySem.Spec PyProof.Rows L2
variable [Wrl] [Tabl]
variable {X : Cx} {W : WX} {e : Expr} {pos pos' p : Pos} {u : AF}
def raiK (c n : Str) (r : Option (List D × En)) : O Fl := match r with
  | some ([d], Γ) => .exc c [n] [d] Γ
  | _ => .fail
def raiseS (c n : Str) (u : AF) : SF := fun Γ => (u Γ).bind fun es Γ1 => raiK c n (frzs es Γ1)
theorem made_heap {H1 : Hp} {a d C : Addr} {e0 : HO} {fs : List (Str × V)} (hn : H1 a = none) (ne : d ≠ a) : upd (del (upd (upd (upd H1 a e0) d (exd d fs)) a (exo a C (some d))) a) d (.xd fs) = upd H1 d (.xd fs) := by
  funext b
  by_cases h1 : b = d
  · rw [h1, upd_same, upd_same]
  · rw [upd_ne h1, upd_ne h1]
    by_cases h2 : b = a
    · rw [h2, del_same, hn]
    · rw [del_ne h2, upd_ne h2, upd_ne h1, upd_ne h2]
theorem fs_raise {k : Nat} {c n x : Str} {fI : Addr} {fd : FuncData} {ps : List Str} (hc : X.calm = true) (tk : Takes X W) (T : OexC X.K (He.ga X.K c)) (iC : PySem.W.findIn X.K (.ref (He.ga X.K c)) "__init__" = some (some (.ref fI))) (tI : PySem.W.typeIn X.K (.ref fI) = some (.type "function"))
    (F1 : FnOk X.prog X.w X.K X.mg X.base (L2.CX X.prog X.w) k fI fd ps (spXi (He.ga X.K c) n)) (hb : Binds X.K fd ps []) (hm : X.mg x = some (.ref (He.ga X.K c))) (hr : Room (k + 1) X.A) (ha : FA X W [e] u)
    (hg : Gl X x := by rfl) (hdb : (x == ("__debug__" : Str)) = false := by decide) (he : starEach [e] X.env = (false, eval e X.env) :: starEach [] X.env := by rfl) (hpl : (backTo pos (starEach [] X.env)).any (·.1) = false := by rfl) :
    FS X W (.Raise (some (.Call (.Name x p) [e] [] pos)) none pos') (raiseS c n u) := by
  obtain ⟨t, pt, s⟩ := ha
  refine ⟨_, ps_raise hc tk (pmk_oex (CX := L2.CX X.prog X.w) (sp := spXi (He.ga X.K c) n) (ds := []) (dvs := []) T iC tI F1 hr hb .nil L2.passL hg hm pt hdb he hpl), fun F Γ σ H G R => ?_⟩
  refine OutS.bind (T' := fun (vs : List V) (H1 : Hp) (D : Ends) => vs.length ≤ 1000 ∧ ∀ a, H1 a = none → spXi (He.ga X.K c) n (.ref a :: (vs ++ [])) (upd H1 a (exo a (He.ga X.K c) none))
    (fun v H2 => v = .non ∧ ∃ (d : Addr) (fs : List (Str × V)), H2 a = some (exo a (He.ga X.K c) (some d)) ∧ H2 d = some (exd d fs) ∧ H1 d = none ∧ W (.ref (He.ga X.K c)) (some d) σ (upd (del H2 a) d (.xd fs))) (fun _ _ _ => False)) (s F Γ σ H G R) fun es Γ1 vs H1 G1 R1 _ rs => ?_
  unfold raiK
  split
  · rename_i d Γ2 ef
    obtain ⟨G2, R2, le, rp⟩ := R1.frzs rs ef
    obtain ⟨v, r, ev, r1, er⟩ := rp
    obtain rfl : r = [] := er
    subst ev
    refine fun D q => ⟨by simp, fun a ha => ⟨a, v, rfl, upd_same, fun dx hdx ne => ⟨rfl, dx, [(n, v)], upd_same, by rw [upd_ne ne]; exact upd_same, ?_, ?_⟩⟩⟩
    · rw [upd_ne ne] at hdx; exact hdx
    · have hd1 : H1 dx = none := by rw [upd_ne ne] at hdx; exact hdx
      rw [made_heap ha ne]
      exact q _ _ σ _ _ (R2.new (o := .xd [(n, v)]) hd1) (le.trans (Le.upd (R2.gNone hd1))) ⟨rfl, [(n, v)], rfl, ⟨v, [], rfl, Rep.le (Le.upd (R2.gNone hd1)) d v r1, rfl⟩, .inr ⟨dx, rfl, upd_same⟩⟩
  · trivial
end FL
namespace FL
open PySem PySem.Spec PyProof.Rows L2
variable [Wrl] [Tabl]
def saidK (told : Str) (er : Str → List Str → List D → Option OD) (r : O EV) : O VV := match r with
  | .ok ev Γ => (match frz1 ev Γ with
    | some (x, Γ2) => (match reprD x with
      | some z => .ok (.n (.l [.str told, z])) Γ2
      | none => .fail)
    | none => .fail)
  | .exc c ns fs Γ => (match er c ns fs with
    | some o => .ok (.n o) Γ
    | none => .fail)
  | .fail => .fail
def saidV (told : Str) (er : Str → List Str → List D → Option OD) (f : EF) : VF := fun Γ => saidK told er (f Γ)
end FL
namespace FL
open PySem PySem.Spec PyProof.Rows L2
theorem oexC_ok {K : Frg} {C : Addr} (q : oexC K C = true) : ∃ nm q N bs bm sn sub ab col dd k0 k1 k2 k3 k5, K.lookup C = some (excClassObj nm q C N bs bm true sn sub ab col dd k0 k1 k2 k3 k5 "ValueError.__new__") ∧ PySem.HandSPX.refsVE bm = true := by
  unfold oexC at q
  split at q
  · rename_i dd cd sl ho
    split at q
    · rename_i C' bm k0 k1 k2 k3 n k5 hm hs
      simp only [Bool.and_eq_true, beq_iff_eq, Bool.not_eq_true'] at q
      obtain ⟨rfl, rfl, hdel, hdict, hv⟩ := q
      obtain ⟨nm, bs, mro, ns, qn, hd, sn, sub, ab, col, del⟩ := cd
      dsimp only at hm hdel hdict
      subst hm hdel hdict
      obtain ⟨l⟩ := sl
      simp only at hs
      subst hs
      exact ⟨nm, qn, ns, bs, bm, sn, sub, ab, col, dd, k0, k1, k2, k3, k5, ho, hv⟩
    · cases q
  · cases q
theorem oexB_ok {K : Frg} {c : Str} (h : oexB K c = true) : OexC K (He.ga K c) := by
  obtain ⟨h1, h⟩ := He.ba h
  obtain ⟨h2, h⟩ := He.ba h
  obtain ⟨h3, h⟩ := He.ba h
  obtain ⟨h4, h5⟩ := He.ba h
  exact ⟨oexC_ok h1, of_decide_eq_true h2, of_decide_eq_true h3, of_decide_eq_true h4, h5⟩
structure ErrOk (file : Str) (K : Frg) (e : ErrD) (fd : FuncData) : Prop where
  T : OexC K (He.ga K e.c)
  xi : ∀ P : Program, ((P.main.file : Str) == file) = true → XIni P K "ValueError" "ValueError.__init__" (He.ga K e.c) (e.at_ K) e.qual e.params e.body e.scope (ccA K (e.at_ K)) (cdA K (e.at_ K)) fd
  no : PySem.W.findIn K (.ref (He.ga K e.c)) e.n = some none
  iC : PySem.W.findIn K (.ref (He.ga K e.c)) "__init__" = some (some (.ref (e.at_ K)))
  tI : PySem.W.typeIn K (.ref (e.at_ K)) = some (.type "function")
  fm : ∃ (kV doc pm : Value) (an : Option Addr) (ct : Value), fd = PySem.W.ksFn e.name e.qual e.params e.body e.scope .none kV doc pm an (.ref (cdA K (e.at_ K))) ct (ccA K (e.at_ K))
theorem errOk_of {file : Str} {K : Frg} {e : ErrD} (hv : fnE K (e.at_ K) = e.val) (hb : xinB file K e = true) : ErrOk file K e (fdOf K (e.at_ K)) := by
  obtain ⟨hb, b0⟩ := He.ba hb
  obtain ⟨b0, bd⟩ := He.ba b0
  obtain ⟨b1, hb⟩ := He.ba hb
  obtain ⟨b2, hb⟩ := He.ba hb
  obtain ⟨b3, hb⟩ := He.ba hb
  obtain ⟨b4, hb⟩ := He.ba hb
  obtain ⟨b5, hb⟩ := He.ba hb
  obtain ⟨b6, hb⟩ := He.ba hb
  obtain ⟨b7, hb⟩ := He.ba hb
  obtain ⟨b8, hb⟩ := He.ba hb
  obtain ⟨b9, hb⟩ := He.ba hb
  obtain ⟨b10, hb⟩ := He.ba hb
  obtain ⟨b11, b12⟩ := He.ba hb
  have c1 := of_decide_eq_true b1
  cases q : K.lookup (e.at_ K) with
  | none =>
    unfold fnE at hv
    rw [q] at hv
    cases hv
  | some o =>
    obtain ⟨oc, od, dt, osl⟩ := o
    cases dt with
    | func fd =>
      obtain ⟨n1, n2, n3, n4, n5, n6, n7, n8, n9, n10, n11, n12, n13, n14, n15⟩ := fd
      have hfd : fdOf K (e.at_ K) = ⟨n1, n2, n3, n4, n5, n6, n7, n8, n9, n10, n11, n12, n13, n14, n15⟩ := by unfold fdOf; rw [q]
      have hcd : cdOf K (e.at_ K) = n13 := by unfold cdOf; rw [q]
      have hcc : ccA K (e.at_ K) = clA n7 := by unfold ccA; rw [q]
      unfold fnE at hv
      rw [q] at hv
      have e2 : (some (n1, n2, n3, n4, n5, n6, n7.map fun p => (p.1, 0), n15) : He.FnW) = some (e.name, e.qual, e.params, FuncBody.stmts e.body, e.scope, mainGlobals, [(("__class__" : Str), (0 : Addr))], builtinsNs) := hv
      simp only [Option.some.injEq, Prod.mk.injEq] at e2
      obtain ⟨h1, h2, h3, h4, h5, h6, h7, h8⟩ := e2
      obtain ⟨cc, rfl⟩ : ∃ cc : Addr, n7 = [(("__class__" : Str), cc)] := by
        match n7, h7 with
        | [(x, c)], h7 =>
          have := (List.cons.inj h7).1
          simp only [Prod.mk.injEq, and_true] at this
          exact ⟨c, by rw [this]⟩
        | [], h7 => cases h7
        | _ :: _ :: _, h7 => exact absurd (congrArg List.length h7) (by simp)
      have hcc : ccA K (e.at_ K) = cc := hcc
      have hn8 : n8 = .none := by
        unfold dfN at bd
        rw [q] at bd
        exact of_decide_eq_true bd
      have hn13 : n13 = .ref (cdA K (e.at_ K)) := hcd.symm.trans c1
      have form : fdOf K (e.at_ K) = PySem.W.ksFn e.name e.qual e.params e.body e.scope n8 n9 n10 n11 n12 (.ref (cdA K (e.at_ K))) n14 (ccA K (e.at_ K)) := by
        rw [hfd, hcc, ← hn13, h1, h2, h3, h4, h5, h6, h8]
      refine ⟨oexB_ok b0, fun P hP => ⟨⟨oc, od, e.name, n8, n9, n10, n11, n12, n14, osl, form, by rw [q, hfd]⟩, b2, ?_, ?_, Option.isSome_iff_exists.mp b5, of_decide_eq_true b6, of_decide_eq_true b7, of_decide_eq_true b8, of_decide_eq_true b9⟩, of_decide_eq_true b10, of_decide_eq_true b11, of_decide_eq_true b12, ⟨n9, n10, n11, n12, n14, by rw [form, hn8]⟩⟩
      · unfold fileB at b3
        split at b3
        · rename_i c d vs sl ho
          split at b3
          · rename_i f t hf
            exact ⟨c, d, vs, sl, f, t, ho, hf, by rw [beq_iff_eq.mp hP]; exact b3⟩
          · cases b3
        · cases b3
      · unfold cellB at b4
        split at b4
        · rename_i c d D sl ho
          rw [beq_iff_eq.mp b4] at ho
          exact ⟨c, d, sl, ho⟩
        · cases b4
    | _ =>
      unfold fnE at hv
      rw [q] at hv
      cases hv
end FL
namespace FL
open PySem PySem.Spec PyProof.Rows L2
structure Tz (fa : List He.Fa) (fn : List He.DefD) (ex : Frg → Bool) (xs : List DefX) (es : List ErrD) (tl : Frg → List (Addr × Addr × Str)) (K : Frg) (mg : Str → Option Value) : Prop where
  t : Ty fa fn ex xs K mg
  r : SaysT es K
  b : tabB tl K = true
theorem Tz.err {fa : List He.Fa} {fn : List He.DefD} {ex : Frg → Bool} {xs : List DefX} {es : List ErrD} {tl : Frg → List (Addr × Addr × Str)} {K : Frg} {mg : Str → Option Value} (T : Tz fa fn ex xs es tl K mg) (i : Nat) {e : ErrD} {file : Str} (h : es[i]? = some e) (hb : xinB file K e = true) : ErrOk file K e (fdOf K (e.at_ K)) := by
  have h2 : (es.map (fun e => fnE K (e.at_ K)))[i]? = (es.map ErrD.val)[i]? := by rw [show es.map (fun e => fnE K (e.at_ K)) = es.map ErrD.val from T.r]
  rw [List.getElem?_map, List.getElem?_map, h] at h2
  exact errOk_of (Option.some.inj h2) hb
theorem tabsOk_of [Wrl] [Tabl] {K : Frg} {h : Heap} (X : K.In h) (b : tabB Tabl.tl K = true) (t : ∀ t ∈ Tabl.tl K, h.get? t.2.1 = some eT) : TabsOk K h :=
  ⟨t, fun t ht => Option.isNone_iff_eq_none.mp (He.ba (He.ba (List.all_eq_true.mp b t ht)).2).1, fun t ht => PySem.W.codeHd_of_K X (He.ba (List.all_eq_true.mp b t ht)).1⟩
structure BX [Wrl] [Tabl] (P : Program) (file : Str) (K : Frg) (mg : Str → Option Value) (base : Heap) : Prop where
  tb : BB K mg base
  fl : ((P.main.file : Str) == file) = true
  su : (P.main.scope.names.lookup ("super" : Str)).isSome = false
theorem binds_err {file : Str} {K : Frg} {e : ErrD} {fd : FuncData} {ps : List Str} (O : ErrOk file K e fd) (hb : ∀ (kV doc pm : Value) (an : Option Addr) (ct cd : Value) (cc : Addr) (us : List Value), us.length = ps.length → bindArgs (PySem.W.ksFn e.name e.qual e.params e.body e.scope .none kV doc pm an cd ct cc) ⟨us, []⟩ = pure (ps.zip us)) : L2.Binds K fd ps [] := by
  obtain ⟨kV, doc, pm, an, ct, rfl⟩ := O.fm
  exact L2.Binds.all fun us hl => hb _ _ _ _ _ _ _ us hl
end FL
namespace FL
open PySem PySem.Spec PyProof.Rows L2
def sdK (told : Str) (r : Option D) (Γ : En) : O VV := match r with
  | some z => .ok (.n (.l [.str told, z])) Γ
  | none => .fail
def sfK (told : Str) (r : Option (D × En)) : O VV := match r with
  | some (x, Γ2) => sdK told (reprD x) Γ2
  | none => .fail
def snK (r : Option OD) (Γ : En) : O VV := match r with
  | some o => .ok (.n o) Γ
  | none => .fail
def erK (c : Str) (r : Option D) : Option OD := r.map fun d => .l [.str c, d]
namespace Ev
variable {f : EF} {Γ : En} {u : AF} {c n told : Str} {er : Str → List Str → List D → Option OD} {ns : List Str} {fs : List D} {x z d : D}
theorem raiseS : FL.raiseS c n u Γ = (u Γ).bind fun es Γ1 => raiK c n (frzs es Γ1) := rfl
theorem raiK1 : raiK c n (some ([d], Γ)) = .exc c [n] [d] Γ := rfl
theorem saidV : FL.saidV told er f Γ = saidK told er (f Γ) := rfl
theorem saidK1 {ev} : saidK told er (.ok ev Γ) = sfK told (frz1 ev Γ) := by
  show (match frz1 ev Γ with | some (x, Γ2) => (match reprD x with | some z => (O.ok (VV.n (OD.l [D.str told, z])) Γ2 : O VV) | none => .fail) | none => .fail) = _
  rcases frz1 ev Γ with _ | ⟨x, Γ2⟩
  · rfl
  · show (match reprD x with | some z => (O.ok (VV.n (OD.l [D.str told, z])) Γ2 : O VV) | none => .fail) = sdK told (reprD x) Γ2
    cases reprD x <;> rfl
theorem sfK1 : sfK told (some (x, Γ)) = sdK told (reprD x) Γ := rfl
theorem sdK1 : sdK told (some z) Γ = .ok (.n (.l [.str told, z])) Γ := rfl
theorem saidK2 : saidK told er (.exc c ns fs Γ) = snK (er c ns fs) Γ := by
  show (match er c ns fs with | some o => (O.ok (VV.n o) Γ : O VV) | none => .fail) = _
  cases er c ns fs <;> rfl
theorem snK1 {o} : snK (some o) Γ = .ok (.n o) Γ := rfl
theorem erK1 : erK c (some z) = some (.l [.str c, z]) := rfl
def all5 := (And.intro @raiseS (And.intro @raiK1 (And.intro @saidV (And.intro @saidK1 (And.intro @sfK1 (And.intro @sdK1 (And.intro @saidK2 (And.intro @snK1 @erK1))))))))
end Ev
end FL
namespace FL
open PySem PySem.Spec PyProof.Rows L2
section
variable [Wrl] [Tabl]
def wpS (K : Frg) (W : WX) (f : SF) : TS := fun D σ H => ∃ F Γ G, Rl K F Γ σ H G ∧ match f Γ with
  | .ok fl Γ' => Fin K F Γ' G D fl
  | .exc c ns fs Γ' => ∀ cls dx σ' H' G', Rl K F Γ' σ' H' G' → Le G G' → XRep K G' c ns fs cls dx → W cls dx σ' H'
  | .fail => False
theorem FB.wp {X : Cx} {W : WX} {sts : List Stmt} {f : SF} (h : FB X W sts f) : PSs X sts (wpS X.K W f) := by
  obtain ⟨t, p, s⟩ := h
  refine ⟨fun pins s' σ H D I ⟨F, Γ, G, R, q⟩ => p.run pins s' σ H D I ?_⟩
  have k := s F Γ σ H G R
  revert q k
  cases f Γ with
  | fail => exact fun q _ => q.elim
  | ok fl Γ' => exact fun q k => k D q
  | exc c ns fs Γ' => exact fun q k => k D q
end
end FL
namespace FL
open PySem PySem.Spec PyProof.Rows L2
variable [Wrl] [Tabl]
variable {X : Cx} {W : WX} {e a b c o tg iter value : Expr} {f g f1 f2 f3 fo fa : EF} {pos pos' apos kpos p tpos : Pos} {es : List Expr} {u uk : AF} {kws : List Keyword}
structure CmOk (K : Frg) (c m : Str) : Prop where
  rd : ClX.CRead K (He.ga K c) (.type "type")
  cm : ClX.CMet K (He.ga K c) (.type "type") m (He.ma K (He.ga K c) m) (cmAd K c m)
theorem cmB_ok {K : Frg} {c m : Str} (h : cmB K c m = true) : CmOk K c m := by
  obtain ⟨h1, h⟩ := He.ba h
  obtain ⟨h2, h⟩ := He.ba h
  obtain ⟨h3, h4⟩ := He.ba h
  obtain ⟨k1, k2⟩ := He5.wrapB_ok h3
  exact ⟨⟨h1, He.eqO_ok h2⟩, ⟨k1, k2, h4⟩⟩
section
variable {k n : Nat} {fa' C : Addr} {fd : FuncData} {ps ks : List Str} {sp : Sp} {dvs : List V} {ds : List Value} {x m cn fn : Str} {Fn : DFn} {dd : List D} {pm : List Nat} {pl : PySem.Sem Bool}
theorem run_cmG {pins : List (Addr × Obj)} {σ : St} {H : Hp} {s : Shared} {q : Addr} {Q : VK} {us ws : List Value} {vs : List V} {rs : List (Str × Value)} (F : FnG X.prog X.w X.K X.mg X.base (L2.CX X.prog X.w) k fa' fd ps sp) (hr : Room k X.A) (hg : X.A.guards = some []) (tk : Takes X W)
    (I : Inv X ((q, PySem.W.methodObj (.ref fa') (.ref C)) :: pins) σ H s) (hb : BindsTo s fd ⟨.ref C :: us, rs⟩ (ps.zip ws)) (r : Vals vs ws) (h : sp vs H Q (fun cls d H' => W cls d σ H')) :
    wpAny (model X.prog X.w) X.A (call (.ref q) us rs) (EP X pins σ Q) X.xe s := by
  have J := ClX.unpin I
  refine wpAny_call (PySem.W.method_call (ClX.pin_at I) (codeAny_mono (F.run X.A X.stack s H ⟨.ref C :: us, rs⟩ ws vs Q _ hr hg J.env0 hb r h) fun r s' hq => ?_))
  cases r with
  | error e => exact pass_at tk σ pins H s e s' J hq
  | ok fl =>
    cases fl with
    | ret u => exact J.after hq
    | next => exact False.elim hq
    | brk => exact False.elim hq
    | cont => exact False.elim hq
def cmV (n : Nat) (c : Str) (Fn : DFn) (dd : List D) (u : AF) : VF := fun Γ => (u Γ).bind fun es Γ1 => if es.length = n then finCall none Fn dd (.d (.cls c) :: es) Γ1 else .fail
theorem fv_cmeth (cm : CmOk X.K cn m) (hm : X.mg x = some (.ref (He.ga X.K cn))) (F : FnG X.prog X.w X.K X.mg X.base (L2.CX X.prog X.w) k (cmAd X.K cn m) fd ps (spL X.K ps none Fn)) (hb : Binds X.K fd ps ds) (hd : Vals dvs ds) (hdd : ∀ G, Reps X.K G dd dvs)
    (hr : Room k X.A) (hgd : X.A.guards = some []) (tk : Takes X W) (hn : n + 1 + dvs.length = ps.length) (ha : FA X W (e :: es) u) (hg : Gl X x := by rfl) (hdb : (x == ("__debug__" : Str)) = false := by decide)
    (hst : starEach (e :: es) X.env = (false, eval e X.env) :: starEach es X.env := by rfl) (hpl : (backTo pos (starEach es X.env)).any (·.1) = false := by rfl)
    (ht : eval (.Call (.Attribute (.Name x p) m apos) (e :: es) [] pos) X.env = (do
      let ov ← eval (.Name x p) X.env
      standAt apos.atName
      let (f, first) ← holding [ov] (getMethod ov m pl)
      callWith pos f first (backTo pos (starEach (e :: es) X.env)) (backToKw pos (keywordEach [] X.env))) := by rfl) :
    FV X W (.Call (.Attribute (.Name x p) m apos) (e :: es) [] pos) (cmV n cn Fn dd u) := by
  obtain ⟨t2, p2, s2⟩ := ha
  refine ⟨fun σ H Q => t2 σ H fun vs H2 => spL X.K ps none Fn (.ref (He.ga X.K cn) :: (vs ++ dvs)) H2 Q (fun cls d H' => W cls d σ H'), ⟨fun pins s' σ H Q I h => ?_⟩, fun Fr Γ σ H G R => ?_⟩
  · refine PySem.W.methodCall_KW (pl := pl) (thn ((pe_glob (pos := p) hg hm (v := .ref (He.ga X.K cn)) rfl hdb).run pins s' σ H (fun v J => v = .ref (He.ga X.K cn) ∧ J = H) I ⟨rfl, rfl⟩) fun u s1 ⟨y, H1, I1, rx, ey, eH⟩ => ?_) ht
    subst ey
    rw [eH] at I1
    obtain rfl : u = Value.ref (He.ga X.K cn) := rx
    refine ClX.getmethcm_ok I1 cm.rd cm.cm fun s2 I2 => ?_
    refine ClX.callwith_cm I2 (ClX.base_none I1 (Nat.le_refl _)) cm.cm.fi (thn (p2.run pos _ s2 σ H _ I2 h) fun us s3 ⟨vs, H2, I3, rv, q2⟩ => ⟨⟨ClX.pin_at I3, I3.kIn⟩, ?_⟩) hst hpl
    have r2 : Vals (.ref (He.ga X.K cn) :: (vs ++ dvs)) (.ref (He.ga X.K cn) :: (us ++ ds)) := .cons rfl (rv.append hd)
    have hl : ((Value.ref (He.ga X.K cn) :: us) ++ ds).length = ps.length := by
      have e := r2.length
      rw [F.len _ _ _ _ q2] at e
      exact e.symm
    exact run_cmG F hr hgd tk I3 (hb s3 (.ref (He.ga X.K cn) :: us) I3.kIn hl) r2 q2
  · refine OutV.bind (T' := fun vs H2 Q => spL X.K ps none Fn (V.ref (He.ga X.K cn) :: (vs ++ dvs)) H2 Q (fun cls d H' => W cls d σ H')) (s2 Fr Γ σ H G R) fun es Γ2 vs H2 G2 R2 le2 rs => ?_
    split
    · rename_i hlen
      have rs2 : vsrel X.K σ G2 (.d (.cls cn) :: es) (V.ref (He.ga X.K cn) :: vs) := .cons (show Rep X.K G2 (.cls cn) _ from rfl) rs
      have hl : ((V.ref (He.ga X.K cn) :: vs) ++ dvs).length = ps.length := by rw [List.length_append, List.length_cons, vsrel_len rs, hlen]; exact hn
      exact OutV.of (out_call (b := none) R2 rs2 hdd) fun Q q => ⟨hl, q⟩
    · trivial
def cmK (mk np : Nat) (pm : List Nat) (c : Str) (Fn : DFn) (dd : List D) (uk : AF) : VF := fun Γ => (uk Γ).bind fun zs Γ1 =>
  if ([] : List EV).length = 0 ∧ zs.length = mk ∧ (pick pm ((.d (.cls c) :: []) ++ (zs ++ dd.map EV.d))).length = np then finCall none Fn [] (pick pm ((.d (.cls c) :: []) ++ (zs ++ dd.map EV.d))) Γ1 else .fail
def clsAt (Γ : En) (i : Nat) (c : Str) : Bool := match Γ[i]? with
  | some (.im (.cls c')) => decide (c' = c)
  | _ => false
def makeL (i n : Nat) (Fn : DFn) (c : Str) (dd : List D) (u : AF) : VF := fun Γ => if clsAt Γ i c then makeV n Fn c dd u Γ else .fail
theorem fv_makeL {i : Nat} (M : Mk X.K (He.ga X.K cn) fa') (F : FnG X.prog X.w X.K X.mg X.base (L2.CX X.prog X.w) k fa' fd ps (spL X.K ps (some 0) Fn)) (hN : X.N[i]? = some x) (hv : Vis X.env.scope x) (hb : Binds X.K fd ps ds) (hd : Vals dvs ds) (hdd : ∀ G, Reps X.K G dd dvs)
    (hr : Room (k + 1) X.A) (hgd : X.A.guards = some []) (tk : Takes X W) (hn : n + 1 + dvs.length = ps.length) (ha : FA X W (e :: es) u) (hdb : (x == ("__debug__" : Str)) = false := by decide) (hcd : (x == ("__classdict__" : Str)) = false := by decide)
    (he : starEach (e :: es) X.env = (false, eval e X.env) :: starEach es X.env := by rfl) (hpl : (backTo pos (starEach es X.env)).any (·.1) = false := by rfl) :
    FV X W (.Call (.Name x p) (e :: es) [] pos) (makeL i n Fn cn dd u) := by
  obtain ⟨t, pt, s⟩ := ha
  refine ⟨fun σ H Q => σ[i]? = some (some (.ref (He.ga X.K cn))) ∧ t σ H fun vs H1 => ∀ x dx, H1 x = none → H1 dx = none → dx ≠ x → spL X.K ps (some 0) Fn (.ref x :: (vs ++ dvs)) (upd (upd H1 dx (.own x)) x (.ins (He.ga X.K cn) dx [])) (fun v H2 => v = .non ∧ Q (.ref x) H2) (fun cls d H' => W cls d σ H'), ⟨fun pins s' σ H Q I ⟨h1, h⟩ => ?_⟩, fun Fr Γ σ H G R => ?_⟩
  · refine wpAny_Call_Name_kw (thn ((pe_var (pos := p) hN hv hdb hcd).run pins s' σ H (fun v J => v = .ref (He.ga X.K cn) ∧ J = H) I ⟨_, h1, rfl, rfl⟩) fun u s1 ⟨y, H1, I1, rx, ey, eH⟩ => ?_)
    subst ey
    rw [eH] at I1
    obtain rfl : u = Value.ref (He.ga X.K cn) := rx
    refine PySem.W.callWith_K (h₀ := X.base) I1.ok.mod.kin M.kp (thn (pt.run pos pins s1 σ H _ I1 h) fun us s2 ⟨vs, H2, I2, r, q⟩ => ⟨I2.kIn, ?_⟩) he hpl
    exact run_makeG M F hr hgd hb hd tk I2 r q
  · unfold makeL
    split
    · rename_i hc
      have h1 : σ[i]? = some (some (.ref (He.ga X.K cn))) := by
        unfold clsAt at hc
        split at hc
        · rename_i c' hs
          obtain ⟨v, e1, e2⟩ := R.sl i _ hs
          rw [e1, show v = .ref _ from e2, of_decide_eq_true hc]
        · cases hc
      refine OutV.of (OutV.bind (T' := fun (vs : List V) (H1 : Hp) (Q : VK) => ∀ x dx, H1 x = none → H1 dx = none → dx ≠ x → spL X.K ps (some 0) Fn (.ref x :: (vs ++ dvs)) (upd (upd H1 dx (.own x)) x (.ins (He.ga X.K cn) dx [])) (fun v H2 => v = .non ∧ Q (.ref x) H2) (fun cls d H' => W cls d σ H')) (s Fr Γ σ H G R) fun es' Γ1 vs H1 G1 R1 _ rs => ?_) fun Q q => ⟨h1, q⟩
      split
      · rename_i hlen
        have hl : (vs ++ dvs).length + 1 = ps.length := by rw [List.length_append, vsrel_len rs, hlen]; omega
        exact OutV.of (out_make R1 rs hdd) fun Q q x dx h1 h2 h3 => ⟨hl, q x dx h1 h2 h3⟩
      · trivial
    · trivial
end
end FL
namespace PySem.W
open PySem PySem.Spec PySem.Calls PyProof.Rows
theorem fr_unpack {prog : Program} {w : World} {A : Around} {E : Value → Shared → Prop} {s : Shared} {b : Addr} {its : Array Value} {Q : List Value → Shared → Prop} (isl : s.heap.IsList b its) (calm : A.handled = none) (p1 : 1 ≤ its.size) (p2 : its.size ≤ 16384)
    (q : ∀ (h' : Heap) (tk : Nat), (∀ d u, s.heap.get? d = some u → h'.get? d = some u) → Q (its.toList.take 1 ++ [.ref h'.objs.size] ++ []) { s with heap := h'.push { cls := .type "list", data := .seq (its.toList.drop 1).toArray }, toks := tk }) : wpAny (model prog w) A (unpackItems (.ref b) 2 (some 1)) Q E s := by
  obtain ⟨ob, hob, hob2⟩ := isl
  have below : b < s.heap.objs.size := Heap.lt_size hob
  have apart : b ≠ s.heap.objs.size := Nat.ne_of_lt below
  have isl : s.heap.IsList b its := ⟨ob, hob, hob2⟩
  unfold unpackItems notIterableAtAll
  refine wpAny_bind (wpAny_bind (wpAny_specialOf isl.typeIs slot_list_iter.lookup (wpAny_pure ?_)))
  rw [if_neg (fun z => nomatch z)]
  refine wpAny_bind (wpAny_holding (wpAny_pyIter_list isl ?_))
  refine wpAny_bind (wpAny_holding (kun_draw apart 1 0 _ _ ⟨_, Heap.get?_push_size _ rfl, rfl, rfl⟩ (isl.push _) (by omega) fun g hit same => ?_))
  have isl1 : g.IsList b its := (isl.push _).extBut same.extBut apart
  rw [Nat.zero_add] at hit
  obtain ⟨o1, g1, _⟩ := id hit
  obtain ⟨o2, g2, _⟩ := id isl1
  rw [List.drop_zero]
  have len1 : (its.toList.take 1).length = 1 := by rw [List.length_take, Array.length_toList]; omega
  rw [if_neg (by rw [len1]; exact Nat.lt_irrefl 1)]
  refine wpAny_bind (wpAny_holding (kun_collect (s := { s with heap := g }) (T := "list_iterator") (.inr (.inr (.inl rfl))) (Walks.list (A := A.in1) calm s.heap.objs.size b apart its) (fun j u st => st.1.typeIs) (k := 1) (by omega) ⟨hit, isl1⟩ (Heap.lt_size g1) (Heap.lt_size g2) (fun g' tk keep => ?_) (by rw [sizeLine_eq]; omega)))
  have lend : (its.toList.drop 1).length = its.size - 1 := by rw [List.length_drop, Array.length_toList]
  show wpAny _ _ (if (its.toList.drop 1).length < 2 - 1 - 1 then _ else _) _ _ _
  rw [if_neg (by omega)]
  show wpAny _ _ (newList ((its.toList.drop 1).take ((its.toList.drop 1).length - (2 - 1 - 1))) >>= fun d => pure (its.toList.take 1 ++ [d] ++ (its.toList.drop 1).drop ((its.toList.drop 1).length - (2 - 1 - 1)))) _ _ _
  have z0 : (its.toList.drop 1).length - (2 - 1 - 1) = (its.toList.drop 1).length := by omega
  rw [z0, List.take_length, List.drop_length]
  have kept : ∀ d u, s.heap.get? d = some u → g'.get? d = some u := fun d u e => by
    have ne : d ≠ s.heap.objs.size := Nat.ne_of_lt (Heap.lt_size e)
    exact keep d u ne (same.extBut d u ne (Heap.get?_push_of_some _ e))
  exact wpAny_bind (wpAny_newList (wpAny_pure (q g' tk kept)) (by rw [lend, sizeLine_eq]; omega))
end PySem.W
namespace FL
open PySem PySem.Spec PyProof.Rows L2
variable [Wrl] [Tabl]
variable {X : Cx} {pos : Pos}
def gHr (K : Frg) (t : TGs) : TG := fun v σ H Q => ∃ a x xs, v = .ref a ∧ H a = some (.lst (x :: xs)) ∧ xs.length ≤ 16000 ∧ ∀ p, H p = none → t [x, .ref p] σ (upd H p (.lst xs)) Q
theorem pg_hr {e1 e2 : Expr} {sp : Pos} {k : Nat} {t : TGs} (hc : X.calm = true) (h : PGs X [e1, e2] t)
    (hn : (assignEach [e1, .Starred e2 sp] X.env).length = 2 := by rfl) (hst : (assignEach [e1, .Starred e2 sp] X.env).findIdx? (·.1) = some 1 := by rfl) (hm : (assignEach [e1, .Starred e2 sp] X.env).map (·.2) = (assignEach [e1, e2] X.env).map (·.2) := by rfl) : PG X (.Tuple [e1, .Starred e2 sp] k pos) (gHr X.K t) := by
  refine ⟨fun pins s σ H v u Q I r hw => ?_⟩
  obtain ⟨a, x, xs, e1, hq, hl, hw⟩ := hw
  subst e1
  cases r
  obtain ⟨its, rv, ⟨o, n, ho, hcl, _, hd⟩, _⟩ := I.list (.of hq)
  cases rv with
  | cons rx rr =>
    rename_i x' xs'
    have hxl : xs'.length = xs.length := rr.length.symm
    rw [assign_Tuple]
    refine wpAny_bind (wpAny_standAt ?_)
    unfold unpack
    rw [hn, hst]
    refine wpAny_bind (wpAny_holding (PySem.W.fr_unpack (its := (x' :: xs').toArray) ⟨o, ho, hcl, n, hd⟩ (I.ok.hd hc) (by simp) (by simp; omega) fun h' tk kp => ?_))
    rw [hm]
    have I1 : Inv X pins σ H { s with heap := h', toks := tk } := I.kept (t' := tk) kp
    have hp := I1.hok.fresh (Nat.le_refl _)
    have I2 : Inv X pins σ (upd H h'.objs.size (.lst xs)) { s with heap := h'.push { cls := .type "list", data := .seq (xs' : List Value).toArray }, toks := tk } :=
      I1.laid (t' := tk) (fun b u e => Heap.get?_push_of_some _ e) (Nat.le_refl _) ⟨by rw [sizeLine_eq]; omega, xs', 0, rr, Heap.get?_push_size _ rfl⟩
    exact h.run pins _ σ _ [x, .ref h'.objs.size] [x', .ref h'.objs.size] Q I2 (.cons rx (.cons rfl .nil)) (hw _ hp)
def bHr (b1 b2 : BF) : BF
  | .lst (d :: ds), Γ => if ds.length ≤ 16000 then (b1 d Γ).bind (b2 (.lst ds)) else none
  | _, _ => none
theorem fg_hr {e1 e2 : Expr} {sp : Pos} {k : Nat} {b1 b2 : BF} {s1 s2 : List Nat} (hc : X.calm = true) (h1 : FG X e1 b1 s1) (h2 : FG X e2 b2 s2) (hs1 : (assignEach [e1, e2] X.env).map (·.2) = assign e1 X.env :: (assignEach [e2] X.env).map (·.2) := by rfl) (hs2 : (assignEach [e2] X.env).map (·.2) = assign e2 X.env :: (assignEach [] X.env).map (·.2) := by rfl)
    (hn : (assignEach [e1, .Starred e2 sp] X.env).length = 2 := by rfl) (hst : (assignEach [e1, .Starred e2 sp] X.env).findIdx? (·.1) = some 1 := by rfl) (hm : (assignEach [e1, .Starred e2 sp] X.env).map (·.2) = (assignEach [e1, e2] X.env).map (·.2) := by rfl) : FG X (.Tuple [e1, .Starred e2 sp] k pos) (bHr b1 b2) (s1 ++ s2) := by
  obtain ⟨g1, p1, m1⟩ := h1
  obtain ⟨g2, p2, m2⟩ := h2
  refine ⟨_, pg_hr hc (pgs_cons p1 (pgs_cons p2 pgs_nil hs2) hs1) hn hst hm, fun F Γ σ H G d v Γ' R r e Q q => ?_⟩
  unfold bHr at e
  split at e
  · rename_i d ds
    split at e
    · rename_i hl
      obtain ⟨Γ1, e1, e2⟩ := Option.bind_eq_some_iff.mp e
      obtain ⟨a, vs, rfl, h, x, xs, rfl, rx, rs⟩ := r
      refine ⟨a, x, xs, rfl, R.gh _ _ h, by rw [rs.len]; exact hl, fun p hp => ⟨x, _, rfl, ?_⟩⟩
      have le := Le.upd (o := HO.lst xs) (R.gNone hp)
      refine m1 F Γ σ _ _ d x Γ1 (R.new hp) (Rep.le le _ _ rx) e1 _ fun σ1 H1 G1 R1 le1 k1 => ⟨_, _, rfl, ?_⟩
      refine m2 F Γ1 σ1 H1 G1 (.lst ds) (.ref p) Γ' R1 ⟨p, xs, rfl, le1 _ _ upd_same, Reps.le (le.trans le1) _ _ rs⟩ e2 _ fun σ2 H2 G2 R2 le2 k2 => ⟨rfl, ?_⟩
      exact q σ2 H2 G2 R2 ((le.trans le1).trans le2) (k1.trans k2)
    · cases e
  · cases e
end FL
namespace FL
open PySem PySem.Spec PyProof.Rows L2
namespace Ev
variable {Γ : En} {u uk : AF} {n i mk np : Nat} {c : Str} {Fn : DFn} {dd ds : List D} {d : D} {b1 b2 : BF} {pm : List Nat}
theorem cmV : FL.cmV n c Fn dd u Γ = (u Γ).bind fun es Γ1 => if es.length = n then FL.finCall none Fn dd (.d (.cls c) :: es) Γ1 else .fail := rfl
theorem cmK : FL.cmK mk np pm c Fn dd uk Γ = (uk Γ).bind fun zs Γ1 => if ([] : List EV).length = 0 ∧ zs.length = mk ∧ (pick pm ((.d (.cls c) :: []) ++ (zs ++ dd.map EV.d))).length = np then FL.finCall none Fn [] (pick pm ((.d (.cls c) :: []) ++ (zs ++ dd.map EV.d))) Γ1 else .fail := rfl
theorem makeL : FL.makeL i n Fn c dd u Γ = if FL.clsAt Γ i c = true then FL.makeV n Fn c dd u Γ else .fail := rfl
theorem clsAt0 : FL.clsAt (.im (.cls c) :: Γ) 0 c = true := decide_eq_true rfl
theorem bHr : FL.bHr b1 b2 (.lst (d :: ds)) Γ = if ds.length ≤ 16000 then (b1 d Γ).bind (b2 (.lst ds)) else none := rfl
def all6 := (And.intro @cmV (And.intro @cmK (And.intro @makeL @clsAt0)))
end Ev
end FL
namespace FL
open PySem PySem.Spec PyProof.Rows L2
variable [Wrl] [Tabl]
variable {X : Cx} {W : WX} {pos : Pos}
theorem fe_dict0 : FE X W (.Dict [] [] pos) (cE (.dk [] [])) :=
  ⟨_, pe_dnewK, fun F Γ σ H G R Q q p hp => q (.ref p) _ _ (R.new hp) (Le.upd (R.gNone hp)) ⟨p, [], rfl, upd_same, rfl, rfl⟩⟩
end FL
namespace FL
open PySem PySem.Spec PyProof.Rows L2
variable {X : Cx} {W : WX} {e : Expr} {f : EF} {pos : Pos}
def keyP : Key → PyData
  | .inl i => .int i
  | .inr x => .str x
def D.leaf : D → Option PyData
  | .non => some .none
  | .bl b => some (.bool b)
  | .int i => some (.int i)
  | .str x => some (.str x)
  | _ => none
def D.leaves : List D → Option (List PyData)
  | [] => some []
  | d :: ds => (D.leaf d).bind fun p => (D.leaves ds).map fun ps => p :: ps
def D.el : D → Option PyData
  | .dk ks ds => (D.leaves ds).map fun ps => .dict ((ks.map keyP).zip ps)
  | d => D.leaf d
section
variable [Wrl] [Tabl]
variable {K : Frg} {H : Hp} {pins : List (Addr × Obj)} {σ : St} {s : Shared}
theorem leaf_reads {h : Heap} : ∀ (d : D) (v : V) (u : Value) (p : PyData), D.leaf d = some p → Rep K H d v → RelV v u → Reads h u p []
  | .non, _, _, _, e, r, q => by
    cases e
    rw [show _ = V.non from r] at q
    cases q
    exact .none
  | .bl b, _, _, _, e, r, q => by
    cases e
    rw [show _ = V.bl b from r] at q
    cases q
    exact .bool b
  | .int i, _, _, _, e, r, q => by
    cases e
    rw [show _ = V.int i from r] at q
    obtain ⟨t, rfl⟩ := q
    exact .int i t
  | .str x, _, _, _, e, r, q => by
    cases e
    rw [show _ = V.str x from r] at q
    obtain ⟨t, rfl⟩ := q
    exact .str x t
  | .lst _, _, _, _, e, _, _ => by cases e
  | .tup _, _, _, _, e, _, _ => by cases e
  | .dk _ _, _, _, _, e, _, _ => by cases e
  | .fk _ _, _, _, _, e, _, _ => by cases e
  | .dn _ _ _, _, _, _, e, _, _ => by cases e
  | .scr _, _, _, _, e, _, _ => by cases e
  | .ins _ _ _, _, _, _, e, _, _ => by cases e
  | .exn _ _ _ _ _, _, _, _, e, _, _ => by cases e
  | .cls _, _, _, _, e, _, _ => by cases e
theorem leaves_reads {P : Program} {w : World} {h : Heap} : ∀ (ds : List D) (ps : List PyData) (kv : List (Key × V)) (xs : List (Key × Value)) (es : List DictEntry), D.leaves ds = some ps → Reps K H ds (kv.map (·.2)) → KV kv xs → Pairs (mixKind P w) es xs →
    ps.length = kv.length ∧ ReadsAll h (es.map (·.key)) (kv.map fun q => keyP q.1) [] ∧ ReadsAll h (es.map (·.val)) ps []
  | [], _, kv, _, _, e, r, q, z => by
    cases e
    cases kv with
    | cons _ _ => exact absurd (show _ :: _ = [] from r) (by simp)
    | nil =>
      cases q
      cases z
      exact ⟨rfl, .nil, .nil⟩
  | d :: ds, _, kv, _, _, e, r, q, z => by
    obtain ⟨p, e1, e2⟩ := Option.bind_eq_some_iff.mp (show (D.leaf d).bind (fun p => (D.leaves ds).map fun ps => p :: ps) = some _ from e)
    obtain ⟨ps, e3, rfl⟩ := Option.map_eq_some_iff.mp e2
    obtain ⟨v, vs, ev, r1, r2⟩ := r
    cases kv with
    | nil => exact absurd ev (by simp)
    | cons k kv =>
      obtain ⟨rfl, rfl⟩ := List.cons.inj ev
      cases q with
      | cons q1 q2 =>
        obtain ⟨q0, q1⟩ := q1
        cases z with
        | cons z1 z2 z3 =>
          obtain ⟨i1, i2, i3⟩ := leaves_reads (h := h) ds ps kv _ _ e3 r2 q2 z3
          refine ⟨by rw [List.length_cons, List.length_cons, i1], ?_, ?_⟩
          · refine ReadsAll.cons (as := []) (bs := []) ?_ i2
            show Reads h (DictEntry.key _) (keyP k.1) []
            rw [q0]
            rcases keyIs_shape (show keyIs _ _ = true from z1) with ⟨i, t, h1, h2⟩ | ⟨x, t, h1, h2⟩
            · rw [h1, h2]; exact .int i t
            · rw [h1, h2]; exact .str x t
          · refine ReadsAll.cons (as := []) (bs := []) ?_ i3
            show Reads h (DictEntry.val _) p []
            rw [z2]
            exact leaf_reads d _ _ p e1 r1 q1
theorem el_reads (I : Inv X pins σ H s) : ∀ (d : D) (v : V) (u : Value) (p : PyData), D.el d = some p → Rep X.K H d v → RelV v u → ∃ as, Reads s.heap u p as ∧ sysModules ∉ as
  | .dk ks ds, _, _, _, e, ⟨a, kv, ev, q, n, r⟩, rv => by
    obtain ⟨ps, e1, rfl⟩ := Option.map_eq_some_iff.mp (show (D.leaves ds).map (fun ps => PyData.dict ((ks.map keyP).zip ps)) = some _ from e)
    subst ev
    cases rv
    obtain ⟨_, na, xs, hkv, o, es, ep, ho, hx, hd, _, hp, _⟩ := I.hok a _ q
    obtain ⟨i1, i2, i3⟩ := leaves_reads (h := s.heap) ds ps kv xs _ e1 r hkv hp
    have l1 : ((ks.map keyP).zip ps).map (·.1) = kv.map fun q => keyP q.1 := by
      rw [List.map_fst_zip (by rw [← n]; simp [i1]), ← n, List.map_map]
      rfl
    have l2 : ((ks.map keyP).zip ps).map (·.2) = ps := List.map_snd_zip (by rw [← n]; simp [i1])
    refine ⟨a :: [] ++ [], Reads.dict ho hx.1 hd (by rw [l1]; exact i2) (by rw [l2]; exact i3), ?_⟩
    intro hm
    rcases List.mem_cons.mp hm with rfl | hm
    · simp at na
    · cases hm
  | .non, _, _, _, e, r, q => ⟨_, leaf_reads (.non) _ _ _ e r q, nofun⟩
  | .bl b, _, _, _, e, r, q => ⟨_, leaf_reads (.bl b) _ _ _ e r q, nofun⟩
  | .int i, _, _, _, e, r, q => ⟨_, leaf_reads (.int i) _ _ _ e r q, nofun⟩
  | .str x, _, _, _, e, r, q => ⟨_, leaf_reads (.str x) _ _ _ e r q, nofun⟩
  | .lst _, _, _, _, e, _, _ => by cases e
  | .tup _, _, _, _, e, _, _ => by cases e
  | .scr _, _, _, _, e, _, _ => by cases e
  | .ins _ _ _, _, _, _, e, _, _ => by cases e
  | .exn _ _ _ _ _, _, _, _, e, _, _ => by cases e
  | .cls _, _, _, _, e, _, _ => by cases e
end
def refK : D → Bool
  | .dk _ _ => true
  | .tup _ => true
  | _ => false
def reprQ (p : PyData) : Option Str := if p.showable = true ∧ p.depth ≤ 60 ∧ p.shown.length ≤ sizeLine then some p.shown else none
end FL
namespace FL
open PySem PySem.Spec PyProof.Rows L2
abbrev Tl := List (Str × DFn)
variable [Wrl] [Tabl]
variable {Y : Cx} {k : Nat} {L : Tl} {pins : List (Addr × Obj)} {σ : St} {H : Hp} {s : Shared} {a : Addr} {A : Around} {E : Value → Shared → Prop}
end FL
namespace FL
open PySem PySem.Spec PyProof.Rows L2
def atD (k : Key) : List Key → List D → Option D
  | j :: ks, v :: vs => if j = k then some v else atD k ks vs
  | _, _ => none
variable [Wrl] [Tabl]
variable {X : Cx} {W : WX} {o a b : Expr} {fo fa fb : EF} {pos apos p : Pos}
end FL
namespace FL
open PySem PySem.Spec PyProof.Rows L2
section
variable [Wrl] [Tabl]
def trOK (c0 : Str) (d : D) (r : O Fl) : O Fl := match r with
  | .exc c ns fs Γ => if c = c0 then .ok (.rt d) Γ else .fail
  | r => r
def tryO (c0 : Str) (d : D) (sf : SF) : SF := fun Γ => trOK c0 d (sf Γ)
theorem fs_tryO {X : Cx} {W : WX} {x c0 : Str} {body suite : List Stmt} {b₀ : Stmt} {np pos pos' : Pos} {sf h : SF} {d : D} (tk : Takes X W) (hs : X.stack = X.env :: X.outer) (hf : X.env.frame = some X.env.locals)
    (hg : Gl X x) (hdb : (x == ("__debug__" : Str)) = false) (hm : X.mg x = some (.ref (He.ga X.K c0))) (hx : PySem.W.exmOne X.K (.ref (He.ga X.K c0)) (.ref (He.ga X.K c0)) = some true)
    (hb : ∀ (W : WX) (pn : List (Addr × Obj)) (xe : Value → Shared → Prop), Takes (X.tr pn xe) W → PassesOwn (model X.prog X.w) X.A X.env xe → FB (X.tr pn xe) W body sf)
    (hsu : ∀ (a : Addr) (oe : Obj) (pn : List (Addr × Obj)), FB (X.suite a ((a, oe) :: pn)) noW (b₀ :: suite) h)
    (hr : ∀ Γ, h Γ = .ok (.rt d) Γ) : FS X W (.Try body [.ExceptHandler (some (.Name x np)) none (b₀ :: suite) pos'] [] [] pos) (tryO c0 d sf) := by
  let ts : Addr → Value → Option Addr → TS := fun a cls dd D σ H => wpS X.K noW h D σ H
  refine ⟨_, ps_try_only (tb := fun W => wpS X.K W sf) (ts := ts) hs hf ⟨hg, hdb, .inl hm⟩ tk (fun W pn xe tk hp => (hb W pn xe tk hp).wp) (fun a oe cls d pn hz hf => (hsu a oe pn).wp), fun F Γ σ H G R => ?_⟩
  unfold tryO
  cases e : sf Γ with
  | fail => trivial
  | ok fl Γ' =>
    intro D q
    exact ⟨F, Γ, G, R, by rw [e]; exact q⟩
  | exc c ns fs Γ' =>
    show OutS X.K W F G _ (if c = c0 then (O.ok (Fl.rt d) Γ' : O Fl) else .fail)
    split
    · rename_i hc
      subst hc
      intro D q
      refine ⟨F, Γ, G, R, ?_⟩
      rw [e]
      intro cls dx σ' H' G' R' le xr
      obtain ⟨rfl, fv, hn, rp, hd⟩ := xr
      refine ⟨true, hx, fun _ a ha => ⟨F, Γ', G', R', ?_⟩, fun z => by cases z⟩
      rw [hr]
      intro v τ J G2 R3 le2 rv
      exact q v _ J G2 R3 (le.trans le2) rv
    · trivial
theorem trOB_ok {K : Frg} {c : Str} (h : trOB K c = true) : PySem.W.exmOne K (.ref (He.ga K c)) (.ref (He.ga K c)) = some true := of_decide_eq_true h
theorem retc_ok {d : D} (Γ : En) : retS (cE d) Γ = .ok (.rt d) Γ := by
  show retS (cE d) Γ = _
  rw [Ev.retS]
  show (O.ok (EV.d d) Γ : O EV).bind _ = _
  rw [Ev.bindO, Ev.finR, Ev.frzd, Ev.rtK1]
end
namespace Ev
variable {c0 c : Str} {d : D} {sf : SF} {Γ : En} {ns : List Str} {fs : List D} {fl : Fl}
theorem tryO : FL.tryO c0 d sf Γ = trOK c0 d (sf Γ) := rfl
theorem trOK1 : trOK c0 d (.ok fl Γ) = .ok fl Γ := rfl
theorem trOK2 : trOK c0 d (.exc c0 ns fs Γ) = .ok (.rt d) Γ := if_pos rfl
end Ev
end FL
namespace FL
open PySem PySem.Spec PyProof.Rows L2
theorem SaysU.at_ {ts : List TabU} {w : World} {K : Frg} (c : SaysU ts w K) (i : Nat) {t : TabU} (h : ts[i]? = some t) : ∃ es n, KDict K w (He.ga K t.1) es n := by
  have e2 : (ts.map fun t => He.dicW K (He.ga K t.1))[i]? = (ts.map fun t => some (He.keysIn w.params t.2))[i]? := by rw [show ts.map (fun t => He.dicW K (He.ga K t.1)) = _ from c]
  rw [List.getElem?_map, List.getElem?_map, h] at e2
  exact He.dicW_ok (Option.some.inj e2)
theorem gdL_find [Wrl] {K : Frg} : ∀ {es : List DictEntry} {ks : List Key} {vs : List D}, gdL K es ks vs = true → ∀ z : Str, es.any (·.refKey) = false ∧ (match es.find? (·.key.isStr z) with
    | some e => ∃ d v, atD (.inr z) ks vs = some d ∧ RelV v e.val ∧ ∀ G, Rep K G d v
    | none => atD (.inr z) ks vs = none)
  | [], [], [], _, z => ⟨rfl, rfl⟩
  | [], [], _ :: _, h, _ => by cases h
  | [], _ :: _, _, h, _ => by cases h
  | _ :: _, [], _, h, _ => by cases h
  | _ :: _, .inl _ :: _, _, h, _ => by cases h
  | _ :: _, .inr _ :: _, [], h, _ => by cases h
  | e :: es, .inr x :: ks, d :: vs, h, z => by
    have h1 : (match e.key with
      | .str y _ => decide (y = x) && (cst K d e.val && gdL K es ks vs)
      | _ => false) = true := h
    split at h1
    · rename_i y t ek
      obtain ⟨h2, h3⟩ := He.ba h1
      obtain ⟨h4, h5⟩ := He.ba h3
      have h2 := of_decide_eq_true h2
      subst h2
      obtain ⟨i1, i2⟩ := gdL_find h5 z
      refine ⟨by rw [List.any_cons, i1]; unfold DictEntry.refKey; rw [ek]; rfl, ?_⟩
      have ei : e.key.isStr z = (y == z) := by rw [ek]; rfl
      rw [List.find?_cons, ei]
      unfold atD
      by_cases hz : y = z
      · subst hz
        rw [beq_self_eq_true y, if_pos rfl]
        obtain ⟨v, r1, r2⟩ := cst_ok d e.val h4
        exact ⟨d, v, rfl, r1, r2⟩
      · rw [beq_eq_false_iff_ne.mpr hz, if_neg (fun q => hz (Sum.inr.inj q))]
        exact i2
    · cases h1
def KGM [Wrl] (K : Frg) (w : World) (mg : Str → Option Value) (x : Str) (ks : List Key) (vs : List D) : Prop := ∃ d es n, mg x = some (.ref d) ∧ KDict K w d es n ∧ ∀ z, ∃ r, PySem.W.nsIn K d z = some r ∧ (match r with
  | some u => ∃ e v, atD (.inr z) ks vs = some e ∧ RelV v u ∧ ∀ G, Rep K G e v
  | none => atD (.inr z) ks vs = none)
def KGD [Wrl] (X : Cx) (x : Str) (ks : List Key) (vs : List D) : Prop := KGM X.K X.w X.mg x ks vs
theorem gdB_ok [Wrl] {K : Frg} {w : World} {mg : Str → Option Value} {h : Heap} (X : K.In h) (G : h.Ns mainGlobals mg) {x : Str} {ks : List Key} {vs : List D} (c : gdB K x ks vs = true) (u : ∃ es n, KDict K w (He.ga K x) es n) :
    KGM K w mg x ks vs := by
  obtain ⟨es, n, D⟩ := u
  unfold gdB at c
  rw [D.at_] at c
  cases e1 : PySem.W.nsIn K mainGlobals x with
  | none => rw [e1] at c; cases c
  | some r => cases r with
  | none => rw [e1] at c; cases c
  | some u => cases u with
  | ref a =>
    rw [e1] at c
    replace c : gdL K es.toList ks vs = true := c
    have eg : He.ga K x = a := by unfold He.ga; rw [e1]
    refine ⟨a, es, n, PySem.W.mg_of X G e1, eg ▸ D, fun z => ?_⟩
    obtain ⟨h1, h2⟩ := gdL_find c z
    unfold PySem.W.nsIn
    rw [← eg, D.at_]
    dsimp only
    revert h2
    cases es.toList.find? (·.key.isStr z) with
    | some e => exact fun h2 => ⟨some e.val, rfl, h2⟩
    | none =>
      intro h2
      refine ⟨none, ?_, h2⟩
      dsimp only
      rw [h1]
      rfl
  | _ => rw [e1] at c; cases c
theorem Tx.gd [Wrl] {fas : List He.Fa} {fn : List He.DefD} {ex : Frg → Bool} {K : Frg} {w : World} {mg : Str → Option Value} (T : Tx fas fn ex K mg) {x : Str} {ks : List Key} {vs : List D} (u : ∃ es n, KDict K w (He.ga K x) es n) (c : gdB K x ks vs = true) : KGM K w mg x ks vs := by
  obtain ⟨_, X, G⟩ := T.hh
  exact gdB_ok X G c u
def kgK (ks : List Key) (vs : List D) (e : EV) (Γ : En) : O EV := match e with
  | .d (.str z) => .ok (.d ((atD (.inr z) ks vs).getD .non)) Γ
  | _ => .fail
def kgE (ks : List Key) (vs : List D) (fa : EF) : EF := fun Γ => (fa Γ).bind (kgK ks vs)
def tKGet (K : Frg) (w : World) (td ty : TE) : TE := fun σ H Q => td σ H fun x H1 => ∃ d es n, x = .ref d ∧ KDict K w d es n ∧ ty σ H1 fun y H2 => ∃ (z : Str) (r : Option Value) (v : V), y = .str z ∧ PySem.W.nsIn K d z = some r ∧ RelV v (r.getD .none) ∧ Q v H2
section
variable {X : Cx} {o e : Expr} {apos cpos : Pos} {td ty : TE}
theorem pe_kget (ho : PE X o td) (he : PE X e ty) (m : M1 X o "get" apos e cpos) : PE X (.Call (.Attribute o "get" apos) [e] [] cpos) (tKGet X.K X.w td ty) := by
  refine ⟨fun pins s σ H Q I h => ?_⟩
  refine wpAny_Call_method m.base m.few m.line PySem.F.plainAttrs_dict PySem.F.slot_dict_get PySem.F.type_dict_get (thn (ho.run pins s σ H _ I h) fun u s1 ⟨x, H1, I1, rx, d, es, n, ex, D, q1⟩ => ?_)
  subst ex
  obtain rfl : u = Value.ref d := rx
  have hm := PySem.W.mapOf_K (prog := X.prog) (w := X.w) I1.kIn D.at_ D.lit
  refine ⟨hm.typeIs, hm.noDict, ?_⟩
  rw [m.trees]
  refine Calls.callWith_builtin rfl (Calls.evalArgs_plain (Calls.spliced_cons (thn (he.run pins s1 σ H1 _ I1 q1) fun iv s2 ⟨y, H2, I2, ry, z, r, v, ez, hr, rv, q2⟩ => Calls.spliced_nil ?_)))
  subst ez
  obtain ⟨t, rfl⟩ := (show ∃ t, iv = Value.str z t from ry)
  have hm2 := PySem.W.mapOf_K (prog := X.prog) (w := X.w) I2.kIn D.at_ D.lit
  refine call_meetsIn PySem.F.slot_dict_get hm2.typeIs PySem.F.entry_dict_get (PySem.F.args_dict_get_2 _ _) (meets_dict_get (strKind X.prog X.w) d (strKind_is X.prog X.w z t) D.low) ⟨_, hm2, ?_⟩
  rw [PySem.W.find_K D.at_ hr]
  exact ⟨v, H2, I2.tok _, rv, q2⟩
end
namespace Ev
variable {Γ : En} {fa : EF} {ks : List Key} {vs : List D} {z : Str}
theorem kgE : FL.kgE ks vs fa Γ = (fa Γ).bind (FL.kgK ks vs) := rfl
theorem kgK {d : D} (h : (atD (.inr z) ks vs).getD .non = d) : FL.kgK ks vs (.d (.str z)) Γ = .ok (.d d) Γ := by
  rw [← h]; rfl
end Ev
section
variable [Wrl] [Tabl]
variable {X : Cx} {W : WX} {e : Expr} {fa : EF} {x : Str} {ks : List Key} {vs : List D} {npos apos pos : Pos}
theorem fe_kget (h : KGD X x ks vs) (ha : FE X W e fa) (hg : Gl X x := by rfl) (hd : (x == ("__debug__" : Str)) = false := by decide) (m : M1 X (.Name x npos) "get" apos e pos := by exact ⟨rfl, rfl, rfl, rfl⟩) : FE X W (.Call (.Attribute (.Name x npos) "get" apos) [e] [] pos) (kgE ks vs fa) := by
  obtain ⟨d, es, n, hm, D, hz⟩ := h
  obtain ⟨u1, p1, s1⟩ := ha
  refine ⟨_, pe_kget (pe_glob (v := .ref d) hg hm rfl hd) p1 m, fun F Γ σ H G R => ?_⟩
  refine Out.of (Out.bind (T' := fun y H2 Q => ∃ (z : Str) (r : Option Value) (v : V), y = .str z ∧ PySem.W.nsIn X.K d z = some r ∧ RelV v (r.getD .none) ∧ Q v H2) (s1 F Γ σ H G R) fun ea Γ1 v1 H1 G1 R1 le1 r1 => ?_) fun Q q => ⟨d, es, n, rfl, D, q⟩
  unfold kgK
  split
  · rename_i z
    obtain rfl : v1 = .str z := (show Rep X.K G1 (.str z) v1 from r1)
    obtain ⟨r, hr, hv⟩ := hz z
    intro Q q
    cases r with
    | some u =>
      obtain ⟨e, v, h1, h2, h3⟩ := hv
      rw [h1] at q
      exact ⟨z, some u, v, rfl, hr, h2, q v _ _ R1 (Le.refl _) (h3 _)⟩
    | none =>
      rw [hv] at q
      exact ⟨z, none, .non, rfl, hr, rfl, q .non _ _ R1 (Le.refl _) rfl⟩
  · trivial
end
end FL
namespace FL
open PySem PySem.Spec PyProof.Rows L2
def ifVK (f1 f2 : VF) (k : Bool) (Γ : En) : O VV := if k then f1 Γ else f2 Γ
def ifV (t : TF) (f1 f2 : VF) : VF := fun Γ => (t Γ).bind (ifVK f1 f2)
namespace Ev
variable {Γ : En} {t : TF} {f1 f2 : VF}
theorem ifV : FL.ifV t f1 f2 Γ = (t Γ).bind (ifVK f1 f2) := rfl
theorem ifVK1 : ifVK f1 f2 true Γ = f1 Γ := rfl
theorem ifVK0 : ifVK f1 f2 false Γ = f2 Γ := rfl
end Ev
section
variable [Wrl] [Tabl]
variable {X : Cx} {W : WX} {a b c : Expr} {pos : Pos} {t1 : TF} {f1 f2 : VF}
theorem fv_if (hc : FT X W c t1) (ha : FV X W a f1) (hb : FV X W b f2) : FV X W (.IfExp c a b pos) (ifV t1 f1 f2) := by
  obtain ⟨u1, p1, s1⟩ := hc
  obtain ⟨u2, p2, s2⟩ := ha
  obtain ⟨u3, p3, s3⟩ := hb
  refine ⟨_, pe_ifExp p1 p2 p3, fun F Γ σ H G R => ?_⟩
  refine OutV.bind (T' := fun (k : Bool) H1 Q => if k = true then u2 σ H1 Q else u3 σ H1 Q) (s1 F Γ σ H G R) fun k Γ1 k' H1 G1 R1 le1 rk => ?_
  cases (show k' = k from rk)
  cases k with
  | true => exact s2 F Γ1 σ H1 G1 R1
  | false => exact s3 F Γ1 σ H1 G1 R1
end
end FL
namespace FL
open PySem PySem.Spec PyProof.Rows L2
def finExt (i : Nat) (x : VV) (Γ : En) : O Fl := match x with
  | .n (.l ys) => (match ownD Γ i with
    | some (.l xs) => if xs.length + ys.length ≤ sizeLine then .ok .nx (putOwn Γ i (.l (xs ++ ys))) else .fail
    | _ => .fail)
  | _ => .fail
def extS (i : Nat) (f : VF) : SF := fun Γ => if isOwnL Γ i then (f Γ).bind (finExt i) else .fail
section
variable [Wrl] [Tabl]
variable {X : Cx} {W : WX} {e : Expr} {f : VF} {pos apos : Pos}
theorem fs_extend {i : Nat} {x : Str} {p p2 : Pos} (ha : FV X W e f) (hN : X.N[i]? = some x) (hv : Vis X.env.scope x) (hd : (x == ("__debug__" : Str)) = false := by decide) (hcd : (x == ("__classdict__" : Str)) = false := by decide)
    (hbase : attributeBase (.Name x p) "extend" X.env (eval (.Name x p) X.env) = eval (.Name x p) X.env := by rfl)
    (hfew : ((backTo p2 (starEach [e] X.env)).all (fun x => !x.1) && (backToKw p2 (keywordEach [] X.env)).all (fun x => x.1.isSome)
      && decide (([e] : List Expr).length + ([] : List Keyword).length + (if ([] : List Keyword).isEmpty then 0 else 1) < 30)) = true := by rfl)
    (hline : (apos.endLine == p2.line) = true := by rfl) (hs : starEach [e] X.env = (false, eval e X.env) :: starEach [] X.env := by rfl)
    (hsw : swapsWith (.Call (.Attribute (.Name x p) "extend" apos) [e] [] p2) none pos.line X.env = pure false := by rfl) :
    FS X W (.Expr (.Call (.Attribute (.Name x p) "extend" apos) [e] [] p2) pos) (extS i f) := by
  obtain ⟨t, pt, s⟩ := ha
  refine ⟨_, ps_expr (pe_bm PySem.F.plainAttrs_list PySem.F.slot_list_extend PySem.F.type_list_extend mt_extend (pe_var hN hv hd hcd) (pa_cons pt pa_nil hs) hbase hfew hline hs (by rfl)) hsw, fun F Γ σ H G R => ?_⟩
  unfold extS
  split
  · rename_i hi
    obtain ⟨ys, ey⟩ := isOwnL_ok hi
    obtain ⟨q0, u0, h0, h1, h2, h3, _⟩ := R.own ey
    obtain ⟨vs0, rfl, _⟩ := h3
    refine OutS.of (OutS.bindV (T' := fun v H2 D => rExtend (V.ref q0) [v] H2 fun _ H3 => D.nx σ H3) (s F Γ σ H G R) fun ev Γ1 v H1 G1 R1 le1 r1 => ?_) fun D q => ⟨_, h0, .inl ⟨rfl, _, .of h1⟩, q⟩
    unfold finExt
    split
    · rename_i zs
      obtain ⟨b, u, rfl, hb, hg, _, _, no, ⟨bs, rfl, hr⟩⟩ := (show New X.K F Γ1 σ H1 G1 (.l zs) v from r1)
      split
      · rename_i xs ex
        split
        · rename_i hz
          obtain ⟨p, u, g1, g2, g3, g4, k⟩ := R1.own ex
          obtain ⟨vs, rfl, g4⟩ := g4
          rw [h0] at g1
          cases g1
          exact fun D q => ⟨_, b, vs, bs, rfl, rfl, g2, hb, by rw [g4.len, hr.len]; exact hz, q σ _ G1 (k (.l (xs ++ zs)) _ ⟨_, rfl, g4.append hr⟩) (Le.refl _)⟩
        · trivial
      · trivial
    · trivial
  · trivial
end
end FL
namespace FL
open PySem PySem.Spec PyProof.Rows L2
def cmpI (vs1 : List Nat) (b1 : BF) (tt1 : TF) (elt : EF) : List D → List D → En → Option (List D × En)
  | [], acc, Γ => some (acc, Γ)
  | d :: ds, acc, Γ => match b1 d (wipeΓ Γ vs1) with
    | none => none
    | some Γ1 => match tt1 Γ1 with
      | .ok false Γ2 => cmpI vs1 b1 tt1 elt ds acc (wipeΓ Γ2 vs1)
      | .ok true Γ2 => (match elt Γ2 with
        | .ok ev Γ3 => (match frz1 ev Γ3 with
          | some (x, Γ4) => if acc.length < sizeLine then cmpI vs1 b1 tt1 elt ds (acc ++ [x]) (wipeΓ Γ4 vs1) else none
          | none => none)
        | _ => none)
      | _ => none
def cmpO (vs : List Nat) (b : BF) (tt : TF) (vs1 : List Nat) (it1 : IF) (b1 : BF) (tt1 : TF) (elt : EF) : List D → List D → En → O VV
  | [], acc, Γ => .ok (.n (.l acc)) Γ
  | d :: ds, acc, Γ => match b d (wipeΓ Γ vs) with
    | none => .fail
    | some Γ1 => match tt Γ1 with
      | .ok false Γ2 => cmpO vs b tt vs1 it1 b1 tt1 elt ds acc (wipeΓ Γ2 vs)
      | .ok true Γ2 => (match it1 Γ2 with
        | .ok ds1 Γ3 => (match cmpI vs1 b1 tt1 elt ds1 acc (wipeΓ Γ3 vs1) with
          | some (acc2, Γ4) => cmpO vs b tt vs1 it1 b1 tt1 elt ds acc2 (wipeΓ Γ4 vs)
          | none => .fail)
        | _ => .fail)
      | _ => .fail
def compV2 (vs : List Nat) (it : IF) (b : BF) (tt : TF) (vs1 : List Nat) (it1 : IF) (b1 : BF) (tt1 : TF) (elt : EF) : VF := fun Γ => (it Γ).bind fun ds Γ1 => if noBor Γ1 vs then cmpO vs b tt vs1 it1 b1 tt1 elt ds [] Γ1 else .fail
section
variable [Wrl] [Tabl]
variable {X : Cx} {W : WX}
theorem New.move {K : Frg} {F : Fr} {Γ Γ' : En} {σ σ' : St} {H H' G G' : Hp} {xs : List D} {q : Addr} (n : New K F Γ σ H G (.l xs) (.ref q)) (R : Rl K F Γ σ H G) (R' : Rl K (reb Γ σ H G F) Γ' σ' H' G') (le : Le G G') :
    ∃ vs, H' q = some (.lst vs) ∧ Reps K G' xs vs ∧ New K F Γ' σ' H' G' (.l xs) (.ref q) := by
  obtain ⟨p, u, e, h2, h3, h4, h5, h6, vs, rfl, r⟩ := n
  cases e
  obtain ⟨g1, g2, g3⟩ := R.stays R' h2 h6 h5 h3 (fun _ z => by cases z)
  exact ⟨vs, g1, Reps.le le _ _ r, q, _, rfl, g1, g2, h4, h5, g3, vs, rfl, Reps.le le _ _ r⟩
theorem New.wiped {K : Frg} {F : Fr} {Γ : En} {σ σ' : St} {H G : Hp} {xs : List D} {q : Addr} {vs : List Nat} (n : New K F Γ σ H G (.l xs) (.ref q)) (hs : ∀ i, i ∉ vs → σ'[i]? = σ[i]?) : New K F (wipeΓ Γ vs) σ' H G (.l xs) (.ref q) := by
  obtain ⟨p, u, e, h2, h3, h4, h5, h6, r⟩ := n
  cases e
  refine ⟨q, u, rfl, h2, h3, h4, h5, fun j ⟨o, ho⟩ => ?_, r⟩
  by_cases hj : j ∈ vs
  · exact absurd (wipeΓ_in hj ho) (by simp)
  · rw [hs j hj]
    refine h6 j ⟨o, ?_⟩
    rw [wipeΓ_out hj] at ho
    exact ho
theorem out_in {K : Frg} {vs1 sl1 : List Nat} {b1 : BF} {tt1 : TF} {elt : EF} (hsl : ∀ i ∈ sl1, i ∈ vs1) {J : It} {ds : List D} {F : Fr} {Γ : En} {σ : St} {H G : Hp} {D : Addr} (R : Rl K F Γ σ H G) (hb : ∀ v ∈ vs1, F.bi ≠ some v) (wk : Walks K J ds G) {acc acc2 : List FL.D} {Γf : En}
    (hr : cmpI vs1 b1 tt1 elt ds acc (wipeΓ Γ vs1) = some (acc2, Γf)) (n : New K F Γ σ H G (.l acc) (.ref D)) {Nx : Hp → Prop} (hN : ∀ H' G', Rl K F Γf σ H' G' → Le G G' → New K F Γf σ H' G' (.l acc2) (.ref D) → Nx H') :
    ∃ W1 : Nat → Nat → Hp → Prop, (∃ m, W1 0 m H) ∧ ∀ j k H, W1 j k H →
      (J.stop j H ∧ Nx H) ∨ (J.go j H ∧ ∃ Nx1 : Hp → Prop, (∀ H', Nx1 H' → ∃ k', k' < k ∧ W1 (j + 1) k' H') ∧ ∀ x H', J.yld j H x H' → wpG K b1 sl1 x (wipe σ vs1) H' fun σ3 H5 => wipe σ3 vs1 = wipe σ vs1 ∧ wpT K noW tt1 σ3 H5 fun b H6 =>
        if b = true then wpE K noW elt σ3 H6 fun y H7 => ∃ acc, H7 D = some (.lst acc) ∧ acc.length < sizeLine ∧ Nx1 (upd H7 D (.lst (acc ++ [y]))) else Nx1 H6) := by
  have back : ∀ {Γ' : En} {σ' : St} {H' G' : Hp} {F' : Fr}, F'.bi = F.bi → Rl K F' Γ' σ' H' G' → σ'.length = σ.length → (∀ i, i ∉ vs1 → σ'[i]? = σ[i]?) → Rl K F' (wipeΓ Γ' vs1) σ H' G' := fun {Γ' σ' H' G' F'} hf R' hl hs =>
    R'.wiped (by rw [hf]; exact hb) hl.symm fun i hi => (hs i hi).symm
  refine ⟨fun i m H1 => m = ds.length - i ∧ i ≤ ds.length ∧ ∃ Γ1 G1 acc, Rl K F Γ1 σ H1 G1 ∧ Le G G1 ∧ New K F Γ1 σ H1 G1 (.l acc) (.ref D) ∧ cmpI vs1 b1 tt1 elt (ds.drop i) acc Γ1 = some (acc2, Γf), ⟨ds.length, by simp, Nat.zero_le _, wipeΓ Γ vs1, G, acc, R.wiped hb rfl fun _ _ => rfl, Le.refl G, n.wiped fun _ _ => rfl, hr⟩, ?_⟩
  rintro i m H1 ⟨rfl, hi, Γ1, G1, acc, R1, le1, n1, e1⟩
  by_cases hlt : i < ds.length
  · have hdrop : ds.drop i = ds[i] :: ds.drop (i + 1) := List.drop_eq_getElem_cons hlt
    rw [hdrop] at e1
    have Rb := R1.rebase
    obtain ⟨go, yl⟩ := (wk _ Γ1 σ H1 G1 i Rb le1).1 ds[i] (List.getElem?_eq_getElem hlt)
    refine .inr ⟨go, fun H' => ∃ Γ2 G2 acc2', Rl K F Γ2 σ H' G2 ∧ Le G G2 ∧ New K F Γ2 σ H' G2 (.l acc2') (.ref D) ∧ cmpI vs1 b1 tt1 elt (ds.drop (i + 1)) acc2' Γ2 = some (acc2, Γf), fun H' ⟨Γ2, G2, a2, R2, le2, n2, e2⟩ => ⟨ds.length - (i + 1), by omega, rfl, hlt, Γ2, G2, a2, R2, le2, n2, e2⟩, fun y H' hy => ?_⟩
    obtain ⟨G2, R2, le2, ry, _⟩ := yl y H' hy
    have R2w : Rl K (reb Γ1 σ H1 G1 F) (wipeΓ Γ1 vs1) (wipe σ vs1) H' G2 := R2.wiped hb (wipe_length σ vs1) fun i hi => wipe_out hi
    unfold cmpI at e1
    split at e1
    · cases e1
    · rename_i Γ3 eb
      refine ⟨_, _, G2, ds[i], Γ3, R2w, ry, eb, fun σ4 H4 G4 R4 le4 kp => ⟨wipe_eq kp hsl, _, Γ3, G4, R4, ?_⟩⟩
      have hlen : σ4.length = σ.length := kp.1.trans (wipe_length σ vs1)
      have hout : ∀ i, i ∉ vs1 → σ4[i]? = σ[i]? := fun i hi => (kp.2 i fun z => hi (hsl i z)).trans (wipe_out hi)
      split at e1
      · rename_i Γ5 et
        rw [et]
        intro H5 G5 R5 le5
        rw [if_neg Bool.false_ne_true]
        have R5w := back (F' := reb Γ1 σ H1 G1 F) rfl R5 hlen hout
        have leA : Le G1 G5 := (le2.trans le4).trans le5
        exact ⟨_, G5, acc, R1.unrebase R5w, le1.trans leA, New.stays R1 R5w leA n1, e1⟩
      · rename_i Γ5 et
        rw [et]
        intro H5 G5 R5 le5
        rw [if_pos rfl]
        refine ⟨_, Γ5, G5, R5, ?_⟩
        split at e1
        · rename_i ev Γ6 ee
          rw [ee]
          intro v H6 G6 R6 le6 rv
          split at e1
          · rename_i z Γ7 ez
            split at e1
            · rename_i hz
              obtain ⟨G7, R7, le7, rz⟩ := R6.frz1 rv ez
              have R7w := back (F' := reb Γ1 σ H1 G1 F) rfl R7 hlen hout
              have leA : Le G1 G7 := (((le2.trans le4).trans le5).trans le6).trans le7
              obtain ⟨ws, _, g2, g3, g4, g5, g6, g7⟩ := New.next n1 R1 R7w leA
              have R8 := (R1.unrebase R7w).updNew (o := .lst (ws ++ [v])) g2 ⟨fun _ z => (by cases z), fun _ z => by cases z⟩ g4 g5 g6 g7
              refine ⟨ws, g2, by rw [g3.len]; exact hz, _, G7, acc ++ [z], R8, le1.trans leA, ⟨D, _, rfl, upd_same, g4, g5, g6, g7, ws ++ [v], rfl, g3.append (Reps.cons rz Reps.nil)⟩, e1⟩
            · cases e1
          · cases e1
        · cases e1
      · cases e1
  · have e : i = ds.length := by omega
    subst e
    rw [List.drop_length] at e1
    have stop := (wk F Γ1 σ H1 G1 ds.length R1 le1).2 (Nat.le_refl _)
    cases e1
    exact .inl ⟨stop, hN H1 G1 R1 le1 n1⟩
theorem out_cmp2 {K : Frg} {vs sl vs1 sl1 : List Nat} {bf b1 : BF} {tt tt1 : TF} {it1 : IF} {elt : EF} (hsl : ∀ i ∈ sl, i ∈ vs) (hsl1 : ∀ i ∈ sl1, i ∈ vs1) (hv : ∀ i ∈ vs1, i ∈ vs) {J : It} {ds : List D} {F : Fr} {Γ : En} {σ : St} {H G : Hp} (R : Rl K F Γ σ H G) (hb : ∀ v ∈ vs, F.bi ≠ some v) (wk : Walks K J ds G) :
    OutV K W (vvrel K) F σ G (fun (Q : VK) => ∀ D, H D = none → ∃ Wd : Nat → Nat → Hp → Prop, (∃ m, Wd 0 m (upd H D (.lst []))) ∧ ∀ i m H, Wd i m H →
      (J.stop i H ∧ Q (.ref D) H) ∨ (J.go i H ∧ ∃ Nx : Hp → Prop, (∀ H', Nx H' → ∃ m', m' < m ∧ Wd (i + 1) m' H') ∧ ∀ x H', J.yld i H x H' → wpG K bf sl x (wipe σ vs) H' fun σ2 H2 => wipe σ2 vs = wipe σ vs ∧ wpT K noW tt σ2 H2 fun b H3 =>
        if b = true then wpI K noW it1 σ2 H3 fun J1 H4 => ∃ W1 : Nat → Nat → Hp → Prop, (∃ m, W1 0 m H4) ∧ ∀ j k H, W1 j k H →
          (J1.stop j H ∧ Nx H) ∨ (J1.go j H ∧ ∃ Nx1 : Hp → Prop, (∀ H', Nx1 H' → ∃ k', k' < k ∧ W1 (j + 1) k' H') ∧ ∀ x H', J1.yld j H x H' → wpG K b1 sl1 x (wipe σ2 vs1) H' fun σ3 H5 => wipe σ3 vs1 = wipe σ2 vs1 ∧ wpT K noW tt1 σ3 H5 fun b H6 =>
            if b = true then wpE K noW elt σ3 H6 fun y H7 => ∃ acc, H7 D = some (.lst acc) ∧ acc.length < sizeLine ∧ Nx1 (upd H7 D (.lst (acc ++ [y]))) else Nx1 H6)
        else Nx H3)) (cmpO vs bf tt vs1 it1 b1 tt1 elt ds [] Γ) := by
  have back : ∀ {Γ' : En} {σ' : St} {H' G' : Hp} {F' : Fr}, F'.bi = F.bi → Rl K F' Γ' σ' H' G' → σ'.length = σ.length → (∀ i, i ∉ vs → σ'[i]? = σ[i]?) → Rl K F' (wipeΓ Γ' vs) σ H' G' := fun {Γ' σ' H' G' F'} hf R' hl hs =>
    R'.wiped (by rw [hf]; exact hb) hl.symm fun i hi => (hs i hi).symm
  cases hr : cmpO vs bf tt vs1 it1 b1 tt1 elt ds [] Γ with
  | fail => trivial
  | exc c ns fs Γ' =>
    exfalso
    have no : ∀ (ds acc : List D) (Γ : En) c ns fs Γ', cmpO vs bf tt vs1 it1 b1 tt1 elt ds acc Γ ≠ .exc c ns fs Γ' := by
      intro ds
      induction ds with
      | nil => intro acc Γ c ns fs Γ' e; cases e
      | cons d ds ih =>
        intro acc Γ c ns fs Γ' e
        unfold cmpO at e
        split at e
        · cases e
        · split at e
          · exact ih _ _ _ _ _ _ e
          · split at e
            · split at e
              · exact ih _ _ _ _ _ _ e
              · cases e
            · cases e
          · cases e
    exact no _ _ _ _ _ _ _ hr
  | ok x Γf =>
    intro Q q D hD
    refine ⟨fun i m H1 => m = ds.length - i ∧ i ≤ ds.length ∧ ∃ Γ1 G1 acc, Rl K F Γ1 σ H1 G1 ∧ Le G G1 ∧ New K F Γ1 σ H1 G1 (.l acc) (.ref D) ∧ cmpO vs bf tt vs1 it1 b1 tt1 elt (ds.drop i) acc Γ1 = .ok x Γf, ⟨ds.length, by simp, Nat.zero_le _, Γ, G, [], ?_, Le.refl G, ?_, hr⟩, ?_⟩
    · exact R.newH hD
    · exact (R.newN (o := .l []) hD ⟨[], rfl, rfl⟩).2
    rintro i m H1 ⟨rfl, hi, Γ1, G1, acc, R1, le1, n1, e1⟩
    by_cases hlt : i < ds.length
    · have hdrop : ds.drop i = ds[i] :: ds.drop (i + 1) := List.drop_eq_getElem_cons hlt
      rw [hdrop] at e1
      have Rb := R1.rebase
      obtain ⟨go, yl⟩ := (wk _ Γ1 σ H1 G1 i Rb le1).1 ds[i] (List.getElem?_eq_getElem hlt)
      refine .inr ⟨go, fun H' => ∃ Γ2 G2 acc2, Rl K F Γ2 σ H' G2 ∧ Le G G2 ∧ New K F Γ2 σ H' G2 (.l acc2) (.ref D) ∧ cmpO vs bf tt vs1 it1 b1 tt1 elt (ds.drop (i + 1)) acc2 Γ2 = .ok x Γf, fun H' ⟨Γ2, G2, acc2, R2, le2, n2, e2⟩ => ⟨ds.length - (i + 1), by omega, rfl, hlt, Γ2, G2, acc2, R2, le2, n2, e2⟩, fun y H' hy => ?_⟩
      obtain ⟨G2, R2, le2, ry, _⟩ := yl y H' hy
      have R2w : Rl K (reb Γ1 σ H1 G1 F) (wipeΓ Γ1 vs) (wipe σ vs) H' G2 := R2.wiped hb (wipe_length σ vs) fun i hi => wipe_out hi
      unfold cmpO at e1
      split at e1
      · cases e1
      · rename_i Γ3 eb
        refine ⟨_, _, G2, ds[i], Γ3, R2w, ry, eb, fun σ4 H4 G4 R4 le4 kp => ⟨wipe_eq kp hsl, _, Γ3, G4, R4, ?_⟩⟩
        have hlen : σ4.length = σ.length := kp.1.trans (wipe_length σ vs)
        have hout : ∀ i, i ∉ vs → σ4[i]? = σ[i]? := fun i hi => (kp.2 i fun z => hi (hsl i z)).trans (wipe_out hi)
        split at e1
        · rename_i Γ5 et
          rw [et]
          intro H5 G5 R5 le5
          rw [if_neg Bool.false_ne_true]
          have R5w := back (F' := reb Γ1 σ H1 G1 F) rfl R5 hlen hout
          have leA : Le G1 G5 := (le2.trans le4).trans le5
          exact ⟨_, G5, acc, R1.unrebase R5w, le1.trans leA, New.stays R1 R5w leA n1, e1⟩
        · rename_i Γ5 et
          rw [et]
          intro H5 G5 R5 le5
          rw [if_pos rfl]
          refine ⟨_, Γ5, G5, R5, ?_⟩
          split at e1
          · rename_i ds1 Γ6 ei
            rw [ei]
            intro J1 H6 G6 R6 le6 wk1
            have leA : Le G1 G6 := ((le2.trans le4).trans le5).trans le6
            obtain ⟨_, _, _, n6⟩ := New.move n1 R1 R6 leA
            have R6u := R1.unrebase R6
            split at e1
            · rename_i acc2 Γ7 ec
              refine out_in hsl1 R6u (fun v h => hb v (hv v h)) wk1 ec n6 fun H7 G7 R7 le7 n7 => ?_
              exact ⟨_, G7, acc2, back (F' := F) rfl R7 hlen hout, (le1.trans leA).trans le7, n7.wiped fun i hi => (hout i hi).symm, e1⟩
            · cases e1
          · cases e1
        · cases e1
    · have e : i = ds.length := by omega
      subst e
      rw [List.drop_length] at e1
      have stop := (wk F Γ1 σ H1 G1 ds.length R1 le1).2 (Nat.le_refl _)
      cases e1
      exact .inl ⟨stop, q _ H1 G1 R1 le1 n1⟩
section
variable {tg iter tg1 iter1 elt : Expr} {ifs ifs1 : List Expr} {scope : Scope} {own : List (Str × Nat)} {vs1 : List Nat} {it it1 : IF} {bf b1 : BF} {sl sl1 : List Nat} {tt tt1 : TF} {fe : EF} {pos : Pos}
theorem sem_lc2 {wi : TI} (mi : ∀ (F : Fr) (Γ : En) (σ : St) (H G : Hp), Rl X.K F Γ σ H G → OutI X.K W F σ G (wi σ H) (it Γ)) (hsl : ∀ i ∈ sl, i ∈ own.map (·.2)) (hsl1 : ∀ i ∈ sl1, i ∈ vs1) (hv : ∀ i ∈ vs1, i ∈ own.map (·.2)) :
    SemV X.K W (vvrel X.K) (tLc2 wi (wpG X.K bf sl) (wpT X.K noW tt) (wpI X.K noW it1) (wpG X.K b1 sl1) (wpT X.K noW tt1) (wpE X.K noW fe) (own.map (·.2)) vs1) (compV2 (own.map (·.2)) it bf tt vs1 it1 b1 tt1 fe) := fun F Γ σ H G R => by
  have h := mi F Γ σ H G R
  unfold compV2
  revert h
  cases it Γ with
  | fail => exact fun _ => trivial
  | exc c ns fs Γ' => exact fun h Q q => h _ q
  | ok ds Γ1 =>
    intro h
    show OutV X.K W (vvrel X.K) F σ G _ (if noBor Γ1 (own.map (·.2)) then cmpO (own.map (·.2)) bf tt vs1 it1 b1 tt1 fe ds [] Γ1 else .fail)
    split
    · rename_i hb
      cases hr : cmpO (own.map (·.2)) bf tt vs1 it1 b1 tt1 fe ds [] Γ1 with
      | fail => trivial
      | exc c ns fs Γ' =>
        intro Q q
        refine h _ fun J H1 G1 R1 le1 wk => ?_
        have k := out_cmp2 (W := W) (bf := bf) (tt := tt) (it1 := it1) (b1 := b1) (tt1 := tt1) (elt := fe) hsl hsl1 hv R1 (noBor_ok R1 hb) wk
        rw [hr] at k
        exact k Q fun cls dx H' G' R' le' x => q cls dx H' G' R' (le1.trans le') x
      | ok x Γ' =>
        intro Q q
        refine h _ fun J H1 G1 R1 le1 wk => ?_
        have k := out_cmp2 (W := W) (bf := bf) (tt := tt) (it1 := it1) (b1 := b1) (tt1 := tt1) (elt := fe) hsl hsl1 hv R1 (noBor_ok R1 hb) wk
        rw [hr] at k
        exact k Q fun b H' G' R' le' r => q b H' G' R' (le1.trans le') r
    · trivial
theorem fs_setLc2 {i : Nat} {y : Str} {py spos : Pos} (hc : X.calm = true) (hN : X.N.Nodup) (hy : X.N[i]? = some y) (hyl : X.env.scope.names.lookup y = some .local)
    (hsw : swapsWith (.ListComp elt [⟨tg, iter, ifs, 0⟩, ⟨tg1, iter1, ifs1, 0⟩] scope pos) (some (.Name y py)) spos.line X.env = pure true) (hi : FI X W tg iter it) (ok : BlkOk X.N X.env.scope scope own) (hsl : ∀ i ∈ sl, i ∈ own.map (·.2)) (hsl1 : ∀ i ∈ sl1, i ∈ vs1) (hv : ∀ i ∈ vs1, i ∈ own.map (·.2))
    (hg : ∀ (s : Shared) (H : Hp) (C : Addr) (cl : List (Str × Addr)) (fp : List Addr), FG (X.blk s H scope (compEnvC scope cl C X.env) fp) tg bf sl) (ht : ∀ (s : Shared) (H : Hp) (C : Addr) (cl : List (Str × Addr)) (fp : List Addr), FTs (X.blk s H scope (compEnvC scope cl C X.env) fp) noW ifs tt)
    (hi1 : ∀ (s : Shared) (H : Hp) (C : Addr) (cl : List (Str × Addr)) (fp : List Addr), FI (X.blk s H scope (compEnvC scope cl C X.env) fp) noW tg1 iter1 it1)
    (hg1 : ∀ (s : Shared) (H : Hp) (C : Addr) (cl : List (Str × Addr)) (fp : List Addr), FG (X.blk s H scope (compEnvC scope cl C X.env) fp) tg1 b1 sl1) (ht1 : ∀ (s : Shared) (H : Hp) (C : Addr) (cl : List (Str × Addr)) (fp : List Addr), FTs (X.blk s H scope (compEnvC scope cl C X.env) fp) noW ifs1 tt1)
    (he : ∀ (s : Shared) (H : Hp) (C : Addr) (cl : List (Str × Addr)) (fp : List Addr), FE (X.blk s H scope (compEnvC scope cl C X.env) fp) noW elt fe) (hs : ∀ x, foldedSetIterable iter X.env x = pure x := by intro _; rfl) (hs1 : ∀ env x, foldedSetIterable iter1 env x = pure x := by intro _ _; rfl) :
    FS X W (.Assign [.Name y py] (.ListComp elt [⟨tg, iter, ifs, 0⟩, ⟨tg1, iter1, ifs1, 0⟩] scope pos) spos) (asgV i (compV2 (own.map (·.2)) it bf tt vs1 it1 b1 tt1 fe)) := by
  obtain ⟨wi, pi, mi⟩ := hi
  refine ⟨_, ps_setLc2 (g := wpG X.K bf sl) (tt := wpT X.K noW tt) (wi1 := wpI X.K noW it1) (g1 := wpG X.K b1 sl1) (tt1 := wpT X.K noW tt1) (te := wpE X.K noW fe) hc hN hy hyl hsw pi ok hv (fun s H C cl fp => (hg s H C cl fp).wp) (fun s H C cl fp => (ht s H C cl fp).pt) (fun s H C cl fp => (hi1 s H C cl fp).wp) (fun s H C cl fp => (hg1 s H C cl fp).wp) (fun s H C cl fp => (ht1 s H C cl fp).pt) (fun s H C cl fp => (he s H C cl fp).wp) hs hs1, fun F Γ σ H G R => ?_⟩
  exact OutS.bindV (T' := fun v H1 D => D.nx (σ.set i (some v)) H1) (sem_lc2 mi hsl hsl1 hv F Γ σ H G R) fun x Γ1 v H1 G1 R1 _ r1 => out_sto R1 r1
end
end
end FL
namespace FL
open PySem PySem.Spec PyProof.Rows L2
def zipD : List D → List D → List D
  | x :: xs, y :: ys => .tup [x, y] :: zipD xs ys
  | _, _ => []
theorem zipD_get : ∀ {xs ys : List D} {i : Nat} {d : D}, (zipD xs ys)[i]? = some d → ∃ x y, xs[i]? = some x ∧ ys[i]? = some y ∧ d = .tup [x, y]
  | [], _, i, d, h => by simp [zipD] at h
  | _ :: _, [], i, d, h => by simp [zipD] at h
  | x :: xs, y :: ys, 0, d, h => by
    have : D.tup [x, y] = d := Option.some.inj h
    exact ⟨x, y, rfl, rfl, this.symm⟩
  | x :: xs, y :: ys, i + 1, d, h => zipD_get (xs := xs) (ys := ys) (i := i) h
theorem zipD_len : ∀ {xs ys : List D} {i : Nat}, (zipD xs ys).length ≤ i → xs.length ≤ i ∨ ys.length ≤ i
  | [], _, i, _ => .inl (Nat.zero_le _)
  | _ :: _, [], i, _ => .inr (Nat.zero_le _)
  | x :: xs, y :: ys, 0, h => by simp [zipD] at h
  | x :: xs, y :: ys, i + 1, h => by
    have h' : (zipD xs ys).length ≤ i := Nat.le_of_succ_le_succ h
    rcases zipD_len h' with z | z
    · exact .inl (Nat.succ_le_succ z)
    · exact .inr (Nat.succ_le_succ z)
def zpA (es : List EV) (Γ : En) : O (List D) := match es with
  | [.d (.tup xs), .d (.tup ys)] => .ok (zipD xs ys) Γ
  | [.d (.lst xs), .d (.lst ys)] => .ok (zipD xs ys) Γ
  | _ => .fail
def zipI (u : AF) : IF := fun Γ => (u Γ).bind zpA
section
variable [Wrl] [Tabl]
variable {X : Cx} {W : WX} {e e2 : Expr} {u : AF} {p pos tpos : Pos}
theorem walks_zip {K : Frg} {J : It} {ds es : List D} {vs ws : List V} {G0 : Hp} (r : Reps K G0 ds vs) (r2 : Reps K G0 es ws) (hgo : ∀ H i x y, (∀ (F : Fr) (Γ : En) (σ : St) (G : Hp), Rl K F Γ σ H G → Le G0 G → vs[i]? = some x → ws[i]? = some y → J.go i H)) (hst : ∀ H i, (∀ (F : Fr) (Γ : En) (σ : St) (G : Hp), Rl K F Γ σ H G → Le G0 G → vs.length ≤ i ∨ ws.length ≤ i → J.stop i H))
    (hy : ∀ H i v H', (∀ (F : Fr) (Γ : En) (σ : St) (G : Hp), Rl K F Γ σ H G → Le G0 G → J.yld i H v H' → ∃ T x y, v = .ref T ∧ H T = none ∧ H' = upd H T (.tup [x, y]) ∧ vs[i]? = some x ∧ ws[i]? = some y)) : Walks K J (zipD ds es) G0 := fun F Γ σ H G i R le => by
  refine ⟨fun d hd => ?_, fun hi => hst H i F Γ σ G R le (by rw [r.len, r2.len]; exact zipD_len hi)⟩
  obtain ⟨d1, d2, h1, h2, rfl⟩ := zipD_get hd
  obtain ⟨v, g1, g2⟩ := r.getD h1
  obtain ⟨w, k1, k2⟩ := r2.getD h2
  refine ⟨hgo H i v w F Γ σ G R le g1 k1, fun x H' y => ?_⟩
  obtain ⟨T, x', y', rfl, hT, rfl, hx, hy'⟩ := hy H i x H' F Γ σ G R le y
  rw [g1] at hx
  rw [k1] at hy'
  cases hx
  cases hy'
  have R1 := R.newH (o := .tup [v, w]) hT
  have R2 := R1.tell (p := T) upd_same (R.heNone hT) (R.gNone hT) (R.noOwn hT)
  have l := le.trans (Le.upd (o := .tup [v, w]) (R.gNone hT))
  exact ⟨_, R2, Le.upd (R.gNone hT), ⟨T, _, rfl, .of upd_same, v, _, rfl, Rep.le l _ _ g2, w, _, rfl, Rep.le l _ _ k2, rfl⟩, .inr ⟨T, _, hT, rfl⟩⟩
theorem fi_zip {elts : List Expr} {kk : Nat} (hm : X.mg "zip" = none) (h : FA X W [e, e2] u) (hg : Gl X "zip" := by rfl) (hs : starEach [e, e2] X.env = (false, eval e X.env) :: starEach [e2] X.env := by rfl) (hpl : (backTo pos (starEach [e2] X.env)).any (·.1) = false := by rfl) :
    FI X W (.Tuple elts kk tpos) (.Call (.Name "zip" p) [e, e2] [] pos) (zipI u) := by
  obtain ⟨t, pa, s⟩ := h
  refine ⟨_, RZ.pi_zipA hg hm pa hs hpl, fun F Γ σ H G R => ?_⟩
  have k := s F Γ σ H G R
  unfold zipI
  revert k
  cases u Γ with
  | fail => exact fun _ => trivial
  | exc c ns fs Γ' => exact fun k Q q => k _ q
  | ok es Γ' =>
    intro k
    show OutI X.K W F σ G _ (zpA es Γ')
    unfold zpA
    split
    · rename_i xs ys
      intro Q q
      refine k _ fun vs H1 G1 R1 le1 r1 => ?_
      cases r1 with
      | cons ra rr => cases rr with
      | cons rb rn => cases rn with
      | nil =>
        obtain ⟨a, vs, rfl, hv, rp⟩ := (show Rep X.K G1 (.tup xs) _ from ra)
        obtain ⟨b, ws, rfl, hw, rq⟩ := (show Rep X.K G1 (.tup ys) _ from rb)
        refine ⟨a, b, vs, ws, rfl, .inr ⟨SqT.le R1.gh hv, SqT.le R1.gh hw, q _ _ G1 R1 le1 (walks_zip rp rq ?_ ?_ ?_)⟩⟩
        · exact fun H i x y F Γ σ G R le h1 h2 => ⟨vs, ws, x, y, SqT.le R.gh (SqT.le le hv), SqT.le R.gh (SqT.le le hw), h1, h2⟩
        · exact fun H i F Γ σ G R le h => ⟨vs, ws, SqT.le R.gh (SqT.le le hv), SqT.le R.gh (SqT.le le hw), h⟩
        · intro H i v H' F Γ σ G R le y
          obtain ⟨T, x, y, e1, e2, e3, e4, e5⟩ := y
          exact ⟨T, x, y, e1, e2, e3, e4 vs (SqT.le R.gh (SqT.le le hv)), e5 ws (SqT.le R.gh (SqT.le le hw))⟩
    · rename_i xs ys
      intro Q q
      refine k _ fun vs H1 G1 R1 le1 r1 => ?_
      cases r1 with
      | cons ra rr => cases rr with
      | cons rb rn => cases rn with
      | nil =>
        obtain ⟨a, vs, rfl, hv, rp⟩ := (show Rep X.K G1 (.lst xs) _ from ra)
        obtain ⟨b, ws, rfl, hw, rq⟩ := (show Rep X.K G1 (.lst ys) _ from rb)
        refine ⟨a, b, vs, ws, rfl, .inl ⟨.of (R1.gh _ _ hv), .of (R1.gh _ _ hw), q _ _ G1 R1 le1 (walks_zip rp rq ?_ ?_ ?_)⟩⟩
        · exact fun H i x y F Γ σ G R le h1 h2 => ⟨vs, ws, x, y, .of (R.gh _ _ (le _ _ hv)), .of (R.gh _ _ (le _ _ hw)), h1, h2⟩
        · exact fun H i F Γ σ G R le h => ⟨vs, ws, .of (R.gh _ _ (le _ _ hv)), .of (R.gh _ _ (le _ _ hw)), h⟩
        · intro H i v H' F Γ σ G R le y
          obtain ⟨T, x, y, e1, e2, e3, e4, e5⟩ := y
          exact ⟨T, x, y, e1, e2, e3, e4 vs (.of (R.gh _ _ (le _ _ hv))), e5 ws (.of (R.gh _ _ (le _ _ hw)))⟩
    · trivial
end
end FL
namespace FL
open PySem PySem.Spec PyProof.Rows L2
def isBD (x y : D) : Option D := match x, y with
  | .bl a, .bl b => some (.bl (decide (a = b)))
  | _, _ => none
def notBD (x y : D) : Option D := match x, y with
  | .bl a, .bl b => some (.bl (!decide (a = b)))
  | _, _ => none
section
variable [Wrl] [Tabl]
variable {X : Cx} {W : WX} {a : Expr} {f1 : EF} {pos : Pos}
theorem isBD_ok : Op2 X rIsB isBD := fun F Γ σ H G d1 d2 v1 v2 x Q R r1 r2 e q => by
  unfold isBD at e
  split at e
  · rename_i a b
    cases e
    exact ⟨a, b, r1.rep R.gh, r2.rep R.gh, q _ _ _ R (Le.refl G) rfl⟩
  · cases e
theorem notBD_ok : Op2 X rNotB notBD := fun F Γ σ H G d1 d2 v1 v2 x Q R r1 r2 e q => by
  unfold notBD at e
  split at e
  · rename_i a b
    cases e
    exact ⟨a, b, r1.rep R.gh, r2.rep R.gh, q _ _ _ R (Le.refl G) rfl⟩
  · cases e
theorem fe_isB {b : Bool} {j p} (ha : FE X W a f1) : FE X W (.Compare a [.Is] [.Constant (.bool b) j p] pos) (op2 isBD f1 (cE (.bl b))) := fe_cmp op_isBl isBD_ok ha fe_bl (nomark _)
theorem ft_notB {b : Bool} {j p} (ha : FE X W a f1) : FT X W (.Compare a [.IsNot] [.Constant (.bool b) j p] pos) (tstE (op2 notBD f1 (cE (.bl b)))) := ft_cmp op_notBl notBD_ok ha fe_bl (nomark _)
end
end FL
namespace FL
open PySem PySem.Spec PyProof.Rows L2
def upO (x : Str) (Γ : En) : O EV := if x.length ≤ 5592405 then .ok (.d (.str (Txt.upper x))) Γ else .fail
def upK (ev : EV) (Γ : En) : O EV := match ev with
  | .d (.str x) => upO x Γ
  | _ => .fail
def upE (f : EF) : EF := fun Γ => (f Γ).bind upK
namespace Ev
variable {Γ : En} {f : EF} {x : Str}
theorem upE : FL.upE f Γ = (f Γ).bind FL.upK := rfl
theorem upK : FL.upK (.d (.str x)) Γ = FL.upO x Γ := rfl
theorem upO (h : x.length ≤ 5592405) : FL.upO x Γ = .ok (.d (.str (Txt.upper x))) Γ := if_pos h
end Ev
section
variable [Wrl] [Tabl]
variable {X : Cx} {W : WX} {a : Expr} {f : EF} {apos pos : Pos}
theorem fe_upper (ha : FE X W a f) (hbase : attributeBase a "upper" X.env (eval a X.env) = eval a X.env := by rfl) (hline : (apos.endLine == pos.line) = true := by rfl) : FE X W (.Call (.Attribute a "upper" apos) [] [] pos) (upE f) := by
  obtain ⟨t, p, s⟩ := ha
  refine ⟨_, pe_upper p hbase hline, Sem.bind (T := fun (x : V) (σ : St) (H : Hp) (Q : VK) => (∃ a, x = V.str a) ∧ ∃ a, x = V.str a ∧ ([] : List V) = [] ∧ a.length ≤ 5592405 ∧ Q (V.str (Txt.upper a)) H) s fun F Γ σ H G ev v R r => ?_⟩
  unfold upK
  split
  · rename_i x
    unfold upO
    split
    · rename_i hz
      obtain rfl : v = .str x := r
      exact fun Q q => ⟨⟨x, rfl⟩, x, rfl, rfl, hz, q _ H G R (Le.refl G) rfl⟩
    · trivial
  · trivial
end
end FL
namespace FL
open PySem PySem.Spec PyProof.Rows L2
variable [Wrl]
def HW (X : Cx) : Prop := X.prog = Wrl.P ∧ X.w = Wrl.w
theorem dnp_of {X : Cx} (hw : HW X) {a : Addr} {xs : List (NestedKey × Addr × Value)} {h : Heap} : DNP Wrl.P Wrl.w a xs h → DNP X.prog X.w a xs h := by rw [hw.1, hw.2]; exact id
theorem dnp_to {X : Cx} (hw : HW X) {a : Addr} {xs : List (NestedKey × Addr × Value)} {h : Heap} : DNP X.prog X.w a xs h → DNP Wrl.P Wrl.w a xs h := by rw [hw.1, hw.2]; exact id
section
variable {X : Cx} {pins : List (Addr × Obj)} {σ : St} {H : Hp} {s : Shared}
mutual
theorem NKv.is (I : Inv X pins σ H s) : ∀ {k : NestedKey} {v : V} {u : Value}, NKv X.K H k v → RelV v u → NestedIs s.heap k u
  | _, _, u, .non, r => by cases (show u = Value.none from r); exact .none
  | _, _, u, .num i, r => by obtain ⟨t, rfl⟩ := (show ∃ t, u = Value.int i t from r); exact .int i t
  | _, _, u, .text x, r => by obtain ⟨t, rfl⟩ := (show ∃ t, u = Value.str x t from r); exact .text x t
  | _, _, u, .tup h hs, r => by
    cases (show u = Value.ref _ from r)
    obtain ⟨its, rv, ⟨o, h1, h2, n, h3⟩, hz⟩ := I.tuple h
    exact .tup h1 h2 h3 (by simpa using NKs.are I hs rv)
theorem NKs.are (I : Inv X pins σ H s) : ∀ {ks : List NestedKey} {vs : List V} {us : List Value}, NKs X.K H ks vs → Vals vs us → NestedAll s.heap ks us
  | _, _, _, .nil, .nil => .nil
  | _, _, _, .cons h hs, .cons r rs => .cons (NKv.is I h r) (NKs.are I hs rs)
end
end
def TrD (X : Cx) (H : Hp) (a : Addr) (kvs : List (NestedKey × V)) : Prop := ∃ xs, H a = some (DNO a xs) ∧ DNk X.K H xs kvs ∧ xs.length ≤ sizeLine
theorem dno_new {P : Program} {w : World} {H : Hp} {h : Heap} {a : Addr} {xs : List (NestedKey × Addr × Value)} (R : DNP Wrl.P Wrl.w a xs h) : ObjOk P w H h a (DNO a xs) := by
  obtain ⟨z, o, es, ep, h1, h2⟩ := id R
  refine ⟨R, ⟨o, h1⟩, fun g1 g2 ⟨z, o, es, ep, e, r⟩ k => ⟨z, o, es, ep, k _ e, r⟩⟩
section
variable {X : Cx} {pins : List (Addr × Obj)} {σ : St} {H : Hp} {s : Shared} {a b : Addr} {kvs : List (NestedKey × V)} {A : Around} {E : Value → Shared → Prop}
theorem DNk.keys {xs : List (NestedKey × Addr × Value)} (I : Inv X pins σ H s) (h : DNk X.K H xs kvs) : ∀ x ∈ xs, (nestedKind X.prog X.w).is s.heap x.1 x.2.1 := by
  unfold DNk at h
  induction h with
  | nil => exact fun _ z => (by cases z)
  | cons r t ih =>
    intro x hx
    rcases List.mem_cons.mp hx with rfl | hx
    · exact ⟨r.2.2.1.is I rfl, r.2.1⟩
    · exact ih x hx
theorem DNk.at {xs : List (NestedKey × Addr × Value)} {K : Frg} (h : DNk K H xs kvs) (k : NestedKey) : RelO ((kvs.find? fun p => decide (p.1 = k)).map (·.2)) ((atKey xs k).map (·.2)) := by
  unfold DNk at h
  induction h with
  | nil => exact True.intro
  | @cons x p xs kvs r t ih =>
    obtain ⟨e, _, _, rv⟩ := r
    unfold atKey at ih ⊢
    rw [List.find?_cons, List.find?_cons, ← e]
    by_cases hk : x.1 = k
    · rw [decide_eq_true hk]; exact rv
    · rw [decide_eq_false hk]; exact ih
theorem DNk.snoc {K : Frg} {xs : List (NestedKey × Addr × Value)} (h : DNk K H xs kvs) {x : NestedKey × Addr × Value} {p : NestedKey × V} (h1 : x.1 = p.1) (h2 : x.1.depth ≤ 8) (h3 : NKv K H x.1 (.ref x.2.1)) (h4 : RelV p.2 x.2.2) : DNk K H (xs ++ [x]) (kvs ++ [p]) := by
  unfold DNk at h ⊢
  induction h with
  | nil => exact .cons ⟨h1, h2, h3, h4⟩ .nil
  | cons r t ih => exact .cons r ih
def valN (kvs : List (NestedKey × V)) (k : NestedKey) : Option V := (kvs.find? fun p => decide (p.1 = k)).map (·.2)
theorem dno_of (hw : HW X) {xs : List (NestedKey × Addr × Value)} (I : Inv X pins σ H s) (e : H a = some (DNO a xs)) (rel : DNk X.K H xs kvs) : (a == sysModules) = false ∧ s.heap.DictOfH (nestedKind X.prog X.w) a xs := by
  obtain ⟨z, o, es, ep, e1, e2, e3, e4, e5⟩ := dnp_of hw (I.hok a _ e).1
  exact ⟨z, o, es, ep, e1, e2, e3, e4, rel.keys I, e5⟩
theorem nd_setdefault (hw : HW X) {k : NestedKey} {v : V} {r : Value} {xs : List (NestedKey × Addr × Value)} {Q : Value → Shared → Prop} (hu : A.units + 9 < cLine) (hr : (nestedKind X.prog X.w).room A.in1) (I : Inv X pins σ H s) (e : H a = some (DNO a xs)) (rel : DNk X.K H xs kvs) (hk : NKv X.K H k (.ref b)) (hd : k.depth ≤ 8) (rv : RelV v r) (hl : kvs.length < sizeLine)
    (h1 : ∀ v0 w' s', valN kvs k = some v0 → Inv X pins σ H s' → RelV v0 w' → Q w' s')
    (h2 : valN kvs k = none → ∀ s', Inv X pins σ (upd H a (DNO a (xs ++ [(k, b, r)]))) s' → Q r s') :
    wpAny (model X.prog X.w) A (call (.builtin "dict.setdefault") [.ref a, .ref b, r]) Q E s := by
  have hn : xs.length = kvs.length := Paired.length rel
  have hx : xs.length ≤ sizeLine := by omega
  obtain ⟨lo, hm⟩ := dno_of hw I e rel
  have hat := rel.at k
  refine call_setdefault_heap (hsz := hx) hr ⟨hk.is I rfl, hd⟩ lo hm (fun p hp => ?_) fun hn' h' hm' hs => ?_
  · rw [hp] at hat
    cases hv : valN kvs k with
    | none => unfold valN at hv; rw [hv] at hat; exact hat.elim
    | some v0 =>
      unfold valN at hv
      rw [hv] at hat
      exact h1 v0 p.2 _ (by unfold valN; exact hv) (I.tok _) hat
  · rw [hn'] at hat
    have hv : valN kvs k = none := by
      cases hv : valN kvs k with
      | none => rfl
      | some v0 => unfold valN at hv; rw [hv] at hat; exact hat.elim
    rw [storedH_new hn'] at hm'
    obtain ⟨o, es, ep, e1, e2, e3, e4, _, e5⟩ := hm'
    exact h2 hv _ (d_write I (by rw [e]; exact True.intro) hs ⟨o, e1⟩ (dno_new (dnp_to hw ⟨lo, o, es, ep, e1, e2, e3, e4, e5⟩)))
def TrR (X : Cx) (H : Hp) (a : Addr) (kvs : List (NestedKey × V)) : Prop := ∃ xs, Rd H a (DNO a xs) ∧ DNk X.K H xs kvs ∧ xs.length ≤ sizeLine
theorem TrD.rd (t : TrD X H a kvs) : TrR X H a kvs := let ⟨xs, h1, h2⟩ := t; ⟨xs, .of h1, h2⟩
theorem TrR.of (hw : HW X) (I : Inv X pins σ H s) (t : TrR X H a kvs) : ∃ xs, DNk X.K H xs kvs ∧ xs.length ≤ sizeLine ∧ (a == sysModules) = false ∧ s.heap.DictOfH (nestedKind X.prog X.w) a xs := by
  obtain ⟨xs, h1, h2, h3⟩ := t
  obtain ⟨z, o, es, ep, e1, e2, e3, e4, e5⟩ := dnp_of hw (show ObjOk X.prog X.w H s.heap a (DNO a xs) from h1.ok I.hok).1
  exact ⟨xs, h2, h3, z, o, es, ep, e1, e2, e3, e4, h2.keys I, e5⟩
theorem nd_retell (hw : HW X) (I : Inv X pins σ H s) (e : H a = some (.dK [])) : Inv X pins σ (upd H a (DNO a [])) s ∧ TrD X (upd H a (DNO a [])) a [] := by
  obtain ⟨z, lo, vs, rel, o, es, ep, e1, e2, e3, e4, e5, e6⟩ := dk_of I.hok e
  cases rel
  have hes : es.toList = [] := by cases h : es.toList with
    | nil => rfl
    | cons x l => rw [h] at e5; cases e5
  have w := d_write (t' := s.toks) I (by rw [e]; exact True.intro) ⟨rfl, fun _ _ => rfl⟩ ⟨o, e1⟩ (dno_new (P := X.prog) (w := X.w) (H := upd H a (DNO a [])) (xs := []) (dnp_to hw ⟨lo, o, es, ep, e1, e2, e3, by rw [hes]; rfl, by simp⟩))
  exact ⟨w, [], upd_same, .nil, Nat.zero_le _⟩
end
end FL
namespace FL
open PySem PySem.Spec PyProof.Rows L2
variable [Wrl]
theorem TrR.at_ {X : Cx} (hw : HW X) {pins : List (Addr × Obj)} {σ : St} {H : Hp} {s : Shared} {a : Addr} {kvs : List (NestedKey × V)} (I : Inv X pins σ H s) (t : TrR X H a kvs) :
    s.TypeIs (.ref a) "dict" ∧ (∀ b, Value.ref a = .ref b → ∃ ob, s.heap.get? b = some ob ∧ ob.dict = none) := by
  obtain ⟨xs, _, _, _, hm⟩ := t.of hw I
  refine ⟨hm.typeIs, fun b q => ?_⟩
  cases q
  obtain ⟨ob, _, _, h1, h2, _⟩ := hm
  exact ⟨ob, h1, h2.2.1⟩
def tNSetd (X : Cx) (td ty tx : TE) : TE := fun σ H Q => td σ H fun x H1 => ∃ a kvs0, x = .ref a ∧ TrD X H1 a kvs0 ∧ ty σ H1 fun y H2 => tx σ H2 fun z H3 => ∃ (xs : List (NestedKey × Addr × Value)) (kvs : List (NestedKey × V)) (k : NestedKey) (b : Addr), H3 a = some (DNO a xs) ∧ DNk X.K H3 xs kvs ∧ y = .ref b ∧ NKv X.K H3 k (.ref b) ∧ k.depth ≤ 8 ∧ kvs.length < sizeLine ∧
  (∀ v, valN kvs k = some v → Q v H3) ∧ (valN kvs k = none → ∀ r, RelV z r → Q z (upd H3 a (DNO a (xs ++ [(k, b, r)]))))
section
variable {X : Cx} {o e f : Expr} {td ty tx : TE} {apos cpos : Pos}
theorem pe_ndsetd (hw : HW X) (hu : X.A.units + 9 < cLine) (hr : ∀ P w, (nestedKind P w).room X.A.in1) (ho : PE X o td) (he : PE X e ty) (hf : PE X f tx) (m : M2 X o "setdefault" apos e f cpos) : PE X (.Call (.Attribute o "setdefault" apos) [e, f] [] cpos) (tNSetd X td ty tx) := by
  refine ⟨fun pins s σ H Q I h => ?_⟩
  refine wpAny_Call_method m.base m.few m.line PySem.F.plainAttrs_dict PySem.F.slot_dict_setdefault PySem.F.type_dict_setdefault (thn (ho.run pins s σ H _ I h) fun u s1 ⟨x, H1, I1, rx, a, kvs0, ex, d, q1⟩ => ?_)
  subst ex
  obtain rfl : u = Value.ref a := rx
  obtain ⟨t1, t2⟩ := d.rd.at_ hw I1
  refine ⟨t1, t2, ?_⟩
  rw [m.trees]
  refine Calls.callWith_builtin rfl (Calls.evalArgs_plain (Calls.spliced_cons (thn (he.run pins s1 σ H1 _ I1 q1) fun iv s2 ⟨y, H2, I2, ry, q2⟩ =>
    Calls.spliced_cons (thn (hf.run pins s2 σ H2 _ I2 q2) fun fv s3 ⟨z, H3, I3, rz, xs, kvs, k, b, ea, rel, ey, hk, hd, hl, q3, q4⟩ => Calls.spliced_nil ?_))))
  subst ey
  obtain rfl : iv = Value.ref b := ry
  exact nd_setdefault hw hu (hr _ _) I3 ea rel hk hd rz hl (fun v w' s4 hv I4 rw' => ⟨v, _, I4, rw', q3 v hv⟩) fun hn s4 I4 => ⟨z, _, I4, rz, q4 hn _ rz⟩
end
end FL
namespace FL
open PySem PySem.Spec PyProof.Rows L2
def kD : Key → D
  | .inl i => .int i
  | .inr x => .str x
mutual
def nkD : NestedKey → D
  | .none => .non
  | .num i => .int i
  | .text x => .str x
  | .tup ks => .tup (nkDs ks)
def nkDs : List NestedKey → List D
  | [] => []
  | k :: ks => nkD k :: nkDs ks
end
mutual
def dNk : D → Option NestedKey
  | .non => some .none
  | .int i => some (.num i)
  | .str x => some (.text x)
  | .tup ds => (dNks ds).map .tup
  | _ => none
def dNks : List D → Option (List NestedKey)
  | [] => some []
  | d :: ds => (dNk d).bind fun k => (dNks ds).map fun ks => k :: ks
end
def kItems (ks : List Key) (vs : List D) : List D := List.zipWith (fun k v => .tup [kD k, v]) ks vs
def nItems (ks : List NestedKey) (vs : List D) : List D := List.zipWith (fun k v => .tup [nkD k, v]) ks vs
section
variable [Wrl]
theorem kD_rep {K : Frg} {G : Hp} (k : Key) : Rep K G (kD k) (kV k) := by cases k <;> rfl
mutual
theorem nkD_rep {K : Frg} {G : Hp} : ∀ {k : NestedKey} {v : V}, NKv K G k v → Rep K G (nkD k) v
  | _, _, .non => rfl
  | _, _, .num i => rfl
  | _, _, .text x => rfl
  | _, _, .tup h hs => ⟨_, _, rfl, h, nkDs_rep hs⟩
theorem nkDs_rep {K : Frg} {G : Hp} : ∀ {ks : List NestedKey} {vs : List V}, NKs K G ks vs → Reps K G (nkDs ks) vs
  | _, _, .nil => rfl
  | _, _, .cons h hs => ⟨_, _, rfl, nkD_rep h, nkDs_rep hs⟩
end
mutual
theorem dNk_rep {K : Frg} {G : Hp} : ∀ (d : D) (v : V) (k : NestedKey), dNk d = some k → Rep K G d v → NKv K G k v
  | .non, _, _, e, r => by cases e; rw [show _ = V.non from r]; exact .non
  | .int i, _, _, e, r => by cases e; rw [show _ = V.int i from r]; exact .num i
  | .str x, _, _, e, r => by cases e; rw [show _ = V.str x from r]; exact .text x
  | .tup ds, _, _, e, ⟨a, vs, ev, h, hs⟩ => by
    obtain ⟨ks, e1, rfl⟩ := Option.map_eq_some_iff.mp (show (dNks ds).map NestedKey.tup = some _ from e)
    subst ev
    exact .tup h (dNks_rep ds vs ks e1 hs)
  | .bl _, _, _, e, _ => by cases e
  | .lst _, _, _, e, _ => by cases e
  | .scr _, _, _, e, _ => by cases e
  | .dk _ _, _, _, e, _ => by cases e
  | .fk _ _, _, _, e, _ => by cases e
  | .dn _ _ _, _, _, e, _ => by cases e
  | .ins _ _ _, _, _, e, _ => by cases e
  | .exn _ _ _ _ _, _, _, e, _ => by cases e
  | .cls _, _, _, e, _ => by cases e
theorem dNks_rep {K : Frg} {G : Hp} : ∀ (ds : List D) (vs : List V) (ks : List NestedKey), dNks ds = some ks → Reps K G ds vs → NKs K G ks vs
  | [], _, _, e, r => by cases e; rw [show _ = [] from r]; exact .nil
  | d :: ds, _, _, e, ⟨v, r, ev, h1, h2⟩ => by
    obtain ⟨k, e1, e2⟩ := Option.bind_eq_some_iff.mp (show (dNk d).bind (fun k => (dNks ds).map fun ks => k :: ks) = some _ from e)
    obtain ⟨ks, e3, rfl⟩ := Option.map_eq_some_iff.mp e2
    subst ev
    exact .cons (dNk_rep d v k e1 h1) (dNks_rep ds r ks e3 h2)
end
def tLk (td : TE) : TE := fun σ H Q => td σ H fun x H1 => Q x H1 ∨ ∃ a u, x = .ref a ∧ H1 a = some u ∧ Mut (some u) ∧ ∀ od, Q x (upd H1 a (.frz od u))
def tRt (td : TE) : TE := fun σ H Q => td σ H fun x H1 => Q x H1 ∨ ∃ a, x = .ref a ∧ H1 a = some (.dK []) ∧ Q x (upd H1 a (DNO a []))
section
variable {X : Cx} {e : Expr} {td : TE}
theorem pe_lock (he : PE X e td) : PE X e (tLk td) := by
  refine ⟨fun pins s σ H Q I h => wpAny_mono (he.run pins s σ H _ I h) (fun u s1 ⟨x, H1, I1, rx, q⟩ => ?_) fun _ _ z => z⟩
  rcases q with q | ⟨a, u', rfl, ha, mu, q⟩
  · exact ⟨x, H1, I1, rx, q⟩
  · obtain ⟨od, I2⟩ := I1.lock ha mu
    exact ⟨_, _, I2, rx, q od⟩
theorem pe_retell (hw : HW X) (he : PE X e td) : PE X e (tRt td) := by
  refine ⟨fun pins s σ H Q I h => wpAny_mono (he.run pins s σ H _ I h) (fun u s1 ⟨x, H1, I1, rx, q⟩ => ?_) fun _ _ z => z⟩
  rcases q with q | ⟨a, rfl, ha, q⟩
  · exact ⟨x, H1, I1, rx, q⟩
  · exact ⟨_, _, (nd_retell hw I1 ha).1, rx, q⟩
end
def APs (xs : List (NestedKey × Addr × Value)) (ps : List (Addr × V)) : Prop := Paired (fun (x : NestedKey × Addr × Value) (p : Addr × V) => p.1 = x.2.1 ∧ RelV p.2 x.2.2) xs ps
def Itni (d : Addr) (o : Obj) (xs : List (NestedKey × Addr × Value)) (ps : List (Addr × V)) : It :=
  ⟨fun i H => H d = some (.frz o (DNO d xs)) ∧ APs xs ps ∧ i < ps.length, fun i H x H' => ∃ T b v, ps[i]? = some (b, v) ∧ x = .ref T ∧ H T = none ∧ H' = upd H T (.tup [.ref b, v]), fun i H => H d = some (.frz o (DNO d xs)) ∧ APs xs ps ∧ ps.length ≤ i⟩
section
variable {X : Cx} {pins : List (Addr × Obj)} {σ : St} {H : Hp} {s : Shared} {d : Addr} {o : Obj}
theorem Inv.frzN {X : Cx} {pins : List (Addr × Obj)} {σ : St} {H : Hp} {s : Shared} {d : Addr} {o : Obj} (hP : X.prog = Wrl.P) (hw : X.w = Wrl.w) {xs : List (NestedKey × Addr × Value)} (I : L2.Inv X pins σ H s) (h : H d = some (.frz o (DNO d xs))) :
    (d == sysModules) = false ∧ s.heap.get? d = some o ∧ o.ExactDict ∧ ∃ (es : Array DictEntry) (ep : Nat), o.data = .dict es ep ∧ es.size = xs.length ∧
      ∀ (i : Nat) x, xs[i]? = some x → ∃ en : DictEntry, es[i]? = some en ∧ en.key = .ref x.2.1 ∧ en.val = x.2.2 := by
  obtain ⟨hd, z⟩ := I.hok d _ h
  obtain ⟨hs, o', es, ep, ho, hx, hdt, he, _⟩ := dnp_of ⟨hP, hw⟩ z.1
  rw [hd] at ho
  cases ho
  refine ⟨hs, hd, hx, es, ep, hdt, size_of_entries he, fun i x e => ?_⟩
  have q := entry_at he i
  rw [e] at q
  exact ⟨_, q, rfl, rfl⟩
end
section
variable {P : Program} {w : World} {K : PySem.W.Frag} {tg : Expr} {d : Addr} {o : Obj} {es : Array DictEntry} {ep : Nat} {xs : List (NestedKey × Addr × Value)} {ps : List (Addr × V)}
theorem aps_get (h : APs xs ps) {i : Nat} {b : Addr} {v : V} (e : ps[i]? = some (b, v)) : ∃ x, xs[i]? = some x ∧ x.2.1 = b ∧ RelV v x.2.2 := by
  unfold APs at h
  induction h generalizing i with
  | nil => simp at e
  | @cons x p l₁ l₂ r t ih =>
    cases i with
    | zero =>
      simp only [List.getElem?_cons_zero, Option.some.injEq] at e
      subst e
      exact ⟨x, rfl, r.1.symm, r.2⟩
    | succ j =>
      simp only [List.getElem?_cons_succ] at e ⊢
      exact ih e
theorem turn_itemsN {elts : List Expr} {kk : Nat} {tpos : Pos} (eP : P = Wrl.P) (ew : w = Wrl.w) (it : Addr) (hod : o.data = .dict es ep) (hl : es.size = ps.length) :
    Turn P w K (.Tuple elts kk tpos) (Itni d o xs ps) [it] it (fun i h => ∃ ok ov, IsItemIter h it d i es.size ep ok ov) where
  mem := by simp
  obj := fun i h st b hb => by
    have e : b = it := by simpa using hb
    subst e
    obtain ⟨ok, ov, e⟩ := st
    exact ⟨_, e, fun v z => nomatch z⟩
  keep := fun i h h' st k => let ⟨ok, ov, e⟩ := st; ⟨ok, ov, k it (by simp) _ e⟩
  item := by
    intro X hP hw hK hc i pins s σ H E I hf st hg
    subst hP hw hK
    obtain ⟨hd, hap, hi⟩ := hg
    obtain ⟨hs, hgd, hx, es', ep', hdt, hsz, ent⟩ := Inv.frzN eP ew I hd
    obtain ⟨rfl, rfl⟩ := dict_ep hod hdt
    obtain ⟨⟨b, v⟩, hbv⟩ : ∃ p, ps[i]? = some p := ⟨ps[i], List.getElem?_eq_getElem hi⟩
    obtain ⟨x, hxi, rfl, ru⟩ := aps_get hap hbv
    obtain ⟨en, he1, he2, he3⟩ := ent i x hxi
    obtain ⟨hlt', hen⟩ := Array.getElem?_eq_some_iff.mp he1
    obtain ⟨ok, ov, he⟩ := st
    have hlt : it < s.heap.objs.size := Heap.lt_size he
    refine PySem.wpAny_pyNext_items_item_raw he ⟨o, hgd, hx, hod⟩ hlt' fun h' ho hT hz hk => ?_
    refine ⟨_, rfl, wpAny_letOwnedTupleGo_items (s := { s with heap := h' }) ho fun h'' he' sb => ?_⟩
    have hT2 : h''.get? s.heap.objs.size = some { cls := .type "tuple", data := .seq #[es'[i].key, es'[i].val] } := (sb.2 _ (Nat.ne_of_gt hlt)).trans hT
    have new : ObjOk X.prog X.w (upd H s.heap.objs.size (.tup [.ref x.2.1, v])) h'' s.heap.objs.size (.tup [.ref x.2.1, v]) :=
      ⟨by show 2 ≤ sizeLine; decide, [es'[i].key, es'[i].val], .cons (by rw [hen]; exact he2) (.cons (by rw [hen, he3]; exact ru) .nil), ⟨_, hT2, rfl, _, rfl⟩⟩
    have I1 : Inv X pins σ (upd H s.heap.objs.size (.tup [.ref x.2.1, v])) { s with heap := h'' } :=
      I.turnedNew (t' := s.toks) (ch := [it]) (fun b ob hb e => (sb.2 b (by simpa using hb)).trans (hk b ob (by simpa using hb) e)) hf (Nat.le_refl _) new
    refine ⟨.ref s.heap.objs.size, _, I1, rfl, ⟨_, x.2.1, v, hbv, rfl, I.hok.fresh (Nat.le_refl _), rfl⟩, ⟨_, _, he'⟩, fun b hb => ?_⟩
    have e : b = it := by simpa using hb
    rw [e, upd_ne (Nat.ne_of_lt hlt)]
    exact (hf it (by simp)).1
  done := by
    intro X hP hw hK hc i pins s σ H E I hf st hg
    subst hP hw hK
    obtain ⟨hd, hap, hi⟩ := hg
    obtain ⟨f0, f1, f2, f3, f4, f5⟩ := hf it (by simp)
    obtain ⟨hs, hgd, hx, es', ep', hdt, hsz, ent⟩ := Inv.frzN eP ew I hd
    obtain ⟨rfl, rfl⟩ := dict_ep hod hdt
    obtain ⟨ok, ov, he⟩ := st
    exact PySem.wpAny_pyNext_items_end_raw (I.ok.hd hc) he ⟨o, hgd, hx, hod⟩ (by omega) fun h' eb => ⟨rfl, I.turned (t' := s.toks) (fun b ob hb e => eb b ob hb e) f0 f1 f3 f4 f5⟩
  self := fun A i s Q E st h => let ⟨_, _, e⟩ := st; PySem.W.kcp_self e h
end
def iItems2 (td : TE) : TI := fun σ H R => td σ H fun x H1 => ∃ d o, x = .ref d ∧ ((∃ kvs, H1 d = some (.frz o (.dK kvs)) ∧ R (Iti d o kvs) H1) ∨ ∃ xs ps, H1 d = some (.frz o (DNO d xs)) ∧ APs xs ps ∧ R (Itni d o xs ps) H1)
section
variable {X : Cx} {tg e : Expr} {td : TE} {apos cpos : Pos}
theorem pi_items2 {elts : List Expr} {kk : Nat} {tpos : Pos} (hw : HW X) (he : PE X e td) (hbase : attributeBase e "items" X.env (eval e X.env) = eval e X.env := by rfl) (hline : (apos.endLine == cpos.line) = true := by rfl) :
    PI X (.Tuple elts kk tpos) (.Call (.Attribute e "items" apos) [] [] cpos) (iItems2 td) := by
  refine ⟨fun pins s σ H R I h => ?_⟩
  refine wpAny_Call_method (T := "dict") (id := "dict.items") hbase rfl hline PySem.F.plainAttrs_dict PySem.F.slot_dict_items PySem.F.type_dict_items (thn (he.run pins s σ H _ I h) fun u s1 ⟨x, H1, I1, rx, d, o, ex, q⟩ => ?_)
  subst ex
  obtain rfl : u = Value.ref d := rx
  have I2 : Inv X pins σ H1 { s1 with heap := s1.heap.push { cls := .type "dict_items", data := .fields #[.ref d] } } := I1.kept (t' := s1.toks) fun b ob q => Heap.get?_push_of_some _ q
  rcases q with ⟨kvs, hd, q⟩ | ⟨xs, ps, hd, hap, q⟩
  · obtain ⟨hs, hgd, hx, es, ep, vs, hdt, hsz, kv, hm⟩ := I1.frzK hd
    have hl : kvs.length = vs.length := Paired.length kv
    refine ⟨hm.dictOf.typeIs, hm.dictOf.mapOf.noDict, ?_⟩
    have fin : wpAny (model X.prog X.w) X.A (pyIter (.ref s1.heap.objs.size)) (PIE X pins σ (.Tuple elts kk tpos) R) X.xe { s1 with heap := s1.heap.push { cls := .type "dict_items", data := .fields #[.ref d] } } := by
      refine wpAny_pyIter_items (d := d) (knd := mixKind X.prog X.w) ⟨_, Heap.get?_push_size _ rfl, rfl, rfl⟩ (hm.push _) (pi_one (tk := s1.toks) I2 _ (turn_items _ hdt) ⟨.none, .none, ?_⟩ q)
      rw [hl]
      exact Heap.get?_push_size _ rfl
    show wpAny _ _ (callWith cpos (.builtin "dict.items") [.ref d] [] []) _ X.xe s1
    exact method_meetsIn PySem.F.slot_dict_items PySem.F.entry_dict_items rfl (PySem.evalArgs_none ⟨rfl, hm.dictOf.typeIs, PySem.F.args_dict_items_1 _, _, meets_dict_items (mixKind X.prog X.w) d hs, ⟨vs, hm.dictOf⟩, fin⟩)
  · obtain ⟨hs, hgd, hx, es, ep, hdt, hsz, ent⟩ := Inv.frzN hw.1 hw.2 I1 hd
    have hl : ps.length = xs.length := (Paired.length hap).symm
    have raw : s1.heap.DictRaw d es ep := ⟨o, hgd, hx, hdt⟩
    refine ⟨raw.typeIs, fun b z => (by cases z; exact ⟨o, hgd, hx.2.1⟩), ?_⟩
    have fin : wpAny (model X.prog X.w) X.A (pyIter (.ref s1.heap.objs.size)) (PIE X pins σ (.Tuple elts kk tpos) R) X.xe { s1 with heap := s1.heap.push { cls := .type "dict_items", data := .fields #[.ref d] } } :=
      wpAny_pyIter_items_raw (d := d) ⟨_, Heap.get?_push_size _ rfl, rfl, rfl⟩ (raw.at fun o q => Heap.get?_push_of_some _ q) (pi_one (tk := s1.toks) I2 _ (turn_itemsN hw.1 hw.2 _ hdt (by omega)) ⟨.none, .none, Heap.get?_push_size _ rfl⟩ q)
    show wpAny _ _ (callWith cpos (.builtin "dict.items") [.ref d] [] []) _ X.xe s1
    exact method_meetsIn PySem.F.slot_dict_items PySem.F.entry_dict_items rfl (PySem.evalArgs_none ⟨rfl, raw.typeIs, PySem.F.args_dict_items_1 _, _, meets_dict_items_raw d hs, ⟨es, ep, raw⟩, fin⟩)
end
end
section
variable [Wrl] [Tabl]
variable {K : Frg} {F : Fr} {Γ : En} {σ : St} {H G : Hp}
theorem Rl.lockNew (R : Rl K F Γ σ H G) {p : Addr} {u : HO} {od : Obj} (hu : H p = some u) (hc : NC p u) (hg : G p = none) (hn : F.He p = none) (hb : F.bi = none ∨ p ≠ F.ba) (ho : ∀ j, ownAt Γ j → σ[j]? ≠ some (some (.ref p))) : Rl K F Γ σ (upd H p (.frz od u)) (upd G p (.frz od u)) :=
  (R.updNew (o := .frz od u) hu hc hg hn hb ho).tell upd_same hn hg ho fun _ z => by cases z
theorem Mut_of {a : Addr} {o : OD} {u : HO} (r : ORep K G a o u) : Mut (some u) := by
  cases o with
  | l _ => obtain ⟨_, rfl, _⟩ := r; exact True.intro
  | k _ _ => obtain ⟨_, rfl, _⟩ := r; exact True.intro
  | n _ _ => obtain ⟨_, ⟨_, rfl, _⟩, _⟩ := r; exact True.intro
  | i _ _ _ => obtain ⟨_, _, rfl, _⟩ := r; exact True.intro
theorem walks_fk {a : Addr} {ob : Obj} {kv : List (Key × V)} {ks : List Key} {ds : List D} {G0 : Hp} (h : G0 a = some (.frz ob (.dK kv))) (n : kv.map (·.1) = ks) (r : Reps K G0 ds (kv.map (·.2))) : Walks K (Iti a ob kv) (kItems ks ds) G0 := fun F Γ σ H G i R le => by
  have hH := R.gh _ _ (le _ _ h)
  have len : ds.length = kv.length := by rw [← r.len, List.length_map]
  have lk : ks.length = kv.length := by rw [← n, List.length_map]
  have lz : (kItems ks ds).length = kv.length := by unfold kItems; rw [List.length_zipWith]; omega
  refine ⟨fun d hd => ?_, fun hi => ⟨hH, by omega⟩⟩
  have hi : i < kv.length := by have := (List.getElem?_eq_some_iff.mp hd).1; omega
  refine ⟨⟨hH, hi⟩, fun x H' ⟨T, k, v, e1, e2, e3, e4⟩ => ?_⟩
  subst e2 e4
  obtain ⟨d1, hd1, rd⟩ := r.get (i := i) (v := v) (by rw [List.getElem?_map, e1]; rfl)
  have ek : ks[i]? = some k := by rw [← n, List.getElem?_map, e1]; rfl
  have ed : d = .tup [kD k, d1] := by
    unfold kItems at hd
    rw [List.getElem?_zipWith, ek, hd1] at hd
    exact (Option.some.inj hd).symm
  subst ed
  have R' := R.new (o := .tup [kV k, v]) e3
  have le' : Le G (upd G T (.tup [kV k, v])) := Le.upd (R.gNone e3)
  exact ⟨_, R', le', ⟨T, _, rfl, .inl (.inl upd_same), _, _, rfl, kD_rep k, _, _, rfl, Rep.le (le.trans le') _ _ rd, rfl⟩, .inr ⟨T, _, e3, rfl⟩⟩
theorem dnk_aps {kvs : List (NestedKey × V)} {xs : List (NestedKey × Addr × Value)} (h : DNk K G xs kvs) : ∃ ps, APs xs ps ∧ ps.map (·.2) = kvs.map (·.2) ∧ ∀ (i : Nat) (b : Addr) (v : V), ps[i]? = some (b, v) → ∃ k, (kvs.map (·.1))[i]? = some k ∧ NKv K G k (.ref b) := by
  unfold DNk at h
  induction h with
  | nil => exact ⟨[], .nil, rfl, fun i b v e => by simp at e⟩
  | @cons x p xs kvs r t ih =>
    obtain ⟨ps, h1, h2, h3⟩ := ih
    refine ⟨(x.2.1, p.2) :: ps, .cons ⟨rfl, r.2.2.2⟩ h1, by rw [List.map_cons, List.map_cons, h2], fun i b v e => ?_⟩
    cases i with
    | zero =>
      simp only [List.getElem?_cons_zero, Option.some.injEq, Prod.mk.injEq] at e
      obtain ⟨rfl, rfl⟩ := e
      exact ⟨p.1, rfl, r.1 ▸ r.2.2.1⟩
    | succ j =>
      simp only [List.getElem?_cons_succ] at e
      obtain ⟨k, h4, h5⟩ := h3 j b v e
      exact ⟨k, by rw [List.map_cons, List.getElem?_cons_succ]; exact h4, h5⟩
theorem walks_dn {a : Addr} {ob : Obj} {xs : List (NestedKey × Addr × Value)} {kvs : List (NestedKey × V)} {ks : List NestedKey} {ds : List D} {G0 : Hp} (h : G0 a = some (.frz ob (DNO a xs))) (m : DNk K G0 xs kvs) (n : kvs.map (·.1) = ks) (r : Reps K G0 ds (kvs.map (·.2))) :
    ∃ ps, APs xs ps ∧ Walks K (Itni a ob xs ps) (nItems ks ds) G0 := by
  obtain ⟨ps, h1, h2, h3⟩ := dnk_aps m
  refine ⟨ps, h1, fun F Γ σ H G i R le => ?_⟩
  have hH := R.gh _ _ (le _ _ h)
  have lp : ps.length = kvs.length := by have := congrArg List.length h2; simpa using this
  have len : ds.length = kvs.length := by rw [← r.len, List.length_map]
  have lk : ks.length = kvs.length := by rw [← n, List.length_map]
  have lz : (nItems ks ds).length = kvs.length := by unfold nItems; rw [List.length_zipWith]; omega
  refine ⟨fun d hd => ?_, fun hi => ⟨hH, h1, by omega⟩⟩
  have hi : i < kvs.length := by have := (List.getElem?_eq_some_iff.mp hd).1; omega
  refine ⟨⟨hH, h1, by omega⟩, fun x H' ⟨T, b, v, e1, e2, e3, e4⟩ => ?_⟩
  subst e2 e4
  obtain ⟨k, ek, hk⟩ := h3 i b v e1
  rw [n] at ek
  obtain ⟨d1, hd1, rd⟩ := r.get (i := i) (v := v) (by rw [← h2, List.getElem?_map, e1]; rfl)
  have ed : d = .tup [nkD k, d1] := by
    unfold nItems at hd
    rw [List.getElem?_zipWith, ek, hd1] at hd
    exact (Option.some.inj hd).symm
  subst ed
  have R' := R.new (o := .tup [.ref b, v]) e3
  have le' : Le G (upd G T (.tup [.ref b, v])) := Le.upd (R.gNone e3)
  exact ⟨_, R', le', ⟨T, _, rfl, .inl (.inl upd_same), _, _, rfl, Rep.le (le.trans le') _ _ (nkD_rep hk), _, _, rfl, Rep.le (le.trans le') _ _ rd, rfl⟩, .inr ⟨T, _, e3, rfl⟩⟩
def itmO (i : Nat) (o : Option Sl) (Γ : En) : O (List D) := match o with
  | some (.acc (.k ks vs)) => .ok (kItems ks vs) (Γ.set i (.im (.fk ks vs)))
  | some (.acc (.n ks vs)) => .ok (nItems ks vs) (Γ.set i (.im (.dn true ks vs)))
  | some (.im (.fk ks vs)) => .ok (kItems ks vs) Γ
  | some (.im (.dn true ks vs)) => .ok (nItems ks vs) Γ
  | _ => .fail
def itmK (x : VV) (Γ : En) : O (List D) := match x with
  | .n (.k ks vs) => .ok (kItems ks vs) Γ
  | .n (.n ks vs) => .ok (nItems ks vs) Γ
  | .e (.d (.fk ks vs)) => .ok (kItems ks vs) Γ
  | .e (.d (.dn true ks vs)) => .ok (nItems ks vs) Γ
  | .e (.own i) => itmO i Γ[i]? Γ
  | _ => .fail
def itmV (f : VF) : IF := fun Γ => (f Γ).bind itmK
end
end FL
namespace FL
open PySem PySem.Spec PyProof.Rows L2
def atN (k : NestedKey) : List NestedKey → List D → Option D
  | j :: ks, v :: vs => if j = k then some v else atN k ks vs
  | _, _ => none
def rtO (i : Nat) (o : Option OD) (Γ : En) : Option En := match o with
  | some (.k [] []) => some (putOwn Γ i (.n [] []))
  | some (.n _ _) => some Γ
  | _ => none
def sdO (i : Nat) (k : NestedKey) (d : D) (o : Option OD) (Γ : En) : O EV := match o with
  | some (.n ks vs) => if k.depth ≤ 8 ∧ ks.length < sizeLine then (match atN k ks vs with
    | some x => .ok (.d x) Γ
    | none => .ok (.d d) (putOwn Γ i (.n (ks ++ [k]) (vs ++ [d])))) else .fail
  | _ => .fail
def sdF (i : Nat) (e1 e2 : EV) (Γ : En) : O EV := match e1, e2 with
  | .d (.tup l), .d d => (match dNks l with
    | some ks => sdO i (.tup ks) d (ownD Γ i) Γ
    | none => .fail)
  | _, _ => .fail
def sdE (i : Nat) (f1 f2 : EF) : EF := fun Γ => match rtO i (ownD Γ i) Γ with
  | some Γ0 => (f1 Γ0).bind fun e1 Γ1 => (f2 Γ1).bind (sdF i e1)
  | none => .fail
section
variable [Wrl] [Tabl]
variable {K : Frg} {F : Fr} {Γ : En} {σ : St} {H G : Hp}
theorem OutI.bindV {α β : Type} {W : WX} {rel : Fr → En → St → Hp → Hp → α → β → Prop} {T : (β → Hp → Prop) → Prop} {T' : β → Hp → (It → Hp → Prop) → Prop} {g : α → En → O (List D)} : ∀ {r : O α}, OutV K W rel F σ G T r →
    (∀ a Γ1 b H1 G1, Rl K F Γ1 σ H1 G1 → Le G G1 → rel F Γ1 σ H1 G1 a b → OutI K W F σ G1 (T' b H1) (g a Γ1)) → OutI K W F σ G (fun Q => T fun b H1 => T' b H1 Q) (r.bind g)
  | .fail, _, _ => trivial
  | .exc _ _ _ _, h, _ => fun Q q => h _ q
  | .ok a Γ1, h, k => by
    show OutI K W F σ G _ (g a Γ1)
    cases e2 : g a Γ1 with
    | fail => trivial
    | exc c ns fs Γ' =>
      intro Q q
      refine h _ fun b H1 G1 R1 le1 r1 => ?_
      have h2 := k a Γ1 b H1 G1 R1 le1 r1
      rw [e2] at h2
      exact h2 Q fun cls dx H' G' R' le' x => q cls dx H' G' R' (le1.trans le') x
    | ok a' Γ' =>
      intro Q q
      refine h _ fun b H1 G1 R1 le1 r1 => ?_
      have h2 := k a Γ1 b H1 G1 R1 le1 r1
      rw [e2] at h2
      exact h2 Q fun J H' G' R' le' x => q J H' G' R' (le1.trans le') x
def WkI (R : It → Hp → Prop) (x : V) (H1 : Hp) : Prop := ∃ d o, x = .ref d ∧ ((∃ kvs, H1 d = some (.frz o (.dK kvs)) ∧ R (Iti d o kvs) H1) ∨ ∃ xs ps, H1 d = some (.frz o (DNO d xs)) ∧ APs xs ps ∧ R (Itni d o xs ps) H1)
theorem wkI_fk {a : Addr} {ob : Obj} {kv : List (Key × V)} {ks : List Key} {ds : List D} {R : It → Hp → Prop} (Rl0 : Rl K F Γ σ H G) (h : G a = some (.frz ob (.dK kv))) (n : kv.map (·.1) = ks) (r : Reps K G ds (kv.map (·.2)))
    (q : ∀ J H' G', Rl K F Γ σ H' G' → Le G G' → Walks K J (kItems ks ds) G' → R J H') : WkI R (.ref a) H := ⟨a, ob, rfl, .inl ⟨kv, Rl0.gh _ _ h, q _ H G Rl0 (Le.refl G) (walks_fk h n r)⟩⟩
theorem wkI_dn {a : Addr} {ob : Obj} {xs : List (NestedKey × Addr × Value)} {kvs : List (NestedKey × V)} {ks : List NestedKey} {ds : List D} {R : It → Hp → Prop} (Rl0 : Rl K F Γ σ H G) (h : G a = some (.frz ob (DNO a xs))) (m : DNk K G xs kvs) (n : kvs.map (·.1) = ks) (r : Reps K G ds (kvs.map (·.2)))
    (q : ∀ J H' G', Rl K F Γ σ H' G' → Le G G' → Walks K J (nItems ks ds) G' → R J H') : WkI R (.ref a) H := by
  obtain ⟨ps, h1, h2⟩ := walks_dn h m n r
  exact ⟨a, ob, rfl, .inr ⟨xs, ps, Rl0.gh _ _ h, h1, q _ H G Rl0 (Le.refl G) h2⟩⟩
theorem wkI_own {p : Addr} {u : HO} {o : OD} {ds : List D} {Γ' : En} {d : D} {R : It → Hp → Prop} (lk : o = .k ks' vs' ∧ d = .fk ks' vs' ∧ ds = kItems ks' vs' ∨ o = .n kn vs' ∧ d = .dn true kn vs' ∧ ds = nItems kn vs')
    (r : ORep K G p o u) (hg : G p = none) (R1 : ∀ od, Rl K F Γ' σ (upd H p (.frz od u)) (upd G p (.frz od u)) ∨ (Rep K (upd G p (.frz od u)) d (.ref p) → Rl K F Γ' σ (upd H p (.frz od u)) (upd G p (.frz od u))))
    (q : ∀ J H' G', Rl K F Γ' σ H' G' → Le G G' → Walks K J ds G' → R J H') : ∀ od, WkI R (.ref p) (upd H p (.frz od u)) := fun od => by
  have le : Le G (upd G p (.frz od u)) := Le.upd hg
  rcases lk with ⟨rfl, rfl, rfl⟩ | ⟨rfl, rfl, rfl⟩
  · obtain ⟨kv, rfl, n, rp⟩ := r
    have rp' := Reps.le le _ _ rp
    have R2 := (R1 od).elim id fun z => z ⟨p, od, kv, rfl, upd_same, n, rp'⟩
    exact wkI_fk R2 upd_same n rp' fun J H' G' R' le' wk => q J H' G' R' (le.trans le') wk
  · obtain ⟨kvs, ⟨xs, rfl, m, hl⟩, n, rp⟩ := r
    have rp' := Reps.le le _ _ rp
    have m' := m.mono (SqT.le le)
    have R2 := (R1 od).elim id fun z => z ⟨p, _, _, kvs, rfl, upd_same, ⟨od, rfl⟩, ⟨xs, rfl, m', hl⟩, n, rp'⟩
    exact wkI_dn R2 upd_same m' n rp' fun J H' G' R' le' wk => q J H' G' R' (le.trans le') wk
variable {X : Cx} {W : WX} {e : Expr} {pos apos p cpos : Pos}
theorem fi_items {vf : VF} {elts : List Expr} {kk : Nat} {tpos : Pos} (hw : HW X) (h : FV X W e vf) (hbase : attributeBase e "items" X.env (eval e X.env) = eval e X.env := by rfl) (hline : (apos.endLine == cpos.line) = true := by rfl) :
    FI X W (.Tuple elts kk tpos) (.Call (.Attribute e "items" apos) [] [] cpos) (itmV vf) := by
  obtain ⟨t, pt, s⟩ := h
  refine ⟨_, pi_items2 hw (pe_lock pt) hbase hline, fun F Γ σ H G R => ?_⟩
  refine OutI.bindV (T' := fun x H1 R => WkI R x H1 ∨ ∃ a u, x = .ref a ∧ H1 a = some u ∧ Mut (some u) ∧ ∀ od, WkI R x (upd H1 a (.frz od u))) (s F Γ σ H G R) fun x Γ1 v H1 G1 R1 le1 r1 => ?_
  unfold itmK
  split
  · rename_i ks vs
    obtain ⟨p, u, rfl, h1, h2, h3, h4, h5, h6⟩ := (show New X.K F Γ1 σ H1 G1 (.k ks vs) v from r1)
    exact fun Q q => .inr ⟨p, u, rfl, h1, Mut_of h6, wkI_own (kn := []) (.inl ⟨rfl, rfl, rfl⟩) h6 h2 (fun od => .inl (R1.lockNew h1 h6.nc h2 h3 h4 h5)) q⟩
  · rename_i ks vs
    obtain ⟨p, u, rfl, h1, h2, h3, h4, h5, h6⟩ := (show New X.K F Γ1 σ H1 G1 (.n ks vs) v from r1)
    exact fun Q q => .inr ⟨p, u, rfl, h1, Mut_of h6, wkI_own (ks' := []) (.inr ⟨rfl, rfl, rfl⟩) h6 h2 (fun od => .inl (R1.lockNew h1 h6.nc h2 h3 h4 h5)) q⟩
  · rename_i ks vs
    obtain ⟨a, ob, kv, rfl, hg, n, rp⟩ := (show Rep X.K G1 (.fk ks vs) v from r1)
    exact fun Q q => .inl (wkI_fk R1 hg n rp q)
  · rename_i ks vs
    obtain ⟨a, u, o, kvs, rfl, hg, ⟨ob, rfl⟩, ⟨xs, rfl, m, hl⟩, n, rp⟩ := (show Rep X.K G1 (.dn true ks vs) v from r1)
    exact fun Q q => .inl (wkI_dn R1 hg m n rp q)
  · rename_i i
    have r1 : σ[i]? = some (some v) := r1
    unfold itmO
    split
    · rename_i ks vs ei
      obtain ⟨a, u, h1, h2, h3, h4, h5, h6⟩ := R1.ac i _ ei
      rw [r1] at h1
      cases h1
      have hb : F.bi ≠ some i := fun z => by
        obtain ⟨o', e⟩ := R1.bb i z
        rw [ei] at e; cases e
      have hba : F.bi = none ∨ a ≠ F.ba := by
        cases hbi : F.bi with
        | none => exact .inl rfl
        | some j =>
          obtain ⟨o', e⟩ := R1.bb j hbi
          obtain ⟨_, _, ⟨w, hw'⟩, _⟩ := R1.bo j o' e
          exact .inr fun z => by rw [z, hw'] at h4; cases h4
      have eσ : σ.set i (some (.ref a)) = σ := by
        refine List.ext_getElem? fun j => ?_
        by_cases e : i = j
        · subst e; rw [List.getElem?_set_self (List.getElem?_eq_some_iff.mp r1).1, r1]
        · rw [List.getElem?_set_ne e]
      have R0 : Rl X.K F (Γ1.set i .no) σ H1 G1 := by have := R1.setNo (x := some (.ref a)) hb; rw [eσ] at this; exact this
      have ho : ∀ j, ownAt (Γ1.set i .no) j → σ[j]? ≠ some (some (.ref a)) := fun j ⟨o', e⟩ => by
        rcases get_set e with ⟨_, _, e⟩ | ⟨hj, e⟩
        · cases e
        · exact h6 j hj ⟨o', e⟩
      refine fun Q q => .inr ⟨a, u, rfl, h2, Mut_of h5, wkI_own (kn := []) (.inl ⟨rfl, rfl, rfl⟩) h5 h3 (fun od => .inr fun rp => ?_) q⟩
      have R2 := (R0.lockNew (od := od) h2 h5.nc h3 h4 hba ho).setIm hb rp
      rw [List.set_set, eσ] at R2
      exact R2
    · rename_i ks vs ei
      obtain ⟨a, u, h1, h2, h3, h4, h5, h6⟩ := R1.ac i _ ei
      rw [r1] at h1
      cases h1
      have hb : F.bi ≠ some i := fun z => by
        obtain ⟨o', e⟩ := R1.bb i z
        rw [ei] at e; cases e
      have hba : F.bi = none ∨ a ≠ F.ba := by
        cases hbi : F.bi with
        | none => exact .inl rfl
        | some j =>
          obtain ⟨o', e⟩ := R1.bb j hbi
          obtain ⟨_, _, ⟨w, hw'⟩, _⟩ := R1.bo j o' e
          exact .inr fun z => by rw [z, hw'] at h4; cases h4
      have eσ : σ.set i (some (.ref a)) = σ := by
        refine List.ext_getElem? fun j => ?_
        by_cases e : i = j
        · subst e; rw [List.getElem?_set_self (List.getElem?_eq_some_iff.mp r1).1, r1]
        · rw [List.getElem?_set_ne e]
      have R0 : Rl X.K F (Γ1.set i .no) σ H1 G1 := by have := R1.setNo (x := some (.ref a)) hb; rw [eσ] at this; exact this
      have ho : ∀ j, ownAt (Γ1.set i .no) j → σ[j]? ≠ some (some (.ref a)) := fun j ⟨o', e⟩ => by
        rcases get_set e with ⟨_, _, e⟩ | ⟨hj, e⟩
        · cases e
        · exact h6 j hj ⟨o', e⟩
      refine fun Q q => .inr ⟨a, u, rfl, h2, Mut_of h5, wkI_own (ks' := []) (.inr ⟨rfl, rfl, rfl⟩) h5 h3 (fun od => .inr fun rp => ?_) q⟩
      have R2 := (R0.lockNew (od := od) h2 h5.nc h3 h4 hba ho).setIm hb rp
      rw [List.set_set, eσ] at R2
      exact R2
    · rename_i ks vs ei
      obtain ⟨w, h1, a, ob, kv, rfl, hg, n, rp⟩ := R1.sl i _ ei
      rw [r1] at h1
      cases h1
      exact fun Q q => .inl (wkI_fk R1 hg n rp q)
    · rename_i ks vs ei
      obtain ⟨w, h1, a, u, o, kvs, rfl, hg, ⟨ob, rfl⟩, ⟨xs, rfl, m, hl⟩, n, rp⟩ := R1.sl i _ ei
      rw [r1] at h1
      cases h1
      exact fun Q q => .inl (wkI_dn R1 hg m n rp q)
    · trivial
  · trivial
theorem atN_rep (k : NestedKey) : ∀ {ks : List NestedKey} {ds : List D} {kvs : List (NestedKey × V)}, kvs.map (·.1) = ks → Reps K G ds (kvs.map (·.2)) → (match atN k ks ds with
    | some d => ∃ v, valN kvs k = some v ∧ Rep K G d v
    | none => valN kvs k = none)
  | [], ds, kvs, h, r => by
    cases kvs with
    | cons _ _ => cases h
    | nil => exact rfl
  | j :: ks, [], kvs, h, r => by
    cases kvs with
    | nil => cases h
    | cons p kvs => exact absurd (show _ :: _ = [] from r) (by simp)
  | j :: ks, d :: ds, kvs, h, r => by
    cases kvs with
    | nil => cases h
    | cons p kvs =>
      obtain ⟨v, r', e, h1, h2⟩ := r
      obtain ⟨rfl, rfl⟩ := List.cons.inj e
      obtain ⟨rfl, h'⟩ := List.cons.inj h
      unfold atN valN
      by_cases e : p.1 = k
      · rw [if_pos e, List.find?_cons, decide_eq_true e]; exact ⟨_, rfl, h1⟩
      · rw [if_neg e, List.find?_cons, decide_eq_false e]; exact atN_rep k h' h2
theorem room_of {X : Cx} (hu : X.A.units + 64 < cLine) : ∀ P w, (nestedKind P w).room X.A.in1 := fun _ _ => by
  show X.A.in1.units + 8 < cLine
  have : X.A.in1.units ≤ X.A.units + 1 := by first | exact Nat.le_refl _ | exact Nat.le_succ _
  omega
theorem fe_setd {i : Nat} {y : Str} {py : Pos} {e1 e2 : Expr} {f1 f2 : EF} (hw : HW X) (hu : X.A.units + 64 < cLine) (h1 : FE X W e1 f1) (h2 : FE X W e2 f2) (hN : X.N[i]? = some y) (hv : Vis X.env.scope y) (m : M2 X (.Name y py) "setdefault" apos e1 e2 cpos := by exact ⟨rfl, rfl, rfl, rfl⟩)
    (hd : (y == ("__debug__" : Str)) = false := by decide) (hcd : (y == ("__classdict__" : Str)) = false := by decide) : FE X W (.Call (.Attribute (.Name y py) "setdefault" apos) [e1, e2] [] cpos) (sdE i f1 f2) := by
  obtain ⟨t1, p1, s1⟩ := h1
  obtain ⟨t2, p2, s2⟩ := h2
  refine ⟨_, pe_ndsetd hw (by omega) (room_of hu) (pe_retell hw (pe_var hN hv hd hcd)) p1 p2 m, fun F Γ σ H G R => ?_⟩
  have go : ∀ {Γ0 : En} {H0 : Hp} {q0 : Addr}, Rl X.K F Γ0 σ H0 G → σ[i]? = some (some (V.ref q0)) → (∃ kvs, TrD X H0 q0 kvs) →
      Out X.K W (vrel X.K) F σ G (fun Q => ∃ a kvs0, V.ref q0 = .ref a ∧ TrD X H0 a kvs0 ∧ t1 σ H0 fun y H2 => t2 σ H2 fun z H3 => ∃ (xs : List (NestedKey × Addr × Value)) (kvs : List (NestedKey × V)) (k : NestedKey) (b : Addr), H3 a = some (DNO a xs) ∧ DNk X.K H3 xs kvs ∧ y = .ref b ∧ NKv X.K H3 k (.ref b) ∧ k.depth ≤ 8 ∧ kvs.length < sizeLine ∧
        (∀ v, valN kvs k = some v → Q v H3) ∧ (valN kvs k = none → ∀ r, RelV z r → Q z (upd H3 a (DNO a (xs ++ [(k, b, r)]))))) ((f1 Γ0).bind fun e1 Γ1 => (f2 Γ1).bind (sdF i e1)) := by
    intro Γ0 H0 q0 R0 hq ⟨kvs0, ht⟩
    refine Out.of (Out.bind (T' := fun y H2 Q => t2 σ H2 fun z H3 => ∃ (xs : List (NestedKey × Addr × Value)) (kvs : List (NestedKey × V)) (k : NestedKey) (b : Addr), H3 q0 = some (DNO q0 xs) ∧ DNk X.K H3 xs kvs ∧ y = .ref b ∧ NKv X.K H3 k (.ref b) ∧ k.depth ≤ 8 ∧ kvs.length < sizeLine ∧
        (∀ v, valN kvs k = some v → Q v H3) ∧ (valN kvs k = none → ∀ r, RelV z r → Q z (upd H3 q0 (DNO q0 (xs ++ [(k, b, r)]))))) (s1 F Γ0 σ H0 G R0) fun ev1 Γ1 v1 H1 G1 R1 le1 r1 => ?_) fun Q q => ⟨q0, kvs0, rfl, ht, q⟩
    refine Out.bind (T' := fun z H3 Q => ∃ (xs : List (NestedKey × Addr × Value)) (kvs : List (NestedKey × V)) (k : NestedKey) (b : Addr), H3 q0 = some (DNO q0 xs) ∧ DNk X.K H3 xs kvs ∧ v1 = .ref b ∧ NKv X.K H3 k (.ref b) ∧ k.depth ≤ 8 ∧ kvs.length < sizeLine ∧
        (∀ v, valN kvs k = some v → Q v H3) ∧ (valN kvs k = none → ∀ r, RelV z r → Q z (upd H3 q0 (DNO q0 (xs ++ [(k, b, r)]))))) (s2 F Γ1 σ H1 G1 R1) fun ev2 Γ2 v2 H2 G2 R2 le2 r2 => ?_
    unfold sdF
    split
    · rename_i l d
      split
      · rename_i kl ek
        unfold sdO
        split
        · rename_i ks vs eo
          split
          · rename_i hz
            obtain ⟨p, u, g1, g2, g3, g4, kk⟩ := R2.own eo
            rw [hq] at g1
            cases g1
            obtain ⟨kvs, ⟨xs, rfl, dk, hl⟩, hn, hr⟩ := g4
            have rk := Rep.le le2 _ _ (show Rep X.K G1 (.tup l) v1 from r1)
            have nk := dNk_rep (.tup l) v1 (.tup kl) (by unfold dNk; rw [ek]; rfl) rk
            obtain ⟨b, _, ev1, _⟩ := (show Rep X.K G2 (.tup l) v1 from rk)
            subst ev1
            have at_ := atN_rep (.tup kl) hn hr
            have lk : kvs.length = ks.length := by rw [← hn, List.length_map]
            have dkH := dk.mono (SqT.le R2.gh)
            have nkH := nk.mono (SqT.le R2.gh)
            split
            · rename_i x ex
              rw [ex] at at_
              obtain ⟨w, hw1, hw2⟩ := at_
              exact fun Q q => ⟨xs, kvs, _, b, g2, dkH, rfl, nkH, hz.1, by omega, fun v hv => (by rw [hw1] at hv; cases hv; exact q _ _ _ R2 (Le.refl _) hw2), fun hv => (by rw [hw1] at hv; cases hv)⟩
            · rename_i ex
              rw [ex] at at_
              refine fun Q q => ⟨xs, kvs, _, b, g2, dkH, rfl, nkH, hz.1, by omega, fun v hv => (by rw [show valN kvs (.tup kl) = none from at_] at hv; cases hv), fun _ r rv => ?_⟩
              have rd : Rep X.K G2 d v2 := r2
              refine q _ _ _ (kk (.n (ks ++ [.tup kl]) (vs ++ [d])) _ ⟨kvs ++ [(.tup kl, v2)], ⟨_, rfl, dk.snoc (x := (.tup kl, b, r)) (p := (.tup kl, v2)) rfl hz.1 nk rv, ?_⟩, by rw [List.map_append, hn]; rfl, by rw [List.map_append]; exact hr.append (Reps.cons rd Reps.nil)⟩) (Le.refl _) rd
              have := Paired.length dk
              rw [List.length_append, List.length_singleton]; omega
          · trivial
        · trivial
      · trivial
    · trivial
  unfold sdE
  cases eo : ownD Γ i with
  | none => trivial
  | some o =>
    obtain ⟨p, u, g1, g2, g3, g4, kk⟩ := R.own eo
    cases o with
    | l _ => trivial
    | i _ _ _ => trivial
    | n ks vs =>
      obtain ⟨kvs, ⟨xs, rfl, dk, hl⟩, hn, hr⟩ := g4
      exact Out.of (go R g1 ⟨kvs, xs, g2, dk.mono (SqT.le R.gh), hl⟩) fun Q q => ⟨_, g1, .inl q⟩
    | k ks vs =>
      cases ks with
      | cons _ _ => trivial
      | nil =>
        cases vs with
        | cons _ _ => trivial
        | nil =>
          obtain ⟨kv, rfl, hn, hr⟩ := g4
          obtain rfl : kv = [] := by cases kv with
            | nil => rfl
            | cons _ _ => cases hn
          have R0 := kk (.n [] []) (DNO p []) ⟨[], ⟨[], rfl, .nil, Nat.zero_le _⟩, rfl, rfl⟩
          exact Out.of (go R0 g1 ⟨[], [], upd_same, .nil, Nat.zero_le _⟩) fun Q q => ⟨_, g1, .inr ⟨p, rfl, g2, q⟩⟩
end
end FL
namespace FL
open PySem PySem.Spec PyProof.Rows L2
structure BY [Wrl] [Tabl] (P : Program) (w : World) (file : Str) (K : Frg) (mg : Str → Option Value) (base : Heap) : Prop extends BX P file K mg base where
  pw : P = Wrl.P ∧ w = Wrl.w
section
variable [Wrl] [Tabl]
variable {X : Cx} {W : WX} {pos : Pos}
def dct0 : VF := fun Γ => .ok (.n (.k [] [])) Γ
theorem fv_dict0 : FV X W (.Dict [] [] pos) dct0 :=
  ⟨_, pe_dnewK, fun F Γ σ H G R Q q p hp => by
    obtain ⟨R', n⟩ := R.newN (o := .k [] []) hp ⟨[], rfl, rfl, rfl⟩
    exact q (.ref p) _ _ R' (Le.refl _) n⟩
end
end FL
namespace FL
open PySem PySem.Spec PyProof.Rows L2
section
variable {X : Cx} {pins : List (Addr × Obj)} {σ : St} {H : Hp} {s : Shared}
def rIndexT (K : PySem.W.Frag) (x y : V) (H : Hp) (Q : VK) : Prop := ∃ (a : Addr) (d : PyData) (ds : List PyData) (j : Nat) (z : PyData), x = V.ref a ∧ Dp K H (V.ref a) (.tuple ds) ∧ Dp K H y d ∧
  SeqAt.shaped (.tuple ds) = true ∧ SeqAt.shaped d = true ∧ ds[j]? = some z ∧ PyData.eqv z d = true ∧ (∀ (m : Nat) (z' : PyData), m < j → ds[m]? = some z' → PyData.eqv z' d = false) ∧ Q (.int (j : Nat)) H
theorem call_tindex {y : V} {a : Addr} {uy : Value} {Q : VK} {E : Value → Shared → Prop} (hu : X.A.units + 65 < cLine) (I : Inv X pins σ H s) (ry : RelV y uy) (h : rIndexT X.K (.ref a) y H Q) :
    wpAny (model X.prog X.w) X.A (call (.builtin "tuple.index") [.ref a, uy]) (EP X pins σ Q) E s := by
  obtain ⟨a', d, ds, j, z, e, hl, hy, sl, sd, hz, hzj, hno, q⟩ := h
  cases e
  obtain ⟨bs, r1⟩ := Dp.reads I d y uy hy ry
  have hxs : PyData.canLayAll0 ds = true := by
    have := SeqAt.canLay_of_shaped sl
    simpa [PyData.canLay0] using this
  have hroom : X.A.units + 1 + min (PyData.depthAll ds) d.depth < cLine := room_in_shaped sd hu
  cases hl with
  | tup hs ha =>
    obtain ⟨its, rv, ⟨⟨cls, dd, data, sls⟩, ho, hc, n, hdt⟩, hlen⟩ := I.tuple hs
    simp only at hc hdt
    subst hc hdt
    obtain ⟨as, h4⟩ := Dp.readsAll I ds _ its ha rv
    have hn : its.length = ds.length := SeqAt.ReadsAll.length ds its as h4
    have hmap : its.map (SeqAt.readOf s.heap) = ds := SeqAt.readsAll_map ds its as hxs h4
    obtain ⟨hjd, _⟩ := List.getElem?_eq_some_iff.mp hz
    have hj : j < its.toArray.size := by simp; omega
    have at_ : ∀ (m : Nat) (hm : m < its.toArray.size) (z' : PyData), ds[m]? = some z' → SeqAt.readOf s.heap its.toArray[m] = z' := by
      intro m hm z' hz'
      have hml : m < its.length := by simpa using hm
      rw [← hmap, List.getElem?_map, List.getElem?_eq_getElem hml] at hz'
      have e1 : SeqAt.readOf s.heap its[m] = z' := Option.some.inj (show some (SeqAt.readOf s.heap its[m]) = some z' from hz')
      simpa using e1
    refine call_meets PySem.F.slot_tuple_index ⟨_, ho, rfl⟩ PySem.F.entry_tuple_index (PySem.F.args_tuple_index_2 _ _)
      (TI.tuple_indexAt a its.toArray n dd sls uy (fun u => PyData.eqv (SeqAt.readOf s.heap u) d) j hj ?_ ?_) ⟨ho, SeqAt.items_eqAt (vs := its.toArray) (show ReadsAll s.heap its.toArray.toList ds as from h4) r1 hxs (SeqAt.canLay_of_shaped sd) hroom, ?_⟩
    · show PyData.eqv (SeqAt.readOf s.heap its.toArray[j]) d = true
      rw [at_ j hj z hz]
      exact hzj
    · intro m hm hmj
      have hmd : m < ds.length := by omega
      have hz' : ds[m]? = some ds[m] := List.getElem?_eq_getElem hmd
      show PyData.eqv (SeqAt.readOf s.heap its.toArray[m]) d = false
      rw [at_ m hm _ hz']
      exact hno m _ hmj hz'
    · exact ⟨.int (j : Nat), H, I.tok _, ⟨_, rfl⟩, q⟩
def tTix (X : Cx) (td ta : TE) : TE := fun σ H Q => td σ H fun x H1 => ∃ a vs o, x = .ref a ∧ SqT X.K H1 a vs ∧ X.K.lookup a = some o ∧ o.dict = none ∧ ta σ H1 fun y H2 => rIndexT X.K x y H2 Q
theorem pe_tindex {o e : Expr} {td ta : TE} {apos cpos : Pos} (hu : X.A.units + 65 < cLine) (ho : PE X o td) (he : PE X e ta) (m : M1 X o "index" apos e cpos) : PE X (.Call (.Attribute o "index" apos) [e] [] cpos) (tTix X td ta) := by
  refine ⟨fun pins s σ H Q I h => ?_⟩
  refine wpAny_Call_method m.base m.few m.line PySem.F.plainAttrs_tuple PySem.F.slot_tuple_index PySem.F.type_tuple_index (thn (ho.run pins s σ H _ I h) fun u s1 ⟨x, H1, I1, rx, a, vs, o, ex, sq, hk, hd, q1⟩ => ?_)
  subst ex
  obtain rfl : u = Value.ref a := rx
  obtain ⟨its, rv, ⟨ob, hob, hc, n, hdt⟩, _⟩ := I1.tuple sq
  refine ⟨⟨ob, hob, hc⟩, fun b z => (by cases z; exact ⟨o, I1.kIn _ o hk, hd⟩), ?_⟩
  rw [m.trees]
  refine Calls.callWith_builtin rfl (Calls.evalArgs_plain (Calls.spliced_cons (thn (he.run pins s1 σ H1 _ I1 q1) fun iv s2 ⟨y, H2, I2, ry, q2⟩ => Calls.spliced_nil ?_)))
  exact call_tindex hu I2 ry q2
end
def idxP (xs : List D) (y : D) : Option D := match D.pys xs, y.py with
  | some ps, some p => if SeqAt.shaped (.tuple ps) && SeqAt.shaped p then (ps.findIdx? fun z => PyData.eqv z p).map fun j => .int (j : Nat) else none
  | _, _ => none
def tixK (xs : List D) (ev : EV) (Γ : En) : O EV := match ev with
  | .d y => (match idxP xs y with
    | some r => .ok (.d r) Γ
    | none => .fail)
  | _ => .fail
def tixE (c : D) (fa : EF) : EF := fun Γ => match c with
  | .tup xs => (fa Γ).bind (tixK xs)
  | _ => .fail
section
variable [Wrl] [Tabl]
variable {X : Cx} {W : WX} {a : Expr} {fa : EF} {x : Str} {d : D} {pos apos p : Pos}
theorem fe_tindex (hu : X.A.units + 65 < cLine) (hm : X.mg x = some (.ref (He.ga X.K x))) (ht : tdB X.K x = true) (h : GK X x d) (ha : FE X W a fa) (m : M1 X (.Name x pos) "index" apos a p := by exact ⟨rfl, rfl, rfl, rfl⟩) (hg : Gl X x := by rfl) (hd : (x == ("__debug__" : Str)) = false := by decide) :
    FE X W (.Call (.Attribute (.Name x pos) "index" apos) [a] [] p) (tixE d fa) := by
  obtain ⟨v, u, hm', r, k⟩ := h
  rw [hm] at hm'
  cases hm'
  obtain ⟨t, pt, s⟩ := ha
  refine ⟨_, pe_tindex hu (pe_glob hg hm r hd) pt m, fun F Γ σ H G R => ?_⟩
  unfold tixE
  split
  · rename_i xs
    obtain ⟨a', vs, rfl, sq, rs⟩ := (show Rep X.K G (.tup xs) v from k G)
    cases (show He.ga X.K x = a' from Value.ref.inj r)
    have hl : ∃ o, X.K.lookup (He.ga X.K x) = some o ∧ o.dict = none := by
      unfold tdB at ht
      split at ht
      · rename_i o e; exact ⟨o, e, Option.isNone_iff_eq_none.mp ht⟩
      · cases ht
    obtain ⟨o, h1, h2⟩ := hl
    refine Out.of (Out.bind (T' := fun y H2 Q => rIndexT X.K (.ref (He.ga X.K x)) y H2 Q) (s F Γ σ H G R) fun ev Γ1 w H1 G1 R1 le1 r1 => ?_) fun Q q => ⟨_, vs, o, rfl, SqT.le R.gh sq, h1, h2, q⟩
    unfold tixK
    split
    · rename_i y
      split
      · rename_i z ez
        unfold idxP at ez
        split at ez
        · rename_i ps p' e1 e2
          split at ez
          · rename_i hs
            obtain ⟨s1, s2⟩ := He.ba hs
            obtain ⟨j, e3, rfl⟩ := Option.map_eq_some_iff.mp ez
            obtain ⟨hj, g1, g2⟩ := List.findIdx?_eq_some_iff_getElem.mp e3
            have kG := k G1
            have dp := Rep.dp (.tup xs) _ (.tuple ps) (by unfold D.py; rw [e1]; rfl) (Rep.le R1.gh _ _ kG)
            have dy := Rep.dp y w p' e2 (Rep.le R1.gh _ _ (show Rep X.K G1 y w from r1))
            refine fun Q q => ⟨_, p', ps, j, ps[j], rfl, dp, dy, s1, s2, List.getElem?_eq_getElem hj, g1, fun m z' hm hz => ?_, q _ _ _ R1 (Le.refl _) rfl⟩
            obtain ⟨hm', rfl⟩ := List.getElem?_eq_some_iff.mp hz
            simpa using g2 m hm
          · cases ez
        · cases ez
      · trivial
    · trivial
  · trivial
end
end FL
namespace FL
open PySem PySem.Spec PyProof.Rows L2
mutual
def D.rp : D → Option PyData
  | .non => some .none
  | .bl b => some (.bool b)
  | .int i => some (.int i)
  | .str x => some (.str x)
  | .tup ds => (D.rps ds).map PyData.tuple
  | .dk ks ds => D.el (.dk ks ds)
  | _ => none
def D.rps : List D → Option (List PyData)
  | [] => some []
  | d :: ds => (D.rp d).bind fun p => (D.rps ds).map fun ps => p :: ps
end
section
variable [Wrl] [Tabl]
variable {X : Cx} {H : Hp} {pins : List (Addr × Obj)} {σ : St} {s : Shared}
mutual
theorem rp_reads (I : Inv X pins σ H s) : ∀ (d : D) (v : V) (u : Value) (p : PyData), D.rp d = some p → Rep X.K H d v → RelV v u → ∃ as, Reads s.heap u p as ∧ sysModules ∉ as
  | .tup ds, _, _, _, e, ⟨a, vs, ev, q, r⟩, rv => by
    obtain ⟨ps, e1, rfl⟩ := Option.map_eq_some_iff.mp (show (D.rps ds).map PyData.tuple = some _ from e)
    subst ev
    cases rv
    obtain ⟨its, rw', ⟨o, ho, hc, n, hd⟩, _⟩ := I.tuple q
    obtain ⟨as, hr, hn⟩ := rps_reads I ds vs its ps e1 r rw'
    exact ⟨_, Reads.tuple ho hc hd hr, hn⟩
  | .dk ks ds, _, _, _, e, r, q => el_reads I (.dk ks ds) _ _ _ e r q
  | .non, _, _, _, e, r, q => ⟨_, leaf_reads (.non) _ _ _ e r q, nofun⟩
  | .bl b, _, _, _, e, r, q => ⟨_, leaf_reads (.bl b) _ _ _ e r q, nofun⟩
  | .int i, _, _, _, e, r, q => ⟨_, leaf_reads (.int i) _ _ _ e r q, nofun⟩
  | .str x, _, _, _, e, r, q => ⟨_, leaf_reads (.str x) _ _ _ e r q, nofun⟩
  | .lst _, _, _, _, e, _, _ => by cases e
  | .scr _, _, _, _, e, _, _ => by cases e
  | .fk _ _, _, _, _, e, _, _ => by cases e
  | .dn _ _ _, _, _, _, e, _, _ => by cases e
  | .ins _ _ _, _, _, _, e, _, _ => by cases e
  | .exn _ _ _ _ _, _, _, _, e, _, _ => by cases e
  | .cls _, _, _, _, e, _, _ => by cases e
theorem rps_reads (I : Inv X pins σ H s) : ∀ (ds : List D) (vs : List V) (us : List Value) (ps : List PyData), D.rps ds = some ps → Reps X.K H ds vs → Vals vs us → ∃ as, ReadsAll s.heap us ps as ∧ sysModules ∉ as
  | [], _, _, _, e, r, q => by
    cases e
    rw [show _ = [] from r] at q
    cases q
    exact ⟨[], .nil, nofun⟩
  | d :: ds, _, _, _, e, ⟨v, vs, ev, r1, r2⟩, q => by
    obtain ⟨p, e1, e2⟩ := Option.bind_eq_some_iff.mp (show (D.rp d).bind (fun p => (D.rps ds).map fun ps => p :: ps) = some _ from e)
    obtain ⟨ps, e3, rfl⟩ := Option.map_eq_some_iff.mp e2
    subst ev
    cases q with
    | cons q1 q2 =>
      obtain ⟨as, i1, n1⟩ := rp_reads I d v _ p e1 r1 q1
      obtain ⟨bs, i2, n2⟩ := rps_reads I ds vs _ ps e3 r2 q2
      exact ⟨as ++ bs, .cons i1 i2, fun h => (List.mem_append.mp h).elim n1 n2⟩
end
end
def reprG (x : D) : Option D := if refK x then x.rp.bind fun p => (reprQ p).map D.str else none
def reprR (x : D) : Option D := match reprD x with
  | some r => some r
  | none => reprG x
section
variable [Wrl] [Tabl]
variable {X : Cx} {W : WX} {e : Expr} {f : EF} {pos : Pos}
theorem call_reprR (hg : X.A.guards = some []) (hu : X.A.units + 65 < cLine) : CallR X (.builtin "repr") (fun xs H Q => (∃ v p z, xs = [v] ∧ Dp X.K H v p ∧ reprP p = some z ∧ Q (.str z) H) ∨ ∃ d v p z, xs = [v] ∧ refK d = true ∧ D.rp d = some p ∧ Rep X.K H d v ∧ reprQ p = some z ∧ Q (.str z) H) := by
  intro pins s σ H xs us Q I r h
  rcases h with h | ⟨d, v, p, z, rfl, hd, hp, rp, hz, q⟩
  · exact call_reprD hg hu pins s σ H xs us Q I r h
  obtain ⟨w, rfl, rv⟩ := vals1 r
  unfold reprQ at hz
  split at hz
  · rename_i hc
    obtain ⟨c1, c3, c4⟩ := hc
    cases hz
    obtain ⟨as, rd, na⟩ := rp_reads I d v w p hp rp rv
    have ⟨a, ha⟩ : ∃ a, w = .ref a := by
      cases d with
      | dk ks ds => obtain ⟨a, kv, rfl, _⟩ := rp; cases rv; exact ⟨a, rfl⟩
      | tup ds => obtain ⟨a, vs, rfl, _⟩ := rp; cases rv; exact ⟨a, rfl⟩
      | _ => cases hd
    subst ha
    exact repr_of_reads' rd c1 (fun _ => na) hg (by omega) (fun _ _ e => e) (fun h' t tk hk => ⟨.str p.shown, H, I.kept (t' := tk) hk, ⟨t, rfl⟩, q⟩) c4
  · cases hz
theorem fe_reprR {p : Pos} (hgd : X.A.guards = some []) (hu : X.A.units + 65 < cLine) (hm : X.mg "repr" = none) (ha : FE X W e f) (hg : Gl X "repr" := by rfl) (he : starEach [e] X.env = (false, eval e X.env) :: starEach [] X.env := by rfl) : FE X W (.Call (.Name "repr" p) [e] [] pos) (opN (one reprR) (aCons f aNil)) := by
  refine fe_blt (call_reprR hgd hu) (opN_one fun F Γ σ H G d v x Q R r e q => ?_) hm (by decide +kernel) (fa_cons ha fa_nil he) hg (he := he) (hpl := by rfl)
  unfold reprR at e
  split at e
  · rename_i y e0
    cases e
    obtain ⟨p, e1, e2⟩ := Option.bind_eq_some_iff.mp (show d.py.bind (fun p => (reprP p).map D.str) = some x from e0)
    obtain ⟨z, e3, rfl⟩ := Option.map_eq_some_iff.mp e2
    exact .inl ⟨v, p, z, rfl, Rep.dp d v p e1 (r.rep R.gh), e3, q _ _ _ R (Le.refl G) rfl⟩
  · unfold reprG at e
    split at e
    · rename_i hk
      obtain ⟨p, e1, e2⟩ := Option.bind_eq_some_iff.mp e
      obtain ⟨z, e3, rfl⟩ := Option.map_eq_some_iff.mp e2
      exact .inr ⟨d, v, p, z, rfl, hk, e1, r.rep R.gh, e3, q _ _ _ R (Le.refl G) rfl⟩
    · cases e
end
end FL
namespace PF
open PySem PySem.Spec PyProof.Rows L2 FL
def is_row_x1 : EF := (op2 inD (vE 2) (cE c_DEEDS))
def is_row_b : SF := (seqS (ifS ((notT ((tstE ((isiE (isB "str") (vE 0))))))) (retS (cE (.bl false))) (nxS)) ((seqS (asgV 1 (vE' ((m1E splitD (vE 0) (cE c_BETWEEN))))) (retS ((andE ((op2 leD ((opN (one lenD) (aCons (vE 1) aNil))) (cE c_MOST_DEEDS))) ((opN (one allD) (aCons ((telV (compV [2] (anyI (vE 1)) (bName 2) (trueT) ((is_row_x1))))) aNil)))))))))
def is_row_F : DFn := runF none 3 is_row_b
def behind_deed_b : SF := (seqS (asgB (bSeq 2 (bCons (bName 4) (bCons (bName 5) bNil))) (vE 0)) ((seqS (asgV 6 (vE' ((ifE ((tstE (op2 eqD (vE 5) (cE (.str "you"))))) (vE 2) (vE 1))))) ((seqS (ifS ((tstE (op2 inD (vE 4) ((tupE (aCons (cE (.str "lock")) (aCons (cE (.str "tag")) aNil))))))) (retS ((tupE (aCons ((tupE (aCons (vE 4) (aCons (vE 6) aNil)))) (aStar (vE 3) aNil))))) (nxS)) ((seqS (ifS ((tstE (op2 eqD (vE 3) ((tupE aNil))))) (retS (cE .non)) (nxS)) ((seqS (asgB (bSeq 2 (bCons (bName 7) (bCons (bName 8) bNil))) ((op2 getD (vE 3) (cE (.int 0))))) ((seqS (ifS ((orT ((tstE (op2 neD (vE 4) ((op2 addD (cE (.str "un")) (vE 7)))))) ((andT ((tstE (op2 neD (vE 5) (cE (.str "any"))))) ((tstE (op2 neD (vE 8) (vE 6)))))))) (retS (cE .non)) (nxS)) (retS ((slE (vE 3) (oSome (cE (.int 1))) oNo))))))))))))))
def behind_deed_F : DFn := runF none 9 behind_deed_b
def done_x1 : SF := (seqS (asgV 3 (callV none 4 behind_deed_F [] (aCons (vE 4) (aCons (vE 1) (aCons (vE 2) (aCons (vE 3) aNil)))))) (ifS ((tstE (op2 isND (vE 3) (cE .non)))) (retS (cE .non)) (nxS)))
def done_b : SF := (seqS (forS (anyI (vE 0)) (bName 4) ((done_x1))) (retV (givV (vE 3))))
def done_F : DFn := runF none 5 done_b
def is_name_x1 : EF := (op2 inD (vE 1) (cE c_LETTERS))
def is_name_b : SF := retS ((andE ((isiE (isB "str") (vE 0))) ((andE ((chnE ltD ltD (cE (.int 0)) ((opN (one lenD) (aCons (vE 0) aNil))) (cE (.int 9)))) ((opN (one allD) (aCons ((telV (compV [1] (anyI (vE 0)) (bName 1) (trueT) ((is_name_x1))))) aNil)))))))
def is_name_F : DFn := runF none 2 is_name_b
def is_layer_b : SF := (seqS (ifS ((orT ((notT ((tstE ((isiE (isB "tuple") (vE 0))))))) ((orT ((tstE (op2 neD ((opN (one lenD) (aCons (vE 0) aNil))) (cE (.int 2))))) ((notT ((tstE ((isiE (isB "str") ((op2 getD (vE 0) (cE (.int 0)))))))))))))) (retS (cE (.bl false))) (nxS)) (retS ((andE ((op2 inD ((op2 getD (vE 0) (cE (.int 0)))) ((tupE (aCons (cE (.str "lock")) (aCons (cE (.str "tag")) aNil)))))) ((telV (callV none 1 is_name_F [] (aCons ((op2 getD (vE 0) (cE (.int 1)))) aNil))))))))
def is_layer_F : DFn := runF none 1 is_layer_b
def is_box_x1 : EF := (telV (callV none 1 is_layer_F [] (aCons (vE 1) aNil)))
def is_box_b : SF := retS ((andE ((isiE (isB "tuple") (vE 0))) ((andE ((op2 leD ((opN (one lenD) (aCons (vE 0) aNil))) (cE c_MOST_LAYERS))) ((opN (one allD) (aCons ((telV (compV [1] (anyI (vE 0)) (bName 1) (trueT) ((is_box_x1))))) aNil)))))))
def is_box_F : DFn := runF none 2 is_box_b
def deeds_of_x1 : EF := (opN (one tupD) (aCons ((m1E splitD (vE 1) (cE (.str " ")))) aNil))
def deeds_of_b : SF := retV (compV [1] (anyI ((m1E splitD (vE 0) (cE c_BETWEEN)))) (bName 1) (trueT) ((deeds_of_x1)))
def deeds_of_F : DFn := runF none 2 deeds_of_b
def box_begun_b : SF := retS ((ifE ((tstE ((telV (callV none 1 is_row_F [] (aCons (vE 0) aNil)))))) ((telV (callV none 4 done_F [] (aCons ((telV (callV none 1 deeds_of_F [] (aCons (vE 0) aNil)))) (aCons (cE c_WRITER) (aCons (cE c_READER) (aCons (cE c_LETTER) aNil))))))) (cE .non)))
def box_begun_F : DFn := runF none 1 box_begun_b
def is_integer_b : SF := retS ((andE ((isiE (isB "int") (vE 0))) ((notE ((isiE (isB "bool") (vE 0)))))))
def is_integer_F : DFn := runF none 1 is_integer_b
def is_between_b : SF := retS ((andE ((telV (callV none 1 is_integer_F [] (aCons (vE 0) aNil)))) ((chnE leD leD (vE 1) (vE 0) (vE 2)))))
def is_between_F : DFn := runF none 3 is_between_b
def Book___str___x1 : EF := (op2 addD (cE c_ANSWER) (vE 1))
def Book___str___b : SF := retS ((m1E joinD (cE (.str "\n")) ((op2 addD ((lstE (aCons ((op2 addD (cE c_FIRST) ((fldE "Book" "first_row" (vE 0))))) aNil))) ((telV (compV [1] (anyI ((fldE "Book" "answer_rows" (vE 0)))) (bName 1) (trueT) ((Book___str___x1)))))))))
def Book___str___F : DFn := runF none 2 Book___str___b
def Book_begun_b : SF := retS ((fldE "Book" "first_box" (vE 0)))
def Book_begun_F : DFn := runF none 1 Book_begun_b
def box_answered_b : SF := (seqS (ifS ((tstE (op2 neD ((opN (one lenD) (aCons (vE 1) aNil))) (cE (.int 3))))) (retS (cE .non)) (nxS)) ((seqS (asgB (bSeq 3 (bCons (bName 3) (bCons (bName 4) (bCons (bName 5) bNil)))) (vE 1)) ((seqS (ifS ((orT ((notT ((tstE ((telV (callV none 3 is_between_F [] (aCons (vE 3) (aCons (cE (.int 0)) (aCons ((op2 subD ((opN (one lenD) (aCons ((fldE "Book" "deeds" (vE 0))) aNil))) (cE (.int 1)))) aNil)))))))))) ((orT ((notT ((tstE ((telV (callV none 1 is_name_F [] (aCons (vE 4) aNil)))))))) ((notT ((tstE ((telV (callV none 1 is_name_F [] (aCons (vE 5) aNil)))))))))))) (retS (cE .non)) (nxS)) (retV (callV none 4 done_F [] (aCons ((op2 getD ((fldE "Book" "deeds" (vE 0))) (vE 3))) (aCons (vE 4) (aCons (vE 5) (aCons (vE 2) aNil)))))))))))
def box_answered_F : DFn := runF none 6 box_answered_b
def box_opened_b : SF := (seqS (ifS ((tstE (op2 eqD (vE 1) ((tupE aNil))))) (retS (cE .non)) (nxS)) ((seqS (asgB (bSeq 2 (bCons (bName 2) (bCons (bName 3) bNil))) ((op2 getD (vE 1) (cE (.int 0))))) (retS ((ifE ((andT ((tstE (op2 eqD (vE 0) ((op2 addD (cE (.str "un")) (vE 2)))))) ((orT ((tstE (op2 eqD (vE 2) (cE (.str "tag"))))) ((tstE (op2 eqD (vE 3) (cE c_THIEF)))))))) ((slE (vE 1) (oSome (cE (.int 1))) oNo)) (cE .non)))))))
def box_opened_F : DFn := runF none 4 box_opened_b
def box_behind_b : SF := (seqS (ifS ((orT ((notT ((tstE ((isiE (isB "tuple") (vE 2))))))) ((orT ((tstE (op2 ltD ((opN (one lenD) (aCons (vE 2) aNil))) (cE (.int 2))))) ((notT ((tstE ((isiE (isB "str") ((op2 getD (vE 2) (cE (.int 0)))))))))))))) (retS (cE .non)) (nxS)) ((seqS (ifS ((notT ((tstE ((telV (callV none 3 is_between_F [] (aCons ((op2 getD (vE 2) (cE (.int 1)))) (aCons (cE (.int 0)) (aCons ((op2 subD ((opN (one lenD) (aCons (vE 1) aNil))) (cE (.int 1)))) aNil)))))))))) (retS (cE .non)) (nxS)) ((seqS (parS [3, 4, 5] (vCons (vE' ((op2 getD (vE 2) (cE (.int 0))))) (vCons (vE' ((op2 getD (vE 1) ((op2 getD (vE 2) (cE (.int 1))))))) (vCons (vE' ((slE (vE 2) (oSome (cE (.int 2))) oNo))) vNil)))) ((seqS (ifS ((tstE (op2 inD (vE 3) ((tupE (aCons (cE (.str "lock")) (aCons (cE (.str "tag")) aNil))))))) (retS ((ifE ((andT ((tstE (op2 eqD ((opN (one lenD) (aCons (vE 5) aNil))) (cE (.int 1))))) ((tstE ((telV (callV none 1 is_name_F [] (aCons ((op2 getD (vE 5) (cE (.int 0)))) aNil)))))))) ((tupE (aCons ((tupE (aCons (vE 3) (aCons ((op2 getD (vE 5) (cE (.int 0)))) aNil)))) (aStar (vE 4) aNil)))) (cE .non)))) (nxS)) ((seqS (ifS ((tstE (op2 inD (vE 3) ((tupE (aCons (cE (.str "unlock")) (aCons (cE (.str "untag")) aNil))))))) (retS ((ifE ((tstE (op2 eqD ((opN (one lenD) (aCons (vE 5) aNil))) (cE (.int 0))))) ((telV (callV none 2 box_opened_F [] (aCons (vE 3) (aCons (vE 4) aNil))))) (cE .non)))) (nxS)) (retS ((ifE ((tstE (op2 eqD (vE 3) (cE (.str "answer"))))) ((telV (callV none 3 box_answered_F [] (aCons (vE 0) (aCons (vE 5) (aCons (vE 4) aNil)))))) (cE .non)))))))))))))
def box_behind_F : DFn := runF none 6 box_behind_b
def Mail_boxes_b : SF := retS ((fldE "Mail" "all_boxes" (vE 0)))
def Mail_boxes_F : DFn := runF none 1 Mail_boxes_b
def Mail_book_b : SF := retS ((fldE "Mail" "rules" (vE 0)))
def Mail_book_F : DFn := runF none 1 Mail_book_b
def check_answers_2_x1 : SF := ifS ((orT ((tstE (op2 eqD (vE 1) (cE c_MOST_ANSWERS)))) ((notT ((tstE ((telV (callV none 1 is_row_F [] (aCons (vE 2) aNil)))))))))) (raiseS "InvalidAnswers" "index" (aCons (vE 1) aNil)) (nxS)
def check_answers_2_b : SF := (seqS (ifS ((notT ((tstE ((isiE (isB "tuple") (vE 0))))))) (raiseS "InvalidAnswers" "index" (aCons (cE .non) aNil)) (nxS)) (forS (enumI (vE 0)) (bSeq 2 (bCons (bName 1) (bCons (bName 2) bNil))) ((check_answers_2_x1))))
def check_answers_2_F : DFn := runF none 3 check_answers_2_b
def Book___init___2_x1 : EF := (telV (callV none 1 deeds_of_F [] (aCons (vE 4) aNil)))
def Book___init___2_b : SF := (seqS (asgV 3 (callV none 1 box_begun_F [] (aCons (vE 1) aNil))) ((seqS (ifS ((tstE (op2 isND (vE 3) (cE .non)))) (raiseS "InvalidRow" "given" (aCons (vE 1) aNil)) (nxS)) ((seqS (exprS ((telV (callV none 1 check_answers_2_F [] (aCons (vE 2) aNil))))) ((seqS (setF 0 "Book" "first_row" (vE 1)) ((seqS (setF 0 "Book" "answer_rows" (vE 2)) ((seqS (setF 0 "Book" "first_box" (vE 3)) (setF 0 "Book" "deeds" ((telV (compV [4] (anyI (vE 2)) (bName 4) (trueT) ((Book___init___2_x1)))))))))))))))))
def Book___init___2_F : DFn := runF (some 0) 5 Book___init___2_b
def parts_of_x1 : EF := (telV (callV none 1 is_row_F [] (aCons (vE 5) aNil)))
def parts_of_x2 : EF := (m1E rpD (vE 4) (cE c_ANSWER))
def parts_of_x3 : TF := (tstE ((m1E swD (vE 4) (cE c_ANSWER))))
def parts_of_b : SF := (seqS (ifS ((notT ((tstE ((isiE (isB "str") (vE 0))))))) (retS (cE .non)) (nxS)) ((seqS (asgB (bHr (bName 1) (bName 2)) ((m1E splitD (vE 0) (cE (.str "\n"))))) ((seqS (ifS ((orT ((notT ((tstE ((m1E swD (vE 1) (cE c_FIRST))))))) ((orT ((tstE (op2 isND ((telV (callV none 1 box_begun_F [] (aCons ((m1E rpD (vE 1) (cE c_FIRST))) aNil)))) (cE .non)))) ((tstE (op2 gtD ((opN (one lenD) (aCons (vE 2) aNil))) (cE c_MOST_ANSWERS)))))))) (retS (cE .non)) (nxS)) ((seqS (asgV 3 (vE' ((opN (one tupD) (aCons ((telV (compV [4] (anyI (vE 2)) (bName 4) ((parts_of_x3)) ((parts_of_x2))))) aNil))))) ((seqS (ifS ((orT ((tstE (op2 ltD ((opN (one lenD) (aCons (vE 3) aNil))) ((opN (one lenD) (aCons (vE 2) aNil)))))) ((notT ((tstE ((opN (one allD) (aCons ((telV (compV [5] (anyI (vE 3)) (bName 5) (trueT) ((parts_of_x1))))) aNil))))))))) (retS (cE .non)) (nxS)) (retS ((tupE (aCons ((m1E rpD (vE 1) (cE c_FIRST))) (aCons (vE 3) aNil))))))))))))))
def parts_of_F : DFn := runF none 6 parts_of_b
def _law_sip_b : SF := (seqS (asgB (bSub 0 2) ((op2 addD ((op2 getD (vE 0) (cE (.int 2)))) (cE (.int 1))))) ((seqS (ifS ((tstE (op2 gtD ((op2 getD (vE 0) (cE (.int 0)))) (cE (.int 0))))) ((seqS (asgB (bSeq 2 (bCons (bSub 0 0) (bCons (bName 2) bNil))) ((opN (two dmD) (aCons ((op2 getD (vE 0) (cE (.int 0)))) (aCons (vE 1) aNil))))) (retV (givV (vE 2))))) (nxS)) ((seqS (asgB (bSub 0 1) ((op2 modD ((opN (one intC) (aCons ((op2 addD ((op2 mulD ((op2 getD (vE 0) (cE (.int 1)))) (cE (.int 48271)))) ((op2 mulD (cE (.int 6089)) ((op2 getD (vE 0) (cE (.int 2)))))))) aNil))) (cE (.int 2147483477))))) (retS ((op2 modD ((opN (one intC) (aCons ((op2 fdivD ((op2 getD (vE 0) (cE (.int 1)))) (cE (.int 1024)))) aNil))) (vE 1)))))))))
def _law_sip_F : DFn := runF (some 0) 3 _law_sip_b
def check_book_3_b : SF := ifS ((notT ((tstE ((isiE (isC ["Book", "Mail", "Rule"] "Book") (vE 0))))))) (raiseS "NotABook" "given" (aCons (vE 0) aNil)) (nxS)
def check_book_3_F : DFn := runF none 1 check_book_3_b
def Mail___init___3_b : SF := (seqS (exprS ((telV (callV none 1 check_book_3_F [] (aCons (vE 1) aNil))))) ((seqS (setF 0 "Mail" "rules" (vE 1)) (setF 0 "Mail" "all_boxes" ((tupE (aCons ((telV (propV "Book" Book_begun_F (vE 1)))) aNil)))))))
def Mail___init___3_F : DFn := runF (some 0) 2 Mail___init___3_b
def Mail_joined_3_b : SF := (seqS (asgV 2 (makeV 1 Mail___init___3_F "Mail" [] (aCons ((fldE "Mail" "rules" (vE 0))) aNil))) ((seqS (setF 2 "Mail" "all_boxes" ((tupE (aStar ((fldE "Mail" "all_boxes" (vE 0))) (aCons (vE 1) aNil))))) (retV (givV (vE 2))))))
def Mail_joined_3_F : DFn := runF none 3 Mail_joined_3_b
def Mail_led_4_x1 : SF := (seqS (asgV 5 (callV none 3 box_behind_F [] (aCons ((telV (propV "Mail" Mail_book_F (vE 2)))) (aCons ((telV (propV "Mail" Mail_boxes_F (vE 2)))) (aCons (vE 4) aNil))))) ((seqS (ifS ((tstE (op2 isND (vE 5) (cE .non)))) (raiseS "InvalidSteps" "index" (aCons (vE 3) aNil)) (nxS)) (asgV 2 (methV none 1 "Mail" "joined" Mail_joined_3_F [] (vE 2) (aCons (vE 5) aNil))))))
def Mail_led_4_b : SF := (seqS (ifS ((notT ((tstE ((isiE (isB "tuple") (vE 1))))))) (raiseS "InvalidSteps" "index" (aCons (cE .non) aNil)) (nxS)) ((seqS (asgV 2 (vE' (vE 0))) ((seqS (forS (enumI (vE 1)) (bSeq 2 (bCons (bName 3) (bCons (bName 4) bNil))) ((Mail_led_4_x1))) (retV (givV (vE 2))))))))
def Mail_led_4_F : DFn := runF none 6 Mail_led_4_b
def shows_got_x1 : SF := asgV 4 (methV none 1 "Mail" "led" Mail_led_4_F [] ((telV (makeV 1 Mail___init___3_F "Mail" [] (aCons (vE 0) aNil)))) (aCons (vE 3) aNil))
def shows_got_b : SF := (seqS (tryO "InvalidSteps" ((.bl false)) ((shows_got_x1))) (retS ((andE ((op2 leD ((opN (one lenD) (aCons (vE 3) aNil))) (vE 2))) ((op2 eqD ((op2 getD ((telV (propV "Mail" Mail_boxes_F (vE 4)))) ((negE (cE (.int 1)))))) (vE 1)))))))
def shows_got_F : DFn := runF none 5 shows_got_b
def Book_read_3_b : SF := (seqS (asgV 2 (callV none 1 parts_of_F [] (aCons (vE 1) aNil))) ((seqS (ifS ((tstE (op2 isND (vE 2) (cE .non)))) (raiseS "InvalidText" "given" (aCons (vE 1) aNil)) (nxS)) ((seqS (asgB (bSeq 2 (bCons (bName 3) (bCons (bName 4) bNil))) (vE 2)) (retV (makeL 0 2 Book___init___2_F "Book" [] (aCons (vE 3) (aCons (vE 4) aNil)))))))))
def Book_read_3_F : DFn := runF none 5 Book_read_3_b
def book_of_x1 : SF := retV (cmV 1 "Book" Book_read_3_F [] (aCons (vE 0) aNil))
def book_of_b : SF := tryO "InvalidText" (.non) ((book_of_x1))
def book_of_F : DFn := runF none 1 book_of_b
def is_known_x1 : EF := (op2 inD ((op2 getD (vE 1) (cE (.int 1)))) (cE c_PEOPLE))
def is_known_b : SF := retS ((andE ((telV (callV none 1 is_box_F [] (aCons (vE 0) aNil)))) ((opN (one allD) (aCons ((telV (compV [1] (anyI (vE 0)) (bName 1) (trueT) ((is_known_x1))))) aNil)))))
def is_known_F : DFn := runF none 2 is_known_b
def book_in_b : SF := (seqS (ifS ((orT ((notT ((tstE ((isiE (isB "tuple") (vE 0))))))) ((orT ((tstE (op2 eqD ((opN (one lenD) (aCons (vE 0) aNil))) (cE (.int 0))))) ((notT ((tstE ((isiE (isB "str") ((op2 getD (vE 0) (cE (.int 0)))))))))))))) (retS (cE .non)) (nxS)) ((seqS (ifS ((orT ((tstE (op2 neD ((kgE [.inr "got", .inr "never"] [(.int 4), (.int 3)] ((op2 getD (vE 0) (cE (.int 0)))))) ((opN (one lenD) (aCons (vE 0) aNil)))))) ((notT ((tstE ((telV (callV none 1 is_known_F [] (aCons ((op2 getD (vE 0) (cE (.int 2)))) aNil)))))))))) (retS (cE .non)) (nxS)) ((seqS (ifS ((andT ((tstE (op2 eqD ((opN (one lenD) (aCons (vE 0) aNil))) (cE (.int 4))))) ((orT ((notT ((tstE ((telV (callV none 1 is_integer_F [] (aCons ((op2 getD (vE 0) (cE (.int 3)))) aNil)))))))) ((tstE (op2 ltD ((op2 getD (vE 0) (cE (.int 3)))) (cE (.int 0))))))))) (retS (cE .non)) (nxS)) (retV (callV none 1 book_of_F [] (aCons ((op2 getD (vE 0) (cE (.int 1)))) aNil))))))))
def book_in_F : DFn := runF none 1 book_in_b
def _law_deed_b : SF := (seqS (asgB (bSeq 2 (bCons (bName 4) (bCons (bName 5) bNil))) ((m1E splitD (vE 1) (cE (.str " "))))) ((seqS (asgV 6 (vE' ((ifE ((tstE (op2 eqD (vE 5) (cE (.str "me"))))) (vE 2) (vE 3))))) ((seqS (ifS ((tstE (op2 inD (vE 4) ((lstE (aCons (cE (.str "lock")) (aCons (cE (.str "tag")) aNil))))))) (retV (addV ((tupE (aCons ((tupE (aCons (vE 4) (aCons (vE 6) aNil)))) aNil))) (vE 0))) (nxS)) ((seqS (ifS ((orT ((tstE (op2 eqD (vE 0) ((tupE aNil))))) ((tstE (op2 neD ((op2 getD ((op2 getD (vE 0) (cE (.int 0)))) (cE (.int 0)))) ((ifE ((tstE (op2 eqD (vE 4) (cE (.str "unlock"))))) (cE (.str "lock")) (cE (.str "tag"))))))))) (retS (cE .non)) (nxS)) (retS ((ifE ((orT ((tstE (op2 eqD (vE 5) (cE (.str "any"))))) ((tstE (op2 eqD ((op2 getD ((op2 getD (vE 0) (cE (.int 0)))) (cE (.int 1)))) (vE 6)))))) ((slE (vE 0) (oSome (cE (.int 1))) oNo)) (cE .non)))))))))))
def _law_deed_F : DFn := runF none 7 _law_deed_b
def _law_done_2_x1 : SF := ifS ((tstE (op2 notND (vE 3) (cE .non)))) (asgV 3 (callV none 4 _law_deed_F [] (aCons (vE 3) (aCons (vE 4) (aCons (vE 1) (aCons (vE 2) aNil)))))) (nxS)
def _law_done_2_b : SF := (seqS (forS (anyI (vE 0)) (bName 4) ((_law_done_2_x1))) (retV (givV (vE 3))))
def _law_done_2_F : DFn := runF none 5 _law_done_2_b
def _law_begun_b : SF := retV (callV none 4 _law_done_2_F [] (aCons ((op2 getD (vE 0) (cE (.int 0)))) (aCons (cE (.str "ann")) (aCons (cE (.str "bob")) (aCons ((tupE aNil)) aNil)))))
def _law_begun_F : DFn := runF none 1 _law_begun_b
def _law_vol_x1 : EF := (m1E joinD (cE (.str "; ")) (vE 1))
def _law_vol_b : SF := retV (makeV 2 Book___init___2_F "Book" [] (aCons ((m1E joinD (cE (.str "; ")) ((op2 getD (vE 0) (cE (.int 0)))))) (aCons ((opN (one tupD) (aCons ((telV (compV [1] (anyI ((op2 getD (vE 0) (cE (.int 1))))) (bName 1) (trueT) ((_law_vol_x1))))) aNil))) aNil)))
def _law_vol_F : DFn := runF none 2 _law_vol_b
def _law_answer_x1 : SF := (seqS (asgV 4 (vE' ((op2 getD (vE 1) ((telV (callV (some 0) 2 _law_sip_F [] (aCons (vE 0) (aCons (cE (.int 9)) aNil))))))))) (appS 2 ((ifE ((andT ((tstE (op2 eqD (vE 4) (cE (.str "untag any"))))) ((tstE (op2 inD (vE 4) (vE 2)))))) (cE (.str "untag you")) (vE 4)))))
def _law_answer_b : SF := (seqS (asgV 1 (lstN (aCons (cE (.str "lock you")) (aCons (cE (.str "lock you")) (aCons (cE (.str "lock me")) (aCons (cE (.str "untag you")) (aCons (cE (.str "untag me")) (aCons (cE (.str "untag any")) (aCons (cE (.str "tag me")) (aCons (cE (.str "tag you")) (aCons (cE (.str "unlock me")) aNil))))))))))) ((seqS (asgV 2 (ifV ((tstE (op2 gtD ((telV (callV (some 0) 2 _law_sip_F [] (aCons (vE 0) (aCons (cE (.int 4)) aNil))))) (cE (.int 0))))) (lstN (aCons (cE (.str "unlock me")) aNil)) (lstN aNil))) ((seqS (forS (rng1 (aCons ((op2 addD (cE (.int 1)) ((telV (callV (some 0) 2 _law_sip_F [] (aCons (vE 0) (aCons (cE (.int 3)) aNil))))))) aNil)) (bName 3) ((_law_answer_x1))) (retV (givV (vE 2))))))))
def _law_answer_F : DFn := runF (some 0) 5 _law_answer_b
def _law_first_2_x1 : EF := (op2 getD (vE 1) ((telV (callV (some 0) 2 _law_sip_F [] (aCons (vE 0) (aCons (cE (.int 5)) aNil))))))
def _law_first_2_b : SF := (seqS (asgV 1 (lstN (aCons (cE (.str "lock you")) (aCons (cE (.str "lock you")) (aCons (cE (.str "lock me")) (aCons (cE (.str "tag me")) (aCons (cE (.str "tag you")) aNil))))))) (retV (compV [2] (rng1 (aCons ((op2 addD (cE (.int 1)) ((telV (callV (some 0) 2 _law_sip_F [] (aCons (vE 0) (aCons (cE (.int 3)) aNil))))))) aNil)) (bName 2) (trueT) ((_law_first_2_x1)))))
def _law_first_2_F : DFn := runF (some 0) 3 _law_first_2_b
def _law_sketch_x1 : EF := (telV (callV (some 0) 1 _law_answer_F [] (aCons (vE 0) aNil)))
def _law_sketch_b : SF := retV (lstN (aCons ((telV (callV (some 0) 1 _law_first_2_F [] (aCons (vE 0) aNil)))) (aCons ((telV (compV [2] (rng1 (aCons ((telV (callV (some 0) 2 _law_sip_F [] (aCons (vE 0) (aCons ((op2 addD (vE 1) (cE (.int 1)))) aNil))))) aNil)) (bName 2) (trueT) ((_law_sketch_x1))))) aNil)))
def _law_sketch_F : DFn := runF (some 0) 3 _law_sketch_b
def _law_cup_x1 : SF := asgV 3 (vE' ((op2 modD ((opN (one intC) (aCons ((op2 addD ((op2 mulD (vE 3) (cE (.int 26021)))) (vE 4))) aNil))) (cE (.int 2147483477)))))
def _law_cup_b : SF := (seqS (asgV 2 (vE' ((ifE ((tstE (op2 ltD (vE 1) ((opN (one lenD) (aCons (vE 0) aNil)))))) ((op2 getD (vE 0) (vE 1))) ((op2 addD (vE 1) (cE (.int 2)))))))) ((seqS (asgV 3 (addV (cE (.int 30011)) ((op2 mulD (cE (.int 9013)) (vE 1))))) ((seqS (forS (anyI ((op2 addD ((slE (vE 0) oNo (oSome (cE (.int 4))))) ((lstE (aCons (vE 2) aNil)))))) (bName 4) ((_law_cup_x1))) (retV (lstN (aCons ((ifE ((orT ((tstE (op2 ltD (vE 2) (cE (.int 0))))) ((tstE (op2 geD (vE 2) ((op2 powD (cE (.int 10)) (cE (.int 18))))))))) ((opN (one absD) (aCons (vE 2) aNil))) (cE (.int 0)))) (aCons (vE 3) (aCons (cE (.int 0)) aNil))))))))))
def _law_cup_F : DFn := runF none 5 _law_cup_b
def Rule___init___b : SF := (seqS (setF 0 "Rule" "taken" (vE 1)) ((seqS (setF 0 "Rule" "put" (vE 2)) (setF 0 "Rule" "step" (vE 3)))))
def Rule___init___F : DFn := runF (some 0) 4 Rule___init___b
def fits_b : SF := (seqS (asgB (bSeq 2 (bCons (bName 4) (bCons (bName 5) bNil))) (vE 1)) ((seqS (ifS ((tstE (op2 eqD (vE 4) (cE (.str "unlock"))))) (retS ((op2 eqD (vE 0) ((tupE (aCons (cE (.str "lock")) (aCons (vE 2) aNil))))))) (nxS)) (retS ((andE ((op2 eqD ((op2 getD (vE 0) (cE (.int 0)))) (cE (.str "tag")))) ((orE ((op2 eqD (vE 5) (cE (.str "any")))) ((op2 eqD ((op2 getD (vE 0) (cE (.int 1)))) ((ifE ((tstE (op2 eqD (vE 5) (cE (.str "me"))))) (vE 2) (vE 3)))))))))))))
def fits_F : DFn := runF none 6 fits_b
def layers_of_x1 : EF := vE 6
def layers_of_x2 : TF := (tstE ((telV (callV none 4 fits_F [] (aCons (vE 6) (aCons (vE 0) (aCons (vE 1) (aCons (vE 2) aNil))))))))
def layers_of_x3 : EF := (tupE (aCons (vE 4) (aCons (vE 5) aNil)))
def layers_of_b : SF := (seqS (asgV 3 (compV2 [4, 5] (anyI ((tupE (aCons (cE (.str "lock")) (aCons (cE (.str "tag")) aNil))))) (bName 4) (trueT) [5] (anyI (cE c_PEOPLE)) (bName 5) (trueT) ((layers_of_x3)))) (retV (compV [6] (anyI (vE 3)) (bName 6) ((layers_of_x2)) ((layers_of_x1)))))
def layers_of_F : DFn := runF none 7 layers_of_b
def pairs_behind_x1 : EF := (tupE (aCons ((tupE (aStar (vE 8) (aCons (vE 6) aNil)))) (aCons ((tupE aNil)) aNil)))
def pairs_behind_x2 : SF := ifS ((tstE (op2 eqD (vE 9) ((tupE aNil))))) (extS 7 (compV [6] (anyI ((telV (callV none 3 layers_of_F [] (aCons (vE 1) (aCons (vE 2) (aCons (vE 3) aNil))))))) (bName 6) (trueT) ((pairs_behind_x1)))) (ifS ((tstE ((telV (callV none 4 fits_F [] (aCons ((op2 getD (vE 9) (cE (.int 0)))) (aCons (vE 1) (aCons (vE 2) (aCons (vE 3) aNil))))))))) (appS 7 ((tupE (aCons (vE 8) (aCons ((slE (vE 9) (oSome (cE (.int 1))) oNo)) aNil))))) (nxS))
def pairs_behind_x3 : EF := (tupE (aCons (vE 8) (aCons ((tupE (aCons (vE 6) (aStar (vE 9) aNil)))) aNil)))
def pairs_behind_b : SF := (seqS (asgB (bSeq 2 (bCons (bName 4) (bCons (bName 5) bNil))) (vE 1)) ((seqS (ifS ((tstE (op2 inD (vE 4) ((tupE (aCons (cE (.str "lock")) (aCons (cE (.str "tag")) aNil))))))) ((seqS (asgV 6 (vE' ((tupE (aCons (vE 4) (aCons ((ifE ((tstE (op2 eqD (vE 5) (cE (.str "me"))))) (vE 2) (vE 3))) aNil)))))) (retV (compV [8, 9] (anyI (vE 0)) (bSeq 2 (bCons (bName 8) (bCons (bName 9) bNil))) (trueT) ((pairs_behind_x3)))))) (nxS)) ((seqS (asgV 7 (lstN aNil)) ((seqS (forS (anyI (vE 0)) (bSeq 2 (bCons (bName 8) (bCons (bName 9) bNil))) ((pairs_behind_x2))) (retV (givV (vE 7))))))))))
def pairs_behind_F : DFn := runF none 10 pairs_behind_b
def rules_of_answer_x1 : EF := (telV (makeV 3 Rule___init___F "Rule" [] (aCons (vE 6) (aCons (vE 7) (aCons ((tupE (aCons (cE (.str "answer")) (aCons (vE 1) (aCons (vE 2) (aCons (vE 3) aNil)))))) aNil)))))
def rules_of_answer_x2 : SF := asgV 4 (callV none 4 pairs_behind_F [] (aCons (vE 4) (aCons (vE 5) (aCons (vE 2) (aCons (vE 3) aNil)))))
def rules_of_answer_b : SF := (seqS (asgV 4 (lstN (aCons ((tupE (aCons ((tupE aNil)) (aCons ((tupE aNil)) aNil)))) aNil))) ((seqS (forS (anyI (vE 0)) (bName 5) ((rules_of_answer_x2))) (retV (compV [6, 7] (anyI (vE 4)) (bSeq 2 (bCons (bName 6) (bCons (bName 7) bNil))) (trueT) ((rules_of_answer_x1)))))))
def rules_of_answer_F : DFn := runF none 8 rules_of_answer_b
def rules_of_x1 : EF := vE 7
def rules_of_x2 : TF := (tstE (op2 neD ((op2 getD (vE 10) (cE (.int 0)))) ((op2 getD (vE 10) (cE (.int 1))))))
def rules_of_x3 : SF := exprS ((sdE 6 ((tupE (aCons ((fldE "Rule" "taken" (vE 7))) (aCons ((fldE "Rule" "put" (vE 7))) aNil)))) (vE 7)))
def rules_of_x4 : SF := extS 1 (callV none 4 rules_of_answer_F [] (aCons (vE 3) (aCons (vE 2) (aCons (vE 4) (aCons (vE 5) aNil)))))
def rules_of_x5 : SF := forS (anyI (cE c_PEOPLE)) (bName 5) ((rules_of_x4))
def rules_of_x6 : SF := forS (anyI (cE c_PEOPLE)) (bName 4) ((rules_of_x5))
def rules_of_x7 : EF := (telV (makeV 3 Rule___init___F "Rule" [] (aCons ((tupE (aCons ((tupE (aCons (cE (.str "tag")) (aCons (vE 9) aNil)))) aNil))) (aCons ((tupE aNil)) (aCons ((tupE (aCons (cE (.str "untag")) aNil))) aNil)))))
def rules_of_x8 : EF := (telV (makeV 3 Rule___init___F "Rule" [] (aCons ((tupE aNil)) (aCons ((tupE (aCons ((tupE (aCons (vE 8) (aCons (vE 9) aNil)))) aNil))) (aCons ((tupE (aCons (vE 8) (aCons (vE 9) aNil)))) aNil)))))
def rules_of_b : SF := (seqS (asgV 1 (compV2 [8, 9] (anyI ((tupE (aCons (cE (.str "lock")) (aCons (cE (.str "tag")) aNil))))) (bName 8) (trueT) [9] (anyI (cE c_PEOPLE)) (bName 9) (trueT) ((rules_of_x8)))) ((seqS (appS 1 ((telV (makeV 3 Rule___init___F "Rule" [] (aCons ((tupE (aCons ((tupE (aCons (cE (.str "lock")) (aCons (cE c_THIEF) aNil)))) aNil))) (aCons ((tupE aNil)) (aCons ((tupE (aCons (cE (.str "unlock")) aNil))) aNil))))))) ((seqS (extS 1 (compV [9] (anyI (cE c_PEOPLE)) (bName 9) (trueT) ((rules_of_x7)))) ((seqS (forS (enumI ((fldE "Book" "deeds" (vE 0)))) (bSeq 2 (bCons (bName 2) (bCons (bName 3) bNil))) ((rules_of_x6))) ((seqS (asgV 6 dct0) ((seqS (forS (anyI (vE 1)) (bName 7) ((rules_of_x3))) (retV (compV [10, 7] (itmV (vE' (vE 6))) (bSeq 2 (bCons (bName 10) (bCons (bName 7) bNil))) ((rules_of_x2)) ((rules_of_x1)))))))))))))))
def rules_of_F : DFn := runF none 11 rules_of_b
def state_behind_x1 : SF := asgV 1 (vE' ((op2 getD ((op2 getD (vE 0) (vE 1))) ((tixE c_LAYERS (vE 3))))))
def state_behind_b : SF := (seqS (forS (anyI ((revE (vE 2)))) (bName 3) ((state_behind_x1))) (retV (givV (vE 1))))
def state_behind_F : DFn := runF none 4 state_behind_b
def keeps_x1 : SF := ifS ((andT ((tstE (op2 inD ((telV (callV none 3 state_behind_F [] (aCons (vE 0) (aCons (vE 3) (aCons ((fldE "Rule" "taken" (vE 2))) aNil)))))) (vE 1)))) ((tstE (op2 ninD ((telV (callV none 3 state_behind_F [] (aCons (vE 0) (aCons (vE 3) (aCons ((fldE "Rule" "put" (vE 2))) aNil)))))) (vE 1)))))) (retS (cE (.bl false))) (nxS)
def keeps_b : SF := (seqS (forS (rng1 (aCons ((opN (one lenD) (aCons (vE 0) aNil))) aNil)) (bName 3) ((keeps_x1))) (retS (cE (.bl true))))
def keeps_F : DFn := runF none 4 keeps_b
def is_row_of_x1 : EF := (telV (callV none 3 is_between_F [] (aCons (vE 2) (aCons (cE (.int 0)) (aCons ((op2 subD (vE 1) (cE (.int 1)))) aNil)))))
def is_row_of_b : SF := retS ((andE ((isiE (isB "tuple") (vE 0))) ((andE ((op2 eqD ((opN (one lenD) (aCons (vE 0) aNil))) ((opN (one lenD) (aCons (cE c_LAYERS) aNil))))) ((opN (one allD) (aCons ((telV (compV [2] (anyI (vE 0)) (bName 2) (trueT) ((is_row_of_x1))))) aNil)))))))
def is_row_of_F : DFn := runF none 3 is_row_of_b
def is_table_x1 : EF := (op2 ltD (vE 4) (vE 5))
def is_table_x2 : EF := (telV (callV none 3 is_between_F [] (aCons (vE 3) (aCons (cE (.int 0)) (aCons ((op2 subD ((opN (one lenD) (aCons (vE 0) aNil))) (cE (.int 1)))) aNil)))))
def is_table_x3 : EF := (telV (callV none 2 is_row_of_F [] (aCons (vE 2) (aCons ((opN (one lenD) (aCons (vE 0) aNil))) aNil))))
def is_table_b : SF := (seqS (ifS ((orT ((notT ((tstE ((isiE (isB "tuple") (vE 0))))))) ((orT ((tstE (op2 eqD ((opN (one lenD) (aCons (vE 0) aNil))) (cE (.int 0))))) ((notT ((tstE ((isiE (isB "tuple") (vE 1))))))))))) (retS (cE (.bl false))) (nxS)) ((seqS (ifS ((notT ((tstE ((opN (one allD) (aCons ((telV (compV [2] (anyI (vE 0)) (bName 2) (trueT) ((is_table_x3))))) aNil))))))) (retS (cE (.bl false))) (nxS)) ((seqS (ifS ((notT ((tstE ((opN (one allD) (aCons ((telV (compV [3] (anyI (vE 1)) (bName 3) (trueT) ((is_table_x2))))) aNil))))))) (retS (cE (.bl false))) (nxS)) (retS ((opN (one allD) (aCons ((telV (compV [4, 5] (zipI (aCons (vE 1) (aCons ((slE (vE 1) (oSome (cE (.int 1))) oNo)) aNil))) (bSeq 2 (bCons (bName 4) (bCons (bName 5) bNil))) (trueT) ((is_table_x1))))) aNil)))))))))
def is_table_F : DFn := runF none 6 is_table_b
def shows_never_x1 : EF := (telV (callV none 3 keeps_F [] (aCons (vE 3) (aCons (vE 4) (aCons (vE 5) aNil)))))
def shows_never_b : SF := (seqS (ifS ((orT ((notT ((tstE ((isiE (isB "tuple") (vE 2))))))) ((tstE (op2 neD ((opN (one lenD) (aCons (vE 2) aNil))) (cE (.int 2))))))) (retS (cE (.bl false))) (nxS)) ((seqS (asgB (bSeq 2 (bCons (bName 3) (bCons (bName 4) bNil))) (vE 2)) ((seqS (ifS ((notT ((tstE ((telV (callV none 2 is_table_F [] (aCons (vE 3) (aCons (vE 4) aNil))))))))) (retS (cE (.bl false))) (nxS)) ((seqS (ifS ((orT ((tstE (op2 ninD ((telV (callV none 3 state_behind_F [] (aCons (vE 3) (aCons (cE (.int 0)) (aCons ((telV (propV "Book" Book_begun_F (vE 0)))) aNil)))))) (vE 4)))) ((tstE (op2 inD ((telV (callV none 3 state_behind_F [] (aCons (vE 3) (aCons (cE (.int 0)) (aCons (vE 1) aNil)))))) (vE 4)))))) (retS (cE (.bl false))) (nxS)) (retS ((opN (one allD) (aCons ((telV (compV [5] (anyI ((telV (callV none 1 rules_of_F [] (aCons (vE 0) aNil))))) (bName 5) (trueT) ((shows_never_x1))))) aNil)))))))))))
def shows_never_F : DFn := runF none 6 shows_never_b
def accepts_2_b : SF := (seqS (asgV 2 (callV none 1 book_in_F [] (aCons (vE 0) aNil))) ((seqS (ifS ((tstE (op2 isND (vE 2) (cE .non)))) (retS (cE (.bl false))) (nxS)) ((seqS (ifS ((tstE (op2 eqD ((op2 getD (vE 0) (cE (.int 0)))) (cE (.str "got"))))) (retV (callV none 4 shows_got_F [] (aCons (vE 2) (aCons ((op2 getD (vE 0) (cE (.int 2)))) (aCons ((op2 getD (vE 0) (cE (.int 3)))) (aCons (vE 1) aNil)))))) (nxS)) (retV (callV none 3 shows_never_F [] (aCons (vE 2) (aCons ((op2 getD (vE 0) (cE (.int 2)))) (aCons (vE 1) aNil))))))))))
def accepts_2_F : DFn := runF none 3 accepts_2_b
def _law_is_known_x1 : EF := vE 2
def _law_is_known_x2 : TF := (tstE (op2 ninD ((opN (one reprD) (aCons (vE 2) aNil))) (vE 1)))
def _law_is_known_b : SF := (seqS (asgV 1 (lstN (aCons (cE (.str "('lock', 'ann')")) (aCons (cE (.str "('lock', 'bob')")) (aCons (cE (.str "('lock', 'zed')")) (aCons (cE (.str "('tag', 'ann')")) (aCons (cE (.str "('tag', 'bob')")) aNil))))))) ((seqS (appS 1 (cE (.str "('tag', 'zed')"))) ((seqS (ifS ((orT ((notT ((tstE ((isiE (isB "tuple") (vE 0))))))) ((tstE (op2 gtD ((opN (one lenD) (aCons (vE 0) aNil))) (cE (.int 12))))))) (retS (cE (.bl false))) (nxS)) (retS ((op2 eqD ((telV (compV [2] (anyI (vE 0)) (bName 2) ((_law_is_known_x2)) ((_law_is_known_x1))))) ((lstE aNil))))))))))
def _law_is_known_F : DFn := runF none 3 _law_is_known_b
def _law_never_right_b : SF := (seqS (ifS ((orT ((notT ((tstE ((isiE (isB "tuple") (vE 1))))))) ((tstE (op2 neD ((opN (one lenD) (aCons (vE 1) aNil))) (cE (.int 3))))))) (retS (cE (.bl false))) (nxS)) ((seqS (ifS ((tstE (op2 neD ((opN (one reprR) (aCons ((slE (vE 1) oNo (oSome (cE (.int 2))))) aNil))) ((opN (one reprD) (aCons ((tupE (aCons (cE (.str "never")) (aCons (vE 0) aNil)))) aNil)))))) (retS (cE (.bl false))) (nxS)) (retS ((andE ((telV (callV none 1 _law_is_known_F [] (aCons ((op2 getD (vE 1) (cE (.int 2)))) aNil)))) ((orE ((op2 eqD ((op2 getD (vE 1) (cE (.int 2)))) ((tupE aNil)))) ((op2 neD ((op2 getD ((op2 getD (vE 1) (cE (.int 2)))) ((negE (cE (.int 1)))))) ((tupE (aCons (cE (.str "lock")) (aCons (cE (.str "bob")) aNil))))))))))))))
def _law_never_right_F : DFn := runF none 2 _law_never_right_b
def _law_bent_3_b : SF := (seqS (parS [3, 4] (vCons (callV (some 0) 2 _law_sip_F [] (aCons (vE 0) (aCons ((opN (one lenD) (aCons (vE 1) aNil))) aNil))) (vCons (callV (some 0) 2 _law_sip_F [] (aCons (vE 0) (aCons (cE (.int 8)) aNil))) vNil))) ((seqS (asgV 5 (vE' ((op2 getD (vE 2) ((telV (callV (some 0) 2 _law_sip_F [] (aCons (vE 0) (aCons ((opN (one lenD) (aCons (vE 2) aNil))) aNil))))))))) ((seqS (ifS ((tstE (op2 ltD (vE 4) (cE (.int 5))))) (retV (addV ((op2 addD ((slE (vE 1) oNo (oSome (vE 3)))) ((tupE (aCons (vE 5) aNil))))) ((slE (vE 1) (oSome ((op2 addD (vE 3) (cE (.int 1))))) oNo)))) (nxS)) ((seqS (ifS ((tstE (op2 eqD (vE 4) (cE (.int 5))))) (retV (addV ((slE (vE 1) oNo (oSome (vE 3)))) ((slE (vE 1) (oSome ((op2 addD (vE 3) (cE (.int 1))))) oNo)))) (nxS)) (retS ((ifE ((tstE (op2 eqD (vE 4) (cE (.int 6))))) ((op2 addD ((op2 addD ((slE (vE 1) oNo (oSome (vE 3)))) ((tupE (aCons (vE 5) aNil))))) ((slE (vE 1) (oSome (vE 3)) oNo)))) ((telV (fun Γ => (aCons (vE 1) aNil Γ).bind listN)))))))))))))
def _law_bent_3_F : DFn := runF (some 0) 6 _law_bent_3_b
def _law_got_right_b : SF := (seqS (ifS ((orT ((notT ((tstE ((isiE (isB "tuple") (vE 2))))))) ((tstE (op2 neD ((opN (one lenD) (aCons (vE 2) aNil))) (cE (.int 4))))))) (retS (cE (.bl false))) (nxS)) ((seqS (ifS ((tstE (op2 neD ((opN (one reprR) (aCons ((slE (vE 2) oNo (oSome (cE (.int 3))))) aNil))) ((opN (one reprD) (aCons ((tupE (aCons (cE (.str "got")) (aCons (vE 0) (aCons (vE 1) aNil))))) aNil)))))) (retS (cE (.bl false))) (nxS)) (retS ((andE ((isiE (isB "int") ((op2 getD (vE 2) (cE (.int 3)))))) ((andE ((notE ((isiE (isB "bool") ((op2 getD (vE 2) (cE (.int 3)))))))) ((op2 geD ((op2 getD (vE 2) (cE (.int 3)))) (cE (.int 0))))))))))))
def _law_got_right_F : DFn := runF none 3 _law_got_right_b
def _law_right_29_x1 : EF := vE 10
def _law_right_29_x2 : TF := (tstE (op2 notBD ((telV (callV none 2 accepts_2_F [] (aCons (vE 10) (aCons (vE 15) aNil))))) (cE (.bl false))))
def _law_right_29_x3 : SF := (seqS (ifS ((tstE (op2 neD ((telV (compV [10] (anyI (vE 13)) (bName 10) ((_law_right_29_x2)) ((_law_right_29_x1))))) ((lstE aNil))))) (retS (cE (.bl false))) (nxS)) ((seqS (ifS ((orT ((tstE (op2 notBD ((telV (callV none 2 accepts_2_F [] (aCons (vE 15) (aCons ((tupE aNil)) aNil))))) (cE (.bl false))))) ((tstE (op2 notBD ((telV (callV none 2 accepts_2_F [] (aCons (vE 15) (aCons (vE 15) aNil))))) (cE (.bl false))))))) (retS (cE (.bl false))) (nxS)) (ifS ((tstE (op2 notBD ((telV (callV none 2 accepts_2_F [] (aCons (vE 15) (aCons (vE 6) aNil))))) (cE (.bl false))))) (retS (cE (.bl false))) (nxS)))))
def _law_right_29_x4 : SF := (seqS (asgV 10 (callV (some 0) 3 _law_bent_3_F [] (aCons (vE 0) (aCons ((tupE (aCons (cE (.str "got")) (aCons (vE 2) (aCons (vE 3) (aCons (cE (.int 0)) aNil)))))) (aCons (vE 8) aNil))))) ((seqS (asgV 11 (callV none 3 _law_got_right_F [] (aCons (vE 2) (aCons (vE 3) (aCons (vE 10) aNil))))) ((seqS (asgV 12 (vE' ((op2 eqD ((opN (one reprR) (aCons ((slE (vE 10) (oSome (cE (.int 1))) (oSome (cE (.int 2))))) aNil))) ((opN (one reprD) (aCons ((tupE (aCons (vE 4) aNil))) aNil))))))) ((seqS (ifS ((andT ((notT ((tstE (vE 12))))) ((tstE (op2 neD ((opN (one reprD) (aCons ((telV (callV none 2 accepts_2_F [] (aCons (vE 10) (aCons ((tupE aNil)) aNil))))) aNil))) ((opN (one reprD) (aCons (vE 11) aNil)))))))) (retS (cE (.bl false))) (nxS)) ((seqS (asgV 10 (callV (some 0) 3 _law_bent_3_F [] (aCons (vE 0) (aCons ((tupE (aCons (cE (.str "never")) (aCons (vE 4) (aCons ((tupE aNil)) aNil))))) (aCons (vE 8) aNil))))) ((seqS (asgV 11 (callV none 2 _law_never_right_F [] (aCons (vE 4) (aCons (vE 10) aNil)))) ((seqS (asgV 12 (vE' ((op2 eqD ((opN (one reprR) (aCons ((slE (vE 10) (oSome (cE (.int 1))) (oSome (cE (.int 2))))) aNil))) ((opN (one reprD) (aCons ((tupE (aCons (vE 2) aNil))) aNil))))))) (ifS ((andT ((notT ((tstE (vE 12))))) ((tstE (op2 neD ((opN (one reprD) (aCons ((telV (callV none 2 accepts_2_F [] (aCons (vE 10) (aCons (vE 6) aNil))))) aNil))) ((opN (one reprD) (aCons (vE 11) aNil)))))))) (retS (cE (.bl false))) (nxS)))))))))))))))
def _law_right_29_b : SF := (seqS (asgV 1 (callV (some 0) 2 _law_sketch_F [] (aCons (vE 0) (aCons (cE (.int 3)) aNil)))) ((seqS (asgV 2 (vE' ((textE "Book" Book___str___F ((telV (callV none 1 _law_vol_F [] (aCons (vE 1) aNil)))))))) ((seqS (asgV 3 (callV none 1 _law_begun_F [] (aCons (vE 1) aNil))) ((seqS (asgV 4 (vE' ((textE "Book" Book___str___F ((telV (makeV 1 Book___init___2_F "Book" [(.tup [])] (aCons (cE (.str "lock you")) aNil)))))))) ((seqS (asgV 5 (vE' ((tupE (aCons ((tupE (aCons (cE (.int 1)) (aCons (cE (.int 2)) (aCons (cE (.int 1)) (aCons (cE (.int 1)) (aCons (cE (.int 1)) (aCons (cE (.int 1)) aNil)))))))) (aCons ((op2 mulD ((tupE (aCons (cE (.int 1)) aNil))) (cE (.int 6)))) (aCons ((op2 mulD ((tupE (aCons (cE (.int 2)) aNil))) (cE (.int 6)))) aNil))))))) ((seqS (asgV 6 (vE' ((tupE (aCons (vE 5) (aCons ((tupE (aCons (cE (.int 2)) aNil))) aNil)))))) ((seqS (ifS ((tstE (op2 notBD ((telV (callV none 2 accepts_2_F [] (aCons ((tupE (aCons (cE (.str "got")) (aCons (vE 2) (aCons (vE 3) (aCons (cE (.int 0)) aNil)))))) (aCons ((tupE aNil)) aNil))))) (cE (.bl true))))) (retS (cE (.bl false))) (nxS)) ((seqS (ifS ((tstE (op2 notBD ((telV (callV none 2 accepts_2_F [] (aCons ((tupE (aCons (cE (.str "never")) (aCons (vE 4) (aCons ((tupE aNil)) aNil))))) (aCons (vE 6) aNil))))) (cE (.bl true))))) (retS (cE (.bl false))) (nxS)) ((seqS (asgV 7 (vE' ((tupE (aCons (cE (.str "tag")) (aCons (cE (.str "ann")) aNil)))))) ((seqS (asgV 8 (lstN (aCons (cE .non) (aCons (cE (.bl true)) (aCons (cE (.bl false)) (aCons (cE (.int 0)) (aCons ((negE (cE (.int 1)))) (aCons (cE (.int 3)) (aCons ((op2 powD (cE (.int 10)) (cE (.int 30)))) (aCons (cE (.str "")) (aCons (cE (.str "got")) (aCons (cE (.str "never")) (aCons (cE (.str "Got")) (aCons ((tupE (aCons ((tupE (aCons (cE (.str "lock")) (aCons (cE (.str "eve")) aNil)))) aNil))) aNil)))))))))))))) ((seqS (asgV 8 (addV (vE 8) ((lstE (aCons ((lstE (aCons (vE 7) aNil))) (aCons ((op2 mulD ((tupE (aCons (vE 7) aNil))) (cE (.int 13)))) (aCons (cE (.dk [] [])) (aCons (vE 2) (aCons (vE 4) aNil))))))))) ((seqS (asgV 8 (addV (vE 8) ((lstE (aCons ((op2 addD (vE 2) (cE (.str "\n")))) (aCons ((op2 addD (cE (.str " ")) (vE 2))) aNil)))))) ((seqS (asgV 8 (addV (vE 8) ((lstE (aCons ((upE (vE 2))) (aCons ((tupE aNil)) (aCons (vE 3) (aCons ((tupE (aCons (vE 7) (aCons (cE .non) aNil)))) (aCons ((tupE (aCons (cE (.str "tag")) (aCons (cE (.str "ann")) aNil)))) aNil))))))))) ((seqS (forS (rng1 (aCons (cE (.int 12)) aNil)) (bName 9) ((_law_right_29_x4))) ((seqS (asgV 13 (lstN (aCons ((tupE (aCons (cE (.str "got")) (aCons (vE 2) (aCons (vE 3) (aCons (cE (.int 0)) aNil)))))) (aCons ((tupE (aCons (cE (.str "never")) (aCons (vE 4) (aCons ((tupE aNil)) aNil))))) aNil)))) ((seqS (asgV 14 (lstN (aCons (cE .non) (aCons (cE (.bl true)) (aCons (cE (.str "")) (aCons (cE (.str "0")) (aCons (cE (.dk [] [])) (aCons ((tupE (aCons ((tupE aNil)) aNil))) (aCons ((tupE (aCons (cE .non) aNil))) (aCons ((tupE (aCons (cE (.str "a")) (aCons (cE (.str "b")) aNil)))) (aCons ((negE (cE (.int 1)))) (aCons ((op2 powD (cE (.int 10)) (cE (.int 30)))) (aCons (vE 2) (aCons ((lstE (aCons ((tupE aNil)) aNil))) (aCons (cE (.int 0)) aNil))))))))))))))) ((seqS (forS (anyI ((op2 addD (vE 14) ((lstE (aCons ((lstE (aCons (vE 6) aNil))) (aCons ((tupE (aCons (vE 6) aNil))) aNil))))))) (bName 15) ((_law_right_29_x3))) (retS ((andE ((op2 isBD ((telV (callV none 2 accepts_2_F [] (aCons ((op2 getD (vE 13) (cE (.int 0)))) (aCons ((lstE aNil)) aNil))))) (cE (.bl false)))) ((op2 isBD ((telV (callV none 2 accepts_2_F [] (aCons ((op2 getD (vE 13) (cE (.int 1)))) (aCons ((telV (fun Γ => (aCons (vE 6) aNil Γ).bind listN))) aNil))))) (cE (.bl false))))))))))))))))))))))))))))))))))))))))
def _law_right_29_F : DFn := runF (some 0) 16 _law_right_29_b
def law_29_x1 : EF := (telV (call1V (some 0) _law_right_29_F [] (callV none 2 _law_cup_F [] (aCons (vE 0) (aCons (vE 1) aNil)))))
def law_29_b : SF := retS ((opN (one allD) (aCons ((telV (compV [1] (rng1 (aCons ((opN (two maxD) (aCons (cE (.int 2)) (aCons ((opN (two minD) (aCons ((opN (one lenD) (aCons (vE 0) aNil))) (aCons (cE (.int 4)) aNil)))) aNil)))) aNil)) (bName 1) (trueT) ((law_29_x1))))) aNil)))
def law_29_F : DFn := runF none 2 law_29_b
end PF
namespace K65
open PySem PySem.Spec PyProof.Rows L2 FL
structure TX (w : World) (K : Frg) (mg : Str → Option Value) : Prop where
  t : Ty fas fns ex dxs K mg
  z : Tz fas fns ex dxs es tl K mg
  u : SaysU ts w K
section
variable [Wrl] {P : Program} {w : World} {K : Frg} {mg : Str → Option Value} {base : Heap}
theorem TX.exs (T : TX w K mg) {i : Nat} {f : Frg → Bool} (h : exl[i]? = some f) : f K = true := List.all_eq_true.mp (He.ba (show ((cons.all fun p => cstB K p.1 p.2) && exl.all fun f => f K) = true from T.t.t.e)).2 f (List.mem_of_getElem? h)
theorem TX.cl_Rule (T : TX w K mg) : Cls K (He.ga K "Rule") := He.cls_ok (T.t.t.c.fact 63 rfl)
theorem TX.na_Rule_put (T : TX w K mg) : NoAttr K (He.ga K "Rule") "put" := He.noat_ok (T.t.t.c.fact 64 rfl)
theorem TX.na_Rule_taken (T : TX w K mg) : NoAttr K (He.ga K "Rule") "taken" := He.noat_ok (T.t.t.c.fact 65 rfl)
theorem TX.cl_Book (T : TX w K mg) : Cls K (He.ga K "Book") := He.cls_ok (T.t.t.c.fact 66 rfl)
theorem TX.na_Book_deeds (T : TX w K mg) : NoAttr K (He.ga K "Book") "deeds" := He.noat_ok (T.t.t.c.fact 67 rfl)
theorem TX.na_Rule_step (T : TX w K mg) : NoAttr K (He.ga K "Rule") "step" := He.noat_ok (T.t.t.c.fact 68 rfl)
theorem TX.mk_Rule (T : TX w K mg) : Mk K (He.ga K "Rule") (He.ma K (He.ga K "Rule") "__init__") := He.mkr_ok (T.t.t.c.fact 69 rfl)
theorem TX.gc_Rule (T : TX w K mg) : mg "Rule" = some (.ref (He.ga K "Rule")) := T.t.t.glo 70 rfl
theorem TX.gt_LAYERS (T : TX w K mg) : mg "LAYERS" = some (.ref (He.ga K "LAYERS")) := T.t.t.glo 71 rfl
theorem TX.td_LAYERS (T : TX w K mg) : tdB K "LAYERS" = true := (T.exs (i := 0) rfl)
theorem TX.na_Book_first_box (T : TX w K mg) : NoAttr K (He.ga K "Book") "first_box" := He.noat_ok (T.t.t.c.fact 72 rfl)
theorem TX.pr_Book_begun (T : TX w K mg) : PropOf K (He.ga K "Book") "begun" (prAd K "Book" "begun") (gtAd K "Book" "begun") := propB_ok (T.exs (i := 1) rfl)
theorem TX.cl_Mail (T : TX w K mg) : Cls K (He.ga K "Mail") := He.cls_ok (T.t.t.c.fact 73 rfl)
theorem TX.na_Mail_all_boxes (T : TX w K mg) : NoAttr K (He.ga K "Mail") "all_boxes" := He.noat_ok (T.t.t.c.fact 74 rfl)
theorem TX.pr_Mail_boxes (T : TX w K mg) : PropOf K (He.ga K "Mail") "boxes" (prAd K "Mail" "boxes") (gtAd K "Mail" "boxes") := propB_ok (T.exs (i := 2) rfl)
theorem TX.na_Mail_rules (T : TX w K mg) : NoAttr K (He.ga K "Mail") "rules" := He.noat_ok (T.t.t.c.fact 75 rfl)
theorem TX.isc_Book (T : TX w K mg) : isCB K ["Book", "Mail", "Rule"] "Book" = true := (T.exs (i := 3) rfl)
theorem TX.gc_Book (T : TX w K mg) : mg "Book" = some (.ref (He.ga K "Book")) := T.t.t.glo 76 rfl
theorem TX.gc_NotABook (T : TX w K mg) : mg "NotABook" = some (.ref (He.ga K "NotABook")) := T.t.t.glo 77 rfl
theorem TX.xi_NotABook (T : TX w K mg) : xinB fileS K e_NotABook = true := (T.exs (i := 4) rfl)
theorem TX.mk_Mail (T : TX w K mg) : Mk K (He.ga K "Mail") (He.ma K (He.ga K "Mail") "__init__") := He.mkr_ok (T.t.t.c.fact 78 rfl)
theorem TX.gc_Mail (T : TX w K mg) : mg "Mail" = some (.ref (He.ga K "Mail")) := T.t.t.glo 79 rfl
theorem TX.mt_Mail_joined (T : TX w K mg) : Meth K (He.ga K "Mail") "joined" (He.ma K (He.ga K "Mail") "joined") := He.meth_ok (T.t.t.c.fact 80 rfl)
theorem TX.gc_InvalidSteps (T : TX w K mg) : mg "InvalidSteps" = some (.ref (He.ga K "InvalidSteps")) := T.t.t.glo 81 rfl
theorem TX.xi_InvalidSteps (T : TX w K mg) : xinB fileS K e_InvalidSteps = true := (T.exs (i := 5) rfl)
theorem TX.pr_Mail_book (T : TX w K mg) : PropOf K (He.ga K "Mail") "book" (prAd K "Mail" "book") (gtAd K "Mail" "book") := propB_ok (T.exs (i := 6) rfl)
theorem TX.mt_Mail_led (T : TX w K mg) : Meth K (He.ga K "Mail") "led" (He.ma K (He.ga K "Mail") "led") := He.meth_ok (T.t.t.c.fact 82 rfl)
theorem TX.tro_InvalidSteps (T : TX w K mg) : PySem.W.exmOne K (.ref (He.ga K "InvalidSteps")) (.ref (He.ga K "InvalidSteps")) = some true := trOB_ok (T.exs (i := 7) rfl)
theorem TX.na_Book_answer_rows (T : TX w K mg) : NoAttr K (He.ga K "Book") "answer_rows" := He.noat_ok (T.t.t.c.fact 83 rfl)
theorem TX.na_Book_first_row (T : TX w K mg) : NoAttr K (He.ga K "Book") "first_row" := He.noat_ok (T.t.t.c.fact 84 rfl)
theorem TX.gc_InvalidAnswers (T : TX w K mg) : mg "InvalidAnswers" = some (.ref (He.ga K "InvalidAnswers")) := T.t.t.glo 85 rfl
theorem TX.xi_InvalidAnswers (T : TX w K mg) : xinB fileS K e_InvalidAnswers = true := (T.exs (i := 8) rfl)
theorem TX.gc_InvalidRow (T : TX w K mg) : mg "InvalidRow" = some (.ref (He.ga K "InvalidRow")) := T.t.t.glo 86 rfl
theorem TX.xi_InvalidRow (T : TX w K mg) : xinB fileS K e_InvalidRow = true := (T.exs (i := 9) rfl)
theorem TX.mk_Book (T : TX w K mg) : Mk K (He.ga K "Book") (He.ma K (He.ga K "Book") "__init__") := He.mkr_ok (T.t.t.c.fact 87 rfl)
theorem TX.gc_InvalidText (T : TX w K mg) : mg "InvalidText" = some (.ref (He.ga K "InvalidText")) := T.t.t.glo 88 rfl
theorem TX.xi_InvalidText (T : TX w K mg) : xinB fileS K e_InvalidText = true := (T.exs (i := 10) rfl)
theorem TX.cm_Book_read (T : TX w K mg) : CmOk K "Book" "read" := cmB_ok (T.exs (i := 11) rfl)
theorem TX.tro_InvalidText (T : TX w K mg) : PySem.W.exmOne K (.ref (He.ga K "InvalidText")) (.ref (He.ga K "InvalidText")) = some true := trOB_ok (T.exs (i := 12) rfl)
theorem TX.kg_SIZES (T : TX w K mg) : KGM K w mg "SIZES" [.inr "got", .inr "never"] [(.int 4), (.int 3)] := T.t.t.gd (T.u.at_ 0 rfl) (T.exs (i := 13) rfl)
theorem TX.mt_Book___str__ (T : TX w K mg) : Meth K (He.ga K "Book") "__str__" (He.ma K (He.ga K "Book") "__str__") := He.meth_ok (T.t.t.c.fact 89 rfl)
theorem TX.dx_Book___init___0 (T : TX w K mg) : ∀ G, Reps K G [(.tup [])] [V.ref (He.dflAt ("Book", some "__init__") 0 K)] := fun G => dfB_ok (T.exs (i := 14) rfl) G
theorem TX.b_abs (T : TX w K mg) : mg "abs" = none := T.t.t.free 46 rfl
theorem TX.b_all (T : TX w K mg) : mg "all" = none := T.t.t.free 47 rfl
theorem TX.b_bool (T : TX w K mg) : mg "bool" = none := T.t.t.free 48 rfl
theorem TX.b_divmod (T : TX w K mg) : mg "divmod" = none := T.t.t.free 49 rfl
theorem TX.b_enumerate (T : TX w K mg) : mg "enumerate" = none := T.t.t.free 50 rfl
theorem TX.b_int (T : TX w K mg) : mg "int" = none := T.t.t.free 51 rfl
theorem TX.b_isinstance (T : TX w K mg) : mg "isinstance" = none := T.t.t.free 52 rfl
theorem TX.b_len (T : TX w K mg) : mg "len" = none := T.t.t.free 53 rfl
theorem TX.b_list (T : TX w K mg) : mg "list" = none := T.t.t.free 54 rfl
theorem TX.b_max (T : TX w K mg) : mg "max" = none := T.t.t.free 55 rfl
theorem TX.b_min (T : TX w K mg) : mg "min" = none := T.t.t.free 56 rfl
theorem TX.b_range (T : TX w K mg) : mg "range" = none := T.t.t.free 57 rfl
theorem TX.b_repr (T : TX w K mg) : mg "repr" = none := T.t.t.free 58 rfl
theorem TX.b_str (T : TX w K mg) : mg "str" = none := T.t.t.free 59 rfl
theorem TX.b_super (T : TX w K mg) : mg "super" = none := T.t.t.free 60 rfl
theorem TX.b_tuple (T : TX w K mg) : mg "tuple" = none := T.t.t.free 61 rfl
theorem TX.b_zip (T : TX w K mg) : mg "zip" = none := T.t.t.free 62 rfl
theorem TX.c_ANSWER (T : TX w K mg) : ∃ (v : V) (u : Value), mg "ANSWER" = some u ∧ RelV v u ∧ ∀ G, Rep K G PF.c_ANSWER v := T.t.t.con (List.all_eq_true.mp (He.ba (show ((cons.all fun p => cstB K p.1 p.2) && exl.all fun f => f K) = true from T.t.t.e)).1 ("ANSWER", PF.c_ANSWER) (List.mem_of_getElem? (i := 0) rfl))
theorem TX.c_BETWEEN (T : TX w K mg) : ∃ (v : V) (u : Value), mg "BETWEEN" = some u ∧ RelV v u ∧ ∀ G, Rep K G PF.c_BETWEEN v := T.t.t.con (List.all_eq_true.mp (He.ba (show ((cons.all fun p => cstB K p.1 p.2) && exl.all fun f => f K) = true from T.t.t.e)).1 ("BETWEEN", PF.c_BETWEEN) (List.mem_of_getElem? (i := 1) rfl))
theorem TX.c_DEEDS (T : TX w K mg) : ∃ (v : V) (u : Value), mg "DEEDS" = some u ∧ RelV v u ∧ ∀ G, Rep K G PF.c_DEEDS v := T.t.t.con (List.all_eq_true.mp (He.ba (show ((cons.all fun p => cstB K p.1 p.2) && exl.all fun f => f K) = true from T.t.t.e)).1 ("DEEDS", PF.c_DEEDS) (List.mem_of_getElem? (i := 2) rfl))
theorem TX.c_FIRST (T : TX w K mg) : ∃ (v : V) (u : Value), mg "FIRST" = some u ∧ RelV v u ∧ ∀ G, Rep K G PF.c_FIRST v := T.t.t.con (List.all_eq_true.mp (He.ba (show ((cons.all fun p => cstB K p.1 p.2) && exl.all fun f => f K) = true from T.t.t.e)).1 ("FIRST", PF.c_FIRST) (List.mem_of_getElem? (i := 3) rfl))
theorem TX.c_LAYERS (T : TX w K mg) : ∃ (v : V) (u : Value), mg "LAYERS" = some u ∧ RelV v u ∧ ∀ G, Rep K G PF.c_LAYERS v := T.t.t.con (List.all_eq_true.mp (He.ba (show ((cons.all fun p => cstB K p.1 p.2) && exl.all fun f => f K) = true from T.t.t.e)).1 ("LAYERS", PF.c_LAYERS) (List.mem_of_getElem? (i := 4) rfl))
theorem TX.c_LETTER (T : TX w K mg) : ∃ (v : V) (u : Value), mg "LETTER" = some u ∧ RelV v u ∧ ∀ G, Rep K G PF.c_LETTER v := T.t.t.con (List.all_eq_true.mp (He.ba (show ((cons.all fun p => cstB K p.1 p.2) && exl.all fun f => f K) = true from T.t.t.e)).1 ("LETTER", PF.c_LETTER) (List.mem_of_getElem? (i := 5) rfl))
theorem TX.c_LETTERS (T : TX w K mg) : ∃ (v : V) (u : Value), mg "LETTERS" = some u ∧ RelV v u ∧ ∀ G, Rep K G PF.c_LETTERS v := T.t.t.con (List.all_eq_true.mp (He.ba (show ((cons.all fun p => cstB K p.1 p.2) && exl.all fun f => f K) = true from T.t.t.e)).1 ("LETTERS", PF.c_LETTERS) (List.mem_of_getElem? (i := 6) rfl))
theorem TX.c_MOST_ANSWERS (T : TX w K mg) : ∃ (v : V) (u : Value), mg "MOST_ANSWERS" = some u ∧ RelV v u ∧ ∀ G, Rep K G PF.c_MOST_ANSWERS v := T.t.t.con (List.all_eq_true.mp (He.ba (show ((cons.all fun p => cstB K p.1 p.2) && exl.all fun f => f K) = true from T.t.t.e)).1 ("MOST_ANSWERS", PF.c_MOST_ANSWERS) (List.mem_of_getElem? (i := 7) rfl))
theorem TX.c_MOST_DEEDS (T : TX w K mg) : ∃ (v : V) (u : Value), mg "MOST_DEEDS" = some u ∧ RelV v u ∧ ∀ G, Rep K G PF.c_MOST_DEEDS v := T.t.t.con (List.all_eq_true.mp (He.ba (show ((cons.all fun p => cstB K p.1 p.2) && exl.all fun f => f K) = true from T.t.t.e)).1 ("MOST_DEEDS", PF.c_MOST_DEEDS) (List.mem_of_getElem? (i := 8) rfl))
theorem TX.c_MOST_LAYERS (T : TX w K mg) : ∃ (v : V) (u : Value), mg "MOST_LAYERS" = some u ∧ RelV v u ∧ ∀ G, Rep K G PF.c_MOST_LAYERS v := T.t.t.con (List.all_eq_true.mp (He.ba (show ((cons.all fun p => cstB K p.1 p.2) && exl.all fun f => f K) = true from T.t.t.e)).1 ("MOST_LAYERS", PF.c_MOST_LAYERS) (List.mem_of_getElem? (i := 9) rfl))
theorem TX.c_PEOPLE (T : TX w K mg) : ∃ (v : V) (u : Value), mg "PEOPLE" = some u ∧ RelV v u ∧ ∀ G, Rep K G PF.c_PEOPLE v := T.t.t.con (List.all_eq_true.mp (He.ba (show ((cons.all fun p => cstB K p.1 p.2) && exl.all fun f => f K) = true from T.t.t.e)).1 ("PEOPLE", PF.c_PEOPLE) (List.mem_of_getElem? (i := 10) rfl))
theorem TX.c_READER (T : TX w K mg) : ∃ (v : V) (u : Value), mg "READER" = some u ∧ RelV v u ∧ ∀ G, Rep K G PF.c_READER v := T.t.t.con (List.all_eq_true.mp (He.ba (show ((cons.all fun p => cstB K p.1 p.2) && exl.all fun f => f K) = true from T.t.t.e)).1 ("READER", PF.c_READER) (List.mem_of_getElem? (i := 11) rfl))
theorem TX.c_THIEF (T : TX w K mg) : ∃ (v : V) (u : Value), mg "THIEF" = some u ∧ RelV v u ∧ ∀ G, Rep K G PF.c_THIEF v := T.t.t.con (List.all_eq_true.mp (He.ba (show ((cons.all fun p => cstB K p.1 p.2) && exl.all fun f => f K) = true from T.t.t.e)).1 ("THIEF", PF.c_THIEF) (List.mem_of_getElem? (i := 12) rfl))
theorem TX.c_WRITER (T : TX w K mg) : ∃ (v : V) (u : Value), mg "WRITER" = some u ∧ RelV v u ∧ ∀ G, Rep K G PF.c_WRITER v := T.t.t.con (List.all_eq_true.mp (He.ba (show ((cons.all fun p => cstB K p.1 p.2) && exl.all fun f => f K) = true from T.t.t.e)).1 ("WRITER", PF.c_WRITER) (List.mem_of_getElem? (i := 13) rfl))
theorem TX.df_Book___init___2 (T : TX w K mg) : ∀ G, Reps K G [(.tup [])] [V.ref (He.dflAt ("Book", some "__init__") 0 K)] := fun G => ⟨_, _, rfl, (by obtain ⟨_, _, e, r, _⟩ := T.dx_Book___init___0 G; cases e; exact r), rfl⟩
theorem TX.eo_NotABook (T : TX w K mg) : ErrOk fileS K e_NotABook (fdOf K (e_NotABook.at_ K)) := T.z.err 0 rfl T.xi_NotABook
theorem TX.bx_NotABook (T : TX w K mg) : L2.Binds K (fdOf K (e_NotABook.at_ K)) ["self", "given"] [] := binds_err T.eo_NotABook fun _ _ _ _ _ _ _ us hl => match us, hl with | [_, _], _ => rfl
theorem xs_NotABook : XScope ["self", "given"] ["self", "given"] (defScope (inClass (top 5) 0)) := ⟨rfl, rfl, rfl, by decide +kernel, rfl, by decide +kernel, fun _ h => h, by decide +kernel, by decide +kernel, by decide +kernel, by decide +kernel⟩
theorem TX.xf_NotABook (T : TX w K mg) (B : BY P w fileS K mg base) : FnOk P w K mg base (L2.CX P w) 1 (e_NotABook.at_ K) (fdOf K (e_NotABook.at_ K)) ["self", "given"] (spXi (He.ga K "NotABook") "given") := fn_xinit1 (k := 0) T.eo_NotABook.T (T.eo_NotABook.xi P B.fl) xs_NotABook rfl rfl T.b_super B.su (fun _ => rfl) (fun _ => rfl) T.eo_NotABook.no (fun _ => rfl) (by decide) (by decide) (by decide) (by decide)
theorem TX.eo_InvalidSteps (T : TX w K mg) : ErrOk fileS K e_InvalidSteps (fdOf K (e_InvalidSteps.at_ K)) := T.z.err 1 rfl T.xi_InvalidSteps
theorem TX.bx_InvalidSteps (T : TX w K mg) : L2.Binds K (fdOf K (e_InvalidSteps.at_ K)) ["self", "index"] [] := binds_err T.eo_InvalidSteps fun _ _ _ _ _ _ _ us hl => match us, hl with | [_, _], _ => rfl
theorem xs_InvalidSteps : XScope ["self", "index"] ["self", "index"] (defScope (inClass (top 7) 0)) := ⟨rfl, rfl, rfl, by decide +kernel, rfl, by decide +kernel, fun _ h => h, by decide +kernel, by decide +kernel, by decide +kernel, by decide +kernel⟩
theorem TX.xf_InvalidSteps (T : TX w K mg) (B : BY P w fileS K mg base) : FnOk P w K mg base (L2.CX P w) 1 (e_InvalidSteps.at_ K) (fdOf K (e_InvalidSteps.at_ K)) ["self", "index"] (spXi (He.ga K "InvalidSteps") "index") := fn_xinit1 (k := 0) T.eo_InvalidSteps.T (T.eo_InvalidSteps.xi P B.fl) xs_InvalidSteps rfl rfl T.b_super B.su (fun _ => rfl) (fun _ => rfl) T.eo_InvalidSteps.no (fun _ => rfl) (by decide) (by decide) (by decide) (by decide)
theorem TX.eo_InvalidAnswers (T : TX w K mg) : ErrOk fileS K e_InvalidAnswers (fdOf K (e_InvalidAnswers.at_ K)) := T.z.err 2 rfl T.xi_InvalidAnswers
theorem TX.bx_InvalidAnswers (T : TX w K mg) : L2.Binds K (fdOf K (e_InvalidAnswers.at_ K)) ["self", "index"] [] := binds_err T.eo_InvalidAnswers fun _ _ _ _ _ _ _ us hl => match us, hl with | [_, _], _ => rfl
theorem xs_InvalidAnswers : XScope ["self", "index"] ["self", "index"] (defScope (inClass (top 6) 0)) := ⟨rfl, rfl, rfl, by decide +kernel, rfl, by decide +kernel, fun _ h => h, by decide +kernel, by decide +kernel, by decide +kernel, by decide +kernel⟩
theorem TX.xf_InvalidAnswers (T : TX w K mg) (B : BY P w fileS K mg base) : FnOk P w K mg base (L2.CX P w) 1 (e_InvalidAnswers.at_ K) (fdOf K (e_InvalidAnswers.at_ K)) ["self", "index"] (spXi (He.ga K "InvalidAnswers") "index") := fn_xinit1 (k := 0) T.eo_InvalidAnswers.T (T.eo_InvalidAnswers.xi P B.fl) xs_InvalidAnswers rfl rfl T.b_super B.su (fun _ => rfl) (fun _ => rfl) T.eo_InvalidAnswers.no (fun _ => rfl) (by decide) (by decide) (by decide) (by decide)
theorem TX.eo_InvalidRow (T : TX w K mg) : ErrOk fileS K e_InvalidRow (fdOf K (e_InvalidRow.at_ K)) := T.z.err 3 rfl T.xi_InvalidRow
theorem TX.bx_InvalidRow (T : TX w K mg) : L2.Binds K (fdOf K (e_InvalidRow.at_ K)) ["self", "given"] [] := binds_err T.eo_InvalidRow fun _ _ _ _ _ _ _ us hl => match us, hl with | [_, _], _ => rfl
theorem xs_InvalidRow : XScope ["self", "given"] ["self", "given"] (defScope (inClass (top 3) 0)) := ⟨rfl, rfl, rfl, by decide +kernel, rfl, by decide +kernel, fun _ h => h, by decide +kernel, by decide +kernel, by decide +kernel, by decide +kernel⟩
theorem TX.xf_InvalidRow (T : TX w K mg) (B : BY P w fileS K mg base) : FnOk P w K mg base (L2.CX P w) 1 (e_InvalidRow.at_ K) (fdOf K (e_InvalidRow.at_ K)) ["self", "given"] (spXi (He.ga K "InvalidRow") "given") := fn_xinit1 (k := 0) T.eo_InvalidRow.T (T.eo_InvalidRow.xi P B.fl) xs_InvalidRow rfl rfl T.b_super B.su (fun _ => rfl) (fun _ => rfl) T.eo_InvalidRow.no (fun _ => rfl) (by decide) (by decide) (by decide) (by decide)
theorem TX.eo_InvalidText (T : TX w K mg) : ErrOk fileS K e_InvalidText (fdOf K (e_InvalidText.at_ K)) := T.z.err 4 rfl T.xi_InvalidText
theorem TX.bx_InvalidText (T : TX w K mg) : L2.Binds K (fdOf K (e_InvalidText.at_ K)) ["self", "given"] [] := binds_err T.eo_InvalidText fun _ _ _ _ _ _ _ us hl => match us, hl with | [_, _], _ => rfl
theorem xs_InvalidText : XScope ["self", "given"] ["self", "given"] (defScope (inClass (top 4) 0)) := ⟨rfl, rfl, rfl, by decide +kernel, rfl, by decide +kernel, fun _ h => h, by decide +kernel, by decide +kernel, by decide +kernel, by decide +kernel⟩
theorem TX.xf_InvalidText (T : TX w K mg) (B : BY P w fileS K mg base) : FnOk P w K mg base (L2.CX P w) 1 (e_InvalidText.at_ K) (fdOf K (e_InvalidText.at_ K)) ["self", "given"] (spXi (He.ga K "InvalidText") "given") := fn_xinit1 (k := 0) T.eo_InvalidText.T (T.eo_InvalidText.xi P B.fl) xs_InvalidText rfl rfl T.b_super B.su (fun _ => rfl) (fun _ => rfl) T.eo_InvalidText.no (fun _ => rfl) (by decide) (by decide) (by decide) (by decide)
theorem TX.f_Rule___init__ (T : TX w K mg) : FunD K "__init__" "Rule.__init__" (defArgs (inClass (top 47) 0)) (defBody (inClass (top 47) 0)) (defScope (inClass (top 47) 0)) [] [] (He.ma K (He.ga K "Rule") "__init__") (fdOf K (He.ma K (He.ga K "Rule") "__init__")) := T.t.t.fund 0 (d := d_Rule___init__) rfl
theorem TX.bd_Rule___init__ (T : TX w K mg) : Binds K (fdOf K (He.ma K (He.ga K "Rule") "__init__")) ["self", "taken", "put", "step"] [] := FunD.bindsN T.f_Rule___init__ fun _ _ _ _ _ _ us hl => match us, hl with | [_, _, _, _], _ => rfl
theorem sc_Rule___init__ : FnScope ["self", "taken", "put", "step"] ["self", "taken", "put", "step"] (defScope (inClass (top 47) 0)) := ⟨rfl, rfl, rfl, by decide +kernel, rfl, by decide +kernel, by decide +kernel⟩
theorem TX.w_Rule___init__ (T : TX w K mg) (B : BY P w fileS K mg base) : FnG P w K mg base (L2.CX P w) 1 (He.ma K (He.ga K "Rule") "__init__") (fdOf K (He.ma K (He.ga K "Rule") "__init__")) ["self", "taken", "put", "step"] (spL K ["self", "taken", "put", "step"] (some 0) PF.Rule___init___F) :=
  fn_F (N := ["self", "taken", "put", "step"]) (k := 0) (b := (some 0)) (bd := PF.Rule___init___b) T.f_Rule___init__ sc_Rule___init__ fun cdv A outer s H E hr hg tk hp hcd =>
    (fb_cons (fs_setf (i := 0) T.cl_Rule T.na_Rule_taken rfl (by first | exact .inl rfl | exact .inr (.inl rfl) | exact .inr (.inr rfl)) (fe_var (i := 1) rfl)) (fb_cons (fs_setf (i := 0) T.cl_Rule T.na_Rule_put rfl (by first | exact .inl rfl | exact .inr (.inl rfl) | exact .inr (.inr rfl)) (fe_var (i := 2) rfl)) (fb_one (fs_setf (i := 0) T.cl_Rule T.na_Rule_step rfl (by first | exact .inl rfl | exact .inr (.inl rfl) | exact .inr (.inr rfl)) (fe_var (i := 3) rfl)))))
theorem TX.f_fits (T : TX w K mg) : FunD K "fits" "fits" (defArgs (top 48)) (defBody (top 48)) (defScope (top 48)) [] [] (He.ga K "fits") (fdOf K (He.ga K "fits")) := T.t.t.fund 1 (d := d_fits) rfl
theorem TX.g_fits (T : TX w K mg) : mg "fits" = some (.ref (He.ga K "fits")) := T.t.t.glo 0 rfl
theorem TX.k_fits (T : TX w K mg) : PySem.W.keepIn K (.ref (He.ga K "fits")) = true := T.f_fits.kp
theorem TX.bd_fits (T : TX w K mg) : Binds K (fdOf K (He.ga K "fits")) ["layer", "deed", "me", "you"] [] := FunD.bindsN T.f_fits fun _ _ _ _ _ _ us hl => match us, hl with | [_, _, _, _], _ => rfl
theorem sc_fits : FnScope ["layer", "deed", "me", "you", "verb", "whom"] ["layer", "deed", "me", "you"] (defScope (top 48)) := ⟨rfl, rfl, rfl, by decide +kernel, rfl, by decide +kernel, by decide +kernel⟩
theorem TX.w_fits (T : TX w K mg) (B : BY P w fileS K mg base) : FnG P w K mg base (L2.CX P w) 1 (He.ga K "fits") (fdOf K (He.ga K "fits")) ["layer", "deed", "me", "you"] (spL K ["layer", "deed", "me", "you"] none PF.fits_F) :=
  fn_F (N := ["layer", "deed", "me", "you", "verb", "whom"]) (k := 0) (b := none) (bd := PF.fits_b) T.f_fits sc_fits fun cdv A outer s H E hr hg tk hp hcd =>
    (fb_cons (fs_asgB (fe_var (i := 1) rfl) (fg_seq rfl (fgs_cons (fg_name (i := 4) sc_fits.nd rfl) (fgs_cons (fg_name (i := 5) sc_fits.nd rfl) fgs_nil)))) (fb_cons (fs_if (ft_eq hr.units (fe_var (i := 4) rfl) fe_str) (fb_one (fs_ret (fe_eq hr.units (fe_var (i := 0) rfl) (fe_tup (fa_cons fe_str (fa_cons (fe_var (i := 2) rfl) fa_nil)))))) fb_nil) (fb_one (fs_ret (fe_and (fe_eq hr.units (fe_ix (fe_var (i := 0) rfl) fe_int) fe_str) (fe_one (fe_or (fe_eq hr.units (fe_var (i := 5) rfl) fe_str) (fe_one (fe_eq hr.units (fe_ix (fe_var (i := 0) rfl) fe_int) (fe_if (ft_eq hr.units (fe_var (i := 5) rfl) fe_str) (fe_var (i := 2) rfl) (fe_var (i := 3) rfl)))))))))))
theorem TX.f_layers_of (T : TX w K mg) : FunD K "layers_of" "layers_of" (defArgs (top 49)) (defBody (top 49)) (defScope (top 49)) [] [] (He.ga K "layers_of") (fdOf K (He.ga K "layers_of")) := T.t.t.fund 2 (d := d_layers_of) rfl
theorem TX.g_layers_of (T : TX w K mg) : mg "layers_of" = some (.ref (He.ga K "layers_of")) := T.t.t.glo 1 rfl
theorem TX.k_layers_of (T : TX w K mg) : PySem.W.keepIn K (.ref (He.ga K "layers_of")) = true := T.f_layers_of.kp
theorem TX.bd_layers_of (T : TX w K mg) : Binds K (fdOf K (He.ga K "layers_of")) ["deed", "me", "you"] [] := FunD.bindsN T.f_layers_of fun _ _ _ _ _ _ us hl => match us, hl with | [_, _, _], _ => rfl
theorem sc_layers_of : FnScope ["deed", "me", "you", "found", "kind", "name", "layer"] ["deed", "me", "you"] (defScope (top 49)) := ⟨rfl, rfl, rfl, by decide +kernel, rfl, by decide +kernel, by decide +kernel⟩
theorem TX.w_layers_of (T : TX w K mg) (B : BY P w fileS K mg base) : FnG P w K mg base (L2.CX P w) 2 (He.ga K "layers_of") (fdOf K (He.ga K "layers_of")) ["deed", "me", "you"] (spL K ["deed", "me", "you"] none PF.layers_of_F) :=
  fn_F (N := ["deed", "me", "you", "found", "kind", "name", "layer"]) (k := 1) (b := none) (bd := PF.layers_of_b) T.f_layers_of sc_layers_of fun cdv A outer s H E hr hg tk hp hcd =>
    (fb_cons (fs_setLc2 (i := 3) (own := [("kind", 4), ("name", 5)]) (vs1 := [5]) rfl sc_layers_of.nd rfl rfl rfl (fi_any (fe_tup (fa_cons fe_str (fa_cons fe_str fa_nil)))) (blk_of rfl) (by decide) (by decide) (by decide) (fun s1 H1 C1 cl fp => (fg_name (i := 4) sc_layers_of.nd rfl)) (fun s1 H1 C1 cl fp => fts_nil) (fun s1 H1 C1 cl fp => (fi_any (fe_glob (T.c_PEOPLE)))) (fun s1 H1 C1 cl fp => (fg_name (i := 5) sc_layers_of.nd rfl)) (fun s1 H1 C1 cl fp => fts_nil) (fun s1 H1 C1 cl fp => (fe_tup (fa_cons (fe_var (i := 4) rfl) (fa_cons (fe_var (i := 5) rfl) fa_nil))))) (fb_one (fs_retV (fv_lc (own := [("layer", 6)]) rfl sc_layers_of.nd (fi_any (fe_var (i := 3) rfl)) (blk_of rfl) (by decide) (fun s1 H1 C1 cl fp => (fg_name (i := 6) sc_layers_of.nd rfl)) (fun s1 H1 C1 cl fp => (fts_one (ft_val (fe_of (fv_call (T.w_fits B) (T.g_fits) T.k_fits T.bd_fits .nil (fun _ => Reps.nil) (hr.mono (by decide)) hg takes_noW rfl (fa_cons (fe_var (i := 6) rfl) (fa_cons (fe_var (i := 0) rfl) (fa_cons (fe_var (i := 1) rfl) (fa_cons (fe_var (i := 2) rfl) fa_nil))))))))) (fun s1 H1 C1 cl fp => (fe_var (i := 6) rfl))))))
theorem TX.f_pairs_behind (T : TX w K mg) : FunD K "pairs_behind" "pairs_behind" (defArgs (top 50)) (defBody (top 50)) (defScope (top 50)) [] [] (He.ga K "pairs_behind") (fdOf K (He.ga K "pairs_behind")) := T.t.t.fund 3 (d := d_pairs_behind) rfl
theorem TX.g_pairs_behind (T : TX w K mg) : mg "pairs_behind" = some (.ref (He.ga K "pairs_behind")) := T.t.t.glo 2 rfl
theorem TX.k_pairs_behind (T : TX w K mg) : PySem.W.keepIn K (.ref (He.ga K "pairs_behind")) = true := T.f_pairs_behind.kp
theorem TX.bd_pairs_behind (T : TX w K mg) : Binds K (fdOf K (He.ga K "pairs_behind")) ["pairs", "deed", "me", "you"] [] := FunD.bindsN T.f_pairs_behind fun _ _ _ _ _ _ us hl => match us, hl with | [_, _, _, _], _ => rfl
theorem sc_pairs_behind : FnScope ["pairs", "deed", "me", "you", "verb", "whom", "layer", "found", "taken", "put"] ["pairs", "deed", "me", "you"] (defScope (top 50)) := ⟨rfl, rfl, rfl, by decide +kernel, rfl, by decide +kernel, by decide +kernel⟩
theorem TX.w_pairs_behind (T : TX w K mg) (B : BY P w fileS K mg base) : FnG P w K mg base (L2.CX P w) 3 (He.ga K "pairs_behind") (fdOf K (He.ga K "pairs_behind")) ["pairs", "deed", "me", "you"] (spL K ["pairs", "deed", "me", "you"] none PF.pairs_behind_F) :=
  fn_F (N := ["pairs", "deed", "me", "you", "verb", "whom", "layer", "found", "taken", "put"]) (k := 2) (b := none) (bd := PF.pairs_behind_b) T.f_pairs_behind sc_pairs_behind fun cdv A outer s H E hr hg tk hp hcd =>
    (fb_cons (fs_asgB (fe_var (i := 1) rfl) (fg_seq rfl (fgs_cons (fg_name (i := 4) sc_pairs_behind.nd rfl) (fgs_cons (fg_name (i := 5) sc_pairs_behind.nd rfl) fgs_nil)))) (fb_cons (fs_if (ft_in (Room.u65 hr) (fe_var (i := 4) rfl) (fe_tup (fa_cons fe_str (fa_cons fe_str fa_nil)))) (fb_cons (fs_asg (i := 6) (fv_e (fe_tup (fa_cons (fe_var (i := 4) rfl) (fa_cons (fe_if (ft_eq hr.units (fe_var (i := 5) rfl) fe_str) (fe_var (i := 2) rfl) (fe_var (i := 3) rfl)) fa_nil)))) sc_pairs_behind.nd rfl (by first | exact .inl rfl | exact .inr rfl)) (fb_one (fs_retV (fv_lc (own := [("taken", 8), ("put", 9)]) rfl sc_pairs_behind.nd (fi_any (fe_var (i := 0) rfl)) (blk_of rfl) (by decide) (fun s1 H1 C1 cl fp => (fg_seq rfl (fgs_cons (fg_name (i := 8) sc_pairs_behind.nd rfl) (fgs_cons (fg_name (i := 9) sc_pairs_behind.nd rfl) fgs_nil)))) (fun s1 H1 C1 cl fp => fts_nil) (fun s1 H1 C1 cl fp => (fe_tup (fa_cons (fe_var (i := 8) rfl) (fa_cons (fe_tup (fa_cons (fe_var (i := 6) rfl) (fa_star (fe_var (i := 9) rfl) fa_nil))) fa_nil)))))))) fb_nil) (fb_cons (fs_asg (i := 7) (fv_lst fa_nil) sc_pairs_behind.nd rfl (by first | exact .inl rfl | exact .inr rfl)) (fb_cons (fs_for rfl hp (fi_any (fe_var (i := 0) rfl)) (fg_seq rfl (fgs_cons (fg_name (i := 8) sc_pairs_behind.nd rfl) (fgs_cons (fg_name (i := 9) sc_pairs_behind.nd rfl) fgs_nil))) (fb_one (fs_if (ft_eq hr.units (fe_var (i := 9) rfl) (fe_tup fa_nil)) (fb_one (fs_extend (i := 7) (fv_lc (own := [("layer", 6)]) rfl sc_pairs_behind.nd (fi_any (fe_of (fv_call (T.w_layers_of B) (T.g_layers_of) T.k_layers_of T.bd_layers_of .nil (fun _ => Reps.nil) (hr.mono (by decide)) hg tk rfl (fa_cons (fe_var (i := 1) rfl) (fa_cons (fe_var (i := 2) rfl) (fa_cons (fe_var (i := 3) rfl) fa_nil)))))) (blk_of rfl) (by decide) (fun s1 H1 C1 cl fp => (fg_name (i := 6) sc_pairs_behind.nd rfl)) (fun s1 H1 C1 cl fp => fts_nil) (fun s1 H1 C1 cl fp => (fe_tup (fa_cons (fe_tup (fa_star (fe_var (i := 8) rfl) (fa_cons (fe_var (i := 6) rfl) fa_nil))) (fa_cons (fe_tup fa_nil) fa_nil))))) rfl (by first | exact .inl rfl | exact .inr (.inl rfl) | exact .inr (.inr rfl)))) (fb_one (fs_if (ft_val (fe_of (fv_call (T.w_fits B) (T.g_fits) T.k_fits T.bd_fits .nil (fun _ => Reps.nil) (hr.mono (by decide)) hg tk rfl (fa_cons (fe_ix (fe_var (i := 9) rfl) fe_int) (fa_cons (fe_var (i := 1) rfl) (fa_cons (fe_var (i := 2) rfl) (fa_cons (fe_var (i := 3) rfl) fa_nil))))))) (fb_one (fs_append (i := 7) (fe_tup (fa_cons (fe_var (i := 8) rfl) (fa_cons (fe_sl (fe_var (i := 9) rfl) (fo_some fe_int) fo_no) fa_nil))) rfl (by first | exact .inl rfl | exact .inr (.inl rfl) | exact .inr (.inr rfl)))) fb_nil))))) (fb_one (fs_retV (fv_giv (fe_var (i := 7) rfl))))))))
theorem TX.f_rules_of_answer (T : TX w K mg) : FunD K "rules_of_answer" "rules_of_answer" (defArgs (top 51)) (defBody (top 51)) (defScope (top 51)) [] [] (He.ga K "rules_of_answer") (fdOf K (He.ga K "rules_of_answer")) := T.t.t.fund 4 (d := d_rules_of_answer) rfl
theorem TX.g_rules_of_answer (T : TX w K mg) : mg "rules_of_answer" = some (.ref (He.ga K "rules_of_answer")) := T.t.t.glo 3 rfl
theorem TX.k_rules_of_answer (T : TX w K mg) : PySem.W.keepIn K (.ref (He.ga K "rules_of_answer")) = true := T.f_rules_of_answer.kp
theorem TX.bd_rules_of_answer (T : TX w K mg) : Binds K (fdOf K (He.ga K "rules_of_answer")) ["deeds", "index", "me", "you"] [] := FunD.bindsN T.f_rules_of_answer fun _ _ _ _ _ _ us hl => match us, hl with | [_, _, _, _], _ => rfl
theorem sc_rules_of_answer : FnScope ["deeds", "index", "me", "you", "pairs", "deed", "taken", "put"] ["deeds", "index", "me", "you"] (defScope (top 51)) := ⟨rfl, rfl, rfl, by decide +kernel, rfl, by decide +kernel, by decide +kernel⟩
theorem TX.w_rules_of_answer (T : TX w K mg) (B : BY P w fileS K mg base) : FnG P w K mg base (L2.CX P w) 4 (He.ga K "rules_of_answer") (fdOf K (He.ga K "rules_of_answer")) ["deeds", "index", "me", "you"] (spL K ["deeds", "index", "me", "you"] none PF.rules_of_answer_F) :=
  fn_F (N := ["deeds", "index", "me", "you", "pairs", "deed", "taken", "put"]) (k := 3) (b := none) (bd := PF.rules_of_answer_b) T.f_rules_of_answer sc_rules_of_answer fun cdv A outer s H E hr hg tk hp hcd =>
    (fb_cons (fs_asg (i := 4) (fv_lst (fa_cons (fe_tup (fa_cons (fe_tup fa_nil) (fa_cons (fe_tup fa_nil) fa_nil))) fa_nil)) sc_rules_of_answer.nd rfl (by first | exact .inl rfl | exact .inr rfl)) (fb_cons (fs_for rfl hp (fi_any (fe_var (i := 0) rfl)) (fg_name (i := 5) sc_rules_of_answer.nd rfl) (fb_one (fs_asg (i := 4) (fv_call (T.w_pairs_behind B) (T.g_pairs_behind) T.k_pairs_behind T.bd_pairs_behind .nil (fun _ => Reps.nil) (hr.mono (by decide)) hg tk rfl (fa_cons (fe_var (i := 4) rfl) (fa_cons (fe_var (i := 5) rfl) (fa_cons (fe_var (i := 2) rfl) (fa_cons (fe_var (i := 3) rfl) fa_nil))))) sc_rules_of_answer.nd rfl (by first | exact .inl rfl | exact .inr rfl)))) (fb_one (fs_retV (fv_lc (own := [("taken", 6), ("put", 7)]) rfl sc_rules_of_answer.nd (fi_any (fe_var (i := 4) rfl)) (blk_of rfl) (by decide) (fun s1 H1 C1 cl fp => (fg_seq rfl (fgs_cons (fg_name (i := 6) sc_rules_of_answer.nd rfl) (fgs_cons (fg_name (i := 7) sc_rules_of_answer.nd rfl) fgs_nil)))) (fun s1 H1 C1 cl fp => fts_nil) (fun s1 H1 C1 cl fp => (fe_of (fv_make T.mk_Rule (T.w_Rule___init__ B) T.gc_Rule T.bd_Rule___init__ .nil (fun _ => Reps.nil) (hr.mono (by decide)) hg takes_noW rfl (fa_cons (fe_var (i := 6) rfl) (fa_cons (fe_var (i := 7) rfl) (fa_cons (fe_tup (fa_cons fe_str (fa_cons (fe_var (i := 1) rfl) (fa_cons (fe_var (i := 2) rfl) (fa_cons (fe_var (i := 3) rfl) fa_nil))))) fa_nil)))))))))))
theorem TX.f_rules_of (T : TX w K mg) : FunD K "rules_of" "rules_of" (defArgs (top 52)) (defBody (top 52)) (defScope (top 52)) [] [] (He.ga K "rules_of") (fdOf K (He.ga K "rules_of")) := T.t.t.fund 5 (d := d_rules_of) rfl
theorem TX.g_rules_of (T : TX w K mg) : mg "rules_of" = some (.ref (He.ga K "rules_of")) := T.t.t.glo 4 rfl
theorem TX.k_rules_of (T : TX w K mg) : PySem.W.keepIn K (.ref (He.ga K "rules_of")) = true := T.f_rules_of.kp
theorem TX.bd_rules_of (T : TX w K mg) : Binds K (fdOf K (He.ga K "rules_of")) ["book"] [] := FunD.bindsN T.f_rules_of fun _ _ _ _ _ _ us hl => match us, hl with | [_], _ => rfl
theorem sc_rules_of : FnScope ["book", "found", "index", "deeds", "me", "you", "known", "rule", "kind", "name", "pair"] ["book"] (defScope (top 52)) := ⟨rfl, rfl, rfl, by decide +kernel, rfl, by decide +kernel, by decide +kernel⟩
theorem TX.w_rules_of (T : TX w K mg) (B : BY P w fileS K mg base) : FnG P w K mg base (L2.CX P w) 5 (He.ga K "rules_of") (fdOf K (He.ga K "rules_of")) ["book"] (spL K ["book"] none PF.rules_of_F) :=
  fn_F (N := ["book", "found", "index", "deeds", "me", "you", "known", "rule", "kind", "name", "pair"]) (k := 4) (b := none) (bd := PF.rules_of_b) T.f_rules_of sc_rules_of fun cdv A outer s H E hr hg tk hp hcd =>
    (fb_cons (fs_setLc2 (i := 1) (own := [("kind", 8), ("name", 9)]) (vs1 := [9]) rfl sc_rules_of.nd rfl rfl rfl (fi_any (fe_tup (fa_cons fe_str (fa_cons fe_str fa_nil)))) (blk_of rfl) (by decide) (by decide) (by decide) (fun s1 H1 C1 cl fp => (fg_name (i := 8) sc_rules_of.nd rfl)) (fun s1 H1 C1 cl fp => fts_nil) (fun s1 H1 C1 cl fp => (fi_any (fe_glob (T.c_PEOPLE)))) (fun s1 H1 C1 cl fp => (fg_name (i := 9) sc_rules_of.nd rfl)) (fun s1 H1 C1 cl fp => fts_nil) (fun s1 H1 C1 cl fp => (fe_of (fv_make T.mk_Rule (T.w_Rule___init__ B) T.gc_Rule T.bd_Rule___init__ .nil (fun _ => Reps.nil) (hr.mono (by decide)) hg takes_noW rfl (fa_cons (fe_tup fa_nil) (fa_cons (fe_tup (fa_cons (fe_tup (fa_cons (fe_var (i := 8) rfl) (fa_cons (fe_var (i := 9) rfl) fa_nil))) fa_nil)) (fa_cons (fe_tup (fa_cons (fe_var (i := 8) rfl) (fa_cons (fe_var (i := 9) rfl) fa_nil))) fa_nil))))))) (fb_cons (fs_append (i := 1) (fe_of (fv_make T.mk_Rule (T.w_Rule___init__ B) T.gc_Rule T.bd_Rule___init__ .nil (fun _ => Reps.nil) (hr.mono (by decide)) hg tk rfl (fa_cons (fe_tup (fa_cons (fe_tup (fa_cons fe_str (fa_cons (fe_glob (T.c_THIEF)) fa_nil))) fa_nil)) (fa_cons (fe_tup fa_nil) (fa_cons (fe_tup (fa_cons fe_str fa_nil)) fa_nil))))) rfl (by first | exact .inl rfl | exact .inr (.inl rfl) | exact .inr (.inr rfl))) (fb_cons (fs_extend (i := 1) (fv_lc (own := [("name", 9)]) rfl sc_rules_of.nd (fi_any (fe_glob (T.c_PEOPLE))) (blk_of rfl) (by decide) (fun s1 H1 C1 cl fp => (fg_name (i := 9) sc_rules_of.nd rfl)) (fun s1 H1 C1 cl fp => fts_nil) (fun s1 H1 C1 cl fp => (fe_of (fv_make T.mk_Rule (T.w_Rule___init__ B) T.gc_Rule T.bd_Rule___init__ .nil (fun _ => Reps.nil) (hr.mono (by decide)) hg takes_noW rfl (fa_cons (fe_tup (fa_cons (fe_tup (fa_cons fe_str (fa_cons (fe_var (i := 9) rfl) fa_nil))) fa_nil)) (fa_cons (fe_tup fa_nil) (fa_cons (fe_tup (fa_cons fe_str fa_nil)) fa_nil))))))) rfl (by first | exact .inl rfl | exact .inr (.inl rfl) | exact .inr (.inr rfl))) (fb_cons (fs_for rfl hp (fi_enum (T.b_enumerate) (fe_fld T.cl_Book T.na_Book_deeds (fe_var (i := 0) rfl))) (fg_seq rfl (fgs_cons (fg_name (i := 2) sc_rules_of.nd rfl) (fgs_cons (fg_name (i := 3) sc_rules_of.nd rfl) fgs_nil))) (fb_one (fs_for rfl hp (fi_any (fe_glob (T.c_PEOPLE))) (fg_name (i := 4) sc_rules_of.nd rfl) (fb_one (fs_for rfl hp (fi_any (fe_glob (T.c_PEOPLE))) (fg_name (i := 5) sc_rules_of.nd rfl) (fb_one (fs_extend (i := 1) (fv_call (T.w_rules_of_answer B) (T.g_rules_of_answer) T.k_rules_of_answer T.bd_rules_of_answer .nil (fun _ => Reps.nil) (hr.mono (by decide)) hg tk rfl (fa_cons (fe_var (i := 3) rfl) (fa_cons (fe_var (i := 2) rfl) (fa_cons (fe_var (i := 4) rfl) (fa_cons (fe_var (i := 5) rfl) fa_nil))))) rfl (by first | exact .inl rfl | exact .inr (.inl rfl) | exact .inr (.inr rfl))))))))) (fb_cons (fs_asg (i := 6) fv_dict0 sc_rules_of.nd rfl (by first | exact .inl rfl | exact .inr rfl)) (fb_cons (fs_for rfl hp (fi_any (fe_var (i := 1) rfl)) (fg_name (i := 7) sc_rules_of.nd rfl) (fb_one (fs_expr (fe_setd (i := 6) B.pw hr.units (fe_tup (fa_cons (fe_fld T.cl_Rule T.na_Rule_taken (fe_var (i := 7) rfl)) (fa_cons (fe_fld T.cl_Rule T.na_Rule_put (fe_var (i := 7) rfl)) fa_nil))) (fe_var (i := 7) rfl) rfl (by first | exact .inl rfl | exact .inr (.inl rfl) | exact .inr (.inr rfl)))))) (fb_one (fs_retV (fv_lc (own := [("pair", 10), ("rule", 7)]) rfl sc_rules_of.nd (fi_items B.pw (fv_e (fe_var (i := 6) rfl))) (blk_of rfl) (by decide) (fun s1 H1 C1 cl fp => (fg_seq rfl (fgs_cons (fg_name (i := 10) sc_rules_of.nd rfl) (fgs_cons (fg_name (i := 7) sc_rules_of.nd rfl) fgs_nil)))) (fun s1 H1 C1 cl fp => (fts_one (ft_ne hr.units (fe_ix (fe_var (i := 10) rfl) fe_int) (fe_ix (fe_var (i := 10) rfl) fe_int)))) (fun s1 H1 C1 cl fp => (fe_var (i := 7) rfl)))))))))))
theorem TX.f_state_behind (T : TX w K mg) : FunD K "state_behind" "state_behind" (defArgs (top 60)) (defBody (top 60)) (defScope (top 60)) [] [] (He.ga K "state_behind") (fdOf K (He.ga K "state_behind")) := T.t.t.fund 6 (d := d_state_behind) rfl
theorem TX.g_state_behind (T : TX w K mg) : mg "state_behind" = some (.ref (He.ga K "state_behind")) := T.t.t.glo 5 rfl
theorem TX.k_state_behind (T : TX w K mg) : PySem.W.keepIn K (.ref (He.ga K "state_behind")) = true := T.f_state_behind.kp
theorem TX.bd_state_behind (T : TX w K mg) : Binds K (fdOf K (He.ga K "state_behind")) ["moves", "state", "layers"] [] := FunD.bindsN T.f_state_behind fun _ _ _ _ _ _ us hl => match us, hl with | [_, _, _], _ => rfl
theorem sc_state_behind : FnScope ["moves", "state", "layers", "layer"] ["moves", "state", "layers"] (defScope (top 60)) := ⟨rfl, rfl, rfl, by decide +kernel, rfl, by decide +kernel, by decide +kernel⟩
theorem TX.w_state_behind (T : TX w K mg) (B : BY P w fileS K mg base) : FnG P w K mg base (L2.CX P w) 1 (He.ga K "state_behind") (fdOf K (He.ga K "state_behind")) ["moves", "state", "layers"] (spL K ["moves", "state", "layers"] none PF.state_behind_F) :=
  fn_F (N := ["moves", "state", "layers", "layer"]) (k := 0) (b := none) (bd := PF.state_behind_b) T.f_state_behind sc_state_behind fun cdv A outer s H E hr hg tk hp hcd =>
    (fb_cons (fs_for rfl hp (fi_any (fe_rev (fe_var (i := 2) rfl))) (fg_name (i := 3) sc_state_behind.nd rfl) (fb_one (fs_asg (i := 1) (fv_e (fe_ix (fe_ix (fe_var (i := 0) rfl) (fe_var (i := 1) rfl)) (fe_tindex (Room.u65 hr) T.gt_LAYERS T.td_LAYERS (T.c_LAYERS) (fe_var (i := 3) rfl)))) sc_state_behind.nd rfl (by first | exact .inl rfl | exact .inr rfl)))) (fb_one (fs_retV (fv_giv (fe_var (i := 1) rfl)))))
theorem TX.f_keeps (T : TX w K mg) : FunD K "keeps" "keeps" (defArgs (top 61)) (defBody (top 61)) (defScope (top 61)) [] [] (He.ga K "keeps") (fdOf K (He.ga K "keeps")) := T.t.t.fund 7 (d := d_keeps) rfl
theorem TX.g_keeps (T : TX w K mg) : mg "keeps" = some (.ref (He.ga K "keeps")) := T.t.t.glo 6 rfl
theorem TX.k_keeps (T : TX w K mg) : PySem.W.keepIn K (.ref (He.ga K "keeps")) = true := T.f_keeps.kp
theorem TX.bd_keeps (T : TX w K mg) : Binds K (fdOf K (He.ga K "keeps")) ["moves", "good", "rule"] [] := FunD.bindsN T.f_keeps fun _ _ _ _ _ _ us hl => match us, hl with | [_, _, _], _ => rfl
theorem sc_keeps : FnScope ["moves", "good", "rule", "state"] ["moves", "good", "rule"] (defScope (top 61)) := ⟨rfl, rfl, rfl, by decide +kernel, rfl, by decide +kernel, by decide +kernel⟩
theorem TX.w_keeps (T : TX w K mg) (B : BY P w fileS K mg base) : FnG P w K mg base (L2.CX P w) 2 (He.ga K "keeps") (fdOf K (He.ga K "keeps")) ["moves", "good", "rule"] (spL K ["moves", "good", "rule"] none PF.keeps_F) :=
  fn_F (N := ["moves", "good", "rule", "state"]) (k := 1) (b := none) (bd := PF.keeps_b) T.f_keeps sc_keeps fun cdv A outer s H E hr hg tk hp hcd =>
    (fb_cons (fs_for rfl hp (fi_rng1 (T.b_range) (fa_cons (fe_len (T.b_len) (fe_var (i := 0) rfl)) fa_nil)) (fg_name (i := 3) sc_keeps.nd rfl) (fb_one (fs_if (ft_of (fw_and (ft_in (Room.u65 hr) (fe_of (fv_call (T.w_state_behind B) (T.g_state_behind) T.k_state_behind T.bd_state_behind .nil (fun _ => Reps.nil) (hr.mono (by decide)) hg tk rfl (fa_cons (fe_var (i := 0) rfl) (fa_cons (fe_var (i := 3) rfl) (fa_cons (fe_fld T.cl_Rule T.na_Rule_taken (fe_var (i := 2) rfl)) fa_nil))))) (fe_var (i := 1) rfl)) (fw_and1 (ft_nin (Room.u65 hr) (fe_of (fv_call (T.w_state_behind B) (T.g_state_behind) T.k_state_behind T.bd_state_behind .nil (fun _ => Reps.nil) (hr.mono (by decide)) hg tk rfl (fa_cons (fe_var (i := 0) rfl) (fa_cons (fe_var (i := 3) rfl) (fa_cons (fe_fld T.cl_Rule T.na_Rule_put (fe_var (i := 2) rfl)) fa_nil))))) (fe_var (i := 1) rfl))))) (fb_one (fs_ret fe_bl)) fb_nil))) (fb_one (fs_ret fe_bl)))
theorem TX.f_Book_begun (T : TX w K mg) : FunD K "begun" "Book.begun" (defArgs (inClass (top 38) 4)) (defBody (inClass (top 38) 4)) (defScope (inClass (top 38) 4)) [] [] (gtAd K "Book" "begun") (fdOf K (gtAd K "Book" "begun")) := T.t.funx 0 (x := x_Book_begun) rfl
theorem TX.bd_Book_begun (T : TX w K mg) : Binds K (fdOf K (gtAd K "Book" "begun")) ["self"] [] := FunD.bindsN T.f_Book_begun fun _ _ _ _ _ _ us hl => match us, hl with | [_], _ => rfl
theorem sc_Book_begun : FnScope ["self"] ["self"] (defScope (inClass (top 38) 4)) := ⟨rfl, rfl, rfl, by decide +kernel, rfl, by decide +kernel, by decide +kernel⟩
theorem TX.w_Book_begun (T : TX w K mg) (B : BY P w fileS K mg base) : FnG P w K mg base (L2.CX P w) 1 (gtAd K "Book" "begun") (fdOf K (gtAd K "Book" "begun")) ["self"] (spL K ["self"] none PF.Book_begun_F) :=
  fn_F (N := ["self"]) (k := 0) (b := none) (bd := PF.Book_begun_b) T.f_Book_begun sc_Book_begun fun cdv A outer s H E hr hg tk hp hcd =>
    (fb_one (fs_ret (fe_fld T.cl_Book T.na_Book_first_box (fe_var (i := 0) rfl))))
theorem TX.f_is_integer (T : TX w K mg) : FunD K "is_integer" "is_integer" (defArgs (top 15)) (defBody (top 15)) (defScope (top 15)) [] [] (He.ga K "is_integer") (fdOf K (He.ga K "is_integer")) := T.t.t.fund 8 (d := d_is_integer) rfl
theorem TX.g_is_integer (T : TX w K mg) : mg "is_integer" = some (.ref (He.ga K "is_integer")) := T.t.t.glo 7 rfl
theorem TX.k_is_integer (T : TX w K mg) : PySem.W.keepIn K (.ref (He.ga K "is_integer")) = true := T.f_is_integer.kp
theorem TX.bd_is_integer (T : TX w K mg) : Binds K (fdOf K (He.ga K "is_integer")) ["value"] [] := FunD.bindsN T.f_is_integer fun _ _ _ _ _ _ us hl => match us, hl with | [_], _ => rfl
theorem sc_is_integer : FnScope ["value"] ["value"] (defScope (top 15)) := ⟨rfl, rfl, rfl, by decide +kernel, rfl, by decide +kernel, by decide +kernel⟩
theorem TX.w_is_integer (T : TX w K mg) (B : BY P w fileS K mg base) : FnG P w K mg base (L2.CX P w) 1 (He.ga K "is_integer") (fdOf K (He.ga K "is_integer")) ["value"] (spL K ["value"] none PF.is_integer_F) :=
  fn_F (N := ["value"]) (k := 0) (b := none) (bd := PF.is_integer_b) T.f_is_integer sc_is_integer fun cdv A outer s H E hr hg tk hp hcd =>
    (fb_one (fs_ret (fe_and (fe_isi (T.b_isinstance) (isB_ok "int") (fc_ty (T.b_int) (by decide +kernel)) (fe_var (i := 0) rfl)) (fe_one (fe_not (fe_isi (T.b_isinstance) (isB_ok "bool") (fc_ty (T.b_bool) (by decide +kernel)) (fe_var (i := 0) rfl)))))))
theorem TX.f_is_between (T : TX w K mg) : FunD K "is_between" "is_between" (defArgs (top 16)) (defBody (top 16)) (defScope (top 16)) [] [] (He.ga K "is_between") (fdOf K (He.ga K "is_between")) := T.t.t.fund 9 (d := d_is_between) rfl
theorem TX.g_is_between (T : TX w K mg) : mg "is_between" = some (.ref (He.ga K "is_between")) := T.t.t.glo 8 rfl
theorem TX.k_is_between (T : TX w K mg) : PySem.W.keepIn K (.ref (He.ga K "is_between")) = true := T.f_is_between.kp
theorem TX.bd_is_between (T : TX w K mg) : Binds K (fdOf K (He.ga K "is_between")) ["value", "least", "most"] [] := FunD.bindsN T.f_is_between fun _ _ _ _ _ _ us hl => match us, hl with | [_, _, _], _ => rfl
theorem sc_is_between : FnScope ["value", "least", "most"] ["value", "least", "most"] (defScope (top 16)) := ⟨rfl, rfl, rfl, by decide +kernel, rfl, by decide +kernel, by decide +kernel⟩
theorem TX.w_is_between (T : TX w K mg) (B : BY P w fileS K mg base) : FnG P w K mg base (L2.CX P w) 2 (He.ga K "is_between") (fdOf K (He.ga K "is_between")) ["value", "least", "most"] (spL K ["value", "least", "most"] none PF.is_between_F) :=
  fn_F (N := ["value", "least", "most"]) (k := 1) (b := none) (bd := PF.is_between_b) T.f_is_between sc_is_between fun cdv A outer s H E hr hg tk hp hcd =>
    (fb_one (fs_ret (fe_and (fe_of (fv_call (T.w_is_integer B) (T.g_is_integer) T.k_is_integer T.bd_is_integer .nil (fun _ => Reps.nil) (hr.mono (by decide)) hg tk rfl (fa_cons (fe_var (i := 0) rfl) fa_nil))) (fe_one (fe_chn op_le op_le le0 le0 (fe_var (i := 1) rfl) (fe_var (i := 0) rfl) (fe_var (i := 2) rfl))))))
theorem TX.f_is_row_of (T : TX w K mg) : FunD K "is_row_of" "is_row_of" (defArgs (top 58)) (defBody (top 58)) (defScope (top 58)) [] [] (He.ga K "is_row_of") (fdOf K (He.ga K "is_row_of")) := T.t.t.fund 10 (d := d_is_row_of) rfl
theorem TX.g_is_row_of (T : TX w K mg) : mg "is_row_of" = some (.ref (He.ga K "is_row_of")) := T.t.t.glo 9 rfl
theorem TX.k_is_row_of (T : TX w K mg) : PySem.W.keepIn K (.ref (He.ga K "is_row_of")) = true := T.f_is_row_of.kp
theorem TX.bd_is_row_of (T : TX w K mg) : Binds K (fdOf K (He.ga K "is_row_of")) ["value", "many"] [] := FunD.bindsN T.f_is_row_of fun _ _ _ _ _ _ us hl => match us, hl with | [_, _], _ => rfl
theorem sc_is_row_of : FnScope ["value", "many", "k"] ["value", "many"] (defScope (top 58)) := ⟨rfl, rfl, rfl, by decide +kernel, rfl, by decide +kernel, by decide +kernel⟩
theorem TX.w_is_row_of (T : TX w K mg) (B : BY P w fileS K mg base) : FnG P w K mg base (L2.CX P w) 3 (He.ga K "is_row_of") (fdOf K (He.ga K "is_row_of")) ["value", "many"] (spL K ["value", "many"] none PF.is_row_of_F) :=
  fn_F (N := ["value", "many", "k"]) (k := 2) (b := none) (bd := PF.is_row_of_b) T.f_is_row_of sc_is_row_of fun cdv A outer s H E hr hg tk hp hcd =>
    (fb_one (fs_ret (fe_and (fe_isi (T.b_isinstance) (isB_ok "tuple") (fc_ty (T.b_tuple) (by decide +kernel)) (fe_var (i := 0) rfl)) (fe_and (fe_eq hr.units (fe_len (T.b_len) (fe_var (i := 0) rfl)) (fe_len (T.b_len) (fe_glob (T.c_LAYERS)))) (fe_one (fe_all rfl (T.b_all) (fe_of (fv_lc (own := [("k", 2)]) rfl sc_is_row_of.nd (fi_any (fe_var (i := 0) rfl)) (blk_of rfl) (by decide) (fun s1 H1 C1 cl fp => (fg_name (i := 2) sc_is_row_of.nd rfl)) (fun s1 H1 C1 cl fp => fts_nil) (fun s1 H1 C1 cl fp => (fe_of (fv_call (T.w_is_between B) (T.g_is_between) T.k_is_between T.bd_is_between .nil (fun _ => Reps.nil) (hr.mono (by decide)) hg takes_noW rfl (fa_cons (fe_var (i := 2) rfl) (fa_cons fe_int (fa_cons (fe_sub (fe_var (i := 1) rfl) fe_int) fa_nil))))))))))))))
theorem TX.f_is_table (T : TX w K mg) : FunD K "is_table" "is_table" (defArgs (top 59)) (defBody (top 59)) (defScope (top 59)) [] [] (He.ga K "is_table") (fdOf K (He.ga K "is_table")) := T.t.t.fund 11 (d := d_is_table) rfl
theorem TX.g_is_table (T : TX w K mg) : mg "is_table" = some (.ref (He.ga K "is_table")) := T.t.t.glo 10 rfl
theorem TX.k_is_table (T : TX w K mg) : PySem.W.keepIn K (.ref (He.ga K "is_table")) = true := T.f_is_table.kp
theorem TX.bd_is_table (T : TX w K mg) : Binds K (fdOf K (He.ga K "is_table")) ["moves", "good"] [] := FunD.bindsN T.f_is_table fun _ _ _ _ _ _ us hl => match us, hl with | [_, _], _ => rfl
theorem sc_is_table : FnScope ["moves", "good", "row", "state", "one", "other"] ["moves", "good"] (defScope (top 59)) := ⟨rfl, rfl, rfl, by decide +kernel, rfl, by decide +kernel, by decide +kernel⟩
theorem TX.w_is_table (T : TX w K mg) (B : BY P w fileS K mg base) : FnG P w K mg base (L2.CX P w) 4 (He.ga K "is_table") (fdOf K (He.ga K "is_table")) ["moves", "good"] (spL K ["moves", "good"] none PF.is_table_F) :=
  fn_F (N := ["moves", "good", "row", "state", "one", "other"]) (k := 3) (b := none) (bd := PF.is_table_b) T.f_is_table sc_is_table fun cdv A outer s H E hr hg tk hp hcd =>
    (fb_cons (fs_if (ft_of (fw_or (ft_not (ft_val (fe_isi (T.b_isinstance) (isB_ok "tuple") (fc_ty (T.b_tuple) (by decide +kernel)) (fe_var (i := 0) rfl)))) (fw_or (ft_eq hr.units (fe_len (T.b_len) (fe_var (i := 0) rfl)) fe_int) (fw_or1 (ft_not (ft_val (fe_isi (T.b_isinstance) (isB_ok "tuple") (fc_ty (T.b_tuple) (by decide +kernel)) (fe_var (i := 1) rfl)))))))) (fb_one (fs_ret fe_bl)) fb_nil) (fb_cons (fs_if (ft_not (ft_val (fe_all rfl (T.b_all) (fe_of (fv_lc (own := [("row", 2)]) rfl sc_is_table.nd (fi_any (fe_var (i := 0) rfl)) (blk_of rfl) (by decide) (fun s1 H1 C1 cl fp => (fg_name (i := 2) sc_is_table.nd rfl)) (fun s1 H1 C1 cl fp => fts_nil) (fun s1 H1 C1 cl fp => (fe_of (fv_call (T.w_is_row_of B) (T.g_is_row_of) T.k_is_row_of T.bd_is_row_of .nil (fun _ => Reps.nil) (hr.mono (by decide)) hg takes_noW rfl (fa_cons (fe_var (i := 2) rfl) (fa_cons (fe_len (T.b_len) (fe_var (i := 0) rfl)) fa_nil)))))))))) (fb_one (fs_ret fe_bl)) fb_nil) (fb_cons (fs_if (ft_not (ft_val (fe_all rfl (T.b_all) (fe_of (fv_lc (own := [("state", 3)]) rfl sc_is_table.nd (fi_any (fe_var (i := 1) rfl)) (blk_of rfl) (by decide) (fun s1 H1 C1 cl fp => (fg_name (i := 3) sc_is_table.nd rfl)) (fun s1 H1 C1 cl fp => fts_nil) (fun s1 H1 C1 cl fp => (fe_of (fv_call (T.w_is_between B) (T.g_is_between) T.k_is_between T.bd_is_between .nil (fun _ => Reps.nil) (hr.mono (by decide)) hg takes_noW rfl (fa_cons (fe_var (i := 3) rfl) (fa_cons fe_int (fa_cons (fe_sub (fe_len (T.b_len) (fe_var (i := 0) rfl)) fe_int) fa_nil))))))))))) (fb_one (fs_ret fe_bl)) fb_nil) (fb_one (fs_ret (fe_all rfl (T.b_all) (fe_of (fv_lc (own := [("one", 4), ("other", 5)]) rfl sc_is_table.nd (fi_zip (T.b_zip) (fa_cons (fe_var (i := 1) rfl) (fa_cons (fe_sl (fe_var (i := 1) rfl) (fo_some fe_int) fo_no) fa_nil))) (blk_of rfl) (by decide) (fun s1 H1 C1 cl fp => (fg_seq rfl (fgs_cons (fg_name (i := 4) sc_is_table.nd rfl) (fgs_cons (fg_name (i := 5) sc_is_table.nd rfl) fgs_nil)))) (fun s1 H1 C1 cl fp => fts_nil) (fun s1 H1 C1 cl fp => (fe_lt (fe_var (i := 4) rfl) (fe_var (i := 5) rfl)))))))))))
theorem TX.f_shows_never (T : TX w K mg) : FunD K "shows_never" "shows_never" (defArgs (top 62)) (defBody (top 62)) (defScope (top 62)) [] [] (He.ga K "shows_never") (fdOf K (He.ga K "shows_never")) := T.t.t.fund 12 (d := d_shows_never) rfl
theorem TX.g_shows_never (T : TX w K mg) : mg "shows_never" = some (.ref (He.ga K "shows_never")) := T.t.t.glo 11 rfl
theorem TX.k_shows_never (T : TX w K mg) : PySem.W.keepIn K (.ref (He.ga K "shows_never")) = true := T.f_shows_never.kp
theorem TX.bd_shows_never (T : TX w K mg) : Binds K (fdOf K (He.ga K "shows_never")) ["book", "box", "certificate"] [] := FunD.bindsN T.f_shows_never fun _ _ _ _ _ _ us hl => match us, hl with | [_, _, _], _ => rfl
theorem sc_shows_never : FnScope ["book", "box", "certificate", "moves", "good", "rule"] ["book", "box", "certificate"] (defScope (top 62)) := ⟨rfl, rfl, rfl, by decide +kernel, rfl, by decide +kernel, by decide +kernel⟩
theorem TX.w_shows_never (T : TX w K mg) (B : BY P w fileS K mg base) : FnG P w K mg base (L2.CX P w) 6 (He.ga K "shows_never") (fdOf K (He.ga K "shows_never")) ["book", "box", "certificate"] (spL K ["book", "box", "certificate"] none PF.shows_never_F) :=
  fn_F (N := ["book", "box", "certificate", "moves", "good", "rule"]) (k := 5) (b := none) (bd := PF.shows_never_b) T.f_shows_never sc_shows_never fun cdv A outer s H E hr hg tk hp hcd =>
    (fb_cons (fs_if (ft_of (fw_or (ft_not (ft_val (fe_isi (T.b_isinstance) (isB_ok "tuple") (fc_ty (T.b_tuple) (by decide +kernel)) (fe_var (i := 2) rfl)))) (fw_or1 (ft_ne hr.units (fe_len (T.b_len) (fe_var (i := 2) rfl)) fe_int)))) (fb_one (fs_ret fe_bl)) fb_nil) (fb_cons (fs_asgB (fe_var (i := 2) rfl) (fg_seq rfl (fgs_cons (fg_name (i := 3) sc_shows_never.nd rfl) (fgs_cons (fg_name (i := 4) sc_shows_never.nd rfl) fgs_nil)))) (fb_cons (fs_if (ft_not (ft_val (fe_of (fv_call (T.w_is_table B) (T.g_is_table) T.k_is_table T.bd_is_table .nil (fun _ => Reps.nil) (hr.mono (by decide)) hg tk rfl (fa_cons (fe_var (i := 3) rfl) (fa_cons (fe_var (i := 4) rfl) fa_nil)))))) (fb_one (fs_ret fe_bl)) fb_nil) (fb_cons (fs_if (ft_of (fw_or (ft_nin (Room.u65 hr) (fe_of (fv_call (T.w_state_behind B) (T.g_state_behind) T.k_state_behind T.bd_state_behind .nil (fun _ => Reps.nil) (hr.mono (by decide)) hg tk rfl (fa_cons (fe_var (i := 3) rfl) (fa_cons fe_int (fa_cons (fe_of (fv_prop T.cl_Book T.pr_Book_begun (T.w_Book_begun B) T.bd_Book_begun (hr.mono (by decide)) hg rfl (fe_var (i := 0) rfl))) fa_nil))))) (fe_var (i := 4) rfl)) (fw_or1 (ft_in (Room.u65 hr) (fe_of (fv_call (T.w_state_behind B) (T.g_state_behind) T.k_state_behind T.bd_state_behind .nil (fun _ => Reps.nil) (hr.mono (by decide)) hg tk rfl (fa_cons (fe_var (i := 3) rfl) (fa_cons fe_int (fa_cons (fe_var (i := 1) rfl) fa_nil))))) (fe_var (i := 4) rfl))))) (fb_one (fs_ret fe_bl)) fb_nil) (fb_one (fs_ret (fe_all rfl (T.b_all) (fe_of (fv_lc (own := [("rule", 5)]) rfl sc_shows_never.nd (fi_any (fe_of (fv_call (T.w_rules_of B) (T.g_rules_of) T.k_rules_of T.bd_rules_of .nil (fun _ => Reps.nil) (hr.mono (by decide)) hg tk rfl (fa_cons (fe_var (i := 0) rfl) fa_nil)))) (blk_of rfl) (by decide) (fun s1 H1 C1 cl fp => (fg_name (i := 5) sc_shows_never.nd rfl)) (fun s1 H1 C1 cl fp => fts_nil) (fun s1 H1 C1 cl fp => (fe_of (fv_call (T.w_keeps B) (T.g_keeps) T.k_keeps T.bd_keeps .nil (fun _ => Reps.nil) (hr.mono (by decide)) hg takes_noW rfl (fa_cons (fe_var (i := 3) rfl) (fa_cons (fe_var (i := 4) rfl) (fa_cons (fe_var (i := 5) rfl) fa_nil)))))))))))))))
theorem TX.f_Mail_boxes (T : TX w K mg) : FunD K "boxes" "Mail.boxes" (defArgs (inClass (top 45) 2)) (defBody (inClass (top 45) 2)) (defScope (inClass (top 45) 2)) [] [] (gtAd K "Mail" "boxes") (fdOf K (gtAd K "Mail" "boxes")) := T.t.funx 1 (x := x_Mail_boxes) rfl
theorem TX.bd_Mail_boxes (T : TX w K mg) : Binds K (fdOf K (gtAd K "Mail" "boxes")) ["self"] [] := FunD.bindsN T.f_Mail_boxes fun _ _ _ _ _ _ us hl => match us, hl with | [_], _ => rfl
theorem sc_Mail_boxes : FnScope ["self"] ["self"] (defScope (inClass (top 45) 2)) := ⟨rfl, rfl, rfl, by decide +kernel, rfl, by decide +kernel, by decide +kernel⟩
theorem TX.w_Mail_boxes (T : TX w K mg) (B : BY P w fileS K mg base) : FnG P w K mg base (L2.CX P w) 1 (gtAd K "Mail" "boxes") (fdOf K (gtAd K "Mail" "boxes")) ["self"] (spL K ["self"] none PF.Mail_boxes_F) :=
  fn_F (N := ["self"]) (k := 0) (b := none) (bd := PF.Mail_boxes_b) T.f_Mail_boxes sc_Mail_boxes fun cdv A outer s H E hr hg tk hp hcd =>
    (fb_one (fs_ret (fe_fld T.cl_Mail T.na_Mail_all_boxes (fe_var (i := 0) rfl))))
theorem TX.f_check_book (T : TX w K mg) : FunD K "check_book" "check_book" (defArgs (top 39)) (defBody (top 39)) (defScope (top 39)) [] [] (He.ga K "check_book") (fdOf K (He.ga K "check_book")) := T.t.t.fund 13 (d := d_check_book) rfl
theorem TX.g_check_book (T : TX w K mg) : mg "check_book" = some (.ref (He.ga K "check_book")) := T.t.t.glo 12 rfl
theorem TX.k_check_book (T : TX w K mg) : PySem.W.keepIn K (.ref (He.ga K "check_book")) = true := T.f_check_book.kp
theorem TX.bd_check_book (T : TX w K mg) : Binds K (fdOf K (He.ga K "check_book")) ["book"] [] := FunD.bindsN T.f_check_book fun _ _ _ _ _ _ us hl => match us, hl with | [_], _ => rfl
theorem sc_check_book : FnScope ["book"] ["book"] (defScope (top 39)) := ⟨rfl, rfl, rfl, by decide +kernel, rfl, by decide +kernel, by decide +kernel⟩
theorem TX.w_check_book (T : TX w K mg) (B : BY P w fileS K mg base) : FnG P w K mg base (L2.CX P w) 3 (He.ga K "check_book") (fdOf K (He.ga K "check_book")) ["book"] (spL K ["book"] none PF.check_book_3_F) :=
  fn_F (N := ["book"]) (k := 2) (b := none) (bd := PF.check_book_3_b) T.f_check_book sc_check_book fun cdv A outer s H E hr hg tk hp hcd =>
    (fb_one (fs_if (ft_not (ft_val (fe_isi (T.b_isinstance) (isC_ok T.isc_Book) (fc_own T.gc_Book) (fe_var (i := 0) rfl)))) (fb_one (fs_raise (c := "NotABook") (n := "given") rfl tk T.eo_NotABook.T T.eo_NotABook.iC T.eo_NotABook.tI (T.xf_NotABook B) T.bx_NotABook T.gc_NotABook (hr.mono (by decide)) (fa_cons (fe_var (i := 0) rfl) fa_nil))) fb_nil))
theorem TX.f_Mail___init__ (T : TX w K mg) : FunD K "__init__" "Mail.__init__" (defArgs (inClass (top 45) 0)) (defBody (inClass (top 45) 0)) (defScope (inClass (top 45) 0)) [] [] (He.ma K (He.ga K "Mail") "__init__") (fdOf K (He.ma K (He.ga K "Mail") "__init__")) := T.t.t.fund 14 (d := d_Mail___init__) rfl
theorem TX.bd_Mail___init__ (T : TX w K mg) : Binds K (fdOf K (He.ma K (He.ga K "Mail") "__init__")) ["self", "book"] [] := FunD.bindsN T.f_Mail___init__ fun _ _ _ _ _ _ us hl => match us, hl with | [_, _], _ => rfl
theorem sc_Mail___init__ : FnScope ["self", "book"] ["self", "book"] (defScope (inClass (top 45) 0)) := ⟨rfl, rfl, rfl, by decide +kernel, rfl, by decide +kernel, by decide +kernel⟩
theorem TX.w_Mail___init__ (T : TX w K mg) (B : BY P w fileS K mg base) : FnG P w K mg base (L2.CX P w) 4 (He.ma K (He.ga K "Mail") "__init__") (fdOf K (He.ma K (He.ga K "Mail") "__init__")) ["self", "book"] (spL K ["self", "book"] (some 0) PF.Mail___init___3_F) :=
  fn_F (N := ["self", "book"]) (k := 3) (b := (some 0)) (bd := PF.Mail___init___3_b) T.f_Mail___init__ sc_Mail___init__ fun cdv A outer s H E hr hg tk hp hcd =>
    (fb_cons (fs_expr (fe_of (fv_call (T.w_check_book B) (T.g_check_book) T.k_check_book T.bd_check_book .nil (fun _ => Reps.nil) (hr.mono (by decide)) hg tk rfl (fa_cons (fe_var (i := 1) rfl) fa_nil)))) (fb_cons (fs_setf (i := 0) T.cl_Mail T.na_Mail_rules rfl (by first | exact .inl rfl | exact .inr (.inl rfl) | exact .inr (.inr rfl)) (fe_var (i := 1) rfl)) (fb_one (fs_setf (i := 0) T.cl_Mail T.na_Mail_all_boxes rfl (by first | exact .inl rfl | exact .inr (.inl rfl) | exact .inr (.inr rfl)) (fe_tup (fa_cons (fe_of (fv_prop T.cl_Book T.pr_Book_begun (T.w_Book_begun B) T.bd_Book_begun (hr.mono (by decide)) hg rfl (fe_var (i := 1) rfl))) fa_nil))))))
theorem TX.f_Mail_joined (T : TX w K mg) : FunD K "joined" "Mail.joined" (defArgs (inClass (top 45) 3)) (defBody (inClass (top 45) 3)) (defScope (inClass (top 45) 3)) [] [] (He.ma K (He.ga K "Mail") "joined") (fdOf K (He.ma K (He.ga K "Mail") "joined")) := T.t.t.fund 15 (d := d_Mail_joined) rfl
theorem TX.bd_Mail_joined (T : TX w K mg) : Binds K (fdOf K (He.ma K (He.ga K "Mail") "joined")) ["self", "box"] [] := FunD.bindsN T.f_Mail_joined fun _ _ _ _ _ _ us hl => match us, hl with | [_, _], _ => rfl
theorem sc_Mail_joined : FnScope ["self", "box", "mail"] ["self", "box"] (defScope (inClass (top 45) 3)) := ⟨rfl, rfl, rfl, by decide +kernel, rfl, by decide +kernel, by decide +kernel⟩
theorem TX.w_Mail_joined (T : TX w K mg) (B : BY P w fileS K mg base) : FnG P w K mg base (L2.CX P w) 6 (He.ma K (He.ga K "Mail") "joined") (fdOf K (He.ma K (He.ga K "Mail") "joined")) ["self", "box"] (spL K ["self", "box"] none PF.Mail_joined_3_F) :=
  fn_F (N := ["self", "box", "mail"]) (k := 5) (b := none) (bd := PF.Mail_joined_3_b) T.f_Mail_joined sc_Mail_joined fun cdv A outer s H E hr hg tk hp hcd =>
    (fb_cons (fs_asg (i := 2) (fv_make T.mk_Mail (T.w_Mail___init__ B) T.gc_Mail T.bd_Mail___init__ .nil (fun _ => Reps.nil) (hr.mono (by decide)) hg tk rfl (fa_cons (fe_fld T.cl_Mail T.na_Mail_rules (fe_var (i := 0) rfl)) fa_nil)) sc_Mail_joined.nd rfl (by first | exact .inl rfl | exact .inr rfl)) (fb_cons (fs_setf (i := 2) T.cl_Mail T.na_Mail_all_boxes rfl (by first | exact .inl rfl | exact .inr (.inl rfl) | exact .inr (.inr rfl)) (fe_tup (fa_star (fe_fld T.cl_Mail T.na_Mail_all_boxes (fe_var (i := 0) rfl)) (fa_cons (fe_var (i := 1) rfl) fa_nil)))) (fb_one (fs_retV (fv_giv (fe_var (i := 2) rfl))))))
theorem TX.f_behind_deed (T : TX w K mg) : FunD K "behind_deed" "behind_deed" (defArgs (top 26)) (defBody (top 26)) (defScope (top 26)) [] [] (He.ga K "behind_deed") (fdOf K (He.ga K "behind_deed")) := T.t.t.fund 16 (d := d_behind_deed) rfl
theorem TX.g_behind_deed (T : TX w K mg) : mg "behind_deed" = some (.ref (He.ga K "behind_deed")) := T.t.t.glo 13 rfl
theorem TX.k_behind_deed (T : TX w K mg) : PySem.W.keepIn K (.ref (He.ga K "behind_deed")) = true := T.f_behind_deed.kp
theorem TX.bd_behind_deed (T : TX w K mg) : Binds K (fdOf K (He.ga K "behind_deed")) ["deed", "me", "you", "box"] [] := FunD.bindsN T.f_behind_deed fun _ _ _ _ _ _ us hl => match us, hl with | [_, _, _, _], _ => rfl
theorem sc_behind_deed : FnScope ["deed", "me", "you", "box", "verb", "whom", "name", "kind", "owner"] ["deed", "me", "you", "box"] (defScope (top 26)) := ⟨rfl, rfl, rfl, by decide +kernel, rfl, by decide +kernel, by decide +kernel⟩
theorem TX.w_behind_deed (T : TX w K mg) (B : BY P w fileS K mg base) : FnG P w K mg base (L2.CX P w) 1 (He.ga K "behind_deed") (fdOf K (He.ga K "behind_deed")) ["deed", "me", "you", "box"] (spL K ["deed", "me", "you", "box"] none PF.behind_deed_F) :=
  fn_F (N := ["deed", "me", "you", "box", "verb", "whom", "name", "kind", "owner"]) (k := 0) (b := none) (bd := PF.behind_deed_b) T.f_behind_deed sc_behind_deed fun cdv A outer s H E hr hg tk hp hcd =>
    (fb_cons (fs_asgB (fe_var (i := 0) rfl) (fg_seq rfl (fgs_cons (fg_name (i := 4) sc_behind_deed.nd rfl) (fgs_cons (fg_name (i := 5) sc_behind_deed.nd rfl) fgs_nil)))) (fb_cons (fs_asg (i := 6) (fv_e (fe_if (ft_eq hr.units (fe_var (i := 5) rfl) fe_str) (fe_var (i := 2) rfl) (fe_var (i := 1) rfl))) sc_behind_deed.nd rfl (by first | exact .inl rfl | exact .inr rfl)) (fb_cons (fs_if (ft_in (Room.u65 hr) (fe_var (i := 4) rfl) (fe_tup (fa_cons fe_str (fa_cons fe_str fa_nil)))) (fb_one (fs_ret (fe_tup (fa_cons (fe_tup (fa_cons (fe_var (i := 4) rfl) (fa_cons (fe_var (i := 6) rfl) fa_nil))) (fa_star (fe_var (i := 3) rfl) fa_nil))))) fb_nil) (fb_cons (fs_if (ft_eq hr.units (fe_var (i := 3) rfl) (fe_tup fa_nil)) (fb_one (fs_ret fe_non)) fb_nil) (fb_cons (fs_asgB (fe_ix (fe_var (i := 3) rfl) fe_int) (fg_seq rfl (fgs_cons (fg_name (i := 7) sc_behind_deed.nd rfl) (fgs_cons (fg_name (i := 8) sc_behind_deed.nd rfl) fgs_nil)))) (fb_cons (fs_if (ft_of (fw_or (ft_ne hr.units (fe_var (i := 4) rfl) (fe_add fe_str (fe_var (i := 7) rfl))) (fw_or1 (ft_of (fw_and (ft_ne hr.units (fe_var (i := 5) rfl) fe_str) (fw_and1 (ft_ne hr.units (fe_var (i := 8) rfl) (fe_var (i := 6) rfl)))))))) (fb_one (fs_ret fe_non)) fb_nil) (fb_one (fs_ret (fe_sl (fe_var (i := 3) rfl) (fo_some fe_int) fo_no)))))))))
theorem TX.f_done (T : TX w K mg) : FunD K "done" "done" (defArgs (top 27)) (defBody (top 27)) (defScope (top 27)) [] [] (He.ga K "done") (fdOf K (He.ga K "done")) := T.t.t.fund 17 (d := d_done) rfl
theorem TX.g_done (T : TX w K mg) : mg "done" = some (.ref (He.ga K "done")) := T.t.t.glo 14 rfl
theorem TX.k_done (T : TX w K mg) : PySem.W.keepIn K (.ref (He.ga K "done")) = true := T.f_done.kp
theorem TX.bd_done (T : TX w K mg) : Binds K (fdOf K (He.ga K "done")) ["deeds", "me", "you", "box"] [] := FunD.bindsN T.f_done fun _ _ _ _ _ _ us hl => match us, hl with | [_, _, _, _], _ => rfl
theorem sc_done : FnScope ["deeds", "me", "you", "box", "deed"] ["deeds", "me", "you", "box"] (defScope (top 27)) := ⟨rfl, rfl, rfl, by decide +kernel, rfl, by decide +kernel, by decide +kernel⟩
theorem TX.w_done (T : TX w K mg) (B : BY P w fileS K mg base) : FnG P w K mg base (L2.CX P w) 2 (He.ga K "done") (fdOf K (He.ga K "done")) ["deeds", "me", "you", "box"] (spL K ["deeds", "me", "you", "box"] none PF.done_F) :=
  fn_F (N := ["deeds", "me", "you", "box", "deed"]) (k := 1) (b := none) (bd := PF.done_b) T.f_done sc_done fun cdv A outer s H E hr hg tk hp hcd =>
    (fb_cons (fs_for rfl hp (fi_any (fe_var (i := 0) rfl)) (fg_name (i := 4) sc_done.nd rfl) (fb_cons (fs_asg (i := 3) (fv_call (T.w_behind_deed B) (T.g_behind_deed) T.k_behind_deed T.bd_behind_deed .nil (fun _ => Reps.nil) (hr.mono (by decide)) hg tk rfl (fa_cons (fe_var (i := 4) rfl) (fa_cons (fe_var (i := 1) rfl) (fa_cons (fe_var (i := 2) rfl) (fa_cons (fe_var (i := 3) rfl) fa_nil))))) sc_done.nd rfl (by first | exact .inl rfl | exact .inr rfl)) (fb_one (fs_if (ft_isN (fe_var (i := 3) rfl)) (fb_one (fs_ret fe_non)) fb_nil)))) (fb_one (fs_retV (fv_giv (fe_var (i := 3) rfl)))))
theorem TX.f_is_name (T : TX w K mg) : FunD K "is_name" "is_name" (defArgs (top 17)) (defBody (top 17)) (defScope (top 17)) [] [] (He.ga K "is_name") (fdOf K (He.ga K "is_name")) := T.t.t.fund 18 (d := d_is_name) rfl
theorem TX.g_is_name (T : TX w K mg) : mg "is_name" = some (.ref (He.ga K "is_name")) := T.t.t.glo 15 rfl
theorem TX.k_is_name (T : TX w K mg) : PySem.W.keepIn K (.ref (He.ga K "is_name")) = true := T.f_is_name.kp
theorem TX.bd_is_name (T : TX w K mg) : Binds K (fdOf K (He.ga K "is_name")) ["value"] [] := FunD.bindsN T.f_is_name fun _ _ _ _ _ _ us hl => match us, hl with | [_], _ => rfl
theorem sc_is_name : FnScope ["value", "sign"] ["value"] (defScope (top 17)) := ⟨rfl, rfl, rfl, by decide +kernel, rfl, by decide +kernel, by decide +kernel⟩
theorem TX.w_is_name (T : TX w K mg) (B : BY P w fileS K mg base) : FnG P w K mg base (L2.CX P w) 1 (He.ga K "is_name") (fdOf K (He.ga K "is_name")) ["value"] (spL K ["value"] none PF.is_name_F) :=
  fn_F (N := ["value", "sign"]) (k := 0) (b := none) (bd := PF.is_name_b) T.f_is_name sc_is_name fun cdv A outer s H E hr hg tk hp hcd =>
    (fb_one (fs_ret (fe_and (fe_isi (T.b_isinstance) (isB_ok "str") (fc_ty (T.b_str) (by decide +kernel)) (fe_var (i := 0) rfl)) (fe_and (fe_chn op_lt op_lt lt0 lt0 fe_int (fe_len (T.b_len) (fe_var (i := 0) rfl)) fe_int) (fe_one (fe_all rfl (T.b_all) (fe_of (fv_lc (own := [("sign", 1)]) rfl sc_is_name.nd (fi_any (fe_var (i := 0) rfl)) (blk_of rfl) (by decide) (fun s1 H1 C1 cl fp => (fg_name (i := 1) sc_is_name.nd rfl)) (fun s1 H1 C1 cl fp => fts_nil) (fun s1 H1 C1 cl fp => (fe_in (Room.u65 hr) (fe_var (i := 1) rfl) (fe_glob (T.c_LETTERS))))))))))))
theorem TX.f_box_answered (T : TX w K mg) : FunD K "box_answered" "box_answered" (defArgs (top 43)) (defBody (top 43)) (defScope (top 43)) [] [] (He.ga K "box_answered") (fdOf K (He.ga K "box_answered")) := T.t.t.fund 19 (d := d_box_answered) rfl
theorem TX.g_box_answered (T : TX w K mg) : mg "box_answered" = some (.ref (He.ga K "box_answered")) := T.t.t.glo 16 rfl
theorem TX.k_box_answered (T : TX w K mg) : PySem.W.keepIn K (.ref (He.ga K "box_answered")) = true := T.f_box_answered.kp
theorem TX.bd_box_answered (T : TX w K mg) : Binds K (fdOf K (He.ga K "box_answered")) ["book", "told", "box"] [] := FunD.bindsN T.f_box_answered fun _ _ _ _ _ _ us hl => match us, hl with | [_, _, _], _ => rfl
theorem sc_box_answered : FnScope ["book", "told", "box", "index", "me", "you"] ["book", "told", "box"] (defScope (top 43)) := ⟨rfl, rfl, rfl, by decide +kernel, rfl, by decide +kernel, by decide +kernel⟩
theorem TX.w_box_answered (T : TX w K mg) (B : BY P w fileS K mg base) : FnG P w K mg base (L2.CX P w) 3 (He.ga K "box_answered") (fdOf K (He.ga K "box_answered")) ["book", "told", "box"] (spL K ["book", "told", "box"] none PF.box_answered_F) :=
  fn_F (N := ["book", "told", "box", "index", "me", "you"]) (k := 2) (b := none) (bd := PF.box_answered_b) T.f_box_answered sc_box_answered fun cdv A outer s H E hr hg tk hp hcd =>
    (fb_cons (fs_if (ft_ne hr.units (fe_len (T.b_len) (fe_var (i := 1) rfl)) fe_int) (fb_one (fs_ret fe_non)) fb_nil) (fb_cons (fs_asgB (fe_var (i := 1) rfl) (fg_seq rfl (fgs_cons (fg_name (i := 3) sc_box_answered.nd rfl) (fgs_cons (fg_name (i := 4) sc_box_answered.nd rfl) (fgs_cons (fg_name (i := 5) sc_box_answered.nd rfl) fgs_nil))))) (fb_cons (fs_if (ft_of (fw_or (ft_not (ft_val (fe_of (fv_call (T.w_is_between B) (T.g_is_between) T.k_is_between T.bd_is_between .nil (fun _ => Reps.nil) (hr.mono (by decide)) hg tk rfl (fa_cons (fe_var (i := 3) rfl) (fa_cons fe_int (fa_cons (fe_sub (fe_len (T.b_len) (fe_fld T.cl_Book T.na_Book_deeds (fe_var (i := 0) rfl))) fe_int) fa_nil))))))) (fw_or (ft_not (ft_val (fe_of (fv_call (T.w_is_name B) (T.g_is_name) T.k_is_name T.bd_is_name .nil (fun _ => Reps.nil) (hr.mono (by decide)) hg tk rfl (fa_cons (fe_var (i := 4) rfl) fa_nil))))) (fw_or1 (ft_not (ft_val (fe_of (fv_call (T.w_is_name B) (T.g_is_name) T.k_is_name T.bd_is_name .nil (fun _ => Reps.nil) (hr.mono (by decide)) hg tk rfl (fa_cons (fe_var (i := 5) rfl) fa_nil))))))))) (fb_one (fs_ret fe_non)) fb_nil) (fb_one (fs_retV (fv_call (T.w_done B) (T.g_done) T.k_done T.bd_done .nil (fun _ => Reps.nil) (hr.mono (by decide)) hg tk rfl (fa_cons (fe_ix (fe_fld T.cl_Book T.na_Book_deeds (fe_var (i := 0) rfl)) (fe_var (i := 3) rfl)) (fa_cons (fe_var (i := 4) rfl) (fa_cons (fe_var (i := 5) rfl) (fa_cons (fe_var (i := 2) rfl) fa_nil))))))))))
theorem TX.f_box_opened (T : TX w K mg) : FunD K "box_opened" "box_opened" (defArgs (top 42)) (defBody (top 42)) (defScope (top 42)) [] [] (He.ga K "box_opened") (fdOf K (He.ga K "box_opened")) := T.t.t.fund 20 (d := d_box_opened) rfl
theorem TX.g_box_opened (T : TX w K mg) : mg "box_opened" = some (.ref (He.ga K "box_opened")) := T.t.t.glo 17 rfl
theorem TX.k_box_opened (T : TX w K mg) : PySem.W.keepIn K (.ref (He.ga K "box_opened")) = true := T.f_box_opened.kp
theorem TX.bd_box_opened (T : TX w K mg) : Binds K (fdOf K (He.ga K "box_opened")) ["verb", "box"] [] := FunD.bindsN T.f_box_opened fun _ _ _ _ _ _ us hl => match us, hl with | [_, _], _ => rfl
theorem sc_box_opened : FnScope ["verb", "box", "kind", "owner"] ["verb", "box"] (defScope (top 42)) := ⟨rfl, rfl, rfl, by decide +kernel, rfl, by decide +kernel, by decide +kernel⟩
theorem TX.w_box_opened (T : TX w K mg) (B : BY P w fileS K mg base) : FnG P w K mg base (L2.CX P w) 1 (He.ga K "box_opened") (fdOf K (He.ga K "box_opened")) ["verb", "box"] (spL K ["verb", "box"] none PF.box_opened_F) :=
  fn_F (N := ["verb", "box", "kind", "owner"]) (k := 0) (b := none) (bd := PF.box_opened_b) T.f_box_opened sc_box_opened fun cdv A outer s H E hr hg tk hp hcd =>
    (fb_cons (fs_if (ft_eq hr.units (fe_var (i := 1) rfl) (fe_tup fa_nil)) (fb_one (fs_ret fe_non)) fb_nil) (fb_cons (fs_asgB (fe_ix (fe_var (i := 1) rfl) fe_int) (fg_seq rfl (fgs_cons (fg_name (i := 2) sc_box_opened.nd rfl) (fgs_cons (fg_name (i := 3) sc_box_opened.nd rfl) fgs_nil)))) (fb_one (fs_ret (fe_if (ft_of (fw_and (ft_eq hr.units (fe_var (i := 0) rfl) (fe_add fe_str (fe_var (i := 2) rfl))) (fw_and1 (ft_of (fw_or (ft_eq hr.units (fe_var (i := 2) rfl) fe_str) (fw_or1 (ft_eq hr.units (fe_var (i := 3) rfl) (fe_glob (T.c_THIEF))))))))) (fe_sl (fe_var (i := 1) rfl) (fo_some fe_int) fo_no) fe_non)))))
theorem TX.f_box_behind (T : TX w K mg) : FunD K "box_behind" "box_behind" (defArgs (top 44)) (defBody (top 44)) (defScope (top 44)) [] [] (He.ga K "box_behind") (fdOf K (He.ga K "box_behind")) := T.t.t.fund 21 (d := d_box_behind) rfl
theorem TX.g_box_behind (T : TX w K mg) : mg "box_behind" = some (.ref (He.ga K "box_behind")) := T.t.t.glo 18 rfl
theorem TX.k_box_behind (T : TX w K mg) : PySem.W.keepIn K (.ref (He.ga K "box_behind")) = true := T.f_box_behind.kp
theorem TX.bd_box_behind (T : TX w K mg) : Binds K (fdOf K (He.ga K "box_behind")) ["book", "boxes", "step"] [] := FunD.bindsN T.f_box_behind fun _ _ _ _ _ _ us hl => match us, hl with | [_, _, _], _ => rfl
theorem sc_box_behind : FnScope ["book", "boxes", "step", "verb", "box", "told"] ["book", "boxes", "step"] (defScope (top 44)) := ⟨rfl, rfl, rfl, by decide +kernel, rfl, by decide +kernel, by decide +kernel⟩
theorem TX.w_box_behind (T : TX w K mg) (B : BY P w fileS K mg base) : FnG P w K mg base (L2.CX P w) 4 (He.ga K "box_behind") (fdOf K (He.ga K "box_behind")) ["book", "boxes", "step"] (spL K ["book", "boxes", "step"] none PF.box_behind_F) :=
  fn_F (N := ["book", "boxes", "step", "verb", "box", "told"]) (k := 3) (b := none) (bd := PF.box_behind_b) T.f_box_behind sc_box_behind fun cdv A outer s H E hr hg tk hp hcd =>
    (fb_cons (fs_if (ft_of (fw_or (ft_not (ft_val (fe_isi (T.b_isinstance) (isB_ok "tuple") (fc_ty (T.b_tuple) (by decide +kernel)) (fe_var (i := 2) rfl)))) (fw_or (ft_lt (fe_len (T.b_len) (fe_var (i := 2) rfl)) fe_int) (fw_or1 (ft_not (ft_val (fe_isi (T.b_isinstance) (isB_ok "str") (fc_ty (T.b_str) (by decide +kernel)) (fe_ix (fe_var (i := 2) rfl) fe_int)))))))) (fb_one (fs_ret fe_non)) fb_nil) (fb_cons (fs_if (ft_not (ft_val (fe_of (fv_call (T.w_is_between B) (T.g_is_between) T.k_is_between T.bd_is_between .nil (fun _ => Reps.nil) (hr.mono (by decide)) hg tk rfl (fa_cons (fe_ix (fe_var (i := 2) rfl) fe_int) (fa_cons fe_int (fa_cons (fe_sub (fe_len (T.b_len) (fe_var (i := 1) rfl)) fe_int) fa_nil))))))) (fb_one (fs_ret fe_non)) fb_nil) (fb_cons (fs_par3 (fva_cons (fv_e (fe_ix (fe_var (i := 2) rfl) fe_int)) (fva_cons (fv_e (fe_ix (fe_var (i := 1) rfl) (fe_ix (fe_var (i := 2) rfl) fe_int))) (fva_cons (fv_e (fe_sl (fe_var (i := 2) rfl) (fo_some fe_int) fo_no)) fva_nil))) rfl sc_box_behind.nd (hi := rfl) (hj := rfl) (hl := rfl) (by decide) (by decide) (by decide) rfl rfl rfl rfl) (fb_cons (fs_if (ft_in (Room.u65 hr) (fe_var (i := 3) rfl) (fe_tup (fa_cons fe_str (fa_cons fe_str fa_nil)))) (fb_one (fs_ret (fe_if (ft_of (fw_and (ft_eq hr.units (fe_len (T.b_len) (fe_var (i := 5) rfl)) fe_int) (fw_and1 (ft_val (fe_of (fv_call (T.w_is_name B) (T.g_is_name) T.k_is_name T.bd_is_name .nil (fun _ => Reps.nil) (hr.mono (by decide)) hg tk rfl (fa_cons (fe_ix (fe_var (i := 5) rfl) fe_int) fa_nil))))))) (fe_tup (fa_cons (fe_tup (fa_cons (fe_var (i := 3) rfl) (fa_cons (fe_ix (fe_var (i := 5) rfl) fe_int) fa_nil))) (fa_star (fe_var (i := 4) rfl) fa_nil))) fe_non))) fb_nil) (fb_cons (fs_if (ft_in (Room.u65 hr) (fe_var (i := 3) rfl) (fe_tup (fa_cons fe_str (fa_cons fe_str fa_nil)))) (fb_one (fs_ret (fe_if (ft_eq hr.units (fe_len (T.b_len) (fe_var (i := 5) rfl)) fe_int) (fe_of (fv_call (T.w_box_opened B) (T.g_box_opened) T.k_box_opened T.bd_box_opened .nil (fun _ => Reps.nil) (hr.mono (by decide)) hg tk rfl (fa_cons (fe_var (i := 3) rfl) (fa_cons (fe_var (i := 4) rfl) fa_nil)))) fe_non))) fb_nil) (fb_one (fs_ret (fe_if (ft_eq hr.units (fe_var (i := 3) rfl) fe_str) (fe_of (fv_call (T.w_box_answered B) (T.g_box_answered) T.k_box_answered T.bd_box_answered .nil (fun _ => Reps.nil) (hr.mono (by decide)) hg tk rfl (fa_cons (fe_var (i := 0) rfl) (fa_cons (fe_var (i := 5) rfl) (fa_cons (fe_var (i := 4) rfl) fa_nil))))) fe_non))))))))
theorem TX.f_Mail_book (T : TX w K mg) : FunD K "book" "Mail.book" (defArgs (inClass (top 45) 1)) (defBody (inClass (top 45) 1)) (defScope (inClass (top 45) 1)) [] [] (gtAd K "Mail" "book") (fdOf K (gtAd K "Mail" "book")) := T.t.funx 2 (x := x_Mail_book) rfl
theorem TX.bd_Mail_book (T : TX w K mg) : Binds K (fdOf K (gtAd K "Mail" "book")) ["self"] [] := FunD.bindsN T.f_Mail_book fun _ _ _ _ _ _ us hl => match us, hl with | [_], _ => rfl
theorem sc_Mail_book : FnScope ["self"] ["self"] (defScope (inClass (top 45) 1)) := ⟨rfl, rfl, rfl, by decide +kernel, rfl, by decide +kernel, by decide +kernel⟩
theorem TX.w_Mail_book (T : TX w K mg) (B : BY P w fileS K mg base) : FnG P w K mg base (L2.CX P w) 1 (gtAd K "Mail" "book") (fdOf K (gtAd K "Mail" "book")) ["self"] (spL K ["self"] none PF.Mail_book_F) :=
  fn_F (N := ["self"]) (k := 0) (b := none) (bd := PF.Mail_book_b) T.f_Mail_book sc_Mail_book fun cdv A outer s H E hr hg tk hp hcd =>
    (fb_one (fs_ret (fe_fld T.cl_Mail T.na_Mail_rules (fe_var (i := 0) rfl))))
theorem TX.f_Mail_led (T : TX w K mg) : FunD K "led" "Mail.led" (defArgs (inClass (top 45) 5)) (defBody (inClass (top 45) 5)) (defScope (inClass (top 45) 5)) [] [] (He.ma K (He.ga K "Mail") "led") (fdOf K (He.ma K (He.ga K "Mail") "led")) := T.t.t.fund 22 (d := d_Mail_led) rfl
theorem TX.bd_Mail_led (T : TX w K mg) : Binds K (fdOf K (He.ma K (He.ga K "Mail") "led")) ["self", "steps"] [] := FunD.bindsN T.f_Mail_led fun _ _ _ _ _ _ us hl => match us, hl with | [_, _], _ => rfl
theorem sc_Mail_led : FnScope ["self", "steps", "mail", "index", "step", "box"] ["self", "steps"] (defScope (inClass (top 45) 5)) := ⟨rfl, rfl, rfl, by decide +kernel, rfl, by decide +kernel, by decide +kernel⟩
theorem TX.w_Mail_led (T : TX w K mg) (B : BY P w fileS K mg base) : FnG P w K mg base (L2.CX P w) 7 (He.ma K (He.ga K "Mail") "led") (fdOf K (He.ma K (He.ga K "Mail") "led")) ["self", "steps"] (spL K ["self", "steps"] none PF.Mail_led_4_F) :=
  fn_F (N := ["self", "steps", "mail", "index", "step", "box"]) (k := 6) (b := none) (bd := PF.Mail_led_4_b) T.f_Mail_led sc_Mail_led fun cdv A outer s H E hr hg tk hp hcd =>
    (fb_cons (fs_if (ft_not (ft_val (fe_isi (T.b_isinstance) (isB_ok "tuple") (fc_ty (T.b_tuple) (by decide +kernel)) (fe_var (i := 1) rfl)))) (fb_one (fs_raise (c := "InvalidSteps") (n := "index") rfl tk T.eo_InvalidSteps.T T.eo_InvalidSteps.iC T.eo_InvalidSteps.tI (T.xf_InvalidSteps B) T.bx_InvalidSteps T.gc_InvalidSteps (hr.mono (by decide)) (fa_cons fe_non fa_nil))) fb_nil) (fb_cons (fs_asg (i := 2) (fv_e (fe_var (i := 0) rfl)) sc_Mail_led.nd rfl (by first | exact .inl rfl | exact .inr rfl)) (fb_cons (fs_for rfl hp (fi_enum (T.b_enumerate) (fe_var (i := 1) rfl)) (fg_seq rfl (fgs_cons (fg_name (i := 3) sc_Mail_led.nd rfl) (fgs_cons (fg_name (i := 4) sc_Mail_led.nd rfl) fgs_nil))) (fb_cons (fs_asg (i := 5) (fv_call (T.w_box_behind B) (T.g_box_behind) T.k_box_behind T.bd_box_behind .nil (fun _ => Reps.nil) (hr.mono (by decide)) hg tk rfl (fa_cons (fe_of (fv_prop T.cl_Mail T.pr_Mail_book (T.w_Mail_book B) T.bd_Mail_book (hr.mono (by decide)) hg rfl (fe_var (i := 2) rfl))) (fa_cons (fe_of (fv_prop T.cl_Mail T.pr_Mail_boxes (T.w_Mail_boxes B) T.bd_Mail_boxes (hr.mono (by decide)) hg rfl (fe_var (i := 2) rfl))) (fa_cons (fe_var (i := 4) rfl) fa_nil)))) sc_Mail_led.nd rfl (by first | exact .inl rfl | exact .inr rfl)) (fb_cons (fs_if (ft_isN (fe_var (i := 5) rfl)) (fb_one (fs_raise (c := "InvalidSteps") (n := "index") rfl tk T.eo_InvalidSteps.T T.eo_InvalidSteps.iC T.eo_InvalidSteps.tI (T.xf_InvalidSteps B) T.bx_InvalidSteps T.gc_InvalidSteps (hr.mono (by decide)) (fa_cons (fe_var (i := 3) rfl) fa_nil))) fb_nil) (fb_one (fs_asg (i := 2) (fv_meth T.cl_Mail T.mt_Mail_joined (T.w_Mail_joined B) T.bd_Mail_joined .nil (fun _ => Reps.nil) (hr.mono (by decide)) hg tk rfl (fe_var (i := 2) rfl) (fa_cons (fe_var (i := 5) rfl) fa_nil)) sc_Mail_led.nd rfl (by first | exact .inl rfl | exact .inr rfl)))))) (fb_one (fs_retV (fv_giv (fe_var (i := 2) rfl)))))))
theorem TX.f_shows_got (T : TX w K mg) : FunD K "shows_got" "shows_got" (defArgs (top 57)) (defBody (top 57)) (defScope (top 57)) [] [] (He.ga K "shows_got") (fdOf K (He.ga K "shows_got")) := T.t.t.fund 23 (d := d_shows_got) rfl
theorem TX.g_shows_got (T : TX w K mg) : mg "shows_got" = some (.ref (He.ga K "shows_got")) := T.t.t.glo 19 rfl
theorem TX.k_shows_got (T : TX w K mg) : PySem.W.keepIn K (.ref (He.ga K "shows_got")) = true := T.f_shows_got.kp
theorem TX.bd_shows_got (T : TX w K mg) : Binds K (fdOf K (He.ga K "shows_got")) ["book", "box", "most", "steps"] [] := FunD.bindsN T.f_shows_got fun _ _ _ _ _ _ us hl => match us, hl with | [_, _, _, _], _ => rfl
theorem sc_shows_got : FnScope ["book", "box", "most", "steps", "mail"] ["book", "box", "most", "steps"] (defScope (top 57)) := ⟨rfl, rfl, rfl, by decide +kernel, rfl, by decide +kernel, by decide +kernel⟩
theorem TX.w_shows_got (T : TX w K mg) (B : BY P w fileS K mg base) : FnG P w K mg base (L2.CX P w) 8 (He.ga K "shows_got") (fdOf K (He.ga K "shows_got")) ["book", "box", "most", "steps"] (spL K ["book", "box", "most", "steps"] none PF.shows_got_F) :=
  fn_F (N := ["book", "box", "most", "steps", "mail"]) (k := 7) (b := none) (bd := PF.shows_got_b) T.f_shows_got sc_shows_got fun cdv A outer s H E hr hg tk hp hcd =>
    (fb_cons (fs_tryO tk rfl rfl rfl (by decide) T.gc_InvalidSteps T.tro_InvalidSteps (fun W pn xe tk hp => (fb_one (fs_asg (i := 4) (fv_meth T.cl_Mail T.mt_Mail_led (T.w_Mail_led B) T.bd_Mail_led .nil (fun _ => Reps.nil) (hr.mono (by decide)) hg tk rfl (fe_of (fv_make T.mk_Mail (T.w_Mail___init__ B) T.gc_Mail T.bd_Mail___init__ .nil (fun _ => Reps.nil) (hr.mono (by decide)) hg tk rfl (fa_cons (fe_var (i := 0) rfl) fa_nil))) (fa_cons (fe_var (i := 3) rfl) fa_nil)) sc_shows_got.nd rfl (by first | exact .inl rfl | exact .inr rfl)))) (fun a oe pn => (fb_one (fs_ret fe_bl))) retc_ok) (fb_one (fs_ret (fe_and (fe_le (fe_len (T.b_len) (fe_var (i := 3) rfl)) (fe_var (i := 2) rfl)) (fe_one (fe_eq hr.units (fe_ix (fe_of (fv_prop T.cl_Mail T.pr_Mail_boxes (T.w_Mail_boxes B) T.bd_Mail_boxes (hr.mono (by decide)) hg rfl (fe_var (i := 4) rfl))) (fe_neg fe_int)) (fe_var (i := 1) rfl)))))))
theorem TX.f_deeds_of (T : TX w K mg) : FunD K "deeds_of" "deeds_of" (defArgs (top 25)) (defBody (top 25)) (defScope (top 25)) [] [] (He.ga K "deeds_of") (fdOf K (He.ga K "deeds_of")) := T.t.t.fund 24 (d := d_deeds_of) rfl
theorem TX.g_deeds_of (T : TX w K mg) : mg "deeds_of" = some (.ref (He.ga K "deeds_of")) := T.t.t.glo 20 rfl
theorem TX.k_deeds_of (T : TX w K mg) : PySem.W.keepIn K (.ref (He.ga K "deeds_of")) = true := T.f_deeds_of.kp
theorem TX.bd_deeds_of (T : TX w K mg) : Binds K (fdOf K (He.ga K "deeds_of")) ["row"] [] := FunD.bindsN T.f_deeds_of fun _ _ _ _ _ _ us hl => match us, hl with | [_], _ => rfl
theorem sc_deeds_of : FnScope ["row", "word"] ["row"] (defScope (top 25)) := ⟨rfl, rfl, rfl, by decide +kernel, rfl, by decide +kernel, by decide +kernel⟩
theorem TX.w_deeds_of (T : TX w K mg) (B : BY P w fileS K mg base) : FnG P w K mg base (L2.CX P w) 1 (He.ga K "deeds_of") (fdOf K (He.ga K "deeds_of")) ["row"] (spL K ["row"] none PF.deeds_of_F) :=
  fn_F (N := ["row", "word"]) (k := 0) (b := none) (bd := PF.deeds_of_b) T.f_deeds_of sc_deeds_of fun cdv A outer s H E hr hg tk hp hcd =>
    (fb_one (fs_retV (fv_lc (own := [("word", 1)]) rfl sc_deeds_of.nd (fi_any (fe_split (fe_var (i := 0) rfl) (fe_glob (T.c_BETWEEN)))) (blk_of rfl) (by decide) (fun s1 H1 C1 cl fp => (fg_name (i := 1) sc_deeds_of.nd rfl)) (fun s1 H1 C1 cl fp => fts_nil) (fun s1 H1 C1 cl fp => (fe_tupC (T.b_tuple) (fe_split (fe_var (i := 1) rfl) fe_str))))))
theorem TX.f_is_row (T : TX w K mg) : FunD K "is_row" "is_row" (defArgs (top 24)) (defBody (top 24)) (defScope (top 24)) [] [] (He.ga K "is_row") (fdOf K (He.ga K "is_row")) := T.t.t.fund 25 (d := d_is_row) rfl
theorem TX.g_is_row (T : TX w K mg) : mg "is_row" = some (.ref (He.ga K "is_row")) := T.t.t.glo 21 rfl
theorem TX.k_is_row (T : TX w K mg) : PySem.W.keepIn K (.ref (He.ga K "is_row")) = true := T.f_is_row.kp
theorem TX.bd_is_row (T : TX w K mg) : Binds K (fdOf K (He.ga K "is_row")) ["value"] [] := FunD.bindsN T.f_is_row fun _ _ _ _ _ _ us hl => match us, hl with | [_], _ => rfl
theorem sc_is_row : FnScope ["value", "words", "word"] ["value"] (defScope (top 24)) := ⟨rfl, rfl, rfl, by decide +kernel, rfl, by decide +kernel, by decide +kernel⟩
theorem TX.w_is_row (T : TX w K mg) (B : BY P w fileS K mg base) : FnG P w K mg base (L2.CX P w) 1 (He.ga K "is_row") (fdOf K (He.ga K "is_row")) ["value"] (spL K ["value"] none PF.is_row_F) :=
  fn_F (N := ["value", "words", "word"]) (k := 0) (b := none) (bd := PF.is_row_b) T.f_is_row sc_is_row fun cdv A outer s H E hr hg tk hp hcd =>
    (fb_cons (fs_if (ft_not (ft_val (fe_isi (T.b_isinstance) (isB_ok "str") (fc_ty (T.b_str) (by decide +kernel)) (fe_var (i := 0) rfl)))) (fb_one (fs_ret fe_bl)) fb_nil) (fb_cons (fs_asg (i := 1) (fv_e (fe_split (fe_var (i := 0) rfl) (fe_glob (T.c_BETWEEN)))) sc_is_row.nd rfl (by first | exact .inl rfl | exact .inr rfl)) (fb_one (fs_ret (fe_and (fe_le (fe_len (T.b_len) (fe_var (i := 1) rfl)) (fe_glob (T.c_MOST_DEEDS))) (fe_one (fe_all rfl (T.b_all) (fe_of (fv_lc (own := [("word", 2)]) rfl sc_is_row.nd (fi_any (fe_var (i := 1) rfl)) (blk_of rfl) (by decide) (fun s1 H1 C1 cl fp => (fg_name (i := 2) sc_is_row.nd rfl)) (fun s1 H1 C1 cl fp => fts_nil) (fun s1 H1 C1 cl fp => (fe_in (Room.u65 hr) (fe_var (i := 2) rfl) (fe_glob (T.c_DEEDS)))))))))))))
theorem TX.f_check_answers (T : TX w K mg) : FunD K "check_answers" "check_answers" (defArgs (top 35)) (defBody (top 35)) (defScope (top 35)) [] [] (He.ga K "check_answers") (fdOf K (He.ga K "check_answers")) := T.t.t.fund 26 (d := d_check_answers) rfl
theorem TX.g_check_answers (T : TX w K mg) : mg "check_answers" = some (.ref (He.ga K "check_answers")) := T.t.t.glo 22 rfl
theorem TX.k_check_answers (T : TX w K mg) : PySem.W.keepIn K (.ref (He.ga K "check_answers")) = true := T.f_check_answers.kp
theorem TX.bd_check_answers (T : TX w K mg) : Binds K (fdOf K (He.ga K "check_answers")) ["answers"] [] := FunD.bindsN T.f_check_answers fun _ _ _ _ _ _ us hl => match us, hl with | [_], _ => rfl
theorem sc_check_answers : FnScope ["answers", "index", "row"] ["answers"] (defScope (top 35)) := ⟨rfl, rfl, rfl, by decide +kernel, rfl, by decide +kernel, by decide +kernel⟩
theorem TX.w_check_answers (T : TX w K mg) (B : BY P w fileS K mg base) : FnG P w K mg base (L2.CX P w) 3 (He.ga K "check_answers") (fdOf K (He.ga K "check_answers")) ["answers"] (spL K ["answers"] none PF.check_answers_2_F) :=
  fn_F (N := ["answers", "index", "row"]) (k := 2) (b := none) (bd := PF.check_answers_2_b) T.f_check_answers sc_check_answers fun cdv A outer s H E hr hg tk hp hcd =>
    (fb_cons (fs_if (ft_not (ft_val (fe_isi (T.b_isinstance) (isB_ok "tuple") (fc_ty (T.b_tuple) (by decide +kernel)) (fe_var (i := 0) rfl)))) (fb_one (fs_raise (c := "InvalidAnswers") (n := "index") rfl tk T.eo_InvalidAnswers.T T.eo_InvalidAnswers.iC T.eo_InvalidAnswers.tI (T.xf_InvalidAnswers B) T.bx_InvalidAnswers T.gc_InvalidAnswers (hr.mono (by decide)) (fa_cons fe_non fa_nil))) fb_nil) (fb_one (fs_for rfl hp (fi_enum (T.b_enumerate) (fe_var (i := 0) rfl)) (fg_seq rfl (fgs_cons (fg_name (i := 1) sc_check_answers.nd rfl) (fgs_cons (fg_name (i := 2) sc_check_answers.nd rfl) fgs_nil))) (fb_one (fs_if (ft_of (fw_or (ft_eq hr.units (fe_var (i := 1) rfl) (fe_glob (T.c_MOST_ANSWERS))) (fw_or1 (ft_not (ft_val (fe_of (fv_call (T.w_is_row B) (T.g_is_row) T.k_is_row T.bd_is_row .nil (fun _ => Reps.nil) (hr.mono (by decide)) hg tk rfl (fa_cons (fe_var (i := 2) rfl) fa_nil)))))))) (fb_one (fs_raise (c := "InvalidAnswers") (n := "index") rfl tk T.eo_InvalidAnswers.T T.eo_InvalidAnswers.iC T.eo_InvalidAnswers.tI (T.xf_InvalidAnswers B) T.bx_InvalidAnswers T.gc_InvalidAnswers (hr.mono (by decide)) (fa_cons (fe_var (i := 1) rfl) fa_nil))) fb_nil)))))
theorem TX.f_box_begun (T : TX w K mg) : FunD K "box_begun" "box_begun" (defArgs (top 34)) (defBody (top 34)) (defScope (top 34)) [] [] (He.ga K "box_begun") (fdOf K (He.ga K "box_begun")) := T.t.t.fund 27 (d := d_box_begun) rfl
theorem TX.g_box_begun (T : TX w K mg) : mg "box_begun" = some (.ref (He.ga K "box_begun")) := T.t.t.glo 23 rfl
theorem TX.k_box_begun (T : TX w K mg) : PySem.W.keepIn K (.ref (He.ga K "box_begun")) = true := T.f_box_begun.kp
theorem TX.bd_box_begun (T : TX w K mg) : Binds K (fdOf K (He.ga K "box_begun")) ["first"] [] := FunD.bindsN T.f_box_begun fun _ _ _ _ _ _ us hl => match us, hl with | [_], _ => rfl
theorem sc_box_begun : FnScope ["first"] ["first"] (defScope (top 34)) := ⟨rfl, rfl, rfl, by decide +kernel, rfl, by decide +kernel, by decide +kernel⟩
theorem TX.w_box_begun (T : TX w K mg) (B : BY P w fileS K mg base) : FnG P w K mg base (L2.CX P w) 3 (He.ga K "box_begun") (fdOf K (He.ga K "box_begun")) ["first"] (spL K ["first"] none PF.box_begun_F) :=
  fn_F (N := ["first"]) (k := 2) (b := none) (bd := PF.box_begun_b) T.f_box_begun sc_box_begun fun cdv A outer s H E hr hg tk hp hcd =>
    (fb_one (fs_ret (fe_if (ft_val (fe_of (fv_call (T.w_is_row B) (T.g_is_row) T.k_is_row T.bd_is_row .nil (fun _ => Reps.nil) (hr.mono (by decide)) hg tk rfl (fa_cons (fe_var (i := 0) rfl) fa_nil)))) (fe_of (fv_call (T.w_done B) (T.g_done) T.k_done T.bd_done .nil (fun _ => Reps.nil) (hr.mono (by decide)) hg tk rfl (fa_cons (fe_of (fv_call (T.w_deeds_of B) (T.g_deeds_of) T.k_deeds_of T.bd_deeds_of .nil (fun _ => Reps.nil) (hr.mono (by decide)) hg tk rfl (fa_cons (fe_var (i := 0) rfl) fa_nil))) (fa_cons (fe_glob (T.c_WRITER)) (fa_cons (fe_glob (T.c_READER)) (fa_cons (fe_glob (T.c_LETTER)) fa_nil)))))) fe_non)))
theorem TX.f_Book___init__ (T : TX w K mg) : FunD K "__init__" "Book.__init__" (defArgs (inClass (top 38) 0)) (defBody (inClass (top 38) 0)) (defScope (inClass (top 38) 0)) [V.ref (He.dflAt ("Book", some "__init__") 0 K)] [] (He.ma K (He.ga K "Book") "__init__") (fdOf K (He.ma K (He.ga K "Book") "__init__")) := T.t.t.fund 28 (d := d_Book___init__) rfl
theorem TX.bd_Book___init___2 (T : TX w K mg) : ∃ ds, Vals [V.ref (He.dflAt ("Book", some "__init__") 0 K)] ds ∧ Binds K (fdOf K (He.ma K (He.ga K "Book") "__init__")) ["self", "first", "answers"] ds := FunD.binds1 T.f_Book___init__ 2 0 (by simp) rfl fun _ _ _ _ _ _ _ us its h1 h2 => match us, its, h1, h2 with | [_, _], [_], _, _ => ⟨_, rfl, rfl⟩
theorem TX.bd_Book___init___3 (T : TX w K mg) : ∃ ds, Vals [] ds ∧ Binds K (fdOf K (He.ma K (He.ga K "Book") "__init__")) ["self", "first", "answers"] ds := FunD.binds1 T.f_Book___init__ 3 1 (by simp) rfl fun _ _ _ _ _ _ _ us its h1 h2 => match us, its, h1, h2 with | [_, _, _], [_], _, _ => ⟨_, rfl, rfl⟩
theorem sc_Book___init__ : FnScope ["self", "first", "answers", "begun", "row"] ["self", "first", "answers"] (defScope (inClass (top 38) 0)) := ⟨rfl, rfl, rfl, by decide +kernel, rfl, by decide +kernel, by decide +kernel⟩
theorem TX.w_Book___init__ (T : TX w K mg) (B : BY P w fileS K mg base) : FnG P w K mg base (L2.CX P w) 4 (He.ma K (He.ga K "Book") "__init__") (fdOf K (He.ma K (He.ga K "Book") "__init__")) ["self", "first", "answers"] (spL K ["self", "first", "answers"] (some 0) PF.Book___init___2_F) :=
  fn_F (N := ["self", "first", "answers", "begun", "row"]) (k := 3) (b := (some 0)) (bd := PF.Book___init___2_b) T.f_Book___init__ sc_Book___init__ fun cdv A outer s H E hr hg tk hp hcd =>
    (fb_cons (fs_asg (i := 3) (fv_call (T.w_box_begun B) (T.g_box_begun) T.k_box_begun T.bd_box_begun .nil (fun _ => Reps.nil) (hr.mono (by decide)) hg tk rfl (fa_cons (fe_var (i := 1) rfl) fa_nil)) sc_Book___init__.nd rfl (by first | exact .inl rfl | exact .inr rfl)) (fb_cons (fs_if (ft_isN (fe_var (i := 3) rfl)) (fb_one (fs_raise (c := "InvalidRow") (n := "given") rfl tk T.eo_InvalidRow.T T.eo_InvalidRow.iC T.eo_InvalidRow.tI (T.xf_InvalidRow B) T.bx_InvalidRow T.gc_InvalidRow (hr.mono (by decide)) (fa_cons (fe_var (i := 1) rfl) fa_nil))) fb_nil) (fb_cons (fs_expr (fe_of (fv_call (T.w_check_answers B) (T.g_check_answers) T.k_check_answers T.bd_check_answers .nil (fun _ => Reps.nil) (hr.mono (by decide)) hg tk rfl (fa_cons (fe_var (i := 2) rfl) fa_nil)))) (fb_cons (fs_setf (i := 0) T.cl_Book T.na_Book_first_row rfl (by first | exact .inl rfl | exact .inr (.inl rfl) | exact .inr (.inr rfl)) (fe_var (i := 1) rfl)) (fb_cons (fs_setf (i := 0) T.cl_Book T.na_Book_answer_rows rfl (by first | exact .inl rfl | exact .inr (.inl rfl) | exact .inr (.inr rfl)) (fe_var (i := 2) rfl)) (fb_cons (fs_setf (i := 0) T.cl_Book T.na_Book_first_box rfl (by first | exact .inl rfl | exact .inr (.inl rfl) | exact .inr (.inr rfl)) (fe_var (i := 3) rfl)) (fb_one (fs_setf (i := 0) T.cl_Book T.na_Book_deeds rfl (by first | exact .inl rfl | exact .inr (.inl rfl) | exact .inr (.inr rfl)) (fe_of (fv_lc (own := [("row", 4)]) rfl sc_Book___init__.nd (fi_any (fe_var (i := 2) rfl)) (blk_of rfl) (by decide) (fun s1 H1 C1 cl fp => (fg_name (i := 4) sc_Book___init__.nd rfl)) (fun s1 H1 C1 cl fp => fts_nil) (fun s1 H1 C1 cl fp => (fe_of (fv_call (T.w_deeds_of B) (T.g_deeds_of) T.k_deeds_of T.bd_deeds_of .nil (fun _ => Reps.nil) (hr.mono (by decide)) hg takes_noW rfl (fa_cons (fe_var (i := 4) rfl) fa_nil))))))))))))))
theorem TX.f_parts_of (T : TX w K mg) : FunD K "parts_of" "parts_of" (defArgs (top 37)) (defBody (top 37)) (defScope (top 37)) [] [] (He.ga K "parts_of") (fdOf K (He.ga K "parts_of")) := T.t.t.fund 29 (d := d_parts_of) rfl
theorem TX.g_parts_of (T : TX w K mg) : mg "parts_of" = some (.ref (He.ga K "parts_of")) := T.t.t.glo 24 rfl
theorem TX.k_parts_of (T : TX w K mg) : PySem.W.keepIn K (.ref (He.ga K "parts_of")) = true := T.f_parts_of.kp
theorem TX.bd_parts_of (T : TX w K mg) : Binds K (fdOf K (He.ga K "parts_of")) ["text"] [] := FunD.bindsN T.f_parts_of fun _ _ _ _ _ _ us hl => match us, hl with | [_], _ => rfl
theorem sc_parts_of : FnScope ["text", "head", "others", "answers", "line", "row"] ["text"] (defScope (top 37)) := ⟨rfl, rfl, rfl, by decide +kernel, rfl, by decide +kernel, by decide +kernel⟩
theorem TX.w_parts_of (T : TX w K mg) (B : BY P w fileS K mg base) : FnG P w K mg base (L2.CX P w) 4 (He.ga K "parts_of") (fdOf K (He.ga K "parts_of")) ["text"] (spL K ["text"] none PF.parts_of_F) :=
  fn_F (N := ["text", "head", "others", "answers", "line", "row"]) (k := 3) (b := none) (bd := PF.parts_of_b) T.f_parts_of sc_parts_of fun cdv A outer s H E hr hg tk hp hcd =>
    (fb_cons (fs_if (ft_not (ft_val (fe_isi (T.b_isinstance) (isB_ok "str") (fc_ty (T.b_str) (by decide +kernel)) (fe_var (i := 0) rfl)))) (fb_one (fs_ret fe_non)) fb_nil) (fb_cons (fs_asgB (fe_split (fe_var (i := 0) rfl) fe_str) (fg_hr rfl (fg_name (i := 1) sc_parts_of.nd rfl) (fg_name (i := 2) sc_parts_of.nd rfl))) (fb_cons (fs_if (ft_of (fw_or (ft_not (ft_val (fe_startswith (fe_var (i := 1) rfl) (fe_glob (T.c_FIRST))))) (fw_or (ft_isN (fe_of (fv_call (T.w_box_begun B) (T.g_box_begun) T.k_box_begun T.bd_box_begun .nil (fun _ => Reps.nil) (hr.mono (by decide)) hg tk rfl (fa_cons (fe_removeprefix (fe_var (i := 1) rfl) (fe_glob (T.c_FIRST))) fa_nil)))) (fw_or1 (ft_gt (fe_len (T.b_len) (fe_var (i := 2) rfl)) (fe_glob (T.c_MOST_ANSWERS))))))) (fb_one (fs_ret fe_non)) fb_nil) (fb_cons (fs_asg (i := 3) (fv_e (fe_tupC (T.b_tuple) (fe_of (fv_lc (own := [("line", 4)]) rfl sc_parts_of.nd (fi_any (fe_var (i := 2) rfl)) (blk_of rfl) (by decide) (fun s1 H1 C1 cl fp => (fg_name (i := 4) sc_parts_of.nd rfl)) (fun s1 H1 C1 cl fp => (fts_one (ft_val (fe_startswith (fe_var (i := 4) rfl) (fe_glob (T.c_ANSWER)))))) (fun s1 H1 C1 cl fp => (fe_removeprefix (fe_var (i := 4) rfl) (fe_glob (T.c_ANSWER)))))))) sc_parts_of.nd rfl (by first | exact .inl rfl | exact .inr rfl)) (fb_cons (fs_if (ft_of (fw_or (ft_lt (fe_len (T.b_len) (fe_var (i := 3) rfl)) (fe_len (T.b_len) (fe_var (i := 2) rfl))) (fw_or1 (ft_not (ft_val (fe_all rfl (T.b_all) (fe_of (fv_lc (own := [("row", 5)]) rfl sc_parts_of.nd (fi_any (fe_var (i := 3) rfl)) (blk_of rfl) (by decide) (fun s1 H1 C1 cl fp => (fg_name (i := 5) sc_parts_of.nd rfl)) (fun s1 H1 C1 cl fp => fts_nil) (fun s1 H1 C1 cl fp => (fe_of (fv_call (T.w_is_row B) (T.g_is_row) T.k_is_row T.bd_is_row .nil (fun _ => Reps.nil) (hr.mono (by decide)) hg takes_noW rfl (fa_cons (fe_var (i := 5) rfl) fa_nil)))))))))))) (fb_one (fs_ret fe_non)) fb_nil) (fb_one (fs_ret (fe_tup (fa_cons (fe_removeprefix (fe_var (i := 1) rfl) (fe_glob (T.c_FIRST))) (fa_cons (fe_var (i := 3) rfl) fa_nil))))))))))
theorem TX.f_Book_read (T : TX w K mg) : FunD K "read" "Book.read" (defArgs (inClass (top 38) 1)) (defBody (inClass (top 38) 1)) (defScope (inClass (top 38) 1)) [] [] (cmAd K "Book" "read") (fdOf K (cmAd K "Book" "read")) := T.t.funx 3 (x := x_Book_read) rfl
theorem TX.bd_Book_read (T : TX w K mg) : Binds K (fdOf K (cmAd K "Book" "read")) ["cls", "text"] [] := FunD.bindsN T.f_Book_read fun _ _ _ _ _ _ us hl => match us, hl with | [_, _], _ => rfl
theorem sc_Book_read : FnScope ["cls", "text", "parts", "first", "answers"] ["cls", "text"] (defScope (inClass (top 38) 1)) := ⟨rfl, rfl, rfl, by decide +kernel, rfl, by decide +kernel, by decide +kernel⟩
theorem TX.w_Book_read (T : TX w K mg) (B : BY P w fileS K mg base) : FnG P w K mg base (L2.CX P w) 6 (cmAd K "Book" "read") (fdOf K (cmAd K "Book" "read")) ["cls", "text"] (spL K ["cls", "text"] none PF.Book_read_3_F) :=
  fn_F (N := ["cls", "text", "parts", "first", "answers"]) (k := 5) (b := none) (bd := PF.Book_read_3_b) T.f_Book_read sc_Book_read fun cdv A outer s H E hr hg tk hp hcd =>
    (fb_cons (fs_asg (i := 2) (fv_call (T.w_parts_of B) (T.g_parts_of) T.k_parts_of T.bd_parts_of .nil (fun _ => Reps.nil) (hr.mono (by decide)) hg tk rfl (fa_cons (fe_var (i := 1) rfl) fa_nil)) sc_Book_read.nd rfl (by first | exact .inl rfl | exact .inr rfl)) (fb_cons (fs_if (ft_isN (fe_var (i := 2) rfl)) (fb_one (fs_raise (c := "InvalidText") (n := "given") rfl tk T.eo_InvalidText.T T.eo_InvalidText.iC T.eo_InvalidText.tI (T.xf_InvalidText B) T.bx_InvalidText T.gc_InvalidText (hr.mono (by decide)) (fa_cons (fe_var (i := 1) rfl) fa_nil))) fb_nil) (fb_cons (fs_asgB (fe_var (i := 2) rfl) (fg_seq rfl (fgs_cons (fg_name (i := 3) sc_Book_read.nd rfl) (fgs_cons (fg_name (i := 4) sc_Book_read.nd rfl) fgs_nil)))) (fb_one (fs_retV (fv_makeL (i := 0) T.mk_Book (T.w_Book___init__ B) rfl (by first | exact .inl rfl | exact .inr (.inl rfl) | exact .inr (.inr rfl)) (T.bd_Book___init___3).choose_spec.2 (T.bd_Book___init___3).choose_spec.1 (fun _ => Reps.nil) (hr.mono (by decide)) hg tk rfl (fa_cons (fe_var (i := 3) rfl) (fa_cons (fe_var (i := 4) rfl) fa_nil))))))))
theorem TX.f_book_of (T : TX w K mg) : FunD K "book_of" "book_of" (defArgs (top 55)) (defBody (top 55)) (defScope (top 55)) [] [] (He.ga K "book_of") (fdOf K (He.ga K "book_of")) := T.t.t.fund 30 (d := d_book_of) rfl
theorem TX.g_book_of (T : TX w K mg) : mg "book_of" = some (.ref (He.ga K "book_of")) := T.t.t.glo 25 rfl
theorem TX.k_book_of (T : TX w K mg) : PySem.W.keepIn K (.ref (He.ga K "book_of")) = true := T.f_book_of.kp
theorem TX.bd_book_of (T : TX w K mg) : Binds K (fdOf K (He.ga K "book_of")) ["text"] [] := FunD.bindsN T.f_book_of fun _ _ _ _ _ _ us hl => match us, hl with | [_], _ => rfl
theorem sc_book_of : FnScope ["text"] ["text"] (defScope (top 55)) := ⟨rfl, rfl, rfl, by decide +kernel, rfl, by decide +kernel, by decide +kernel⟩
theorem TX.w_book_of (T : TX w K mg) (B : BY P w fileS K mg base) : FnG P w K mg base (L2.CX P w) 7 (He.ga K "book_of") (fdOf K (He.ga K "book_of")) ["text"] (spL K ["text"] none PF.book_of_F) :=
  fn_F (N := ["text"]) (k := 6) (b := none) (bd := PF.book_of_b) T.f_book_of sc_book_of fun cdv A outer s H E hr hg tk hp hcd =>
    (fb_one (fs_tryO tk rfl rfl rfl (by decide) T.gc_InvalidText T.tro_InvalidText (fun W pn xe tk hp => (fb_one (fs_retV (fv_cmeth T.cm_Book_read T.gc_Book (T.w_Book_read B) T.bd_Book_read .nil (fun _ => Reps.nil) (hr.mono (by decide)) hg tk rfl (fa_cons (fe_var (i := 0) rfl) fa_nil))))) (fun a oe pn => (fb_one (fs_ret fe_non))) retc_ok))
theorem TX.f_is_layer (T : TX w K mg) : FunD K "is_layer" "is_layer" (defArgs (top 18)) (defBody (top 18)) (defScope (top 18)) [] [] (He.ga K "is_layer") (fdOf K (He.ga K "is_layer")) := T.t.t.fund 31 (d := d_is_layer) rfl
theorem TX.g_is_layer (T : TX w K mg) : mg "is_layer" = some (.ref (He.ga K "is_layer")) := T.t.t.glo 26 rfl
theorem TX.k_is_layer (T : TX w K mg) : PySem.W.keepIn K (.ref (He.ga K "is_layer")) = true := T.f_is_layer.kp
theorem TX.bd_is_layer (T : TX w K mg) : Binds K (fdOf K (He.ga K "is_layer")) ["value"] [] := FunD.bindsN T.f_is_layer fun _ _ _ _ _ _ us hl => match us, hl with | [_], _ => rfl
theorem sc_is_layer : FnScope ["value"] ["value"] (defScope (top 18)) := ⟨rfl, rfl, rfl, by decide +kernel, rfl, by decide +kernel, by decide +kernel⟩
theorem TX.w_is_layer (T : TX w K mg) (B : BY P w fileS K mg base) : FnG P w K mg base (L2.CX P w) 2 (He.ga K "is_layer") (fdOf K (He.ga K "is_layer")) ["value"] (spL K ["value"] none PF.is_layer_F) :=
  fn_F (N := ["value"]) (k := 1) (b := none) (bd := PF.is_layer_b) T.f_is_layer sc_is_layer fun cdv A outer s H E hr hg tk hp hcd =>
    (fb_cons (fs_if (ft_of (fw_or (ft_not (ft_val (fe_isi (T.b_isinstance) (isB_ok "tuple") (fc_ty (T.b_tuple) (by decide +kernel)) (fe_var (i := 0) rfl)))) (fw_or (ft_ne hr.units (fe_len (T.b_len) (fe_var (i := 0) rfl)) fe_int) (fw_or1 (ft_not (ft_val (fe_isi (T.b_isinstance) (isB_ok "str") (fc_ty (T.b_str) (by decide +kernel)) (fe_ix (fe_var (i := 0) rfl) fe_int)))))))) (fb_one (fs_ret fe_bl)) fb_nil) (fb_one (fs_ret (fe_and (fe_in (Room.u65 hr) (fe_ix (fe_var (i := 0) rfl) fe_int) (fe_tup (fa_cons fe_str (fa_cons fe_str fa_nil)))) (fe_one (fe_of (fv_call (T.w_is_name B) (T.g_is_name) T.k_is_name T.bd_is_name .nil (fun _ => Reps.nil) (hr.mono (by decide)) hg tk rfl (fa_cons (fe_ix (fe_var (i := 0) rfl) fe_int) fa_nil))))))))
theorem TX.f_is_box (T : TX w K mg) : FunD K "is_box" "is_box" (defArgs (top 19)) (defBody (top 19)) (defScope (top 19)) [] [] (He.ga K "is_box") (fdOf K (He.ga K "is_box")) := T.t.t.fund 32 (d := d_is_box) rfl
theorem TX.g_is_box (T : TX w K mg) : mg "is_box" = some (.ref (He.ga K "is_box")) := T.t.t.glo 27 rfl
theorem TX.k_is_box (T : TX w K mg) : PySem.W.keepIn K (.ref (He.ga K "is_box")) = true := T.f_is_box.kp
theorem TX.bd_is_box (T : TX w K mg) : Binds K (fdOf K (He.ga K "is_box")) ["value"] [] := FunD.bindsN T.f_is_box fun _ _ _ _ _ _ us hl => match us, hl with | [_], _ => rfl
theorem sc_is_box : FnScope ["value", "layer"] ["value"] (defScope (top 19)) := ⟨rfl, rfl, rfl, by decide +kernel, rfl, by decide +kernel, by decide +kernel⟩
theorem TX.w_is_box (T : TX w K mg) (B : BY P w fileS K mg base) : FnG P w K mg base (L2.CX P w) 3 (He.ga K "is_box") (fdOf K (He.ga K "is_box")) ["value"] (spL K ["value"] none PF.is_box_F) :=
  fn_F (N := ["value", "layer"]) (k := 2) (b := none) (bd := PF.is_box_b) T.f_is_box sc_is_box fun cdv A outer s H E hr hg tk hp hcd =>
    (fb_one (fs_ret (fe_and (fe_isi (T.b_isinstance) (isB_ok "tuple") (fc_ty (T.b_tuple) (by decide +kernel)) (fe_var (i := 0) rfl)) (fe_and (fe_le (fe_len (T.b_len) (fe_var (i := 0) rfl)) (fe_glob (T.c_MOST_LAYERS))) (fe_one (fe_all rfl (T.b_all) (fe_of (fv_lc (own := [("layer", 1)]) rfl sc_is_box.nd (fi_any (fe_var (i := 0) rfl)) (blk_of rfl) (by decide) (fun s1 H1 C1 cl fp => (fg_name (i := 1) sc_is_box.nd rfl)) (fun s1 H1 C1 cl fp => fts_nil) (fun s1 H1 C1 cl fp => (fe_of (fv_call (T.w_is_layer B) (T.g_is_layer) T.k_is_layer T.bd_is_layer .nil (fun _ => Reps.nil) (hr.mono (by decide)) hg takes_noW rfl (fa_cons (fe_var (i := 1) rfl) fa_nil))))))))))))
theorem TX.f_is_known (T : TX w K mg) : FunD K "is_known" "is_known" (defArgs (top 20)) (defBody (top 20)) (defScope (top 20)) [] [] (He.ga K "is_known") (fdOf K (He.ga K "is_known")) := T.t.t.fund 33 (d := d_is_known) rfl
theorem TX.g_is_known (T : TX w K mg) : mg "is_known" = some (.ref (He.ga K "is_known")) := T.t.t.glo 28 rfl
theorem TX.k_is_known (T : TX w K mg) : PySem.W.keepIn K (.ref (He.ga K "is_known")) = true := T.f_is_known.kp
theorem TX.bd_is_known (T : TX w K mg) : Binds K (fdOf K (He.ga K "is_known")) ["value"] [] := FunD.bindsN T.f_is_known fun _ _ _ _ _ _ us hl => match us, hl with | [_], _ => rfl
theorem sc_is_known : FnScope ["value", "layer"] ["value"] (defScope (top 20)) := ⟨rfl, rfl, rfl, by decide +kernel, rfl, by decide +kernel, by decide +kernel⟩
theorem TX.w_is_known (T : TX w K mg) (B : BY P w fileS K mg base) : FnG P w K mg base (L2.CX P w) 4 (He.ga K "is_known") (fdOf K (He.ga K "is_known")) ["value"] (spL K ["value"] none PF.is_known_F) :=
  fn_F (N := ["value", "layer"]) (k := 3) (b := none) (bd := PF.is_known_b) T.f_is_known sc_is_known fun cdv A outer s H E hr hg tk hp hcd =>
    (fb_one (fs_ret (fe_and (fe_of (fv_call (T.w_is_box B) (T.g_is_box) T.k_is_box T.bd_is_box .nil (fun _ => Reps.nil) (hr.mono (by decide)) hg tk rfl (fa_cons (fe_var (i := 0) rfl) fa_nil))) (fe_one (fe_all rfl (T.b_all) (fe_of (fv_lc (own := [("layer", 1)]) rfl sc_is_known.nd (fi_any (fe_var (i := 0) rfl)) (blk_of rfl) (by decide) (fun s1 H1 C1 cl fp => (fg_name (i := 1) sc_is_known.nd rfl)) (fun s1 H1 C1 cl fp => fts_nil) (fun s1 H1 C1 cl fp => (fe_in (Room.u65 hr) (fe_ix (fe_var (i := 1) rfl) fe_int) (fe_glob (T.c_PEOPLE)))))))))))
theorem TX.f_book_in (T : TX w K mg) : FunD K "book_in" "book_in" (defArgs (top 56)) (defBody (top 56)) (defScope (top 56)) [] [] (He.ga K "book_in") (fdOf K (He.ga K "book_in")) := T.t.t.fund 34 (d := d_book_in) rfl
theorem TX.g_book_in (T : TX w K mg) : mg "book_in" = some (.ref (He.ga K "book_in")) := T.t.t.glo 29 rfl
theorem TX.k_book_in (T : TX w K mg) : PySem.W.keepIn K (.ref (He.ga K "book_in")) = true := T.f_book_in.kp
theorem TX.bd_book_in (T : TX w K mg) : Binds K (fdOf K (He.ga K "book_in")) ["claim"] [] := FunD.bindsN T.f_book_in fun _ _ _ _ _ _ us hl => match us, hl with | [_], _ => rfl
theorem sc_book_in : FnScope ["claim"] ["claim"] (defScope (top 56)) := ⟨rfl, rfl, rfl, by decide +kernel, rfl, by decide +kernel, by decide +kernel⟩
theorem TX.w_book_in (T : TX w K mg) (B : BY P w fileS K mg base) : FnG P w K mg base (L2.CX P w) 8 (He.ga K "book_in") (fdOf K (He.ga K "book_in")) ["claim"] (spL K ["claim"] none PF.book_in_F) :=
  fn_F (N := ["claim"]) (k := 7) (b := none) (bd := PF.book_in_b) T.f_book_in sc_book_in fun cdv A outer s H E hr hg tk hp hcd =>
    (fb_cons (fs_if (ft_of (fw_or (ft_not (ft_val (fe_isi (T.b_isinstance) (isB_ok "tuple") (fc_ty (T.b_tuple) (by decide +kernel)) (fe_var (i := 0) rfl)))) (fw_or (ft_eq hr.units (fe_len (T.b_len) (fe_var (i := 0) rfl)) fe_int) (fw_or1 (ft_not (ft_val (fe_isi (T.b_isinstance) (isB_ok "str") (fc_ty (T.b_str) (by decide +kernel)) (fe_ix (fe_var (i := 0) rfl) fe_int)))))))) (fb_one (fs_ret fe_non)) fb_nil) (fb_cons (fs_if (ft_of (fw_or (ft_ne hr.units (fe_kget T.kg_SIZES (fe_ix (fe_var (i := 0) rfl) fe_int)) (fe_len (T.b_len) (fe_var (i := 0) rfl))) (fw_or1 (ft_not (ft_val (fe_of (fv_call (T.w_is_known B) (T.g_is_known) T.k_is_known T.bd_is_known .nil (fun _ => Reps.nil) (hr.mono (by decide)) hg tk rfl (fa_cons (fe_ix (fe_var (i := 0) rfl) fe_int) fa_nil)))))))) (fb_one (fs_ret fe_non)) fb_nil) (fb_cons (fs_if (ft_of (fw_and (ft_eq hr.units (fe_len (T.b_len) (fe_var (i := 0) rfl)) fe_int) (fw_and1 (ft_of (fw_or (ft_not (ft_val (fe_of (fv_call (T.w_is_integer B) (T.g_is_integer) T.k_is_integer T.bd_is_integer .nil (fun _ => Reps.nil) (hr.mono (by decide)) hg tk rfl (fa_cons (fe_ix (fe_var (i := 0) rfl) fe_int) fa_nil))))) (fw_or1 (ft_lt (fe_ix (fe_var (i := 0) rfl) fe_int) fe_int))))))) (fb_one (fs_ret fe_non)) fb_nil) (fb_one (fs_retV (fv_call (T.w_book_of B) (T.g_book_of) T.k_book_of T.bd_book_of .nil (fun _ => Reps.nil) (hr.mono (by decide)) hg tk rfl (fa_cons (fe_ix (fe_var (i := 0) rfl) fe_int) fa_nil)))))))
theorem TX.f_accepts (T : TX w K mg) : FunD K "accepts" "accepts" (defArgs (top 63)) (defBody (top 63)) (defScope (top 63)) [] [] (He.ga K "accepts") (fdOf K (He.ga K "accepts")) := T.t.t.fund 35 (d := d_accepts) rfl
theorem TX.g_accepts (T : TX w K mg) : mg "accepts" = some (.ref (He.ga K "accepts")) := T.t.t.glo 30 rfl
theorem TX.k_accepts (T : TX w K mg) : PySem.W.keepIn K (.ref (He.ga K "accepts")) = true := T.f_accepts.kp
theorem TX.bd_accepts (T : TX w K mg) : Binds K (fdOf K (He.ga K "accepts")) ["claim", "certificate"] [] := FunD.bindsN T.f_accepts fun _ _ _ _ _ _ us hl => match us, hl with | [_, _], _ => rfl
theorem sc_accepts : FnScope ["claim", "certificate", "book"] ["claim", "certificate"] (defScope (top 63)) := ⟨rfl, rfl, rfl, by decide +kernel, rfl, by decide +kernel, by decide +kernel⟩
theorem TX.w_accepts (T : TX w K mg) (B : BY P w fileS K mg base) : FnG P w K mg base (L2.CX P w) 9 (He.ga K "accepts") (fdOf K (He.ga K "accepts")) ["claim", "certificate"] (spL K ["claim", "certificate"] none PF.accepts_2_F) :=
  fn_F (N := ["claim", "certificate", "book"]) (k := 8) (b := none) (bd := PF.accepts_2_b) T.f_accepts sc_accepts fun cdv A outer s H E hr hg tk hp hcd =>
    (fb_cons (fs_asg (i := 2) (fv_call (T.w_book_in B) (T.g_book_in) T.k_book_in T.bd_book_in .nil (fun _ => Reps.nil) (hr.mono (by decide)) hg tk rfl (fa_cons (fe_var (i := 0) rfl) fa_nil)) sc_accepts.nd rfl (by first | exact .inl rfl | exact .inr rfl)) (fb_cons (fs_if (ft_isN (fe_var (i := 2) rfl)) (fb_one (fs_ret fe_bl)) fb_nil) (fb_cons (fs_if (ft_eq hr.units (fe_ix (fe_var (i := 0) rfl) fe_int) fe_str) (fb_one (fs_retV (fv_call (T.w_shows_got B) (T.g_shows_got) T.k_shows_got T.bd_shows_got .nil (fun _ => Reps.nil) (hr.mono (by decide)) hg tk rfl (fa_cons (fe_var (i := 2) rfl) (fa_cons (fe_ix (fe_var (i := 0) rfl) fe_int) (fa_cons (fe_ix (fe_var (i := 0) rfl) fe_int) (fa_cons (fe_var (i := 1) rfl) fa_nil))))))) fb_nil) (fb_one (fs_retV (fv_call (T.w_shows_never B) (T.g_shows_never) T.k_shows_never T.bd_shows_never .nil (fun _ => Reps.nil) (hr.mono (by decide)) hg tk rfl (fa_cons (fe_var (i := 2) rfl) (fa_cons (fe_ix (fe_var (i := 0) rfl) fe_int) (fa_cons (fe_var (i := 1) rfl) fa_nil)))))))))
theorem TX.f__law_is_known (T : TX w K mg) : FunD K "_law_is_known" "_law_is_known" (defArgs (top 75)) (defBody (top 75)) (defScope (top 75)) [] [] (He.ga K "_law_is_known") (fdOf K (He.ga K "_law_is_known")) := T.t.t.fund 36 (d := d__law_is_known) rfl
theorem TX.g__law_is_known (T : TX w K mg) : mg "_law_is_known" = some (.ref (He.ga K "_law_is_known")) := T.t.t.glo 31 rfl
theorem TX.k__law_is_known (T : TX w K mg) : PySem.W.keepIn K (.ref (He.ga K "_law_is_known")) = true := T.f__law_is_known.kp
theorem TX.bd__law_is_known (T : TX w K mg) : Binds K (fdOf K (He.ga K "_law_is_known")) ["_law_thing"] [] := FunD.bindsN T.f__law_is_known fun _ _ _ _ _ _ us hl => match us, hl with | [_], _ => rfl
theorem sc__law_is_known : FnScope ["_law_thing", "_law_layers", "_law_layer"] ["_law_thing"] (defScope (top 75)) := ⟨rfl, rfl, rfl, by decide +kernel, rfl, by decide +kernel, by decide +kernel⟩
theorem TX.w__law_is_known (T : TX w K mg) (B : BY P w fileS K mg base) : FnG P w K mg base (L2.CX P w) 1 (He.ga K "_law_is_known") (fdOf K (He.ga K "_law_is_known")) ["_law_thing"] (spL K ["_law_thing"] none PF._law_is_known_F) :=
  fn_F (N := ["_law_thing", "_law_layers", "_law_layer"]) (k := 0) (b := none) (bd := PF._law_is_known_b) T.f__law_is_known sc__law_is_known fun cdv A outer s H E hr hg tk hp hcd =>
    (fb_cons (fs_asg (i := 1) (fv_lst (fa_cons fe_str (fa_cons fe_str (fa_cons fe_str (fa_cons fe_str (fa_cons fe_str fa_nil)))))) sc__law_is_known.nd rfl (by first | exact .inl rfl | exact .inr rfl)) (fb_cons (fs_append (i := 1) fe_str rfl (by first | exact .inl rfl | exact .inr (.inl rfl) | exact .inr (.inr rfl))) (fb_cons (fs_if (ft_of (fw_or (ft_not (ft_val (fe_isi (T.b_isinstance) (isB_ok "tuple") (fc_ty (T.b_tuple) (by decide +kernel)) (fe_var (i := 0) rfl)))) (fw_or1 (ft_gt (fe_len (T.b_len) (fe_var (i := 0) rfl)) fe_int)))) (fb_one (fs_ret fe_bl)) fb_nil) (fb_one (fs_ret (fe_eq hr.units (fe_of (fv_lc (own := [("_law_layer", 2)]) rfl sc__law_is_known.nd (fi_any (fe_var (i := 0) rfl)) (blk_of rfl) (by decide) (fun s1 H1 C1 cl fp => (fg_name (i := 2) sc__law_is_known.nd rfl)) (fun s1 H1 C1 cl fp => (fts_one (ft_nin (Room.u65 hr) (fe_repr hg (Room.u65 hr) (T.b_repr) (fe_var (i := 2) rfl)) (fe_var (i := 1) rfl)))) (fun s1 H1 C1 cl fp => (fe_var (i := 2) rfl)))) (fe_lst fa_nil)))))))
theorem TX.f__law_never_right (T : TX w K mg) : FunD K "_law_never_right" "_law_never_right" (defArgs (top 77)) (defBody (top 77)) (defScope (top 77)) [] [] (He.ga K "_law_never_right") (fdOf K (He.ga K "_law_never_right")) := T.t.t.fund 37 (d := d__law_never_right) rfl
theorem TX.g__law_never_right (T : TX w K mg) : mg "_law_never_right" = some (.ref (He.ga K "_law_never_right")) := T.t.t.glo 32 rfl
theorem TX.k__law_never_right (T : TX w K mg) : PySem.W.keepIn K (.ref (He.ga K "_law_never_right")) = true := T.f__law_never_right.kp
theorem TX.bd__law_never_right (T : TX w K mg) : Binds K (fdOf K (He.ga K "_law_never_right")) ["_law_page", "_law_said"] [] := FunD.bindsN T.f__law_never_right fun _ _ _ _ _ _ us hl => match us, hl with | [_, _], _ => rfl
theorem sc__law_never_right : FnScope ["_law_page", "_law_said"] ["_law_page", "_law_said"] (defScope (top 77)) := ⟨rfl, rfl, rfl, by decide +kernel, rfl, by decide +kernel, by decide +kernel⟩
theorem TX.w__law_never_right (T : TX w K mg) (B : BY P w fileS K mg base) : FnG P w K mg base (L2.CX P w) 2 (He.ga K "_law_never_right") (fdOf K (He.ga K "_law_never_right")) ["_law_page", "_law_said"] (spL K ["_law_page", "_law_said"] none PF._law_never_right_F) :=
  fn_F (N := ["_law_page", "_law_said"]) (k := 1) (b := none) (bd := PF._law_never_right_b) T.f__law_never_right sc__law_never_right fun cdv A outer s H E hr hg tk hp hcd =>
    (fb_cons (fs_if (ft_of (fw_or (ft_not (ft_val (fe_isi (T.b_isinstance) (isB_ok "tuple") (fc_ty (T.b_tuple) (by decide +kernel)) (fe_var (i := 1) rfl)))) (fw_or1 (ft_ne hr.units (fe_len (T.b_len) (fe_var (i := 1) rfl)) fe_int)))) (fb_one (fs_ret fe_bl)) fb_nil) (fb_cons (fs_if (ft_ne hr.units (fe_reprR hg (Room.u65 hr) (T.b_repr) (fe_sl (fe_var (i := 1) rfl) fo_no (fo_some fe_int))) (fe_repr hg (Room.u65 hr) (T.b_repr) (fe_tup (fa_cons fe_str (fa_cons (fe_var (i := 0) rfl) fa_nil))))) (fb_one (fs_ret fe_bl)) fb_nil) (fb_one (fs_ret (fe_and (fe_of (fv_call (T.w__law_is_known B) (T.g__law_is_known) T.k__law_is_known T.bd__law_is_known .nil (fun _ => Reps.nil) (hr.mono (by decide)) hg tk rfl (fa_cons (fe_ix (fe_var (i := 1) rfl) fe_int) fa_nil))) (fe_one (fe_or (fe_eq hr.units (fe_ix (fe_var (i := 1) rfl) fe_int) (fe_tup fa_nil)) (fe_one (fe_ne hr.units (fe_ix (fe_ix (fe_var (i := 1) rfl) fe_int) (fe_neg fe_int)) (fe_tup (fa_cons fe_str (fa_cons fe_str fa_nil))))))))))))
theorem TX.f__law_sip (T : TX w K mg) : FunD K "_law_sip" "_law_sip" (defArgs (top 66)) (defBody (top 66)) (defScope (top 66)) [] [] (He.ga K "_law_sip") (fdOf K (He.ga K "_law_sip")) := T.t.t.fund 38 (d := d__law_sip) rfl
theorem TX.g__law_sip (T : TX w K mg) : mg "_law_sip" = some (.ref (He.ga K "_law_sip")) := T.t.t.glo 33 rfl
theorem TX.k__law_sip (T : TX w K mg) : PySem.W.keepIn K (.ref (He.ga K "_law_sip")) = true := T.f__law_sip.kp
theorem TX.bd__law_sip (T : TX w K mg) : Binds K (fdOf K (He.ga K "_law_sip")) ["_law_cup_here", "_law_top"] [] := FunD.bindsN T.f__law_sip fun _ _ _ _ _ _ us hl => match us, hl with | [_, _], _ => rfl
theorem sc__law_sip : FnScope ["_law_cup_here", "_law_top", "_law_digit"] ["_law_cup_here", "_law_top"] (defScope (top 66)) := ⟨rfl, rfl, rfl, by decide +kernel, rfl, by decide +kernel, by decide +kernel⟩
theorem TX.w__law_sip (T : TX w K mg) (B : BY P w fileS K mg base) : FnG P w K mg base (L2.CX P w) 1 (He.ga K "_law_sip") (fdOf K (He.ga K "_law_sip")) ["_law_cup_here", "_law_top"] (spL K ["_law_cup_here", "_law_top"] (some 0) PF._law_sip_F) :=
  fn_F (N := ["_law_cup_here", "_law_top", "_law_digit"]) (k := 0) (b := (some 0)) (bd := PF._law_sip_b) T.f__law_sip sc__law_sip fun cdv A outer s H E hr hg tk hp hcd =>
    (fb_cons (fs_asgB (fe_add (fe_ix (fe_var (i := 0) rfl) fe_int) fe_int) (fg_sub1 (i := 0) rfl (by first | exact .inl rfl | exact .inr (.inl rfl) | exact .inr (.inr rfl)))) (fb_cons (fs_if (ft_gt (fe_ix (fe_var (i := 0) rfl) fe_int) fe_int) (fb_cons (fs_asgB (fe_divmod (T.b_divmod) (fe_ix (fe_var (i := 0) rfl) fe_int) (fe_var (i := 1) rfl)) (fg_seq rfl (fgs_cons (fg_sub1 (i := 0) rfl (by first | exact .inl rfl | exact .inr (.inl rfl) | exact .inr (.inr rfl))) (fgs_cons (fg_name (i := 2) sc__law_sip.nd rfl) fgs_nil)))) (fb_one (fs_retV (fv_giv (fe_var (i := 2) rfl))))) fb_nil) (fb_cons (fs_asgB (fe_mod (fe_int1 (T.b_int) (fe_add (fe_mul (fe_ix (fe_var (i := 0) rfl) fe_int) fe_int) (fe_mul fe_int (fe_ix (fe_var (i := 0) rfl) fe_int)))) fe_int) (fg_sub1 (i := 0) rfl (by first | exact .inl rfl | exact .inr (.inl rfl) | exact .inr (.inr rfl)))) (fb_one (fs_ret (fe_mod (fe_int1 (T.b_int) (fe_fdiv (fe_ix (fe_var (i := 0) rfl) fe_int) fe_int)) (fe_var (i := 1) rfl)))))))
theorem TX.f__law_bent (T : TX w K mg) : FunD K "_law_bent" "_law_bent" (defArgs (top 74)) (defBody (top 74)) (defScope (top 74)) [] [] (He.ga K "_law_bent") (fdOf K (He.ga K "_law_bent")) := T.t.t.fund 39 (d := d__law_bent) rfl
theorem TX.g__law_bent (T : TX w K mg) : mg "_law_bent" = some (.ref (He.ga K "_law_bent")) := T.t.t.glo 34 rfl
theorem TX.k__law_bent (T : TX w K mg) : PySem.W.keepIn K (.ref (He.ga K "_law_bent")) = true := T.f__law_bent.kp
theorem TX.bd__law_bent (T : TX w K mg) : Binds K (fdOf K (He.ga K "_law_bent")) ["_law_cup_here", "_law_said", "_law_things"] [] := FunD.bindsN T.f__law_bent fun _ _ _ _ _ _ us hl => match us, hl with | [_, _, _], _ => rfl
theorem sc__law_bent : FnScope ["_law_cup_here", "_law_said", "_law_things", "_law_at", "_law_pick", "_law_thing"] ["_law_cup_here", "_law_said", "_law_things"] (defScope (top 74)) := ⟨rfl, rfl, rfl, by decide +kernel, rfl, by decide +kernel, by decide +kernel⟩
theorem TX.w__law_bent (T : TX w K mg) (B : BY P w fileS K mg base) : FnG P w K mg base (L2.CX P w) 2 (He.ga K "_law_bent") (fdOf K (He.ga K "_law_bent")) ["_law_cup_here", "_law_said", "_law_things"] (spL K ["_law_cup_here", "_law_said", "_law_things"] (some 0) PF._law_bent_3_F) :=
  fn_F (N := ["_law_cup_here", "_law_said", "_law_things", "_law_at", "_law_pick", "_law_thing"]) (k := 1) (b := (some 0)) (bd := PF._law_bent_3_b) T.f__law_bent sc__law_bent fun cdv A outer s H E hr hg tk hp hcd =>
    (fb_cons (fs_par (fva_cons (fv_call (T.w__law_sip B) (T.g__law_sip) T.k__law_sip T.bd__law_sip .nil (fun _ => Reps.nil) (hr.mono (by decide)) hg tk rfl (fa_cons (fe_var (i := 0) rfl) (fa_cons (fe_len (T.b_len) (fe_var (i := 1) rfl)) fa_nil))) (fva_cons (fv_call (T.w__law_sip B) (T.g__law_sip) T.k__law_sip T.bd__law_sip .nil (fun _ => Reps.nil) (hr.mono (by decide)) hg tk rfl (fa_cons (fe_var (i := 0) rfl) (fa_cons fe_int fa_nil))) fva_nil)) rfl sc__law_bent.nd (hi := rfl) (hj := rfl) (by decide) rfl rfl rfl) (fb_cons (fs_asg (i := 5) (fv_e (fe_ix (fe_var (i := 2) rfl) (fe_of (fv_call (T.w__law_sip B) (T.g__law_sip) T.k__law_sip T.bd__law_sip .nil (fun _ => Reps.nil) (hr.mono (by decide)) hg tk rfl (fa_cons (fe_var (i := 0) rfl) (fa_cons (fe_len (T.b_len) (fe_var (i := 2) rfl)) fa_nil)))))) sc__law_bent.nd rfl (by first | exact .inl rfl | exact .inr rfl)) (fb_cons (fs_if (ft_lt (fe_var (i := 4) rfl) fe_int) (fb_one (fs_retV (fv_add (fe_add (fe_sl (fe_var (i := 1) rfl) fo_no (fo_some (fe_var (i := 3) rfl))) (fe_tup (fa_cons (fe_var (i := 5) rfl) fa_nil))) (fe_sl (fe_var (i := 1) rfl) (fo_some (fe_add (fe_var (i := 3) rfl) fe_int)) fo_no)))) fb_nil) (fb_cons (fs_if (ft_eq hr.units (fe_var (i := 4) rfl) fe_int) (fb_one (fs_retV (fv_add (fe_sl (fe_var (i := 1) rfl) fo_no (fo_some (fe_var (i := 3) rfl))) (fe_sl (fe_var (i := 1) rfl) (fo_some (fe_add (fe_var (i := 3) rfl) fe_int)) fo_no)))) fb_nil) (fb_one (fs_ret (fe_if (ft_eq hr.units (fe_var (i := 4) rfl) fe_int) (fe_add (fe_add (fe_sl (fe_var (i := 1) rfl) fo_no (fo_some (fe_var (i := 3) rfl))) (fe_tup (fa_cons (fe_var (i := 5) rfl) fa_nil))) (fe_sl (fe_var (i := 1) rfl) (fo_some (fe_var (i := 3) rfl)) fo_no)) (fe_of (fv_list (T.b_list) (fe_var (i := 1) rfl))))))))))
theorem TX.f__law_got_right (T : TX w K mg) : FunD K "_law_got_right" "_law_got_right" (defArgs (top 76)) (defBody (top 76)) (defScope (top 76)) [] [] (He.ga K "_law_got_right") (fdOf K (He.ga K "_law_got_right")) := T.t.t.fund 40 (d := d__law_got_right) rfl
theorem TX.g__law_got_right (T : TX w K mg) : mg "_law_got_right" = some (.ref (He.ga K "_law_got_right")) := T.t.t.glo 35 rfl
theorem TX.k__law_got_right (T : TX w K mg) : PySem.W.keepIn K (.ref (He.ga K "_law_got_right")) = true := T.f__law_got_right.kp
theorem TX.bd__law_got_right (T : TX w K mg) : Binds K (fdOf K (He.ga K "_law_got_right")) ["_law_page", "_law_begun_here", "_law_said"] [] := FunD.bindsN T.f__law_got_right fun _ _ _ _ _ _ us hl => match us, hl with | [_, _, _], _ => rfl
theorem sc__law_got_right : FnScope ["_law_page", "_law_begun_here", "_law_said"] ["_law_page", "_law_begun_here", "_law_said"] (defScope (top 76)) := ⟨rfl, rfl, rfl, by decide +kernel, rfl, by decide +kernel, by decide +kernel⟩
theorem TX.w__law_got_right (T : TX w K mg) (B : BY P w fileS K mg base) : FnG P w K mg base (L2.CX P w) 1 (He.ga K "_law_got_right") (fdOf K (He.ga K "_law_got_right")) ["_law_page", "_law_begun_here", "_law_said"] (spL K ["_law_page", "_law_begun_here", "_law_said"] none PF._law_got_right_F) :=
  fn_F (N := ["_law_page", "_law_begun_here", "_law_said"]) (k := 0) (b := none) (bd := PF._law_got_right_b) T.f__law_got_right sc__law_got_right fun cdv A outer s H E hr hg tk hp hcd =>
    (fb_cons (fs_if (ft_of (fw_or (ft_not (ft_val (fe_isi (T.b_isinstance) (isB_ok "tuple") (fc_ty (T.b_tuple) (by decide +kernel)) (fe_var (i := 2) rfl)))) (fw_or1 (ft_ne hr.units (fe_len (T.b_len) (fe_var (i := 2) rfl)) fe_int)))) (fb_one (fs_ret fe_bl)) fb_nil) (fb_cons (fs_if (ft_ne hr.units (fe_reprR hg (Room.u65 hr) (T.b_repr) (fe_sl (fe_var (i := 2) rfl) fo_no (fo_some fe_int))) (fe_repr hg (Room.u65 hr) (T.b_repr) (fe_tup (fa_cons fe_str (fa_cons (fe_var (i := 0) rfl) (fa_cons (fe_var (i := 1) rfl) fa_nil)))))) (fb_one (fs_ret fe_bl)) fb_nil) (fb_one (fs_ret (fe_and (fe_isi (T.b_isinstance) (isB_ok "int") (fc_ty (T.b_int) (by decide +kernel)) (fe_ix (fe_var (i := 2) rfl) fe_int)) (fe_and (fe_not (fe_isi (T.b_isinstance) (isB_ok "bool") (fc_ty (T.b_bool) (by decide +kernel)) (fe_ix (fe_var (i := 2) rfl) fe_int))) (fe_one (fe_ge (fe_ix (fe_var (i := 2) rfl) fe_int) fe_int))))))))
theorem TX.f_Book___str__ (T : TX w K mg) : FunD K "__str__" "Book.__str__" (defArgs (inClass (top 38) 8)) (defBody (inClass (top 38) 8)) (defScope (inClass (top 38) 8)) [] [] (He.ma K (He.ga K "Book") "__str__") (fdOf K (He.ma K (He.ga K "Book") "__str__")) := T.t.t.fund 41 (d := d_Book___str__) rfl
theorem TX.bd_Book___str__ (T : TX w K mg) : Binds K (fdOf K (He.ma K (He.ga K "Book") "__str__")) ["self"] [] := FunD.bindsN T.f_Book___str__ fun _ _ _ _ _ _ us hl => match us, hl with | [_], _ => rfl
theorem sc_Book___str__ : FnScope ["self", "row"] ["self"] (defScope (inClass (top 38) 8)) := ⟨rfl, rfl, rfl, by decide +kernel, rfl, by decide +kernel, by decide +kernel⟩
theorem TX.w_Book___str__ (T : TX w K mg) (B : BY P w fileS K mg base) : FnG P w K mg base (L2.CX P w) 1 (He.ma K (He.ga K "Book") "__str__") (fdOf K (He.ma K (He.ga K "Book") "__str__")) ["self"] (spL K ["self"] none PF.Book___str___F) :=
  fn_F (N := ["self", "row"]) (k := 0) (b := none) (bd := PF.Book___str___b) T.f_Book___str__ sc_Book___str__ fun cdv A outer s H E hr hg tk hp hcd =>
    (fb_one (fs_ret (fe_join fe_str (fe_add (fe_lst (fa_cons (fe_add (fe_glob (T.c_FIRST)) (fe_fld T.cl_Book T.na_Book_first_row (fe_var (i := 0) rfl))) fa_nil)) (fe_of (fv_lc (own := [("row", 1)]) rfl sc_Book___str__.nd (fi_any (fe_fld T.cl_Book T.na_Book_answer_rows (fe_var (i := 0) rfl))) (blk_of rfl) (by decide) (fun s1 H1 C1 cl fp => (fg_name (i := 1) sc_Book___str__.nd rfl)) (fun s1 H1 C1 cl fp => fts_nil) (fun s1 H1 C1 cl fp => (fe_add (fe_glob (T.c_ANSWER)) (fe_var (i := 1) rfl)))))))))
theorem TX.f__law_deed (T : TX w K mg) : FunD K "_law_deed" "_law_deed" (defArgs (top 71)) (defBody (top 71)) (defScope (top 71)) [] [] (He.ga K "_law_deed") (fdOf K (He.ga K "_law_deed")) := T.t.t.fund 42 (d := d__law_deed) rfl
theorem TX.g__law_deed (T : TX w K mg) : mg "_law_deed" = some (.ref (He.ga K "_law_deed")) := T.t.t.glo 36 rfl
theorem TX.k__law_deed (T : TX w K mg) : PySem.W.keepIn K (.ref (He.ga K "_law_deed")) = true := T.f__law_deed.kp
theorem TX.bd__law_deed (T : TX w K mg) : Binds K (fdOf K (He.ga K "_law_deed")) ["_law_chest", "_law_deed_here", "_law_me", "_law_you"] [] := FunD.bindsN T.f__law_deed fun _ _ _ _ _ _ us hl => match us, hl with | [_, _, _, _], _ => rfl
theorem sc__law_deed : FnScope ["_law_chest", "_law_deed_here", "_law_me", "_law_you", "_law_verb", "_law_whom", "_law_who"] ["_law_chest", "_law_deed_here", "_law_me", "_law_you"] (defScope (top 71)) := ⟨rfl, rfl, rfl, by decide +kernel, rfl, by decide +kernel, by decide +kernel⟩
theorem TX.w__law_deed (T : TX w K mg) (B : BY P w fileS K mg base) : FnG P w K mg base (L2.CX P w) 1 (He.ga K "_law_deed") (fdOf K (He.ga K "_law_deed")) ["_law_chest", "_law_deed_here", "_law_me", "_law_you"] (spL K ["_law_chest", "_law_deed_here", "_law_me", "_law_you"] none PF._law_deed_F) :=
  fn_F (N := ["_law_chest", "_law_deed_here", "_law_me", "_law_you", "_law_verb", "_law_whom", "_law_who"]) (k := 0) (b := none) (bd := PF._law_deed_b) T.f__law_deed sc__law_deed fun cdv A outer s H E hr hg tk hp hcd =>
    (fb_cons (fs_asgB (fe_split (fe_var (i := 1) rfl) fe_str) (fg_seq rfl (fgs_cons (fg_name (i := 4) sc__law_deed.nd rfl) (fgs_cons (fg_name (i := 5) sc__law_deed.nd rfl) fgs_nil)))) (fb_cons (fs_asg (i := 6) (fv_e (fe_if (ft_eq hr.units (fe_var (i := 5) rfl) fe_str) (fe_var (i := 2) rfl) (fe_var (i := 3) rfl))) sc__law_deed.nd rfl (by first | exact .inl rfl | exact .inr rfl)) (fb_cons (fs_if (ft_in (Room.u65 hr) (fe_var (i := 4) rfl) (fe_lst (fa_cons fe_str (fa_cons fe_str fa_nil)))) (fb_one (fs_retV (fv_add (fe_tup (fa_cons (fe_tup (fa_cons (fe_var (i := 4) rfl) (fa_cons (fe_var (i := 6) rfl) fa_nil))) fa_nil)) (fe_var (i := 0) rfl)))) fb_nil) (fb_cons (fs_if (ft_of (fw_or (ft_eq hr.units (fe_var (i := 0) rfl) (fe_tup fa_nil)) (fw_or1 (ft_ne hr.units (fe_ix (fe_ix (fe_var (i := 0) rfl) fe_int) fe_int) (fe_if (ft_eq hr.units (fe_var (i := 4) rfl) fe_str) fe_str fe_str))))) (fb_one (fs_ret fe_non)) fb_nil) (fb_one (fs_ret (fe_if (ft_of (fw_or (ft_eq hr.units (fe_var (i := 5) rfl) fe_str) (fw_or1 (ft_eq hr.units (fe_ix (fe_ix (fe_var (i := 0) rfl) fe_int) fe_int) (fe_var (i := 6) rfl))))) (fe_sl (fe_var (i := 0) rfl) (fo_some fe_int) fo_no) fe_non)))))))
theorem TX.f__law_done (T : TX w K mg) : FunD K "_law_done" "_law_done" (defArgs (top 72)) (defBody (top 72)) (defScope (top 72)) [] [] (He.ga K "_law_done") (fdOf K (He.ga K "_law_done")) := T.t.t.fund 43 (d := d__law_done) rfl
theorem TX.g__law_done (T : TX w K mg) : mg "_law_done" = some (.ref (He.ga K "_law_done")) := T.t.t.glo 37 rfl
theorem TX.k__law_done (T : TX w K mg) : PySem.W.keepIn K (.ref (He.ga K "_law_done")) = true := T.f__law_done.kp
theorem TX.bd__law_done (T : TX w K mg) : Binds K (fdOf K (He.ga K "_law_done")) ["_law_deeds", "_law_me", "_law_you", "_law_chest"] [] := FunD.bindsN T.f__law_done fun _ _ _ _ _ _ us hl => match us, hl with | [_, _, _, _], _ => rfl
theorem sc__law_done : FnScope ["_law_deeds", "_law_me", "_law_you", "_law_chest", "_law_deed_here"] ["_law_deeds", "_law_me", "_law_you", "_law_chest"] (defScope (top 72)) := ⟨rfl, rfl, rfl, by decide +kernel, rfl, by decide +kernel, by decide +kernel⟩
theorem TX.w__law_done (T : TX w K mg) (B : BY P w fileS K mg base) : FnG P w K mg base (L2.CX P w) 2 (He.ga K "_law_done") (fdOf K (He.ga K "_law_done")) ["_law_deeds", "_law_me", "_law_you", "_law_chest"] (spL K ["_law_deeds", "_law_me", "_law_you", "_law_chest"] none PF._law_done_2_F) :=
  fn_F (N := ["_law_deeds", "_law_me", "_law_you", "_law_chest", "_law_deed_here"]) (k := 1) (b := none) (bd := PF._law_done_2_b) T.f__law_done sc__law_done fun cdv A outer s H E hr hg tk hp hcd =>
    (fb_cons (fs_for rfl hp (fi_any (fe_var (i := 0) rfl)) (fg_name (i := 4) sc__law_done.nd rfl) (fb_one (fs_if (ft_notN (fe_var (i := 3) rfl)) (fb_one (fs_asg (i := 3) (fv_call (T.w__law_deed B) (T.g__law_deed) T.k__law_deed T.bd__law_deed .nil (fun _ => Reps.nil) (hr.mono (by decide)) hg tk rfl (fa_cons (fe_var (i := 3) rfl) (fa_cons (fe_var (i := 4) rfl) (fa_cons (fe_var (i := 1) rfl) (fa_cons (fe_var (i := 2) rfl) fa_nil))))) sc__law_done.nd rfl (by first | exact .inl rfl | exact .inr rfl))) fb_nil))) (fb_one (fs_retV (fv_giv (fe_var (i := 3) rfl)))))
theorem TX.f__law_begun (T : TX w K mg) : FunD K "_law_begun" "_law_begun" (defArgs (top 73)) (defBody (top 73)) (defScope (top 73)) [] [] (He.ga K "_law_begun") (fdOf K (He.ga K "_law_begun")) := T.t.t.fund 44 (d := d__law_begun) rfl
theorem TX.g__law_begun (T : TX w K mg) : mg "_law_begun" = some (.ref (He.ga K "_law_begun")) := T.t.t.glo 38 rfl
theorem TX.k__law_begun (T : TX w K mg) : PySem.W.keepIn K (.ref (He.ga K "_law_begun")) = true := T.f__law_begun.kp
theorem TX.bd__law_begun (T : TX w K mg) : Binds K (fdOf K (He.ga K "_law_begun")) ["_law_sketch_here"] [] := FunD.bindsN T.f__law_begun fun _ _ _ _ _ _ us hl => match us, hl with | [_], _ => rfl
theorem sc__law_begun : FnScope ["_law_sketch_here"] ["_law_sketch_here"] (defScope (top 73)) := ⟨rfl, rfl, rfl, by decide +kernel, rfl, by decide +kernel, by decide +kernel⟩
theorem TX.w__law_begun (T : TX w K mg) (B : BY P w fileS K mg base) : FnG P w K mg base (L2.CX P w) 3 (He.ga K "_law_begun") (fdOf K (He.ga K "_law_begun")) ["_law_sketch_here"] (spL K ["_law_sketch_here"] none PF._law_begun_F) :=
  fn_F (N := ["_law_sketch_here"]) (k := 2) (b := none) (bd := PF._law_begun_b) T.f__law_begun sc__law_begun fun cdv A outer s H E hr hg tk hp hcd =>
    (fb_one (fs_retV (fv_call (T.w__law_done B) (T.g__law_done) T.k__law_done T.bd__law_done .nil (fun _ => Reps.nil) (hr.mono (by decide)) hg tk rfl (fa_cons (fe_ix (fe_var (i := 0) rfl) fe_int) (fa_cons fe_str (fa_cons fe_str (fa_cons (fe_tup fa_nil) fa_nil)))))))
theorem TX.f__law_vol (T : TX w K mg) : FunD K "_law_vol" "_law_vol" (defArgs (top 70)) (defBody (top 70)) (defScope (top 70)) [] [] (He.ga K "_law_vol") (fdOf K (He.ga K "_law_vol")) := T.t.t.fund 45 (d := d__law_vol) rfl
theorem TX.g__law_vol (T : TX w K mg) : mg "_law_vol" = some (.ref (He.ga K "_law_vol")) := T.t.t.glo 39 rfl
theorem TX.k__law_vol (T : TX w K mg) : PySem.W.keepIn K (.ref (He.ga K "_law_vol")) = true := T.f__law_vol.kp
theorem TX.bd__law_vol (T : TX w K mg) : Binds K (fdOf K (He.ga K "_law_vol")) ["_law_sketch_here"] [] := FunD.bindsN T.f__law_vol fun _ _ _ _ _ _ us hl => match us, hl with | [_], _ => rfl
theorem sc__law_vol : FnScope ["_law_sketch_here", "_law_deeds"] ["_law_sketch_here"] (defScope (top 70)) := ⟨rfl, rfl, rfl, by decide +kernel, rfl, by decide +kernel, by decide +kernel⟩
theorem TX.w__law_vol (T : TX w K mg) (B : BY P w fileS K mg base) : FnG P w K mg base (L2.CX P w) 6 (He.ga K "_law_vol") (fdOf K (He.ga K "_law_vol")) ["_law_sketch_here"] (spL K ["_law_sketch_here"] none PF._law_vol_F) :=
  fn_F (N := ["_law_sketch_here", "_law_deeds"]) (k := 5) (b := none) (bd := PF._law_vol_b) T.f__law_vol sc__law_vol fun cdv A outer s H E hr hg tk hp hcd =>
    (fb_one (fs_retV (fv_make T.mk_Book (T.w_Book___init__ B) T.gc_Book (T.bd_Book___init___3).choose_spec.2 (T.bd_Book___init___3).choose_spec.1 (fun _ => Reps.nil) (hr.mono (by decide)) hg tk rfl (fa_cons (fe_join fe_str (fe_ix (fe_var (i := 0) rfl) fe_int)) (fa_cons (fe_tupC (T.b_tuple) (fe_of (fv_lc (own := [("_law_deeds", 1)]) rfl sc__law_vol.nd (fi_any (fe_ix (fe_var (i := 0) rfl) fe_int)) (blk_of rfl) (by decide) (fun s1 H1 C1 cl fp => (fg_name (i := 1) sc__law_vol.nd rfl)) (fun s1 H1 C1 cl fp => fts_nil) (fun s1 H1 C1 cl fp => (fe_join fe_str (fe_var (i := 1) rfl)))))) fa_nil)))))
theorem TX.f__law_answer (T : TX w K mg) : FunD K "_law_answer" "_law_answer" (defArgs (top 68)) (defBody (top 68)) (defScope (top 68)) [] [] (He.ga K "_law_answer") (fdOf K (He.ga K "_law_answer")) := T.t.t.fund 46 (d := d__law_answer) rfl
theorem TX.g__law_answer (T : TX w K mg) : mg "_law_answer" = some (.ref (He.ga K "_law_answer")) := T.t.t.glo 40 rfl
theorem TX.k__law_answer (T : TX w K mg) : PySem.W.keepIn K (.ref (He.ga K "_law_answer")) = true := T.f__law_answer.kp
theorem TX.bd__law_answer (T : TX w K mg) : Binds K (fdOf K (He.ga K "_law_answer")) ["_law_cup_here"] [] := FunD.bindsN T.f__law_answer fun _ _ _ _ _ _ us hl => match us, hl with | [_], _ => rfl
theorem sc__law_answer : FnScope ["_law_cup_here", "_law_deeds", "_law_found", "_law_k", "_law_deed_here"] ["_law_cup_here"] (defScope (top 68)) := ⟨rfl, rfl, rfl, by decide +kernel, rfl, by decide +kernel, by decide +kernel⟩
theorem TX.w__law_answer (T : TX w K mg) (B : BY P w fileS K mg base) : FnG P w K mg base (L2.CX P w) 2 (He.ga K "_law_answer") (fdOf K (He.ga K "_law_answer")) ["_law_cup_here"] (spL K ["_law_cup_here"] (some 0) PF._law_answer_F) :=
  fn_F (N := ["_law_cup_here", "_law_deeds", "_law_found", "_law_k", "_law_deed_here"]) (k := 1) (b := (some 0)) (bd := PF._law_answer_b) T.f__law_answer sc__law_answer fun cdv A outer s H E hr hg tk hp hcd =>
    (fb_cons (fs_asg (i := 1) (fv_lst (fa_cons fe_str (fa_cons fe_str (fa_cons fe_str (fa_cons fe_str (fa_cons fe_str (fa_cons fe_str (fa_cons fe_str (fa_cons fe_str (fa_cons fe_str fa_nil)))))))))) sc__law_answer.nd rfl (by first | exact .inl rfl | exact .inr rfl)) (fb_cons (fs_asg (i := 2) (fv_if (ft_gt (fe_of (fv_call (T.w__law_sip B) (T.g__law_sip) T.k__law_sip T.bd__law_sip .nil (fun _ => Reps.nil) (hr.mono (by decide)) hg tk rfl (fa_cons (fe_var (i := 0) rfl) (fa_cons fe_int fa_nil)))) fe_int) (fv_lst (fa_cons fe_str fa_nil)) (fv_lst fa_nil)) sc__law_answer.nd rfl (by first | exact .inl rfl | exact .inr rfl)) (fb_cons (fs_for rfl hp (fi_rng1 (T.b_range) (fa_cons (fe_add fe_int (fe_of (fv_call (T.w__law_sip B) (T.g__law_sip) T.k__law_sip T.bd__law_sip .nil (fun _ => Reps.nil) (hr.mono (by decide)) hg tk rfl (fa_cons (fe_var (i := 0) rfl) (fa_cons fe_int fa_nil))))) fa_nil)) (fg_name (i := 3) sc__law_answer.nd rfl) (fb_cons (fs_asg (i := 4) (fv_e (fe_ix (fe_var (i := 1) rfl) (fe_of (fv_call (T.w__law_sip B) (T.g__law_sip) T.k__law_sip T.bd__law_sip .nil (fun _ => Reps.nil) (hr.mono (by decide)) hg tk rfl (fa_cons (fe_var (i := 0) rfl) (fa_cons fe_int fa_nil)))))) sc__law_answer.nd rfl (by first | exact .inl rfl | exact .inr rfl)) (fb_one (fs_append (i := 2) (fe_if (ft_of (fw_and (ft_eq hr.units (fe_var (i := 4) rfl) fe_str) (fw_and1 (ft_in (Room.u65 hr) (fe_var (i := 4) rfl) (fe_var (i := 2) rfl))))) fe_str (fe_var (i := 4) rfl)) rfl (by first | exact .inl rfl | exact .inr (.inl rfl) | exact .inr (.inr rfl)))))) (fb_one (fs_retV (fv_giv (fe_var (i := 2) rfl)))))))
theorem TX.f__law_first (T : TX w K mg) : FunD K "_law_first" "_law_first" (defArgs (top 67)) (defBody (top 67)) (defScope (top 67)) [] [] (He.ga K "_law_first") (fdOf K (He.ga K "_law_first")) := T.t.t.fund 47 (d := d__law_first) rfl
theorem TX.g__law_first (T : TX w K mg) : mg "_law_first" = some (.ref (He.ga K "_law_first")) := T.t.t.glo 41 rfl
theorem TX.k__law_first (T : TX w K mg) : PySem.W.keepIn K (.ref (He.ga K "_law_first")) = true := T.f__law_first.kp
theorem TX.bd__law_first (T : TX w K mg) : Binds K (fdOf K (He.ga K "_law_first")) ["_law_cup_here"] [] := FunD.bindsN T.f__law_first fun _ _ _ _ _ _ us hl => match us, hl with | [_], _ => rfl
theorem sc__law_first : FnScope ["_law_cup_here", "_law_deeds", "_law_k"] ["_law_cup_here"] (defScope (top 67)) := ⟨rfl, rfl, rfl, by decide +kernel, rfl, by decide +kernel, by decide +kernel⟩
theorem TX.w__law_first (T : TX w K mg) (B : BY P w fileS K mg base) : FnG P w K mg base (L2.CX P w) 2 (He.ga K "_law_first") (fdOf K (He.ga K "_law_first")) ["_law_cup_here"] (spL K ["_law_cup_here"] (some 0) PF._law_first_2_F) :=
  fn_F (N := ["_law_cup_here", "_law_deeds", "_law_k"]) (k := 1) (b := (some 0)) (bd := PF._law_first_2_b) T.f__law_first sc__law_first fun cdv A outer s H E hr hg tk hp hcd =>
    (fb_cons (fs_asg (i := 1) (fv_lst (fa_cons fe_str (fa_cons fe_str (fa_cons fe_str (fa_cons fe_str (fa_cons fe_str fa_nil)))))) sc__law_first.nd rfl (by first | exact .inl rfl | exact .inr rfl)) (fb_one (fs_retV (fv_lc (own := [("_law_k", 2)]) rfl sc__law_first.nd (fi_rng1 (T.b_range) (fa_cons (fe_add fe_int (fe_of (fv_call (T.w__law_sip B) (T.g__law_sip) T.k__law_sip T.bd__law_sip .nil (fun _ => Reps.nil) (hr.mono (by decide)) hg tk rfl (fa_cons (fe_var (i := 0) rfl) (fa_cons fe_int fa_nil))))) fa_nil)) (blk_of rfl) (by decide) (fun s1 H1 C1 cl fp => (fg_name (i := 2) sc__law_first.nd rfl)) (fun s1 H1 C1 cl fp => fts_nil) (fun s1 H1 C1 cl fp => (fe_ix (fe_var (i := 1) rfl) (fe_of (fv_call (T.w__law_sip B) (T.g__law_sip) T.k__law_sip T.bd__law_sip .nil (fun _ => Reps.nil) (hr.mono (by decide)) hg takes_noW rfl (fa_cons (fe_var (i := 0) rfl) (fa_cons fe_int fa_nil))))))))))
theorem TX.f__law_sketch (T : TX w K mg) : FunD K "_law_sketch" "_law_sketch" (defArgs (top 69)) (defBody (top 69)) (defScope (top 69)) [] [] (He.ga K "_law_sketch") (fdOf K (He.ga K "_law_sketch")) := T.t.t.fund 48 (d := d__law_sketch) rfl
theorem TX.g__law_sketch (T : TX w K mg) : mg "_law_sketch" = some (.ref (He.ga K "_law_sketch")) := T.t.t.glo 42 rfl
theorem TX.k__law_sketch (T : TX w K mg) : PySem.W.keepIn K (.ref (He.ga K "_law_sketch")) = true := T.f__law_sketch.kp
theorem TX.bd__law_sketch (T : TX w K mg) : Binds K (fdOf K (He.ga K "_law_sketch")) ["_law_cup_here", "_law_most"] [] := FunD.bindsN T.f__law_sketch fun _ _ _ _ _ _ us hl => match us, hl with | [_, _], _ => rfl
theorem sc__law_sketch : FnScope ["_law_cup_here", "_law_most", "_law_k"] ["_law_cup_here", "_law_most"] (defScope (top 69)) := ⟨rfl, rfl, rfl, by decide +kernel, rfl, by decide +kernel, by decide +kernel⟩
theorem TX.w__law_sketch (T : TX w K mg) (B : BY P w fileS K mg base) : FnG P w K mg base (L2.CX P w) 3 (He.ga K "_law_sketch") (fdOf K (He.ga K "_law_sketch")) ["_law_cup_here", "_law_most"] (spL K ["_law_cup_here", "_law_most"] (some 0) PF._law_sketch_F) :=
  fn_F (N := ["_law_cup_here", "_law_most", "_law_k"]) (k := 2) (b := (some 0)) (bd := PF._law_sketch_b) T.f__law_sketch sc__law_sketch fun cdv A outer s H E hr hg tk hp hcd =>
    (fb_one (fs_retV (fv_lst (fa_cons (fe_of (fv_call (T.w__law_first B) (T.g__law_first) T.k__law_first T.bd__law_first .nil (fun _ => Reps.nil) (hr.mono (by decide)) hg tk rfl (fa_cons (fe_var (i := 0) rfl) fa_nil))) (fa_cons (fe_of (fv_lc (own := [("_law_k", 2)]) rfl sc__law_sketch.nd (fi_rng1 (T.b_range) (fa_cons (fe_of (fv_call (T.w__law_sip B) (T.g__law_sip) T.k__law_sip T.bd__law_sip .nil (fun _ => Reps.nil) (hr.mono (by decide)) hg tk rfl (fa_cons (fe_var (i := 0) rfl) (fa_cons (fe_add (fe_var (i := 1) rfl) fe_int) fa_nil)))) fa_nil)) (blk_of rfl) (by decide) (fun s1 H1 C1 cl fp => (fg_name (i := 2) sc__law_sketch.nd rfl)) (fun s1 H1 C1 cl fp => fts_nil) (fun s1 H1 C1 cl fp => (fe_of (fv_call (T.w__law_answer B) (T.g__law_answer) T.k__law_answer T.bd__law_answer .nil (fun _ => Reps.nil) (hr.mono (by decide)) hg takes_noW rfl (fa_cons (fe_var (i := 0) rfl) fa_nil)))))) fa_nil)))))
theorem TX.f__law_right (T : TX w K mg) : FunD K "_law_right" "_law_right" (defArgs (top 78)) (defBody (top 78)) (defScope (top 78)) [] [] (He.ga K "_law_right") (fdOf K (He.ga K "_law_right")) := T.t.t.fund 49 (d := d__law_right) rfl
theorem TX.g__law_right (T : TX w K mg) : mg "_law_right" = some (.ref (He.ga K "_law_right")) := T.t.t.glo 43 rfl
theorem TX.k__law_right (T : TX w K mg) : PySem.W.keepIn K (.ref (He.ga K "_law_right")) = true := T.f__law_right.kp
theorem TX.bd__law_right (T : TX w K mg) : Binds K (fdOf K (He.ga K "_law_right")) ["_law_cup_here"] [] := FunD.bindsN T.f__law_right fun _ _ _ _ _ _ us hl => match us, hl with | [_], _ => rfl
theorem sc__law_right : FnScope ["_law_cup_here", "_law_sketch_here", "_law_page", "_law_begun_here", "_law_locked", "_law_moves", "_law_paper", "_law_tag", "_law_things", "_law_k", "_law_said", "_law_right_here", "_law_spared", "_law_claims", "_law_odd", "_law_thing"] ["_law_cup_here"] (defScope (top 78)) := ⟨rfl, rfl, rfl, by decide +kernel, rfl, by decide +kernel, by decide +kernel⟩
theorem TX.w__law_right (T : TX w K mg) (B : BY P w fileS K mg base) : FnG P w K mg base (L2.CX P w) 10 (He.ga K "_law_right") (fdOf K (He.ga K "_law_right")) ["_law_cup_here"] (spL K ["_law_cup_here"] (some 0) PF._law_right_29_F) :=
  fn_F (N := ["_law_cup_here", "_law_sketch_here", "_law_page", "_law_begun_here", "_law_locked", "_law_moves", "_law_paper", "_law_tag", "_law_things", "_law_k", "_law_said", "_law_right_here", "_law_spared", "_law_claims", "_law_odd", "_law_thing"]) (k := 9) (b := (some 0)) (bd := PF._law_right_29_b) T.f__law_right sc__law_right fun cdv A outer s H E hr hg tk hp hcd =>
    (fb_cons (fs_asg (i := 1) (fv_call (T.w__law_sketch B) (T.g__law_sketch) T.k__law_sketch T.bd__law_sketch .nil (fun _ => Reps.nil) (hr.mono (by decide)) hg tk rfl (fa_cons (fe_var (i := 0) rfl) (fa_cons fe_int fa_nil))) sc__law_right.nd rfl (by first | exact .inl rfl | exact .inr rfl)) (fb_cons (fs_asg (i := 2) (fv_e (fe_strI T.mt_Book___str__.at_ T.mt_Book___str__.fn (T.w_Book___str__ B) (hr.mono (by decide)) hg T.bd_Book___str__ (T.b_str) rfl (fe_of (fv_call (T.w__law_vol B) (T.g__law_vol) T.k__law_vol T.bd__law_vol .nil (fun _ => Reps.nil) (hr.mono (by decide)) hg tk rfl (fa_cons (fe_var (i := 1) rfl) fa_nil))))) sc__law_right.nd rfl (by first | exact .inl rfl | exact .inr rfl)) (fb_cons (fs_asg (i := 3) (fv_call (T.w__law_begun B) (T.g__law_begun) T.k__law_begun T.bd__law_begun .nil (fun _ => Reps.nil) (hr.mono (by decide)) hg tk rfl (fa_cons (fe_var (i := 1) rfl) fa_nil)) sc__law_right.nd rfl (by first | exact .inl rfl | exact .inr rfl)) (fb_cons (fs_asg (i := 4) (fv_e (fe_strI T.mt_Book___str__.at_ T.mt_Book___str__.fn (T.w_Book___str__ B) (hr.mono (by decide)) hg T.bd_Book___str__ (T.b_str) rfl (fe_of (fv_make T.mk_Book (T.w_Book___init__ B) T.gc_Book (T.bd_Book___init___2).choose_spec.2 (T.bd_Book___init___2).choose_spec.1 T.df_Book___init___2 (hr.mono (by decide)) hg tk rfl (fa_cons fe_str fa_nil))))) sc__law_right.nd rfl (by first | exact .inl rfl | exact .inr rfl)) (fb_cons (fs_asg (i := 5) (fv_e (fe_tup (fa_cons (fe_tup (fa_cons fe_int (fa_cons fe_int (fa_cons fe_int (fa_cons fe_int (fa_cons fe_int (fa_cons fe_int fa_nil))))))) (fa_cons (fe_mul (fe_tup (fa_cons fe_int fa_nil)) fe_int) (fa_cons (fe_mul (fe_tup (fa_cons fe_int fa_nil)) fe_int) fa_nil))))) sc__law_right.nd rfl (by first | exact .inl rfl | exact .inr rfl)) (fb_cons (fs_asg (i := 6) (fv_e (fe_tup (fa_cons (fe_var (i := 5) rfl) (fa_cons (fe_tup (fa_cons fe_int fa_nil)) fa_nil)))) sc__law_right.nd rfl (by first | exact .inl rfl | exact .inr rfl)) (fb_cons (fs_if (ft_notB (fe_of (fv_call (T.w_accepts B) (T.g_accepts) T.k_accepts T.bd_accepts .nil (fun _ => Reps.nil) (hr.mono (by decide)) hg tk rfl (fa_cons (fe_tup (fa_cons fe_str (fa_cons (fe_var (i := 2) rfl) (fa_cons (fe_var (i := 3) rfl) (fa_cons fe_int fa_nil))))) (fa_cons (fe_tup fa_nil) fa_nil))))) (fb_one (fs_ret fe_bl)) fb_nil) (fb_cons (fs_if (ft_notB (fe_of (fv_call (T.w_accepts B) (T.g_accepts) T.k_accepts T.bd_accepts .nil (fun _ => Reps.nil) (hr.mono (by decide)) hg tk rfl (fa_cons (fe_tup (fa_cons fe_str (fa_cons (fe_var (i := 4) rfl) (fa_cons (fe_tup fa_nil) fa_nil)))) (fa_cons (fe_var (i := 6) rfl) fa_nil))))) (fb_one (fs_ret fe_bl)) fb_nil) (fb_cons (fs_asg (i := 7) (fv_e (fe_tup (fa_cons fe_str (fa_cons fe_str fa_nil)))) sc__law_right.nd rfl (by first | exact .inl rfl | exact .inr rfl)) (fb_cons (fs_asg (i := 8) (fv_lst (fa_cons fe_non (fa_cons fe_bl (fa_cons fe_bl (fa_cons fe_int (fa_cons (fe_neg fe_int) (fa_cons fe_int (fa_cons (fe_pow fe_int fe_int) (fa_cons fe_str (fa_cons fe_str (fa_cons fe_str (fa_cons fe_str (fa_cons (fe_tup (fa_cons (fe_tup (fa_cons fe_str (fa_cons fe_str fa_nil))) fa_nil)) fa_nil))))))))))))) sc__law_right.nd rfl (by first | exact .inl rfl | exact .inr rfl)) (fb_cons (fs_asg (i := 8) (fv_add (fe_var (i := 8) rfl) (fe_lst (fa_cons (fe_lst (fa_cons (fe_var (i := 7) rfl) fa_nil)) (fa_cons (fe_mul (fe_tup (fa_cons (fe_var (i := 7) rfl) fa_nil)) fe_int) (fa_cons fe_dict0 (fa_cons (fe_var (i := 2) rfl) (fa_cons (fe_var (i := 4) rfl) fa_nil))))))) sc__law_right.nd rfl (by first | exact .inl rfl | exact .inr rfl)) (fb_cons (fs_asg (i := 8) (fv_add (fe_var (i := 8) rfl) (fe_lst (fa_cons (fe_add (fe_var (i := 2) rfl) fe_str) (fa_cons (fe_add fe_str (fe_var (i := 2) rfl)) fa_nil)))) sc__law_right.nd rfl (by first | exact .inl rfl | exact .inr rfl)) (fb_cons (fs_asg (i := 8) (fv_add (fe_var (i := 8) rfl) (fe_lst (fa_cons (fe_upper (fe_var (i := 2) rfl)) (fa_cons (fe_tup fa_nil) (fa_cons (fe_var (i := 3) rfl) (fa_cons (fe_tup (fa_cons (fe_var (i := 7) rfl) (fa_cons fe_non fa_nil))) (fa_cons (fe_tup (fa_cons fe_str (fa_cons fe_str fa_nil))) fa_nil))))))) sc__law_right.nd rfl (by first | exact .inl rfl | exact .inr rfl)) (fb_cons (fs_for rfl hp (fi_rng1 (T.b_range) (fa_cons fe_int fa_nil)) (fg_name (i := 9) sc__law_right.nd rfl) (fb_cons (fs_asg (i := 10) (fv_call (T.w__law_bent B) (T.g__law_bent) T.k__law_bent T.bd__law_bent .nil (fun _ => Reps.nil) (hr.mono (by decide)) hg tk rfl (fa_cons (fe_var (i := 0) rfl) (fa_cons (fe_tup (fa_cons fe_str (fa_cons (fe_var (i := 2) rfl) (fa_cons (fe_var (i := 3) rfl) (fa_cons fe_int fa_nil))))) (fa_cons (fe_var (i := 8) rfl) fa_nil)))) sc__law_right.nd rfl (by first | exact .inl rfl | exact .inr rfl)) (fb_cons (fs_asg (i := 11) (fv_call (T.w__law_got_right B) (T.g__law_got_right) T.k__law_got_right T.bd__law_got_right .nil (fun _ => Reps.nil) (hr.mono (by decide)) hg tk rfl (fa_cons (fe_var (i := 2) rfl) (fa_cons (fe_var (i := 3) rfl) (fa_cons (fe_var (i := 10) rfl) fa_nil)))) sc__law_right.nd rfl (by first | exact .inl rfl | exact .inr rfl)) (fb_cons (fs_asg (i := 12) (fv_e (fe_eq hr.units (fe_reprR hg (Room.u65 hr) (T.b_repr) (fe_sl (fe_var (i := 10) rfl) (fo_some fe_int) (fo_some fe_int))) (fe_repr hg (Room.u65 hr) (T.b_repr) (fe_tup (fa_cons (fe_var (i := 4) rfl) fa_nil))))) sc__law_right.nd rfl (by first | exact .inl rfl | exact .inr rfl)) (fb_cons (fs_if (ft_of (fw_and (ft_not (ft_val (fe_var (i := 12) rfl))) (fw_and1 (ft_ne hr.units (fe_repr hg (Room.u65 hr) (T.b_repr) (fe_of (fv_call (T.w_accepts B) (T.g_accepts) T.k_accepts T.bd_accepts .nil (fun _ => Reps.nil) (hr.mono (by decide)) hg tk rfl (fa_cons (fe_var (i := 10) rfl) (fa_cons (fe_tup fa_nil) fa_nil))))) (fe_repr hg (Room.u65 hr) (T.b_repr) (fe_var (i := 11) rfl)))))) (fb_one (fs_ret fe_bl)) fb_nil) (fb_cons (fs_asg (i := 10) (fv_call (T.w__law_bent B) (T.g__law_bent) T.k__law_bent T.bd__law_bent .nil (fun _ => Reps.nil) (hr.mono (by decide)) hg tk rfl (fa_cons (fe_var (i := 0) rfl) (fa_cons (fe_tup (fa_cons fe_str (fa_cons (fe_var (i := 4) rfl) (fa_cons (fe_tup fa_nil) fa_nil)))) (fa_cons (fe_var (i := 8) rfl) fa_nil)))) sc__law_right.nd rfl (by first | exact .inl rfl | exact .inr rfl)) (fb_cons (fs_asg (i := 11) (fv_call (T.w__law_never_right B) (T.g__law_never_right) T.k__law_never_right T.bd__law_never_right .nil (fun _ => Reps.nil) (hr.mono (by decide)) hg tk rfl (fa_cons (fe_var (i := 4) rfl) (fa_cons (fe_var (i := 10) rfl) fa_nil))) sc__law_right.nd rfl (by first | exact .inl rfl | exact .inr rfl)) (fb_cons (fs_asg (i := 12) (fv_e (fe_eq hr.units (fe_reprR hg (Room.u65 hr) (T.b_repr) (fe_sl (fe_var (i := 10) rfl) (fo_some fe_int) (fo_some fe_int))) (fe_repr hg (Room.u65 hr) (T.b_repr) (fe_tup (fa_cons (fe_var (i := 2) rfl) fa_nil))))) sc__law_right.nd rfl (by first | exact .inl rfl | exact .inr rfl)) (fb_one (fs_if (ft_of (fw_and (ft_not (ft_val (fe_var (i := 12) rfl))) (fw_and1 (ft_ne hr.units (fe_repr hg (Room.u65 hr) (T.b_repr) (fe_of (fv_call (T.w_accepts B) (T.g_accepts) T.k_accepts T.bd_accepts .nil (fun _ => Reps.nil) (hr.mono (by decide)) hg tk rfl (fa_cons (fe_var (i := 10) rfl) (fa_cons (fe_var (i := 6) rfl) fa_nil))))) (fe_repr hg (Room.u65 hr) (T.b_repr) (fe_var (i := 11) rfl)))))) (fb_one (fs_ret fe_bl)) fb_nil)))))))))) (fb_cons (fs_asg (i := 13) (fv_lst (fa_cons (fe_tup (fa_cons fe_str (fa_cons (fe_var (i := 2) rfl) (fa_cons (fe_var (i := 3) rfl) (fa_cons fe_int fa_nil))))) (fa_cons (fe_tup (fa_cons fe_str (fa_cons (fe_var (i := 4) rfl) (fa_cons (fe_tup fa_nil) fa_nil)))) fa_nil))) sc__law_right.nd rfl (by first | exact .inl rfl | exact .inr rfl)) (fb_cons (fs_asg (i := 14) (fv_lst (fa_cons fe_non (fa_cons fe_bl (fa_cons fe_str (fa_cons fe_str (fa_cons fe_dict0 (fa_cons (fe_tup (fa_cons (fe_tup fa_nil) fa_nil)) (fa_cons (fe_tup (fa_cons fe_non fa_nil)) (fa_cons (fe_tup (fa_cons fe_str (fa_cons fe_str fa_nil))) (fa_cons (fe_neg fe_int) (fa_cons (fe_pow fe_int fe_int) (fa_cons (fe_var (i := 2) rfl) (fa_cons (fe_lst (fa_cons (fe_tup fa_nil) fa_nil)) (fa_cons fe_int fa_nil)))))))))))))) sc__law_right.nd rfl (by first | exact .inl rfl | exact .inr rfl)) (fb_cons (fs_for rfl hp (fi_any (fe_add (fe_var (i := 14) rfl) (fe_lst (fa_cons (fe_lst (fa_cons (fe_var (i := 6) rfl) fa_nil)) (fa_cons (fe_tup (fa_cons (fe_var (i := 6) rfl) fa_nil)) fa_nil))))) (fg_name (i := 15) sc__law_right.nd rfl) (fb_cons (fs_if (ft_ne hr.units (fe_of (fv_lc (own := [("_law_said", 10)]) rfl sc__law_right.nd (fi_any (fe_var (i := 13) rfl)) (blk_of rfl) (by decide) (fun s1 H1 C1 cl fp => (fg_name (i := 10) sc__law_right.nd rfl)) (fun s1 H1 C1 cl fp => (fts_one (ft_notB (fe_of (fv_call (T.w_accepts B) (T.g_accepts) T.k_accepts T.bd_accepts .nil (fun _ => Reps.nil) (hr.mono (by decide)) hg takes_noW rfl (fa_cons (fe_var (i := 10) rfl) (fa_cons (fe_var (i := 15) rfl) fa_nil))))))) (fun s1 H1 C1 cl fp => (fe_var (i := 10) rfl)))) (fe_lst fa_nil)) (fb_one (fs_ret fe_bl)) fb_nil) (fb_cons (fs_if (ft_of (fw_or (ft_notB (fe_of (fv_call (T.w_accepts B) (T.g_accepts) T.k_accepts T.bd_accepts .nil (fun _ => Reps.nil) (hr.mono (by decide)) hg tk rfl (fa_cons (fe_var (i := 15) rfl) (fa_cons (fe_tup fa_nil) fa_nil))))) (fw_or1 (ft_notB (fe_of (fv_call (T.w_accepts B) (T.g_accepts) T.k_accepts T.bd_accepts .nil (fun _ => Reps.nil) (hr.mono (by decide)) hg tk rfl (fa_cons (fe_var (i := 15) rfl) (fa_cons (fe_var (i := 15) rfl) fa_nil)))))))) (fb_one (fs_ret fe_bl)) fb_nil) (fb_one (fs_if (ft_notB (fe_of (fv_call (T.w_accepts B) (T.g_accepts) T.k_accepts T.bd_accepts .nil (fun _ => Reps.nil) (hr.mono (by decide)) hg tk rfl (fa_cons (fe_var (i := 15) rfl) (fa_cons (fe_var (i := 6) rfl) fa_nil))))) (fb_one (fs_ret fe_bl)) fb_nil))))) (fb_one (fs_ret (fe_and (fe_isB (fe_of (fv_call (T.w_accepts B) (T.g_accepts) T.k_accepts T.bd_accepts .nil (fun _ => Reps.nil) (hr.mono (by decide)) hg tk rfl (fa_cons (fe_ix (fe_var (i := 13) rfl) fe_int) (fa_cons (fe_lst fa_nil) fa_nil))))) (fe_one (fe_isB (fe_of (fv_call (T.w_accepts B) (T.g_accepts) T.k_accepts T.bd_accepts .nil (fun _ => Reps.nil) (hr.mono (by decide)) hg tk rfl (fa_cons (fe_ix (fe_var (i := 13) rfl) fe_int) (fa_cons (fe_of (fv_list (T.b_list) (fe_var (i := 6) rfl))) fa_nil))))))))))))))))))))))))))
theorem TX.f__law_cup (T : TX w K mg) : FunD K "_law_cup" "_law_cup" (defArgs (top 65)) (defBody (top 65)) (defScope (top 65)) [] [] (He.ga K "_law_cup") (fdOf K (He.ga K "_law_cup")) := T.t.t.fund 50 (d := d__law_cup) rfl
theorem TX.g__law_cup (T : TX w K mg) : mg "_law_cup" = some (.ref (He.ga K "_law_cup")) := T.t.t.glo 44 rfl
theorem TX.k__law_cup (T : TX w K mg) : PySem.W.keepIn K (.ref (He.ga K "_law_cup")) = true := T.f__law_cup.kp
theorem TX.bd__law_cup (T : TX w K mg) : Binds K (fdOf K (He.ga K "_law_cup")) ["_law_cells", "_law_turn"] [] := FunD.bindsN T.f__law_cup fun _ _ _ _ _ _ us hl => match us, hl with | [_, _], _ => rfl
theorem sc__law_cup : FnScope ["_law_cells", "_law_turn", "_law_cell", "_law_mixed", "_law_each"] ["_law_cells", "_law_turn"] (defScope (top 65)) := ⟨rfl, rfl, rfl, by decide +kernel, rfl, by decide +kernel, by decide +kernel⟩
theorem TX.w__law_cup (T : TX w K mg) (B : BY P w fileS K mg base) : FnG P w K mg base (L2.CX P w) 1 (He.ga K "_law_cup") (fdOf K (He.ga K "_law_cup")) ["_law_cells", "_law_turn"] (spL K ["_law_cells", "_law_turn"] none PF._law_cup_F) :=
  fn_F (N := ["_law_cells", "_law_turn", "_law_cell", "_law_mixed", "_law_each"]) (k := 0) (b := none) (bd := PF._law_cup_b) T.f__law_cup sc__law_cup fun cdv A outer s H E hr hg tk hp hcd =>
    (fb_cons (fs_asg (i := 2) (fv_e (fe_if (ft_lt (fe_var (i := 1) rfl) (fe_len (T.b_len) (fe_var (i := 0) rfl))) (fe_ix (fe_var (i := 0) rfl) (fe_var (i := 1) rfl)) (fe_add (fe_var (i := 1) rfl) fe_int))) sc__law_cup.nd rfl (by first | exact .inl rfl | exact .inr rfl)) (fb_cons (fs_asg (i := 3) (fv_add fe_int (fe_mul fe_int (fe_var (i := 1) rfl))) sc__law_cup.nd rfl (by first | exact .inl rfl | exact .inr rfl)) (fb_cons (fs_for rfl hp (fi_any (fe_add (fe_sl (fe_var (i := 0) rfl) fo_no (fo_some fe_int)) (fe_lst (fa_cons (fe_var (i := 2) rfl) fa_nil)))) (fg_name (i := 4) sc__law_cup.nd rfl) (fb_one (fs_asg (i := 3) (fv_e (fe_mod (fe_int1 (T.b_int) (fe_add (fe_mul (fe_var (i := 3) rfl) fe_int) (fe_var (i := 4) rfl))) fe_int)) sc__law_cup.nd rfl (by first | exact .inl rfl | exact .inr rfl)))) (fb_one (fs_retV (fv_lst (fa_cons (fe_if (ft_of (fw_or (ft_lt (fe_var (i := 2) rfl) fe_int) (fw_or1 (ft_ge (fe_var (i := 2) rfl) (fe_pow fe_int fe_int))))) (fe_abs (T.b_abs) (fe_var (i := 2) rfl)) fe_int) (fa_cons (fe_var (i := 3) rfl) (fa_cons fe_int fa_nil)))))))))
theorem TX.f_law (T : TX w K mg) : FunD K "law" "law" (defArgs (top 79)) (defBody (top 79)) (defScope (top 79)) [] [] (He.ga K "law") (fdOf K (He.ga K "law")) := T.t.t.fund 51 (d := d_law) rfl
theorem TX.g_law (T : TX w K mg) : mg "law" = some (.ref (He.ga K "law")) := T.t.t.glo 45 rfl
theorem sc_law : FnScope ["_law_cells", "_law_turn"] ["_law_cells"] (defScope (top 79)) := ⟨rfl, rfl, rfl, by decide +kernel, rfl, by decide +kernel, by decide +kernel⟩
theorem TX.w_law (T : TX w K mg) (B : BY P w fileS K mg base) : FnG P w K mg base (L2.CX P w) 11 (He.ga K "law") (fdOf K (He.ga K "law")) ["_law_cells"] (spL K ["_law_cells"] none PF.law_29_F) :=
  fn_F (N := ["_law_cells", "_law_turn"]) (k := 10) (b := none) (bd := PF.law_29_b) T.f_law sc_law fun cdv A outer s H E hr hg tk hp hcd =>
    (fb_one (fs_ret (fe_all rfl (T.b_all) (fe_of (fv_lc (own := [("_law_turn", 1)]) rfl sc_law.nd (fi_rng1 (T.b_range) (fa_cons (fe_max2 rfl (T.b_max) fe_int (fe_min2 rfl (T.b_min) (fe_len (T.b_len) (fe_var (i := 0) rfl)) fe_int)) fa_nil)) (blk_of rfl) (by decide) (fun s1 H1 C1 cl fp => (fg_name (i := 1) sc_law.nd rfl)) (fun s1 H1 C1 cl fp => fts_nil) (fun s1 H1 C1 cl fp => (fe_of (fv_call1 (T.w__law_right B) (T.g__law_right) T.k__law_right T.bd__law_right .nil (fun _ => Reps.nil) (hr.mono (by decide)) hg takes_noW rfl (fv_call (T.w__law_cup B) (T.g__law_cup) T.k__law_cup T.bd__law_cup .nil (fun _ => Reps.nil) (hr.mono (by decide)) hg takes_noW rfl (fa_cons (fe_var (i := 0) rfl) (fa_cons (fe_var (i := 1) rfl) fa_nil)))))))))))
end
end K65
namespace PL
def EB := (And.intro @and_self (And.intro @and_true (And.intro @true_and (And.intro @List.getElem?_cons_zero.{0} (And.intro @List.getElem?_cons_succ.{0} (And.intro @List.set_cons_zero.{0} (And.intro @List.set_cons_succ.{0} (And.intro @List.length_cons.{0} (And.intro @List.length_nil.{0} (And.intro @Option.map_some.{0,0} (And.intro @Option.bind_some.{0,0} (And.intro @Option.map_none.{0,0} (And.intro @Option.bind_none.{0,0} (And.intro @List.map_cons.{0,0} (And.intro @List.map_nil.{0,0} (And.intro @List.cons_append.{0} (And.intro @List.nil_append.{0} (And.intro @List.append_nil.{0} (And.intro @Nat.zero_add (And.intro @List.replicate_succ.{0} (And.intro @List.replicate_zero.{0} (And.intro @if_true.{1} (And.intro @if_false.{1} (And.intro @Bool.not_true (And.intro @Bool.not_false (And.intro @decide_true (And.intro @decide_false (And.intro @Bool.false_eq_true (And.intro @Bool.true_eq_false (And.intro @Bool.or_false (And.intro @Bool.or_true (And.intro @Bool.true_or @Bool.false_or))))))))))))))))))))))))))))))))
def EBC := And.intro EB (And.intro @Bool.and_self (And.intro @Bool.true_and (And.intro @Bool.and_true @eq_self.{1})))
end PL
namespace PL
open PySem PySem.Spec PyProof.Rows L2 FL PF
local macro_rules | `(tactic| simp! only [$ts,*]) => `(tactic| simp -implicitDefEqProofs only [Ev.all, Ev.all2, Ev.all3, EBC, Nat.reduceAdd, Nat.reduceSub, reduceIte, Nat.reduceLeDiff, Nat.reduceEqDiff, Int.reduceLT, Int.reduceLE, reduceCtorEq, $ts,*])
local macro_rules | `(tactic| simp! [$ts,*]) => `(tactic| simp -implicitDefEqProofs only [Ev.all, Ev.all2, EB, Nat.reduceAdd, Nat.reduceSub, reduceIte, Nat.reduceLeDiff, Nat.reduceEqDiff, Int.reduceLT, Int.reduceLE, reduceCtorEq, $ts,*])
section
def Sm (d : D) (k n : Nat) : Prop := ∃ p : PyData, d.py = some p ∧ p.canLay0 = true ∧ p.showable = true ∧ p.hasDict = false ∧ p.depth ≤ k ∧ p.shown.length ≤ n
theorem Sm.mono {d : D} {k n k' n' : Nat} (h : Sm d k n) (h1 : k ≤ k') (h2 : n ≤ n') : Sm d k' n' := by
  obtain ⟨p, a, b, c, e, f, g⟩ := h
  exact ⟨p, a, b, c, e, by omega, by omega⟩
theorem Sm.str {x : Str} {m : Nat} (h : PyData.strOk x = true) (hl : x.length ≤ m) : Sm (.str x) 0 (10 * m + 2) := by
  refine ⟨.str x, rfl, h, rfl, rfl, Nat.le_refl _, ?_⟩
  have h2 : ∀ c ∈ x.cps.toList, c < 16 ^ 8 := fun c hc => by
    have := Array.all_eq_true_iff_forall_mem.mp (show x.cps.all (· < 0x110000) = true from h) c (Array.mem_toList_iff.mp hc)
    have := of_decide_eq_true this
    omega
  have := StrLaws.reprText_len x h2
  show (reprText x).length ≤ _
  omega
theorem str_len_app (x y : Str) : (x ++ y).length = x.length + y.length := by
  show (x.cps ++ y.cps).size = _
  rw [Array.size_append]; rfl
theorem shown_all {k n : Nat} : ∀ {ds : List D}, (∀ d ∈ ds, Sm d k n) → ∃ ps, D.pys ds = some ps ∧ PyData.canLayAll0 ps = true ∧ PyData.showableAll ps = true ∧ PyData.hasDictAll ps = false ∧ PyData.depthAll ps ≤ k ∧ (∀ t ∈ PyData.shownAll ps, t.length ≤ n) ∧ (PyData.shownAll ps).length = ds.length
  | [], _ => ⟨[], rfl, rfl, rfl, rfl, Nat.zero_le _, (fun t h => by simp [PyData.shownAll] at h), rfl⟩
  | d :: ds, h => by
    obtain ⟨p, a, b, c, e, f, g⟩ := h d List.mem_cons_self
    obtain ⟨ps, a', b', c', e', f', g', l'⟩ := shown_all (ds := ds) fun d hd => h d (List.mem_cons_of_mem _ hd)
    refine ⟨p :: ps, ?_, ?_, ?_, ?_, ?_, ?_, ?_⟩
    · show (D.py d).bind _ = _
      rw [a]
      show (D.pys ds).map _ = _
      rw [a']; rfl
    · simp only [PyData.canLayAll0, b, b', Bool.and_self]
    · simp only [PyData.showableAll, c, c', Bool.and_self]
    · simp only [PyData.hasDictAll, e, e', Bool.or_self]
    · simp only [PyData.depthAll]; omega
    · intro t ht
      simp only [PyData.shownAll, List.mem_cons] at ht
      rcases ht with rfl | ht
      · exact g
      · exact g' t ht
    · simp only [PyData.shownAll, List.length_cons, l']
theorem join_le (sep : Str) {n : Nat} : ∀ {ts : List Str}, (∀ t ∈ ts, t.length ≤ n) → (Str.join sep ts).length ≤ ts.length * (n + sep.length)
  | [], _ => Nat.zero_le _
  | [x], h => by
    have := h x List.mem_cons_self
    show x.length ≤ _
    simp only [List.length_cons, List.length_nil]; omega
  | x :: y :: r, h => by
    have h1 := h x List.mem_cons_self
    have h2 := join_le sep (ts := y :: r) fun t ht => h t (List.mem_cons_of_mem _ ht)
    show (x ++ sep ++ Str.join sep (y :: r)).length ≤ _
    rw [str_len_app, str_len_app, List.length_cons, Nat.succ_mul]
    omega
theorem textFrom_le {n : Nat} : ∀ (ts : List Str) (k : Nat) (acc : Str), (∀ t ∈ ts, t.length ≤ n) → (textFrom k acc ts).length ≤ acc.length + ts.length * (n + 2)
  | [], _, _, _ => by show _ ≤ _; simp [textFrom]
  | t :: r, k, acc, h => by
    have h1 := h t List.mem_cons_self
    have h2 := textFrom_le r (k + 1) (acc ++ (if k > 0 then ", " else "" : String) ++ t) fun t ht => h t (List.mem_cons_of_mem _ ht)
    rw [str_len_app, str_len_app] at h2
    have h3 : (Str.ofString (if k > 0 then ", " else "")).length ≤ 2 := by split <;> decide +kernel
    show (textFrom (k + 1) (acc ++ (if k > 0 then ", " else "" : String) ++ t) r).length ≤ _
    rw [List.length_cons, Nat.succ_mul]
    omega
theorem Sm.tup {ds : List D} {k n : Nat} (h : ∀ d ∈ ds, Sm d k n) : Sm (.tup ds) (k + 1) (ds.length * (n + 2) + 3) := by
  obtain ⟨ps, a, b, c, e, f, g, l⟩ := shown_all h
  refine ⟨.tuple ps, ?_, b, c, e, ?_, ?_⟩
  · show (D.pys ds).map _ = _
    rw [a]; rfl
  · show PyData.depthAll ps + 1 ≤ _; omega
  · show (tupleText (PyData.shownAll ps)).length ≤ _
    unfold tupleText
    rw [str_len_app, str_len_app]
    have h1 := join_le (Str.ofString ", ") g
    have h2 : (Str.ofString ", ").length = 2 := by decide +kernel
    have h3 : (Str.ofString "(").length = 1 := by decide +kernel
    have h4 : (Str.ofString (if (PyData.shownAll ps).length == 1 then ",)" else ")")).length ≤ 2 := by split <;> decide +kernel
    rw [h2, l] at h1
    omega
theorem Sm.lst {ds : List D} {k n : Nat} (h : ∀ d ∈ ds, Sm d k n) : Sm (.lst ds) (k + 1) (ds.length * (n + 2) + 3) := by
  obtain ⟨ps, a, b, c, e, f, g, l⟩ := shown_all h
  refine ⟨.list ps, ?_, b, c, e, ?_, ?_⟩
  · show (D.pys ds).map _ = _
    rw [a]; rfl
  · show PyData.depthAll ps + 1 ≤ _; omega
  · show (listText (PyData.shownAll ps)).length ≤ _
    unfold listText
    rw [str_len_app]
    have h1 := textFrom_le (PyData.shownAll ps) 0 (Str.ofString "[") g
    have h3 : (Str.ofString "[").length = 1 := by decide +kernel
    have h4 : (Str.ofString "]").length = 1 := by decide +kernel
    rw [l] at h1
    omega
theorem Sm.shows {d : D} {k n : Nat} (h : Sm d k n) (hk : k ≤ 60) (hn : n ≤ 16777216) : ∃ z : Str, reprD d = some (.str z) := by
  obtain ⟨p, a, b, c, e, f, g⟩ := h
  refine ⟨p.shown, ?_⟩
  unfold reprD
  rw [a]
  show (reprP p).map D.str = _
  unfold reprP
  rw [if_pos ⟨c, e, by omega, by show _ ≤ 2 ^ 24; omega⟩]
  rfl
theorem cmp_inv {vs : List Nat} {b : BF} {tt : TF} {elt : EF} {I : En → Prop} {R : D → D → Prop} : ∀ (ds : List D) (acc : List D) (Γ : En), I Γ → acc.length + ds.length ≤ 16777216 →
    (∀ d ∈ ds, ∀ Γ, I Γ → ∃ Γ1 Γ2 ev Γ3 x Γ4, b d (wipeΓ Γ vs) = some Γ1 ∧ tt Γ1 = .ok true Γ2 ∧ elt Γ2 = .ok ev Γ3 ∧ frz1 ev Γ3 = some (x, Γ4) ∧ R d x ∧ I (wipeΓ Γ4 vs)) →
    ∃ xs Γ', cmpL vs b tt elt ds acc Γ = .ok (.n (.l (acc ++ xs))) Γ' ∧ Paired R ds xs ∧ I Γ'
  | [], acc, Γ, h, _, _ => ⟨[], Γ, by rw [List.append_nil]; rfl, .nil, h⟩
  | d :: ds, acc, Γ, h, hl, hs => by
    obtain ⟨Γ1, Γ2, ev, Γ3, x, Γ4, e1, e2, e3, e4, r, h'⟩ := hs d List.mem_cons_self Γ h
    rw [List.length_cons] at hl
    obtain ⟨xs, Γ', k1, k2, k3⟩ := cmp_inv (R := R) ds (acc ++ [x]) (wipeΓ Γ4 vs) h' (by rw [List.length_append, List.length_singleton]; omega) fun d hd => hs d (List.mem_cons_of_mem _ hd)
    refine ⟨x :: xs, Γ', ?_, .cons r k2, k3⟩
    have hz : acc.length < sizeLine := by show _ < 2 ^ 24; omega
    simp only [cmpL, e1, e2, e3, e4, if_pos hz, k1, List.append_assoc, List.singleton_append]
theorem cmp_map {vs : List Nat} {b : BF} {elt : EF} {g : D → D} {Γ : En} (hw : wipeΓ Γ vs = Γ) {ds : List D} (hl : ds.length ≤ 16777216)
    (hs : ∀ d ∈ ds, ∃ Γ1, b d Γ = some Γ1 ∧ elt Γ1 = .ok (.d (g d)) Γ1 ∧ wipeΓ Γ1 vs = Γ) : cmpL vs b trueT elt ds [] Γ = .ok (.n (.l (ds.map g))) Γ := by
  obtain ⟨xs, Γ', h1, h2, h3⟩ := cmp_inv (vs := vs) (b := b) (tt := trueT) (elt := elt) (I := fun Γ' => Γ' = Γ) (R := fun d x => x = g d) ds [] Γ rfl (by simpa using hl) fun d hd Γ' e => by
    subst e
    obtain ⟨Γ1, e1, e2, e3⟩ := hs d hd
    exact ⟨Γ1, Γ1, _, Γ1, g d, Γ1, by rw [hw]; exact e1, rfl, e2, rfl, rfl, e3⟩
  subst h3
  rw [h1, List.nil_append]
  have : xs = ds.map g := by
    clear h1 hs hl
    induction h2 with
    | nil => rfl
    | cons r t ih => rw [r, ih]; rfl
  rw [this]
theorem for_inv {b : BF} {body : SF} {I : List D → En → Prop} : ∀ (ds : List D) (Γ : En), I ds Γ → (∀ d ds' Γ, I (d :: ds') Γ → ∃ Γ1, b d Γ = some Γ1 ∧ ∃ Γ2, (body Γ1 = .ok .nx Γ2 ∨ body Γ1 = .ok .ct Γ2) ∧ I ds' Γ2) →
    ∃ Γ', loopS b body ds Γ = .ok .nx Γ' ∧ I [] Γ'
  | [], Γ, h, _ => ⟨Γ, rfl, h⟩
  | d :: ds, Γ, h, hs => by
    obtain ⟨Γ1, e1, Γ2, e2, h2⟩ := hs d ds Γ h
    obtain ⟨Γ', k1, k2⟩ := for_inv ds Γ2 h2 hs
    refine ⟨Γ', ?_, k2⟩
    rcases e2 with e2 | e2 <;> simp only [loopS, e1, e2, k1]
theorem bools_map {α : Type} (g : α → Bool) : ∀ xs : List α, bools (xs.map fun a => D.bl (g a)) = some (xs.map g)
  | [] => rfl
  | x :: xs => by
    show (bools (xs.map fun a => D.bl (g a))).map _ = _
    rw [bools_map g xs]; rfl
theorem all_map {α : Type} (g : α → Bool) (xs : List α) : allD (.lst (xs.map fun a => D.bl (g a))) = some (.bl (xs.all g)) := by
  show (bools _).map _ = _
  rw [bools_map]
  show some (D.bl ((xs.map g).all id)) = _
  rw [List.all_map]; rfl
def IsName (x : Str) : Prop := 0 < x.length ∧ x.length < 9 ∧ ∀ c ∈ x.cps.toList, 97 ≤ c ∧ c ≤ 122
theorem IsName.ok {x : Str} (h : IsName x) : PyData.strOk x = true := by
  show x.cps.all (· < 0x110000) = true
  rw [Array.all_eq_true_iff_forall_mem]
  intro c hc
  have := h.2.2 c (Array.mem_toList_iff.mpr hc)
  exact decide_eq_true (by omega)
theorem letters_mem {c : Nat} : c ∈ (Str.ofString "abcdefghijklmnopqrstuvwxyz").cps.toList ↔ 97 ≤ c ∧ c ≤ 122 := by
  have e : (Str.ofString "abcdefghijklmnopqrstuvwxyz").cps.toList = [97, 98, 99, 100, 101, 102, 103, 104, 105, 106, 107, 108, 109, 110, 111, 112, 113, 114, 115, 116, 117, 118, 119, 120, 121, 122] := by decide +kernel
  rw [e]
  simp only [List.mem_cons, List.not_mem_nil, or_false]
  omega
def nameB (x : Str) : Bool := decide (0 < x.length ∧ x.length < 9) && x.cps.toList.all fun c => decide (97 ≤ c ∧ c ≤ 122)
theorem nameB_iff {x : Str} : nameB x = true ↔ IsName x := by
  unfold nameB IsName
  simp only [Bool.and_eq_true, decide_eq_true_eq, List.all_eq_true, and_assoc]
theorem is_name_ev (x : Str) (hx : x.length ≤ 16777216) : is_name_F [.str x] = .ok (.bl (nameB x)) none := by
  have hz : x.length ≤ sizeLine := by show _ ≤ 2 ^ 24; omega
  have comp : compV [1] (anyI (vE 0)) (bName 1) trueT is_name_x1 [.im (.str x), .no] = .ok (.n (.l ((x.cps.toList.map fun c => D.str ⟨#[c]⟩).map fun d => (inD d c_LETTERS).getD .non))) [.im (.str x), .no] := by
    unfold compV
    show (if noBor [Sl.im (.str x), .no] [1] = true then cmpL [1] (bName 1) trueT is_name_x1 (x.cps.toList.map fun c => D.str ⟨#[c]⟩) [] [.im (.str x), .no] else .fail) = _
    rw [if_pos (show noBor [Sl.im (.str x), Sl.no] [1] = true from rfl)]
    refine cmp_map rfl (by rw [List.length_map]; exact hx) fun d hd => ?_
    obtain ⟨c, hc, rfl⟩ := List.mem_map.mp hd
    exact ⟨_, rfl, rfl, rfl⟩
  have hall : allD (.lst ((x.cps.toList.map fun c => D.str ⟨#[c]⟩).map fun d => (inD d c_LETTERS).getD .non)) = some (.bl (x.cps.toList.all fun c => decide (97 ≤ c ∧ c ≤ 122))) := by
    rw [List.map_map]
    have : ((fun d => (inD d c_LETTERS).getD D.non) ∘ fun c => D.str ⟨#[c]⟩) = fun c => D.bl (decide (97 ≤ c ∧ c ≤ 122)) := by
      funext c
      show D.bl (decide (c ∈ (Str.ofString "abcdefghijklmnopqrstuvwxyz").cps.toList)) = _
      congr 1
      exact decide_eq_decide.mpr letters_mem
    rw [this, all_map]
  unfold is_name_F is_name_b nameB
  by_cases h1 : (0 : Int) < (x.length : Int)
  · by_cases h2 : (x.length : Int) < 9
    · have h3 : decide (0 < x.length ∧ x.length < 9) = true := decide_eq_true (by omega)
      simp! [comp, hall, if_pos hz, h1, h2, h3, Bool.true_and]
    · have h3 : decide (0 < x.length ∧ x.length < 9) = false := decide_eq_false (by omega)
      simp! [comp, hall, if_pos hz, h1, h2, h3, Bool.false_and]
  · have h3 : decide (0 < x.length ∧ x.length < 9) = false := decide_eq_false (by omega)
    simp! [comp, hall, if_pos hz, h1, h3, Bool.false_and]
abbrev Box := List (Bool × Str)
def kd (k : Bool) : Str := if k then "lock" else "tag"
def lay (p : Bool × Str) : D := .tup [.str (kd p.1), .str p.2]
def bx (b : Box) : List D := b.map lay
def rs : Option Box → D
  | none => .non
  | some b => .tup (bx b)
def vb (i : Fin 8) : Str := match i with
  | 0 => "lock" | 1 => "lock" | 2 => "unlock" | 3 => "tag" | 4 => "tag" | 5 => "untag" | 6 => "untag" | 7 => "untag"
def wm (i : Fin 8) : Str := match i with
  | 0 => "me" | 1 => "you" | 2 => "me" | 3 => "me" | 4 => "you" | 5 => "me" | 6 => "you" | 7 => "any"
def dT (i : Fin 8) : Str := match i with
  | 0 => "lock me" | 1 => "lock you" | 2 => "unlock me" | 3 => "tag me" | 4 => "tag you" | 5 => "untag me" | 6 => "untag you" | 7 => "untag any"
def top1 (k : Bool) (n : Str) : Box → Option Box
  | (j, o) :: r => if j = k ∧ o = n then some r else none
  | [] => none
def stp (i : Fin 8) (me you : Str) (b : Box) : Option Box := match i with
  | 0 => some ((true, me) :: b) | 1 => some ((true, you) :: b) | 2 => top1 true me b | 3 => some ((false, me) :: b) | 4 => some ((false, you) :: b) | 5 => top1 false me b | 6 => top1 false you b
  | 7 => (match b with
    | (false, _) :: r => some r
    | _ => none)
theorem inT2 {x a b : Str} : inD (.str x) (.tup [.str a, .str b]) = some (.bl (decide (x = a) || decide (x = b))) := by
  show some (D.bl (inV (.str x) [.str a, .str b])) = _
  simp only [inV, eqV, List.any_cons, List.any_nil, Bool.or_false]
  congr 2
  rw [Bool.eq_iff_iff]
  simp only [Bool.or_eq_true, beq_iff_eq, decide_eq_true_eq]
  constructor <;> (rintro (h | h) <;> simp [h])
theorem inL2 {x a b : Str} : inD (.str x) (.lst [.str a, .str b]) = some (.bl (decide (x = a) || decide (x = b))) := inT2
theorem bx_length (b : Box) : (bx b).length = b.length := List.length_map ..
theorem ne_lock_unlock : (Str.ofString "lock" = Str.ofString "unlock") = False := by decide +kernel
theorem ne_lock_tag : (Str.ofString "lock" = Str.ofString "tag") = False := by decide +kernel
theorem ne_lock_untag : (Str.ofString "lock" = Str.ofString "untag") = False := by decide +kernel
theorem ne_lock_me : (Str.ofString "lock" = Str.ofString "me") = False := by decide +kernel
theorem ne_lock_you : (Str.ofString "lock" = Str.ofString "you") = False := by decide +kernel
theorem ne_lock_any : (Str.ofString "lock" = Str.ofString "any") = False := by decide +kernel
theorem ne_unlock_lock : (Str.ofString "unlock" = Str.ofString "lock") = False := by decide +kernel
theorem ne_unlock_tag : (Str.ofString "unlock" = Str.ofString "tag") = False := by decide +kernel
theorem ne_unlock_untag : (Str.ofString "unlock" = Str.ofString "untag") = False := by decide +kernel
theorem ne_unlock_me : (Str.ofString "unlock" = Str.ofString "me") = False := by decide +kernel
theorem ne_unlock_you : (Str.ofString "unlock" = Str.ofString "you") = False := by decide +kernel
theorem ne_unlock_any : (Str.ofString "unlock" = Str.ofString "any") = False := by decide +kernel
theorem ne_tag_lock : (Str.ofString "tag" = Str.ofString "lock") = False := by decide +kernel
theorem ne_tag_unlock : (Str.ofString "tag" = Str.ofString "unlock") = False := by decide +kernel
theorem ne_tag_untag : (Str.ofString "tag" = Str.ofString "untag") = False := by decide +kernel
theorem ne_tag_me : (Str.ofString "tag" = Str.ofString "me") = False := by decide +kernel
theorem ne_tag_you : (Str.ofString "tag" = Str.ofString "you") = False := by decide +kernel
theorem ne_tag_any : (Str.ofString "tag" = Str.ofString "any") = False := by decide +kernel
theorem ne_untag_lock : (Str.ofString "untag" = Str.ofString "lock") = False := by decide +kernel
theorem ne_untag_unlock : (Str.ofString "untag" = Str.ofString "unlock") = False := by decide +kernel
theorem ne_untag_tag : (Str.ofString "untag" = Str.ofString "tag") = False := by decide +kernel
theorem ne_untag_me : (Str.ofString "untag" = Str.ofString "me") = False := by decide +kernel
theorem ne_untag_you : (Str.ofString "untag" = Str.ofString "you") = False := by decide +kernel
theorem ne_untag_any : (Str.ofString "untag" = Str.ofString "any") = False := by decide +kernel
theorem ne_me_lock : (Str.ofString "me" = Str.ofString "lock") = False := by decide +kernel
theorem ne_me_unlock : (Str.ofString "me" = Str.ofString "unlock") = False := by decide +kernel
theorem ne_me_tag : (Str.ofString "me" = Str.ofString "tag") = False := by decide +kernel
theorem ne_me_untag : (Str.ofString "me" = Str.ofString "untag") = False := by decide +kernel
theorem ne_me_you : (Str.ofString "me" = Str.ofString "you") = False := by decide +kernel
theorem ne_me_any : (Str.ofString "me" = Str.ofString "any") = False := by decide +kernel
theorem ne_you_lock : (Str.ofString "you" = Str.ofString "lock") = False := by decide +kernel
theorem ne_you_unlock : (Str.ofString "you" = Str.ofString "unlock") = False := by decide +kernel
theorem ne_you_tag : (Str.ofString "you" = Str.ofString "tag") = False := by decide +kernel
theorem ne_you_untag : (Str.ofString "you" = Str.ofString "untag") = False := by decide +kernel
theorem ne_you_me : (Str.ofString "you" = Str.ofString "me") = False := by decide +kernel
theorem ne_you_any : (Str.ofString "you" = Str.ofString "any") = False := by decide +kernel
theorem ne_any_lock : (Str.ofString "any" = Str.ofString "lock") = False := by decide +kernel
theorem ne_any_unlock : (Str.ofString "any" = Str.ofString "unlock") = False := by decide +kernel
theorem ne_any_tag : (Str.ofString "any" = Str.ofString "tag") = False := by decide +kernel
theorem ne_any_untag : (Str.ofString "any" = Str.ofString "untag") = False := by decide +kernel
theorem ne_any_me : (Str.ofString "any" = Str.ofString "me") = False := by decide +kernel
theorem ne_any_you : (Str.ofString "any" = Str.ofString "you") = False := by decide +kernel
def EFN := (And.intro ne_lock_unlock (And.intro ne_lock_tag (And.intro ne_lock_untag (And.intro ne_lock_me (And.intro ne_lock_you (And.intro ne_lock_any (And.intro ne_unlock_lock (And.intro ne_unlock_tag (And.intro ne_unlock_untag (And.intro ne_unlock_me (And.intro ne_unlock_you (And.intro ne_unlock_any (And.intro ne_tag_lock (And.intro ne_tag_unlock (And.intro ne_tag_untag (And.intro ne_tag_me (And.intro ne_tag_you (And.intro ne_tag_any (And.intro ne_untag_lock (And.intro ne_untag_unlock (And.intro ne_untag_tag (And.intro ne_untag_me (And.intro ne_untag_you (And.intro ne_untag_any (And.intro ne_me_lock (And.intro ne_me_unlock (And.intro ne_me_tag (And.intro ne_me_untag (And.intro ne_me_you (And.intro ne_me_any (And.intro ne_you_lock (And.intro ne_you_unlock (And.intro ne_you_tag (And.intro ne_you_untag (And.intro ne_you_me (And.intro ne_you_any (And.intro ne_any_lock (And.intro ne_any_unlock (And.intro ne_any_tag (And.intro ne_any_untag (And.intro ne_any_me ne_any_you)))))))))))))))))))))))))))))))))))))))))
theorem un1 : Str.ofString "un" ++ Str.ofString "lock" = Str.ofString "unlock" := by decide +kernel
theorem un2 : Str.ofString "un" ++ Str.ofString "tag" = Str.ofString "untag" := by decide +kernel
theorem lun1 : (Str.ofString "un").length + (Str.ofString "lock").length ≤ sizeLine := by decide +kernel
theorem lun2 : (Str.ofString "un").length + (Str.ofString "tag").length ≤ sizeLine := by decide +kernel
theorem kd1 : kd true = Str.ofString "lock" := rfl
theorem kd0 : kd false = Str.ofString "tag" := rfl
theorem cut1 {α : Type} (x : α) (xs : List α) : cutL (x :: xs) (some 1) none = xs := by
  unfold cutL
  have h1 : HT.sIx (x :: xs).length 0 (some 1) = 1 := by
    unfold HT.sIx
    simp
  have h2 : HT.sIx (x :: xs).length (x :: xs).length none = (x :: xs).length := rfl
  rw [h1, h2]
  simp
theorem pys_box : ∀ b : Box, (∀ p ∈ b, PyData.strOk p.2 = true) → ∃ ps, D.pys (bx b) = some ps ∧ PyData.canLayAll0 ps = true ∧ PyData.depthAll ps ≤ 1 ∧ ps.length = b.length
  | [], _ => ⟨[], rfl, rfl, Nat.zero_le _, rfl⟩
  | (k, o) :: r, h => by
    obtain ⟨ps, a, b, c, d⟩ := pys_box r fun p hp => h p (List.mem_cons_of_mem _ hp)
    refine ⟨.tuple [.str (kd k), .str o] :: ps, ?_, ?_, ?_, ?_⟩
    · show (D.pys (bx r)).map _ = _
      rw [a]; rfl
    · have h1 : PyData.strOk (kd k) = true := by cases k <;> decide +kernel
      have h2 := h (k, o) List.mem_cons_self
      simp only [PyData.canLayAll0, PyData.canLay0, h1, h2, b, Bool.and_self]
    · simp only [PyData.depthAll, PyData.depth]; omega
    · simp only [List.length_cons, d]
theorem eq_empty (b : Box) (h : ∀ p ∈ b, PyData.strOk p.2 = true) : eqD (.tup (bx b)) (.tup []) = some (.bl b.isEmpty) := by
  obtain ⟨ps, h1, h2, h3, h4⟩ := pys_box b h
  show (eqP (.tup (bx b)) (.tup [])).map D.bl = _
  have e : (D.tup (bx b)).py = some (.tuple ps) := by
    show (D.pys (bx b)).map _ = _
    rw [h1]; rfl
  have hs : SeqAt.shaped (.tuple ps) = true := by
    show (PyData.canLayAll0 ps && decide (PyData.depthAll ps + 1 ≤ 64)) = true
    rw [h2, decide_eq_true (by omega)]; rfl
  unfold eqP
  rw [e]
  show (if (SeqAt.shaped (.tuple ps) && SeqAt.shaped (.tuple [])) = true then some (PyData.eqvAll ps []) else none).map D.bl = _
  rw [hs, if_pos (by rfl)]
  cases b with
  | nil =>
    cases ps with
    | nil => rfl
    | cons _ _ => simp at h4
  | cons p r =>
    cases ps with
    | nil => simp at h4
    | cons _ _ => rfl
theorem bx_cons (k : Bool) (o : Str) (r : Box) : bx ((k, o) :: r) = .tup [.str (kd k), .str o] :: bx r := rfl
theorem behind_deed_ev (i : Fin 8) (me you : Str) (b : Box) (hl : b.length ≤ 1000) (hn : ∀ p ∈ b, PyData.strOk p.2 = true) : behind_deed_F [.tup [.str (vb i), .str (wm i)], .str me, .str you, .tup (bx b)] = .ok (rs (stp i me you b)) none := by
  have he := eq_empty b hn
  have h1 : (bx b).length + 1 ≤ sizeLine := by rw [bx_length]; show _ ≤ 2 ^ 24; omega
  unfold behind_deed_F behind_deed_b
  match i with
  | 0 => simp! [vb, wm, inT2, eq_self, EFN, if_pos h1]; rfl
  | 1 => simp! [vb, wm, inT2, eq_self, EFN, if_pos h1]; rfl
  | 3 => simp! [vb, wm, inT2, eq_self, EFN, if_pos h1]; rfl
  | 4 => simp! [vb, wm, inT2, eq_self, EFN, if_pos h1]; rfl
  | 2 =>
    match b, he with
    | [], he => simp! [vb, wm, inT2, eq_self, EFN, he, List.isEmpty_nil]; rfl
    | (true, o) :: r, he =>
      simp only [bx_cons, kd1, List.isEmpty_cons] at he
      by_cases h : o = me
      · subst h
        simp! [vb, wm, inT2, eq_self, EFN, he, List.isEmpty_cons, bx_cons, kd1, un1, lun1, cut1, stp, top1, and_self, rs]
      · simp! [vb, wm, inT2, eq_self, EFN, he, List.isEmpty_cons, bx_cons, kd1, un1, lun1, cut1, h, stp, top1, and_false, rs]
    | (false, o) :: r, he =>
      simp only [bx_cons, kd0, List.isEmpty_cons] at he
      simp! [vb, wm, inT2, eq_self, EFN, he, List.isEmpty_cons, bx_cons, kd0, un2, lun2, cut1, stp, top1, false_and, rs]
  | 5 =>
    match b, he with
    | [], he => simp! [vb, wm, inT2, eq_self, EFN, he, List.isEmpty_nil]; rfl
    | (false, o) :: r, he =>
      simp only [bx_cons, kd0, List.isEmpty_cons] at he
      by_cases h : o = me
      · subst h
        simp! [vb, wm, inT2, eq_self, EFN, he, List.isEmpty_cons, bx_cons, kd0, un2, lun2, cut1, stp, top1, and_self, rs]
      · simp! [vb, wm, inT2, eq_self, EFN, he, List.isEmpty_cons, bx_cons, kd0, un2, lun2, cut1, h, stp, top1, and_false, rs]
    | (true, o) :: r, he =>
      simp only [bx_cons, kd1, List.isEmpty_cons] at he
      simp! [vb, wm, inT2, eq_self, EFN, he, List.isEmpty_cons, bx_cons, kd1, un1, lun1, cut1, stp, top1, false_and, rs]
  | 6 =>
    match b, he with
    | [], he => simp! [vb, wm, inT2, eq_self, EFN, he, List.isEmpty_nil]; rfl
    | (false, o) :: r, he =>
      simp only [bx_cons, kd0, List.isEmpty_cons] at he
      by_cases h : o = you
      · subst h
        simp! [vb, wm, inT2, eq_self, EFN, he, List.isEmpty_cons, bx_cons, kd0, un2, lun2, cut1, stp, top1, and_self, rs]
      · simp! [vb, wm, inT2, eq_self, EFN, he, List.isEmpty_cons, bx_cons, kd0, un2, lun2, cut1, h, stp, top1, and_false, rs]
    | (true, o) :: r, he =>
      simp only [bx_cons, kd1, List.isEmpty_cons] at he
      simp! [vb, wm, inT2, eq_self, EFN, he, List.isEmpty_cons, bx_cons, kd1, un1, lun1, cut1, stp, top1, false_and, rs]
  | 7 =>
    match b, he with
    | [], he => simp! [vb, wm, inT2, eq_self, EFN, he, List.isEmpty_nil]; rfl
    | (false, o) :: r, he =>
      simp only [bx_cons, kd0, List.isEmpty_cons] at he
      simp! [vb, wm, inT2, eq_self, EFN, he, List.isEmpty_cons, bx_cons, kd0, un2, lun2, cut1, stp, rs]
    | (true, o) :: r, he =>
      simp only [bx_cons, kd1, List.isEmpty_cons] at he
      simp! [vb, wm, inT2, eq_self, EFN, he, List.isEmpty_cons, bx_cons, kd1, un1, lun1, cut1, stp, rs]
theorem split_dT (i : Fin 8) : splitD (.str (dT i)) (.str " ") = some (.lst [.str (vb i), .str (wm i)]) := by
  have h : ∀ i : Fin 8, ((Str.ofString " ").length == 0) = false ∧ (dT i).length + 2 ≤ sizeLine ∧ Txt.split (dT i) " " = [vb i, wm i] := by decide +kernel
  obtain ⟨h1, h2, h3⟩ := h i
  show (if _ then some (D.lst ((Txt.split (dT i) " ").map D.str)) else none) = _
  rw [if_pos ⟨h1, h2⟩, h3]; rfl
def BoxOk (b : Box) : Prop := ∀ p ∈ b, PyData.strOk p.2 = true
theorem stp_all {P : Str → Prop} {i : Fin 8} {me you : Str} {b b' : Box} (h : stp i me you b = some b') (hm : P me) (hy : P you) (hb : ∀ p ∈ b, P p.2) : (∀ p ∈ b', P p.2) ∧ b'.length ≤ b.length + 1 := by
  have push : ∀ k o, P o → ∀ p ∈ ((k, o) :: b : Box), P p.2 := fun k o ho p hp => by
    rcases List.mem_cons.mp hp with rfl | hp
    · exact ho
    · exact hb p hp
  have tail : ∀ k o, top1 k o b = some b' → (∀ p ∈ b', P p.2) ∧ b'.length ≤ b.length + 1 := fun k o e => by
    cases b with
    | nil => cases e
    | cons p r =>
      obtain ⟨j, x⟩ := p
      by_cases hc : j = k ∧ x = o
      · rw [show top1 k o ((j, x) :: r) = some r from if_pos hc] at e
        cases e; exact ⟨fun p hp => hb p (List.mem_cons_of_mem _ hp), by simp; omega⟩
      · rw [show top1 k o ((j, x) :: r) = none from if_neg hc] at e
        cases e
  match i with
  | 0 => cases h; exact ⟨push _ _ hm, Nat.le_refl _⟩
  | 1 => cases h; exact ⟨push _ _ hy, Nat.le_refl _⟩
  | 2 => exact tail _ _ h
  | 3 => cases h; exact ⟨push _ _ hm, Nat.le_refl _⟩
  | 4 => cases h; exact ⟨push _ _ hy, Nat.le_refl _⟩
  | 5 => exact tail _ _ h
  | 6 => exact tail _ _ h
  | 7 =>
    cases b with
    | nil => cases h
    | cons p r =>
      obtain ⟨j, x⟩ := p
      cases j with
      | true => cases h
      | false => cases h; exact ⟨fun p hp => hb p (List.mem_cons_of_mem _ hp), by simp; omega⟩
theorem stp_ok {i : Fin 8} {me you : Str} {b b' : Box} (h : stp i me you b = some b') (hm : PyData.strOk me = true) (hy : PyData.strOk you = true) (hb : BoxOk b) : BoxOk b' ∧ b'.length ≤ b.length + 1 := stp_all (P := fun x => PyData.strOk x = true) h hm hy hb
def runD : List (Fin 8) → Str → Str → Box → Option Box
  | [], _, _, b => some b
  | i :: is, me, you, b => (stp i me you b).bind (runD is me you)
def ddT (i : Fin 8) : D := .tup [.str (vb i), .str (wm i)]
theorem runD_all {P : Str → Prop} {me you : Str} (hm : P me) (hy : P you) : ∀ {is : List (Fin 8)} {b b' : Box}, runD is me you b = some b' → (∀ p ∈ b, P p.2) → (∀ p ∈ b', P p.2) ∧ b'.length ≤ b.length + is.length
  | [], b, b', h, hb => by cases h; exact ⟨hb, by simp⟩
  | i :: is, b, b', h, hb => by
    obtain ⟨b1, h1, h2⟩ := Option.bind_eq_some_iff.mp (show (stp i me you b).bind (runD is me you) = some b' from h)
    obtain ⟨k1, k2⟩ := stp_all h1 hm hy hb
    obtain ⟨k3, k4⟩ := runD_all hm hy h2 k1
    exact ⟨k3, by rw [List.length_cons]; omega⟩
theorem done_ev (me you : Str) (hm : PyData.strOk me = true) (hy : PyData.strOk you = true) : ∀ (is : List (Fin 8)) (b : Box), b.length + is.length ≤ 1000 → BoxOk b → done_F [.lst (is.map ddT), .str me, .str you, .tup (bx b)] = .ok (rs (runD is me you b)) none := by
  have main : ∀ (is : List (Fin 8)) (b : Box) (x : Sl) (L : List D), b.length + is.length ≤ 1000 → BoxOk b → ∃ Γ', loopS (bName 4) done_x1 (is.map ddT) [.im (.lst L), .im (.str me), .im (.str you), .im (.tup (bx b)), (match x with | .im d => .im d | _ => .no)] =
      (match runD is me you b with
        | some b' => .ok .nx Γ'
        | none => .ok (.rt .non) Γ') ∧ (∀ b', runD is me you b = some b' → ∃ y, Γ' = [.im (.lst L), .im (.str me), .im (.str you), .im (.tup (bx b')), y]) := by
    intro is
    induction is with
    | nil => intro b x L _ _; exact ⟨_, rfl, fun b' h => by cases h; exact ⟨_, rfl⟩⟩
    | cons i is ih =>
      intro b x L hl hb
      rw [List.length_cons] at hl
      have e := behind_deed_ev i me you b (by omega) hb
      rw [List.map_cons]
      unfold loopS
      cases hs : stp i me you b with
      | none =>
        refine ⟨[.im (.lst L), .im (.str me), .im (.str you), .im .non, .im (ddT i)], ?_, fun b' h => ?_⟩
        · rw [hs] at e
          have : runD (i :: is) me you b = none := by show (stp i me you b).bind _ = none; rw [hs]; rfl
          rw [this]
          cases x <;> simp! [done_x1, ddT, e, rs]
        · have : runD (i :: is) me you b = none := by show (stp i me you b).bind _ = none; rw [hs]; rfl
          rw [this] at h; cases h
      | some b1 =>
        obtain ⟨h1, h2⟩ := stp_ok hs hm hy hb
        obtain ⟨Γ', k1, k2⟩ := ih b1 (.im (ddT i)) L (by omega) h1
        have er : runD (i :: is) me you b = runD is me you b1 := by show (stp i me you b).bind _ = _; rw [hs]; rfl
        refine ⟨Γ', ?_, fun b' h => k2 b' (by rw [← er]; exact h)⟩
        rw [er, ← k1]
        rw [hs] at e
        cases x <;> simp! [done_x1, ddT, e, rs]
  intro is b hl hb
  obtain ⟨Γ', k1, k2⟩ := main is b .no (is.map ddT) hl hb
  unfold done_F done_b
  simp only [Ev.forS, Ev.all, Ev.all2, EB, Nat.reduceAdd, Nat.reduceSub, reduceIte, Nat.reduceLeDiff, Nat.reduceEqDiff, Int.reduceLT, Int.reduceLE, reduceCtorEq]
  simp only at k1
  rw [k1]
  cases hr : runD is me you b with
  | none => simp only [EB, Nat.reduceAdd, Nat.reduceSub, reduceIte, Nat.reduceLeDiff, Nat.reduceEqDiff, Int.reduceLT, Int.reduceLE, reduceCtorEq, Ev.all, Ev.all2, rs]
  | some b' =>
    obtain ⟨y, rfl⟩ := k2 b' hr
    simp! [rs]
theorem is_layer_ev (p : Bool × Str) (h : p.2.length ≤ 16777216) : is_layer_F [lay p] = .ok (.bl (nameB p.2)) none := by
  obtain ⟨k, o⟩ := p
  have hn := is_name_ev o h
  have n2 : neD (.int ((2 : Nat) : Int)) (.int 2) = some (.bl false) := rfl
  unfold is_layer_F is_layer_b lay
  cases k with
  | true => simp! [inT2, kd1, eq_self, EFN, hn, n2]
  | false => simp! [inT2, kd0, eq_self, EFN, hn, n2]
theorem is_box_ev (b : Box) (hl : b.length ≤ 1000) (h : ∀ p ∈ b, p.2.length ≤ 16777216) : is_box_F [.tup (bx b)] = .ok (.bl (decide (b.length ≤ 12) && b.all fun p => nameB p.2)) none := by
  have comp : compV [1] (anyI (vE 0)) (bName 1) trueT is_box_x1 [.im (.tup (bx b)), .no] = .ok (.n (.l (b.map fun p => D.bl (nameB p.2)))) [.im (.tup (bx b)), .no] := by
    unfold compV
    show (if noBor [Sl.im (.tup (bx b)), .no] [1] = true then cmpL [1] (bName 1) trueT is_box_x1 (bx b) [] [.im (.tup (bx b)), .no] else .fail) = _
    rw [if_pos (show noBor [Sl.im (.tup (bx b)), .no] [1] = true from rfl)]
    have := cmp_map (vs := [1]) (b := bName 1) (elt := is_box_x1) (g := fun d => match is_layer_F [d] with | .ok x _ => x | _ => .non) (Γ := [.im (.tup (bx b)), .no]) rfl (ds := bx b) (by rw [bx_length]; omega) fun d hd => by
      obtain ⟨p, hp, rfl⟩ := List.mem_map.mp hd
      have e := is_layer_ev p (h p hp)
      refine ⟨[.im (.tup (bx b)), .im (lay p)], rfl, ?_, rfl⟩
      simp! [is_box_x1, e]
    rw [this]
    congr 3
    unfold bx
    rw [List.map_map]
    refine List.map_congr_left fun p hp => ?_
    show (match is_layer_F [lay p] with | .ok x _ => x | _ => .non) = _
    rw [is_layer_ev p (h p hp)]
  have hall := all_map (fun p : Bool × Str => nameB p.2) b
  have hb : (bx b).length = b.length := bx_length b
  unfold is_box_F is_box_b
  by_cases h1 : (b.length : Int) ≤ 12
  · have h2 : decide (b.length ≤ 12) = true := decide_eq_true (by omega)
    simp! [comp, hall, hb, c_MOST_LAYERS, h1, h2, Bool.true_and]
  · have h2 : decide (b.length ≤ 12) = false := decide_eq_false (by omega)
    simp! [hb, c_MOST_LAYERS, h1, h2, Bool.false_and]
def rowT (is : List (Fin 8)) : Str := Txt.join "; " (is.map dT)
theorem split_row {is : List (Fin 8)} (h : is ≠ []) : Txt.split (rowT is) "; " = is.map dT := by
  refine TL.split_join (y := "; ") (s := 59) (S := [32]) (by decide +kernel) (by decide +kernel) (by simpa using h) fun p hp => ?_
  obtain ⟨i, _, rfl⟩ := List.mem_map.mp hp
  have : ∀ i : Fin 8, 59 ∉ TL.tl (dT i) := by decide +kernel
  exact this i
theorem row_len (is : List (Fin 8)) : (rowT is).length ≤ is.length * 11 := by
  unfold rowT
  rw [TL.join_eq]
  have h : ∀ i : Fin 8, (dT i).length ≤ 9 := by decide +kernel
  have := join_le (Str.ofString "; ") (ts := is.map dT) (n := 9) fun t ht => by
    obtain ⟨i, _, rfl⟩ := List.mem_map.mp ht
    exact h i
  rw [List.length_map, show (Str.ofString "; ").length = 2 by decide +kernel] at this
  exact this
theorem splitD_row {is : List (Fin 8)} (h : is ≠ []) (hl : is.length ≤ 1000) : splitD (.str (rowT is)) c_BETWEEN = some (.lst (is.map fun i => D.str (dT i))) := by
  have := row_len is
  show (if ((Str.ofString "; ").length == 0) = false ∧ (rowT is).length + 2 ≤ sizeLine then some (D.lst ((Txt.split (rowT is) "; ").map D.str)) else none) = _
  rw [if_pos ⟨by decide +kernel, by show _ ≤ 2 ^ 24; omega⟩, split_row h, List.map_map]; rfl
theorem in_deeds (i : Fin 8) : inD (.str (dT i)) c_DEEDS = some (.bl true) := by
  have h : ∀ i : Fin 8, inV (.str (dT i)) [.str "lock me", .str "lock you", .str "unlock me", .str "tag me", .str "tag you", .str "untag me", .str "untag you", .str "untag any"] = true := by decide +kernel
  show some (D.bl (inV (.str (dT i)) [.str "lock me", .str "lock you", .str "unlock me", .str "tag me", .str "tag you", .str "untag me", .str "untag you", .str "untag any"])) = _
  rw [h i]
theorem is_row_ev {is : List (Fin 8)} (h : is ≠ []) (hl : is.length ≤ 1000) : is_row_F [.str (rowT is)] = .ok (.bl (decide (is.length ≤ 6))) none := by
  have hs := splitD_row h hl
  have comp : compV [2] (anyI (vE 1)) (bName 2) trueT is_row_x1 [.im (.str (rowT is)), .im (.lst (is.map fun i => D.str (dT i))), .no] = .ok (.n (.l (is.map fun _ => D.bl true))) [.im (.str (rowT is)), .im (.lst (is.map fun i => D.str (dT i))), .no] := by
    unfold compV
    show (if noBor [Sl.im (.str (rowT is)), .im (.lst (is.map fun i => D.str (dT i))), .no] [2] = true then cmpL [2] (bName 2) trueT is_row_x1 (is.map fun i => D.str (dT i)) [] [.im (.str (rowT is)), .im (.lst (is.map fun i => D.str (dT i))), .no] else .fail) = _
    rw [if_pos (show noBor [Sl.im (.str (rowT is)), .im (.lst (is.map fun i => D.str (dT i))), .no] [2] = true from rfl)]
    have := cmp_map (vs := [2]) (b := bName 2) (elt := is_row_x1) (g := fun _ => D.bl true) (Γ := [.im (.str (rowT is)), .im (.lst (is.map fun i => D.str (dT i))), .no]) rfl (ds := is.map fun i => D.str (dT i)) (by rw [List.length_map]; omega) fun d hd => by
      obtain ⟨i, _, rfl⟩ := List.mem_map.mp hd
      have e := in_deeds i
      refine ⟨[.im (.str (rowT is)), .im (.lst (is.map fun i => D.str (dT i))), .im (.str (dT i))], rfl, ?_, rfl⟩
      simp! [is_row_x1, e]
    rw [this, List.map_map]; rfl
  have hall := all_map (fun _ : Fin 8 => true) is
  have ha : (is.all fun _ => true) = true := by simp
  rw [ha] at hall
  unfold is_row_F is_row_b
  have e6 : ((is.map fun i => D.str (dT i)).length : Int) = is.length := by rw [List.length_map]
  by_cases h1 : (is.length : Int) ≤ 6
  · have h2 : decide (is.length ≤ 6) = true := decide_eq_true (by omega)
    simp! [comp, hall, hs, e6, c_MOST_DEEDS, h1, h2]
  · have h2 : decide (is.length ≤ 6) = false := decide_eq_false (by omega)
    simp! [hs, e6, c_MOST_DEEDS, h1, h2]
theorem deeds_of_ev {is : List (Fin 8)} (h : is ≠ []) (hl : is.length ≤ 1000) : deeds_of_F [.str (rowT is)] = .nw (.l (is.map ddT)) none := by
  have hs := splitD_row h hl
  unfold deeds_of_F deeds_of_b
  have comp : compV [1] (anyI (m1E splitD (vE 0) (cE c_BETWEEN))) (bName 1) trueT deeds_of_x1 [.im (.str (rowT is)), .no] = .ok (.n (.l (is.map ddT))) [.im (.str (rowT is)), .no] := by
    unfold compV
    simp! [hs]
    rw [if_pos (show noBor [Sl.im (.str (rowT is)), .no] [1] = true from rfl)]
    have := cmp_map (vs := [1]) (b := bName 1) (elt := deeds_of_x1) (g := fun d => match splitD d (.str " ") with | some (.lst xs) => .tup xs | _ => .non) (Γ := [.im (.str (rowT is)), .no]) rfl (ds := is.map fun i => D.str (dT i)) (by rw [List.length_map]; omega) fun d hd => by
      obtain ⟨i, _, rfl⟩ := List.mem_map.mp hd
      have e := split_dT i
      refine ⟨[.im (.str (rowT is)), .im (.str (dT i))], rfl, ?_, rfl⟩
      simp! [deeds_of_x1, e]
    rw [this, List.map_map]
    congr 3
    refine List.map_congr_left fun i _ => ?_
    show (match splitD (.str (dT i)) (.str " ") with | some (.lst xs) => D.tup xs | _ => .non) = _
    rw [split_dT i]; rfl
  simp! [comp]
theorem at_in {α : Type} {xs : List α} {r : Int} (h1 : 0 ≤ r) (h2 : r < xs.length) : ∃ x, x ∈ xs ∧ L2.atI xs r = some x := by
  obtain ⟨k, rfl⟩ := Int.eq_ofNat_of_zero_le h1
  have hk : k < xs.length := by omega
  exact ⟨xs[k], List.getElem_mem hk, by rw [Ev.atI, List.getElem?_eq_getElem hk]⟩
instance (x : Str) : Decidable (IsName x) := decidable_of_iff _ nameB_iff
theorem texts_map : ∀ zs : List Str, texts (zs.map D.str) = some zs
  | [] => rfl
  | z :: zs => by
    show (texts (zs.map D.str)).map _ = _
    rw [texts_map zs]; rfl
theorem comp_at {vs : List Nat} {it : IF} {b : BF} {tt : TF} {elt : EF} {Γ Γ1 : En} {ds : List D} {r : O VV} (h : it Γ = .ok ds Γ1) (hb : noBor Γ1 vs = true) (hc : cmpL vs b tt elt ds [] Γ1 = r) : compV vs it b tt elt Γ = r := by
  unfold compV
  rw [h]
  show (if noBor Γ1 vs = true then _ else _) = r
  rw [if_pos hb]; exact hc
theorem Sm_name {x : Str} (h : IsName x) : Sm (.str x) 0 82 := Sm.str (m := 8) h.ok (by have := h.2.1; omega)
theorem Sm_lay {p : Bool × Str} (h : IsName p.2) : Sm (lay p) 1 171 := by
  refine Sm.tup (k := 0) (n := 82) fun d hd => ?_
  rcases List.mem_cons.mp hd with rfl | hd
  · cases p.1
    · exact (Sm.str (m := 8) (by decide +kernel) (by decide +kernel))
    · exact (Sm.str (m := 8) (by decide +kernel) (by decide +kernel))
  · rcases List.mem_cons.mp hd with rfl | hd
    · exact Sm_name h
    · cases hd
theorem Sm_box {b : Box} (h : ∀ p ∈ b, IsName p.2) : Sm (.tup (bx b)) 2 (b.length * 173 + 3) := by
  have := Sm.tup (ds := bx b) (k := 1) (n := 171) fun d hd => by
    obtain ⟨p, hp, rfl⟩ := List.mem_map.mp hd
    exact Sm_lay (h p hp)
  rw [bx_length] at this
  exact this
theorem tail_ok {ns : List Int} {vi : Nat} {cap : Int} {f : EF} {Γ : En} (h0 : Γ[0]? = some (.im (.scr ns))) (hw : Γ.set vi .no = Γ) (c1 : 2 ≤ cap) (c2 : cap ≤ 1000)
    (hf : ∀ k : Nat, k ≤ 1000 → f (Γ.set vi (.im (.int k))) = .ok (.d (.bl true)) (Γ.set vi (.im (.int k)))) :
    ∃ xs, compV [vi] (rng1 (aCons (opN (two maxD) (aCons (cE (.int 2)) (aCons (opN (two minD) (aCons (opN (one lenD) (aCons (vE 0) aNil)) (aCons (cE (.int cap)) aNil))) aNil))) aNil)) (bName vi) trueT f Γ = .ok (.n (.l xs)) Γ ∧ allD (.lst xs) = some (.bl true) := by
  have hb : isBor Γ vi = false := by
    unfold isBor
    rw [← hw]
    by_cases h : vi < Γ.length
    · rw [List.getElem?_set_self h]
    · rw [List.getElem?_eq_none (by rw [List.length_set]; omega)]
  have hnb : noBor Γ [vi] = true := by
    unfold noBor
    rw [List.all_cons, hb]; rfl
  have hwp : wipeΓ Γ [vi] = Γ := hw
  generalize hj : (if (if cap < (ns.length : Int) then cap else (ns.length : Int)) > 2 then (if cap < (ns.length : Int) then cap else (ns.length : Int)) else 2) = j
  have hj1 : 0 ≤ j ∧ j ≤ 1000 := by
    subst hj
    split <;> split <;> omega
  have hit : rng1 (aCons (opN (two maxD) (aCons (cE (.int 2)) (aCons (opN (two minD) (aCons (opN (one lenD) (aCons (vE 0) aNil)) (aCons (cE (.int cap)) aNil))) aNil))) aNil) Γ = .ok ((List.range j.toNat).map fun i => D.int (0 + (i : Nat))) Γ := by
    have h1 : aCons (opN (two maxD) (aCons (cE (.int 2)) (aCons (opN (two minD) (aCons (opN (one lenD) (aCons (vE 0) aNil)) (aCons (cE (.int cap)) aNil))) aNil))) aNil Γ = .ok [.d (.int j)] Γ := by
      rw [← hj]
      simp! [h0]
    unfold rng1
    rw [h1, Ev.bindO, Ev.itR1 (by omega) (by omega)]
  obtain ⟨xs, Γ', k1, k2, k3⟩ := cmp_inv (vs := [vi]) (b := bName vi) (tt := trueT) (elt := f) (I := fun Γ' => Γ' = Γ) (R := fun _ x => x = .bl true) ((List.range j.toNat).map fun i => D.int (0 + (i : Nat))) [] Γ rfl (by rw [List.length_map, List.length_range, List.length_nil]; omega) fun d hd Γ' e => by
    subst e
    obtain ⟨i, hi, rfl⟩ := List.mem_map.mp hd
    have hi := List.mem_range.mp hi
    have e0 : (0 : Int) + (i : Nat) = (i : Nat) := by omega
    refine ⟨Γ'.set vi (.im (.int i)), Γ'.set vi (.im (.int i)), .d (.bl true), Γ'.set vi (.im (.int i)), .bl true, Γ'.set vi (.im (.int i)), ?_, rfl, hf i (by omega), rfl, rfl, ?_⟩
    · rw [hwp, e0]
      show (if isBor Γ' vi = false then _ else _) = _
      rw [if_pos hb]
    · show (Γ'.set vi _).set vi .no = _
      rw [List.set_set]; exact hw
  subst k3
  have hall : allD (.lst xs) = some (.bl true) := by
    have : ∀ {ds xs : List D}, Paired (fun _ x => x = D.bl true) ds xs → bools xs = some (xs.map fun _ => true) := by
      intro ds xs h
      induction h with
      | nil => rfl
      | cons r t ih =>
        subst r
        show (bools _).map _ = _
        rw [ih]; rfl
    show (bools xs).map _ = _
    rw [this k2]
    show some (D.bl ((xs.map fun _ => true).all id)) = _
    rw [List.all_map]
    congr 2
    exact List.all_eq_true.mpr fun _ _ => rfl
  exact ⟨xs, comp_at hit hnb k1, hall⟩
theorem loop_cons {b : BF} {body : SF} {d : D} {ds : List D} {Γ Γ1 Γ2 : En} (h1 : b d Γ = some Γ1) (h2 : body Γ1 = .ok .nx Γ2) : loopS b body (d :: ds) Γ = loopS b body ds Γ2 := by
  rw [loopS, h1]
  simp only [h2]
theorem for_at {it : IF} {b : BF} {body : SF} {Γ Γ1 : En} {ds : List D} {r : O Fl} (h : it Γ = .ok ds Γ1) (hl : loopS b body ds Γ1 = r) : forS it b body Γ = r := by
  unfold forS
  rw [h, Ev.bindO]; exact hl
def ddS (i : Fin 8) : D := .str (dT i)
theorem dT_ok : ∀ i : Fin 8, PyData.strOk (dT i) = true ∧ (dT i).length ≤ 9 := by decide +kernel
theorem at_fin {is : List (Fin 8)} {r : Int} (h1 : 0 ≤ r) (h2 : r < is.length) : ∃ i, i ∈ is ∧ L2.atI (is.map ddS) r = some (ddS i) := by
  obtain ⟨x, hx, e⟩ := at_in (xs := is.map ddS) h1 (by rw [List.length_map]; exact h2)
  obtain ⟨y, hy, rfl⟩ := List.mem_map.mp hx
  exact ⟨y, hy, e⟩
theorem join_row {is : List (Fin 8)} (hl : is.length ≤ 1000) : joinD (.str "; ") (.lst (is.map ddS)) = some (.str (rowT is)) := by
  have e : is.map ddS = (is.map dT).map D.str := by rw [List.map_map]; rfl
  rw [e]
  show (texts _).bind _ = _
  rw [texts_map]
  have hsum : ((is.map dT).map (·.length)).sum ≤ is.length * 9 := by
    clear e hl
    induction is with
    | nil => simp
    | cons i is ih =>
      simp only [List.map_cons, List.sum_cons, List.length_cons]
      have := (dT_ok i).2
      omega
  show (if _ then some (D.str (Txt.join "; " (is.map dT))) else none) = _
  rw [if_pos]
  · rfl
  · rw [List.length_map, show (Str.ofString "; ").length = 2 by decide +kernel]; omega
theorem rs_none : rs none = .non := rfl
theorem rs_some {b : Box} : rs (some b) = .tup (bx b) := rfl
theorem cut_take {α : Type} (xs : List α) (k : Nat) : cutL xs none (some (k : Int)) = xs.take k := by
  unfold cutL
  rw [HT.sIx_nat, HT.sIx_none, Nat.sub_zero, List.drop_zero]
  by_cases h : k ≤ xs.length
  · rw [Nat.min_eq_left h]
  · rw [Nat.min_eq_right (by omega), List.take_of_length_le (Nat.le_refl _), List.take_of_length_le (by omega)]
theorem cut_drop {α : Type} (xs : List α) (k : Nat) : cutL xs (some (k : Int)) none = xs.drop k := by
  unfold cutL
  rw [HT.sIx_nat, HT.sIx_none]
  by_cases h : k ≤ xs.length
  · rw [Nat.min_eq_left h, List.take_of_length_le (by rw [List.length_drop]; omega)]
  · rw [Nat.min_eq_right (by omega), Nat.sub_self, List.take_zero, List.drop_of_length_le (by omega)]
def sm (xs : List Str) : List D := xs.map D.str
theorem flats_sm : ∀ xs : List Str, flats (sm xs) = some (xs.map V.str)
  | [] => rfl
  | x :: xs => by
    show (some (V.str x)).bind (fun v => (flats (sm xs)).bind fun vs => some (v :: vs)) = _
    rw [flats_sm xs]; rfl
theorem inV_str (x : Str) : ∀ xs : List Str, inV (.str x) (xs.map V.str) = decide (x ∈ xs)
  | [] => rfl
  | y :: ys => by
    have ih := inV_str x ys
    unfold inV at ih ⊢
    rw [List.map_cons, List.any_cons, ih]
    rw [Bool.eq_iff_iff]
    simp only [eqV, List.mem_cons, Bool.or_eq_true, decide_eq_true_eq, beq_iff_eq]
    constructor
    · rintro (h | h)
      · exact .inl (by first | exact h | exact h.symm)
      · exact .inr h
    · rintro (h | h)
      · exact .inl (by first | exact h | exact h.symm)
      · exact .inr h
theorem in_sm (x : Str) (xs : List Str) : inD (.str x) (.lst (sm xs)) = some (.bl (decide (x ∈ xs))) := by
  show (inB (.str x) (.lst (sm xs))).map D.bl = _
  unfold inB
  dsimp only
  rw [flats_sm]
  show some (D.bl (inV (.str x) (xs.map V.str))) = _
  rw [inV_str]
theorem strOk_app {x y : Str} (hx : PyData.strOk x = true) (hy : PyData.strOk y = true) : PyData.strOk (x ++ y) = true := by
  show (x.cps ++ y.cps).all (· < 0x110000) = true
  rw [Array.all_append]
  exact Bool.and_eq_true_iff.mpr ⟨hx, hy⟩
theorem strOk_join {sep : Str} (hs : PyData.strOk sep = true) : ∀ {ts : List Str}, (∀ t ∈ ts, PyData.strOk t = true) → PyData.strOk (Str.join sep ts) = true
  | [], _ => by show PyData.strOk (Str.ofString "") = true; decide +kernel
  | [x], h => h x List.mem_cons_self
  | x :: y :: r, h => strOk_app (strOk_app (h x List.mem_cons_self) hs) (strOk_join hs fun t ht => h t (List.mem_cons_of_mem _ ht))
theorem row_strOk (is : List (Fin 8)) : PyData.strOk (rowT is) = true := by
  unfold rowT
  rw [TL.join_eq]
  exact strOk_join (by decide +kernel) fun t ht => by
    obtain ⟨i, _, rfl⟩ := List.mem_map.mp ht
    exact (dT_ok i).1
theorem join_ev {sep : Str} {ts : List Str} {n : Nat} (h : ∀ t ∈ ts, t.length ≤ n) (hl : ts.length * (n + sep.length) ≤ 1000000) : joinD (.str sep) (.lst (sm ts)) = some (.str (Str.join sep ts)) := by
  show (texts _).bind _ = _
  unfold sm
  rw [texts_map]
  have hsum : (ts.map (·.length)).sum ≤ ts.length * n := by
    clear hl
    induction ts with
    | nil => simp
    | cons t ts ih =>
      have h1 := h t List.mem_cons_self
      have h2 := ih fun t ht => h t (List.mem_cons_of_mem _ ht)
      simp only [List.map_cons, List.sum_cons, List.length_cons, Nat.succ_mul]
      omega
  rw [Nat.mul_add] at hl
  show (if _ then some (D.str (Txt.join sep ts)) else none) = _
  rw [if_pos, TL.join_eq]
  omega
def rows (js : List (List (Fin 8))) : List D := js.map fun j => D.str (rowT j)
def AnsOk (js : List (List (Fin 8))) : Prop := js.length ≤ 4 ∧ ∀ j ∈ js, j ≠ [] ∧ j.length ≤ 6
theorem rows_len (js : List (List (Fin 8))) : (rows js).length = js.length := List.length_map ..
def bookN : List Str := ["first_row", "answer_rows", "first_box", "deeds"]
def bookV (is : List (Fin 8)) (b : Box) (js : List (List (Fin 8))) : List D := [.str (rowT is), .tup (rows js), .tup (bx b), .lst (js.map fun j => .lst (j.map ddT))]
def bookD (is : List (Fin 8)) (b : Box) (js : List (List (Fin 8))) : D := .ins "Book" bookN (bookV is b js)
theorem fl1 {a b c d : D} : fldOf "first_row" bookN [a, b, c, d] = some a := by kernel_rfl
theorem fl2 {a b c d : D} : fldOf "answer_rows" bookN [a, b, c, d] = some b := by kernel_rfl
theorem fl3 {a b c d : D} : fldOf "first_box" bookN [a, b, c, d] = some c := by kernel_rfl
theorem fl4 {a b c d : D} : fldOf "deeds" bookN [a, b, c, d] = some d := by kernel_rfl
theorem row_len6 {j : List (Fin 8)} (h : j.length ≤ 6) : (rowT j).length ≤ 66 := by have := row_len j; omega
theorem box_begun_ev {is : List (Fin 8)} (h : is ≠ []) (h6 : is.length ≤ 6) : box_begun_F [.str (rowT is)] = .ok (rs (runD is "ann" "bob" [])) none := by
  have e1 := is_row_ev h (by omega : is.length ≤ 1000)
  have e2 := deeds_of_ev h (by omega : is.length ≤ 1000)
  have e3 : done_F [.lst (is.map ddT), .str "ann", .str "bob", .tup []] = _ := done_ev "ann" "bob" (by decide +kernel) (by decide +kernel) is [] (by simp; omega) (fun _ h => by cases h)
  rw [decide_eq_true h6] at e1
  unfold box_begun_F box_begun_b
  simp -implicitDefEqProofs only [Ev.all, Ev.all2, Ev.all3, EB, Nat.reduceAdd, Nat.reduceSub, reduceIte, Nat.reduceLeDiff, Nat.reduceEqDiff, Int.reduceLT, Int.reduceLE, reduceCtorEq, e1, e2, e3, c_WRITER, c_READER, c_LETTER]
theorem cmp_gen {α : Type} {vs : List Nat} {b : BF} {tt : TF} {elt : EF} {a c : α → D} {P : α → Bool} {Γ : En} (hw : wipeΓ Γ vs = Γ) : ∀ (xs : List α) (acc : List D), acc.length + xs.length ≤ 16777216 →
    (∀ x ∈ xs, ∃ Γ1, b (a x) Γ = some Γ1 ∧ tt Γ1 = .ok (P x) Γ1 ∧ elt Γ1 = .ok (.d (c x)) Γ1 ∧ wipeΓ Γ1 vs = Γ) → cmpL vs b tt elt (xs.map a) acc Γ = .ok (.n (.l (acc ++ (xs.filter P).map c))) Γ
  | [], acc, _, _ => by simp [cmpL]
  | d :: ds, acc, hl, hs => by
    obtain ⟨Γ1, e1, e2, e3, e4⟩ := hs d List.mem_cons_self
    rw [List.length_cons] at hl
    rw [List.map_cons]
    have hz : acc.length < sizeLine := by show _ < 2 ^ 24; omega
    cases hp : P d with
    | false =>
      rw [hp] at e2
      have ih := cmp_gen (a := a) (c := c) (P := P) (elt := elt) (tt := tt) (b := b) hw ds acc (by omega) fun d hd => hs d (List.mem_cons_of_mem _ hd)
      rw [List.filter_cons_of_neg (by rw [hp]; decide), ← ih]
      simp only [cmpL, hw, e1, e2, e4]
    | true =>
      rw [hp] at e2
      have ih := cmp_gen (a := a) (c := c) (P := P) (elt := elt) (tt := tt) (b := b) hw ds (acc ++ [c d]) (by rw [List.length_append, List.length_singleton]; omega) fun d hd => hs d (List.mem_cons_of_mem _ hd)
      rw [List.filter_cons_of_pos hp, List.map_cons, List.append_cons, ← ih]
      simp only [cmpL, hw, e1, e2, e3, e4, Ev.frzd, if_pos hz]
theorem cmp_maps {α : Type} {vs : List Nat} {b : BF} {elt : EF} {a c : α → D} {Γ : En} (hw : wipeΓ Γ vs = Γ) {xs : List α} (hl : xs.length ≤ 16777216)
    (hs : ∀ x ∈ xs, ∃ Γ1, b (a x) Γ = some Γ1 ∧ elt Γ1 = .ok (.d (c x)) Γ1 ∧ wipeΓ Γ1 vs = Γ) : cmpL vs b trueT elt (xs.map a) [] Γ = .ok (.n (.l (xs.map c))) Γ := by
  have := cmp_gen (tt := trueT) (P := fun _ : α => true) (a := a) (c := c) (elt := elt) (b := b) hw xs [] (by simpa using hl) fun x hx => by
    obtain ⟨Γ1, e1, e2, e3⟩ := hs x hx
    exact ⟨Γ1, e1, rfl, e2, e3⟩
  rw [this, List.nil_append, List.filter_eq_self.mpr (fun _ _ => rfl)]
theorem pf1 {a : D} : putFD "first_row" a [] [] = ((["first_row"], [a]) : List Str × List D) := rfl
theorem pf2 {a b : D} : putFD "answer_rows" b ["first_row"] [a] = ((["first_row", "answer_rows"], [a, b]) : List Str × List D) := by kernel_rfl
theorem pf3 {a b c : D} : putFD "first_box" c ["first_row", "answer_rows"] [a, b] = ((["first_row", "answer_rows", "first_box"], [a, b, c]) : List Str × List D) := by kernel_rfl
theorem pf4 {a b c d : D} : putFD "deeds" d ["first_row", "answer_rows", "first_box"] [a, b, c] = (bookN, [a, b, c, d]) := by kernel_rfl
theorem nsl : ∀ k : Nat, k ≤ 999 → (k < 1000) = True := fun k h => eq_true (by omega)
structure BookOk (is : List (Fin 8)) (b : Box) (js : List (List (Fin 8))) : Prop where
  n0 : is ≠ []
  n6 : is.length ≤ 6
  run : runD is "ann" "bob" [] = some b
  ans : AnsOk js
theorem BookOk.names {is : List (Fin 8)} {b : Box} {js : List (List (Fin 8))} (B : BookOk is b js) : (∀ p ∈ b, IsName p.2) ∧ b.length ≤ 6 := by
  obtain ⟨h1, h2⟩ := runD_all (P := IsName) (by decide +kernel) (by decide +kernel) B.run (fun _ h => by cases h)
  have := B.n6
  rw [List.length_nil] at h2
  exact ⟨h1, by omega⟩
def bookT (is : List (Fin 8)) (js : List (List (Fin 8))) : Str := Str.join "\n" (("first " ++ rowT is) :: js.map fun j => "answer " ++ rowT j)
variable {is : List (Fin 8)} {b : Box} {js : List (List (Fin 8))}
theorem begun_ev : Book_begun_F [bookD is b js] = .ok (.tup (bx b)) none := by
  unfold Book_begun_F Book_begun_b
  simp -implicitDefEqProofs only [Ev.all, Ev.all2, Ev.all3, EB, Nat.reduceAdd, Nat.reduceSub, reduceIte, Nat.reduceLeDiff, Nat.reduceEqDiff, Int.reduceLT, Int.reduceLE, reduceCtorEq, bookD, bookV, eq_self, fl3]
def ans_ (j : List (Fin 8)) : Str := "answer " ++ rowT j
theorem ans_len {j : List (Fin 8)} (h : j.length ≤ 6) : (ans_ j).length ≤ 73 := by
  unfold ans_
  rw [str_len_app]
  have := row_len6 h
  have : (Str.ofString "answer ").length = 7 := by decide +kernel
  omega
theorem fst_len (h : is.length ≤ 6) : ((Str.ofString "first ") ++ rowT is).length ≤ 73 := by
  rw [str_len_app]
  have := row_len6 h
  have : (Str.ofString "first ").length = 6 := by decide +kernel
  omega
theorem add_ans {j : List (Fin 8)} (h : j.length ≤ 6) : addD (.str "answer ") (.str (rowT j)) = some (.str (ans_ j)) := by
  have h1 := ans_len h
  unfold ans_ at h1
  rw [str_len_app] at h1
  rw [Ev.addS, if_pos]; rfl
  show _ ≤ 2 ^ 24; omega
theorem add_fst (h : is.length ≤ 6) : addD (.str "first ") (.str (rowT is)) = some (.str ("first " ++ rowT is)) := by
  have h1 := fst_len h
  rw [str_len_app] at h1
  rw [Ev.addS, if_pos]
  show _ ≤ 2 ^ 24; omega
theorem book_texts (B : BookOk is b js) : addD (.lst [.str ("first " ++ rowT is)]) (.lst (js.map fun j => D.str (ans_ j))) = some (.lst (sm (("first " ++ rowT is) :: js.map ans_))) := by
  have := B.ans.1
  rw [Ev.addL, if_pos]
  · unfold sm; rw [List.map_cons, List.map_map]; rfl
  · rw [List.length_map]; show _ ≤ 2 ^ 24; simp; omega
theorem book_join (B : BookOk is b js) : joinD (.str "\n") (.lst (sm (("first " ++ rowT is) :: js.map ans_))) = some (.str (bookT is js)) := by
  have := B.ans.1
  refine join_ev (n := 73) (fun t ht => ?_) ?_
  · rcases List.mem_cons.mp ht with rfl | ht
    · exact fst_len B.n6
    · obtain ⟨j, hj, rfl⟩ := List.mem_map.mp ht
      exact ans_len (B.ans.2 j hj).2
  · rw [List.length_cons, List.length_map, show (Str.ofString "\n").length = 1 by decide +kernel]; omega
theorem book_str_ev (B : BookOk is b js) : Book___str___F [bookD is b js] = .ok (.str (bookT is js)) none := by
  have hl := B.ans.1
  have e1 := add_fst B.n6
  have e2 := book_texts B
  have e3 := book_join B
  have hcp := cmp_maps (vs := [1]) (b := bName 1) (elt := Book___str___x1) (a := fun j => D.str (rowT j)) (c := fun j => D.str (ans_ j)) (xs := js)
    (Γ := [.im (.ins "Book" bookN [.str (rowT is), .tup (rows js), .tup (bx b), .lst (js.map fun j => .lst (j.map ddT))]), .no]) rfl (by omega) fun j m => by
      have e := add_ans (B.ans.2 j m).2
      refine ⟨[.im (.ins "Book" bookN [.str (rowT is), .tup (rows js), .tup (bx b), .lst (js.map fun j => .lst (j.map ddT))]), .im (.str (rowT j))], by simp -implicitDefEqProofs only [Ev.all, Ev.all2, Ev.all3, EB, Nat.reduceAdd, Nat.reduceSub, reduceIte, Nat.reduceLeDiff, Nat.reduceEqDiff, Int.reduceLT, Int.reduceLE, reduceCtorEq], ?_, rfl⟩
      simp -implicitDefEqProofs only [Book___str___x1, Ev.all, Ev.all2, Ev.all3, EB, Nat.reduceAdd, Nat.reduceSub, reduceIte, Nat.reduceLeDiff, Nat.reduceEqDiff, Int.reduceLT, Int.reduceLE, reduceCtorEq, c_ANSWER, e]
  have hv := comp_at (it := anyI (fldE "Book" "answer_rows" (vE 0))) (Γ := [.im (.ins "Book" bookN [.str (rowT is), .tup (rows js), .tup (bx b), .lst (js.map fun j => .lst (j.map ddT))]), .no]) (by simp -implicitDefEqProofs only [Ev.all, Ev.all2, Ev.all3, EB, Nat.reduceAdd, Nat.reduceSub, reduceIte, Nat.reduceLeDiff, Nat.reduceEqDiff, Int.reduceLT, Int.reduceLE, reduceCtorEq, eq_self, fl2]; rfl) rfl hcp
  unfold Book___str___F Book___str___b
  simp -implicitDefEqProofs only [Ev.all, Ev.all2, Ev.all3, EB, Nat.reduceAdd, Nat.reduceSub, reduceIte, Nat.reduceLeDiff, Nat.reduceEqDiff, Int.reduceLT, Int.reduceLE, reduceCtorEq, bookD, bookV, eq_self, fl1, c_FIRST, e1, hv, e2, e3]
theorem text_ok (B : BookOk is b js) : PyData.strOk (bookT is js) = true ∧ (bookT is js).length ≤ 370 := by
  have hl := B.ans.1
  unfold bookT
  constructor
  · refine strOk_join (by decide +kernel) fun t ht => ?_
    rcases List.mem_cons.mp ht with rfl | ht
    · exact strOk_app (by decide +kernel) (row_strOk _)
    · obtain ⟨j, hj, rfl⟩ := List.mem_map.mp ht
      exact strOk_app (by decide +kernel) (row_strOk _)
  · have := join_le (Str.ofString "\n") (ts := ("first " ++ rowT is) :: js.map fun j => "answer " ++ rowT j) (n := 73) fun t ht => by
      rcases List.mem_cons.mp ht with rfl | ht
      · exact fst_len B.n6
      · obtain ⟨j, hj, rfl⟩ := List.mem_map.mp ht
        exact ans_len (B.ans.2 j hj).2
    rw [List.length_cons, List.length_map, show (Str.ofString "\n").length = 1 by decide +kernel] at this
    omega
end
section
theorem sm_length (ns : List Str) : (sm ns).length = ns.length := List.length_map ..
variable {is : List (Fin 8)} {b : Box} {js : List (List (Fin 8))}
end
section
variable {is : List (Fin 8)} {b : Box} {js : List (List (Fin 8))}
theorem frzs_map {Γ : En} : ∀ (ds : List D) (es : List EV), frzs (ds.map EV.d ++ es) Γ = (frzs es Γ).map fun p => (ds ++ p.1, p.2)
  | [], es => by
    show frzs es Γ = _
    cases frzs es Γ <;> rfl
  | d :: ds, es => by
    show (frzs (ds.map EV.d ++ es) Γ).bind _ = _
    rw [frzs_map ds es]
    cases frzs es Γ <;> rfl
theorem getD_mem {k : Nat} (hk : k < js.length) : js.getD k [] ∈ js := by
  rw [List.getD_eq_getElem?_getD, List.getElem?_eq_getElem hk]
  exact List.getElem_mem hk
end
section
variable {is : List (Fin 8)} {b : Box} {js : List (List (Fin 8))}
end
section
variable {is : List (Fin 8)} {b : Box} {js : List (List (Fin 8))}
end
section
def bxs (bs : List Box) : List D := bs.map fun b => D.tup (bx b)
theorem bxs_len (bs : List Box) : (bxs bs).length = bs.length := List.length_map ..
theorem bxs_app (a c : List Box) : bxs (a ++ c) = bxs a ++ bxs c := List.map_append ..
def mailN : List Str := ["rules", "all_boxes"]
theorem fm1 {a b : D} : fldOf "rules" mailN [a, b] = some a := by kernel_rfl
theorem fm2 {a b : D} : fldOf "all_boxes" mailN [a, b] = some b := by kernel_rfl
theorem pm1 {a : D} : putFD "rules" a [] [] = ((["rules"], [a]) : List Str × List D) := rfl
theorem pm2 {a b : D} : putFD "all_boxes" b ["rules"] [a] = (mailN, [a, b]) := by kernel_rfl
theorem pm3 {a b c : D} : putFD "all_boxes" c mailN [a, b] = (mailN, [a, c]) := by kernel_rfl
variable {is : List (Fin 8)} {b : Box} {js : List (List (Fin 8))} {bs : List Box}
theorem mail_book_ev : Mail_book_F [.ins "Mail" mailN [.ins "Book" bookN (bookV is b js), .tup (bxs bs)]] = .ok (.ins "Book" bookN (bookV is b js)) none := by
  unfold Mail_book_F Mail_book_b
  simp! only [fm1]
theorem mail_boxes_ev : Mail_boxes_F [.ins "Mail" mailN [.ins "Book" bookN (bookV is b js), .tup (bxs bs)]] = .ok (.tup (bxs bs)) none := by
  unfold Mail_boxes_F Mail_boxes_b
  simp! only [fm2]
theorem starT (xs : List D) (Γ : En) : starI (.d (.tup xs)) Γ = .ok (xs.map EV.d) Γ := rfl
inductive Mv where
  | put (k : Bool) (a : Nat) (n : Str) | tak (k : Bool) (a : Nat) | ans (a i : Nat) (me you : Str)
def unT (k : Bool) : Str := if k then "unlock" else "untag"
theorem unT1 : unT true = Str.ofString "unlock" := rfl
theorem unT0 : unT false = Str.ofString "untag" := rfl
def mvD : Mv → D
  | .put k a n => .tup [.str (kd k), .int (a : Nat), .str n]
  | .tak k a => .tup [.str (unT k), .int (a : Nat)]
  | .ans a i me you => .tup [.str "answer", .int (a : Nat), .int (i : Nat), .str me, .str you]
def tk (k : Bool) : Box → Option Box
  | (k', o) :: r => if k' = k ∧ (k = false ∨ o = "zed") then some r else none
  | [] => none
def mvB (js : List (List (Fin 8))) (bs : List Box) : Mv → Option Box
  | .put k a n => some ((k, n) :: bs.getD a [])
  | .tak k a => tk k (bs.getD a [])
  | .ans a i me you => runD (js.getD i []) me you (bs.getD a [])
def MvOk (n m : Nat) : Mv → Prop
  | .put _ a x => a < m ∧ IsName x
  | .tak _ a => a < m
  | .ans a i me you => a < m ∧ i < n ∧ IsName me ∧ IsName you
def BxOk (bs : List Box) : Prop := ∀ c ∈ bs, (∀ p ∈ c, IsName p.2) ∧ c.length ≤ 900
theorem BxOk.at (h : BxOk bs) {a : Nat} (ha : a < bs.length) : (∀ p ∈ bs.getD a [], IsName p.2) ∧ (bs.getD a []).length ≤ 900 := by
  rw [List.getD_eq_getElem?_getD, List.getElem?_eq_getElem ha]
  exact h _ (List.getElem_mem ha)
theorem at_bxs {a : Nat} (h : a < bs.length) : L2.atI (bxs bs) (a : Nat) = some (.tup (bx (bs.getD a []))) := by
  rw [Ev.atI]
  unfold bxs
  rw [List.getElem?_map, List.getElem?_eq_getElem h, List.getD_eq_getElem?_getD, List.getElem?_eq_getElem h]; rfl
theorem at_deeds {i : Nat} (h : i < js.length) : L2.atI (js.map fun j => D.lst (j.map ddT)) (i : Nat) = some (.lst ((js.getD i []).map ddT)) := by
  rw [Ev.atI, List.getElem?_map, List.getElem?_eq_getElem h, List.getD_eq_getElem?_getD, List.getElem?_eq_getElem h]; rfl
theorem box_opened_ev (k : Bool) (c : Box) (hn : ∀ p ∈ c, PyData.strOk p.2 = true) : box_opened_F [.str (unT k), .tup (bx c)] = .ok (rs (tk k c)) none := by
  have he := eq_empty c hn
  unfold box_opened_F box_opened_b
  match k, c, he with
  | true, [], he => simp! only [eq_self, EFN, he, List.isEmpty_nil, tk, rs]
  | false, [], he => simp! only [eq_self, EFN, he, List.isEmpty_nil, tk, rs]
  | true, (true, o) :: r, he =>
    simp only [bx_cons, kd1, List.isEmpty_cons] at he
    by_cases h : o = Str.ofString "zed"
    · subst h
      simp! only [eq_self, EFN, he, unT1, bx_cons, kd1, un1, lun1, cut1, tk, rs, c_THIEF, or_true]
    · simp! only [eq_self, EFN, he, unT1, bx_cons, kd1, un1, lun1, cut1, tk, rs, c_THIEF, h, or_false, and_false]
  | true, (false, o) :: r, he =>
    simp only [bx_cons, kd0, List.isEmpty_cons] at he
    simp! only [eq_self, EFN, he, unT1, bx_cons, kd0, un2, lun2, cut1, tk, rs, c_THIEF, false_and]
  | false, (true, o) :: r, he =>
    simp only [bx_cons, kd1, List.isEmpty_cons] at he
    simp! only [eq_self, EFN, he, unT0, bx_cons, kd1, un1, lun1, cut1, tk, rs, c_THIEF, false_and]
  | false, (false, o) :: r, he =>
    simp only [bx_cons, kd0, List.isEmpty_cons] at he
    simp! only [eq_self, EFN, he, unT0, bx_cons, kd0, un2, lun2, cut1, tk, rs, c_THIEF, true_or]
end
section
def IsRw (n : Nat) (x : Str) : Prop := ∃ is : List (Fin 8), is ≠ [] ∧ is.length ≤ n ∧ x = rowT is
theorem words_row {x : Str} : (∀ w ∈ Txt.split x "; ", ∃ i : Fin 8, w = dT i) → ∃ is : List (Fin 8), Txt.split x "; " = is.map dT := by
  have all : ∀ l : List Str, (∀ w ∈ l, ∃ i : Fin 8, w = dT i) → ∃ is : List (Fin 8), l = is.map dT := by
    intro l
    induction l with
    | nil => intro _; exact ⟨[], rfl⟩
    | cons w l ih =>
      intro h
      obtain ⟨i, rfl⟩ := h w List.mem_cons_self
      obtain ⟨is, rfl⟩ := ih fun w hw => h w (List.mem_cons_of_mem _ hw)
      exact ⟨i :: is, rfl⟩
  exact all _
theorem rw_iff (x : Str) (n : Nat) : (decide ((Txt.split x "; ").length ≤ n) && decide (∀ w ∈ Txt.split x "; ", ∃ i : Fin 8, w = dT i)) = true ↔ IsRw n x := by
  rw [Bool.and_eq_true, decide_eq_true_eq, decide_eq_true_eq]
  constructor
  · rintro ⟨h1, h2⟩
    obtain ⟨is, e⟩ := words_row h2
    have j := StrLaws.join_split x "; "
    rw [e] at j h1
    rw [List.length_map] at h1
    refine ⟨is, fun z => ?_, h1, by unfold rowT; rw [TL.join_eq]; exact j.symm⟩
    subst z
    have : x = Str.empty := j.symm
    subst this
    have e2 : Txt.split Str.empty "; " = [Str.empty] := by kernel_rfl
    rw [e2] at e
    cases e
  · rintro ⟨is, h0, h1, rfl⟩
    rw [split_row h0, List.length_map]
    exact ⟨h1, fun w hw => by obtain ⟨i, _, rfl⟩ := List.mem_map.mp hw; exact ⟨i, rfl⟩⟩
instance (x : Str) (n : Nat) : Decidable (IsRw n x) := decidable_of_iff _ (rw_iff x n)
theorem tl_cut1 (x : Str) (n : Nat) : TL.tl (cutS x none (some (n : Nat))) = (TL.tl x).take n := by
  show ((x.cps.toList.drop (HT.sIx x.length 0 none)).take (HT.sIx x.length x.length (some (n : Int)) - HT.sIx x.length 0 none)) = _
  rw [HT.sIx_nat, HT.sIx_none, Nat.sub_zero, List.drop_zero]
  have hx : x.cps.toList.length = x.length := (TL.len_tl x).symm
  have hx2 : (TL.tl x).length = x.length := hx
  by_cases h : n ≤ x.length
  · rw [Nat.min_eq_left h]
  · rw [Nat.min_eq_right (by omega), List.take_of_length_le (by omega), List.take_of_length_le (by omega)]
theorem tl_cut2 (x : Str) (n : Nat) : TL.tl (cutS x (some (n : Nat)) none) = (TL.tl x).drop n := by
  show ((x.cps.toList.drop (HT.sIx x.length 0 (some (n : Int)))).take (HT.sIx x.length x.length none - HT.sIx x.length 0 (some (n : Int)))) = _
  rw [HT.sIx_nat, HT.sIx_none]
  have hx : x.cps.toList.length = x.length := (TL.len_tl x).symm
  have hx2 : (TL.tl x).length = x.length := hx
  by_cases h : n ≤ x.length
  · rw [Nat.min_eq_left h, List.take_of_length_le (by rw [List.length_drop]; omega)]
  · rw [Nat.min_eq_right (by omega), List.drop_of_length_le (by omega), List.drop_of_length_le (by omega), List.take_nil]
theorem app_can {x y z : Str} (h : x ++ y = x ++ z) : y = z := TL.ext_tl (by
  have := congrArg TL.tl h
  rw [TL.tl_append, TL.tl_append] at this
  exact List.append_cancel_left this)
theorem app_asc (x y z : Str) : x ++ y ++ z = x ++ (y ++ z) := TL.ext_tl (by rw [TL.tl_append, TL.tl_append, TL.tl_append, TL.tl_append, List.append_assoc])
theorem app_nil (x : Str) : x ++ Str.empty = x := TL.ext_tl (by rw [TL.tl_append]; simp [TL.tl, Str.empty])
variable {s0 s3 s4 : Sl}
end
section
theorem len_app (x y : Str) : (x ++ y).length = x.length + y.length := by
  rw [TL.len_tl, TL.tl_append, List.length_append, ← TL.len_tl, ← TL.len_tl]
variable {is : List (Fin 8)} {b : Box} {js : List (List (Fin 8))} {bs : List Box}
end
section
variable {is : List (Fin 8)} {b : Box} {js : List (List (Fin 8))} {bs : List Box}
theorem mvB_all {P : Str → Prop} {m : Mv} {c : Box} (h : mvB js bs m = some c) (hx : match m with | .put _ _ x => P x | .tak _ _ => True | .ans _ _ me you => P me ∧ P you) (ha : match m with | .put _ a _ => ∀ p ∈ bs.getD a [], P p.2 | .tak _ a => ∀ p ∈ bs.getD a [], P p.2 | .ans a _ _ _ => ∀ p ∈ bs.getD a [], P p.2) : ∀ p ∈ c, P p.2 := by
  cases m with
  | put k a x =>
    cases h
    intro p hp
    rcases List.mem_cons.mp hp with rfl | hp
    · exact hx
    · exact ha p hp
  | tak k a =>
    simp only [mvB] at h
    simp only at ha
    clear hx
    generalize bs.getD a [] = d at h ha
    unfold tk at h
    split at h
    · split at h
      · cases h; exact fun p hp => ha p (List.mem_cons_of_mem _ hp)
      · cases h
    · cases h
  | ans a i me you => exact (runD_all (P := P) hx.1 hx.2 h ha).1
theorem mvB_len {m : Mv} {c : Box} (h : mvB js bs m = some c) (hj : ∀ j ∈ js, j.length ≤ 6) {n : Nat} (ha : ∀ c ∈ bs, c.length ≤ n) : c.length ≤ n + 6 := by
  have hg : ∀ a, (bs.getD a []).length ≤ n := fun a => by
    by_cases h : a < bs.length
    · rw [List.getD_eq_getElem?_getD, List.getElem?_eq_getElem h]; exact ha _ (List.getElem_mem h)
    · rw [List.getD_eq_getElem?_getD, List.getElem?_eq_none (by omega)]; exact Nat.zero_le _
  cases m with
  | put k a x => cases h; have := hg a; rw [List.length_cons]; omega
  | tak k a =>
    have := hg a
    simp only [mvB] at h
    generalize bs.getD a [] = d at h this
    unfold tk at h
    split at h
    · split at h
      · cases h; rw [List.length_cons] at this; omega
      · cases h
    · cases h
  | ans a i me you =>
    have h2 := (runD_all (P := fun _ => True) trivial trivial h (fun _ _ => trivial)).2
    have := hg a
    have h6 : (js.getD i []).length ≤ 6 := by
      by_cases h : i < js.length
      · exact hj _ (getD_mem h)
      · rw [List.getD_eq_getElem?_getD, List.getElem?_eq_none (by omega)]; exact Nat.zero_le _
    omega
def BxI (bs : List Box) : Prop := bs.length ≤ 30 ∧ ∀ c ∈ bs, (∀ p ∈ c, IsName p.2) ∧ c.length ≤ 6 * bs.length
theorem BxI.ok (h : BxI bs) : BxOk bs := fun c hc => ⟨(h.2 c hc).1, by have := (h.2 c hc).2; have := h.1; omega⟩
theorem BxI.next (h : BxI bs) (hj : AnsOk js) {m : Mv} (hm : MvOk js.length bs.length m) {c : Box} (hc : mvB js bs m = some c) (hl : bs.length + 1 ≤ 30) : BxI (bs ++ [c]) := by
  refine ⟨by rw [List.length_append]; simpa using hl, fun d hd => ?_⟩
  rw [List.length_append, List.length_singleton]
  rcases List.mem_append.mp hd with hd | hd
  · have := h.2 d hd; exact ⟨this.1, by omega⟩
  · rw [List.mem_singleton.mp hd]
    refine ⟨mvB_all (P := IsName) hc ?_ ?_, ?_⟩
    · cases m with
      | put k a x => exact hm.2
      | tak k a => trivial
      | ans a i me you => exact ⟨hm.2.2.1, hm.2.2.2⟩
    · cases m with
      | put k a x => exact (h.ok.at hm.1).1
      | tak k a => exact (h.ok.at hm).1
      | ans a i me you => exact (h.ok.at hm.1).1
    · have := mvB_len hc (fun j hj' => (hj.2 j hj').2) (n := 6 * bs.length) (fun c hc => (h.2 c hc).2)
      omega
theorem BxI.one {c : Box} (h : ∀ p ∈ c, IsName p.2) (hl : c.length ≤ 6) : BxI [c] := ⟨by simp, fun d hd => by rw [List.mem_singleton.mp hd]; exact ⟨h, by simpa using hl⟩⟩
end
section
variable {is : List (Fin 8)} {b : Box} {js : List (List (Fin 8))} {bs : List Box}
end
section
variable {is : List (Fin 8)} {b : Box} {js : List (List (Fin 8))} {bs : List Box} {S : Str → Prop}
end
section
variable {is : List (Fin 8)} {b : Box} {js : List (List (Fin 8))} {bs : List Box} {S : Str → Prop}
def St (s : Sl) : Prop := s = .no ∨ ∃ d, s = .im d
theorem St.no : St .no := .inl rfl
theorem St.im (d : D) : St (.im d) := .inr ⟨d, rfl⟩
theorem bxs_snoc (bs : List Box) (c : Box) : bxs (bs ++ [c]) = bxs bs ++ [.tup (bx c)] := by rw [bxs_app]; rfl
end
section
variable {is : List (Fin 8)} {b : Box} {js : List (List (Fin 8))} {bs : List Box} {S : Str → Prop}
theorem atI_last {α : Type} (xs : List α) (x : α) : L2.atI (xs ++ [x]) (-1) = some x := by
  unfold L2.atI L2.ixN
  rw [if_neg (by decide), List.length_append, List.length_singleton, if_pos (by omega), show ((-1 : Int) + ((xs.length + 1 : Nat) : Int)).toNat = xs.length by omega]
  show (xs ++ [x])[xs.length]? = _
  simp
end
section
variable {is : List (Fin 8)} {b : Box} {js : List (List (Fin 8))} {bs : List Box}
theorem ca_loopX {t : D} : ∀ (js : List (List (Fin 8))) (k : Nat) (s1 s2 : Sl), k + js.length ≤ 4 → (∀ j ∈ js, j ≠ [] ∧ j.length ≤ 6) → s1.isB = false → s2.isB = false →
    ∃ s1' s2', loopS (bSeq 2 (bCons (bName 1) (bCons (bName 2) bNil))) check_answers_2_x1 (enumD k (rows js)) [.im t, s1, s2] = .ok .nx [.im t, s1', s2']
  | [], k, s1, s2, _, _, _, _ => ⟨s1, s2, rfl⟩
  | j :: js, k, s1, s2, hk, hj, h1, h2 => by
    rw [List.length_cons] at hk
    obtain ⟨j0, j6⟩ := hj j List.mem_cons_self
    have e1 := is_row_ev j0 (by omega : j.length ≤ 1000)
    rw [decide_eq_true j6] at e1
    have e2 : eqD (.int (k : Int)) (.int 4) = some (.bl false) := by rw [Ev.eqI, decide_eq_false (by omega)]
    obtain ⟨s1', s2', ih⟩ := ca_loopX (t := t) js (k + 1) (.im (.int (k : Nat))) (.im (.str (rowT j))) (by omega) (fun x hx => hj x (List.mem_cons_of_mem _ hx)) rfl rfl
    refine ⟨s1', s2', Eq.trans (loop_cons (Γ1 := [.im t, .im (.int (k : Nat)), .im (.str (rowT j))]) (Γ2 := [.im t, .im (.int (k : Nat)), .im (.str (rowT j))]) ?_ ?_) ih⟩
    · simp -implicitDefEqProofs only [Ev.all, Ev.all2, Ev.all3, EB, Nat.reduceAdd, Nat.reduceSub, reduceIte, Nat.reduceLeDiff, Nat.reduceEqDiff, Int.reduceLT, Int.reduceLE, reduceCtorEq, h1, h2]
    · simp -implicitDefEqProofs only [check_answers_2_x1, Ev.all, Ev.all2, Ev.all3, EB, Nat.reduceAdd, Nat.reduceSub, reduceIte, Nat.reduceLeDiff, Nat.reduceEqDiff, Int.reduceLT, Int.reduceLE, reduceCtorEq, e1, e2, c_MOST_ANSWERS]
theorem check_answers_evX {js : List (List (Fin 8))} (h : AnsOk js) : check_answers_2_F [.tup (rows js)] = .ok .non none := by
  obtain ⟨s1, s2, l⟩ := ca_loopX (t := .tup (rows js)) js 0 .no .no (by have := h.1; omega) h.2 rfl rfl
  have hf := for_at (it := enumI (vE 0)) (Γ := [.im (.tup (rows js)), .no, .no]) (by simp -implicitDefEqProofs only [Ev.all, Ev.all2, Ev.all3, EB, Nat.reduceAdd, Nat.reduceSub, reduceIte, Nat.reduceLeDiff, Nat.reduceEqDiff, Int.reduceLT, Int.reduceLE, reduceCtorEq]) l
  have hi : isB "tuple" (.tup (rows js)) = some true := rfl
  unfold check_answers_2_F check_answers_2_b
  simp -implicitDefEqProofs only [Ev.all, Ev.all2, Ev.all3, EB, Nat.reduceAdd, Nat.reduceSub, reduceIte, Nat.reduceLeDiff, Nat.reduceEqDiff, Int.reduceLT, Int.reduceLE, reduceCtorEq, hf, hi]
theorem init_evX {is : List (Fin 8)} (h : is ≠ []) (h6 : is.length ≤ 6) {b : Box} (hb : runD is "ann" "bob" [] = some b) {js : List (List (Fin 8))} (hj : AnsOk js) :
    Book___init___2_F [.ins "Book" [] [], .str (rowT is), .tup (rows js)] = .ok .non (some (.i "Book" bookN (bookV is b js))) := by
  have e1 := box_begun_ev h h6
  rw [hb, rs_some] at e1
  have e2 := check_answers_evX hj
  have e3 : isND (.tup (bx b)) .non = some (.bl false) := rfl
  have hc := cmp_maps (vs := [4]) (b := bName 4) (elt := Book___init___2_x1) (a := fun j => D.str (rowT j)) (c := fun j => D.lst (j.map ddT)) (xs := js)
    (Γ := [.bor (.i "Book" ["first_row", "answer_rows", "first_box"] [.str (rowT is), .tup (rows js), .tup (bx b)]), .im (.str (rowT is)), .im (.tup (rows js)), .im (.tup (bx b)), .no]) rfl (by have := hj.1; omega) fun j m => by
      obtain ⟨j0, j6⟩ := hj.2 j m
      have e := deeds_of_ev j0 (by omega : j.length ≤ 1000)
      refine ⟨[.bor (.i "Book" ["first_row", "answer_rows", "first_box"] [.str (rowT is), .tup (rows js), .tup (bx b)]), .im (.str (rowT is)), .im (.tup (rows js)), .im (.tup (bx b)), .im (.str (rowT j))], by simp -implicitDefEqProofs only [Ev.all, Ev.all2, Ev.all3, EB, Nat.reduceAdd, Nat.reduceSub, reduceIte, Nat.reduceLeDiff, Nat.reduceEqDiff, Int.reduceLT, Int.reduceLE, reduceCtorEq], ?_, rfl⟩
      simp -implicitDefEqProofs only [Book___init___2_x1, Ev.all, Ev.all2, Ev.all3, EB, Nat.reduceAdd, Nat.reduceSub, reduceIte, Nat.reduceLeDiff, Nat.reduceEqDiff, Int.reduceLT, Int.reduceLE, reduceCtorEq, e]
  have hd : compV [4] (anyI (vE 2)) (bName 4) trueT Book___init___2_x1 [.bor (.i "Book" ["first_row", "answer_rows", "first_box"] [.str (rowT is), .tup (rows js), .tup (bx b)]), .im (.str (rowT is)), .im (.tup (rows js)), .im (.tup (bx b)), .no] = _ := comp_at (by simp -implicitDefEqProofs only [Ev.all, Ev.all2, Ev.all3, EB, Nat.reduceAdd, Nat.reduceSub, reduceIte, Nat.reduceLeDiff, Nat.reduceEqDiff, Int.reduceLT, Int.reduceLE, reduceCtorEq]; rfl) rfl hc
  have n0 := nsl 0 (by decide)
  have n1 := nsl 1 (by decide)
  have n2 := nsl 2 (by decide)
  have n3 := nsl 3 (by decide)
  unfold Book___init___2_F Book___init___2_b
  simp -implicitDefEqProofs only [Ev.all, Ev.all2, Ev.all3, EB, Nat.reduceAdd, Nat.reduceSub, reduceIte, Nat.reduceLeDiff, Nat.reduceEqDiff, Int.reduceLT, Int.reduceLE, reduceCtorEq, e1, e2, e3, pf1, pf2, pf3, pf4, eq_self, n0, n1, n2, n3, hd, bookV]
theorem BookOk.initX {is : List (Fin 8)} {b : Box} {js : List (List (Fin 8))} (B : BookOk is b js) : Book___init___2_F [.ins "Book" [] [], .str (rowT is), .tup (rows js)] = .ok .non (some (.i "Book" bookN (bookV is b js))) :=
  init_evX B.n0 B.n6 B.run B.ans
end
section
theorem strOk_iff {x : Str} : PyData.strOk x = true ↔ ∀ c ∈ x.cps.toList, c < 0x110000 := by
  show x.cps.all (· < 0x110000) = true ↔ _
  rw [Array.all_eq_true_iff_forall_mem]
  constructor
  · exact fun h c hc => of_decide_eq_true (h c (Array.mem_toList_iff.mp hc))
  · exact fun h c hc => decide_eq_true (h c (Array.mem_toList_iff.mpr hc))
variable {is : List (Fin 8)} {b : Box} {js : List (List (Fin 8))} {bs : List Box}
end
section
variable {is : List (Fin 8)} {b : Box} {js : List (List (Fin 8))}
end
section
variable {is : List (Fin 8)} {b : Box} {js : List (List (Fin 8))}
end
section
variable {is : List (Fin 8)} {b : Box} {js : List (List (Fin 8))}
end
section
variable {is : List (Fin 8)} {b : Box} {js : List (List (Fin 8))}
end
section
variable {is : List (Fin 8)} {b : Box} {js : List (List (Fin 8))}
end
section
theorem loop_exc {b : BF} {body : SF} {d : D} {ds : List D} {Γ Γ1 Γ2 : En} {c : Str} {ns : List Str} {fs : List D} (h1 : b d Γ = some Γ1) (h2 : body Γ1 = .exc c ns fs Γ2) : loopS b body (d :: ds) Γ = .exc c ns fs Γ2 := by
  rw [loopS, h1]
  simp only [h2]
variable {is : List (Fin 8)} {b : Box} {js : List (List (Fin 8))}
end
section
variable {is : List (Fin 8)} {b : Box} {js : List (List (Fin 8))}
end
section
variable {is : List (Fin 8)} {b : Box} {js : List (List (Fin 8))} {bs : List Box}
end
section
variable {is : List (Fin 8)} {b : Box} {js : List (List (Fin 8))} {bs : List Box}
def btB (l m : Int) : D → Bool
  | .int i => decide (l ≤ i) && decide (i ≤ m)
  | _ => false
def nmO : D → Option Str
  | .str y => if nameB y = true then some y else none
  | _ => none
theorem nmO_ok {x : D} {n : Str} (h : nmO x = some n) : x = .str n ∧ IsName n := by
  unfold nmO at h
  split at h
  · split at h
    · rename_i q; cases h; exact ⟨rfl, nameB_iff.mp q⟩
    · cases h
  · cases h
def putC (k : Bool) (c : Box) : List D → Option Box
  | [x] => (nmO x).map fun n => (k, n) :: c
  | _ => none
def ansK (js : List (List (Fin 8))) (c : Box) : D → Option Str → Option Str → Option Box
  | .int k, some m, some y => if 0 ≤ k ∧ k ≤ (js.length : Int) - 1 then runD (js.getD k.toNat []) m y c else none
  | _, _, _ => none
theorem ansK_bt {c : Box} {i : D} {m y : Option Str} (h : btB 0 ((js.length : Nat) - 1) i = false) : ansK js c i m y = none := by
  unfold ansK
  split
  · rw [if_neg]
    intro z
    unfold btB at h
    simp only [decide_eq_true z.1, decide_eq_true z.2] at h
    cases h
  · rfl
theorem ansK_n1 {c : Box} {i : D} {y : Option Str} : ansK js c i none y = none := by cases i <;> cases y <;> rfl
theorem ansK_n2 {c : Box} {i : D} {m : Option Str} : ansK js c i m none = none := by cases i <;> cases m <;> rfl
def ansC (js : List (List (Fin 8))) (c : Box) : List D → Option Box
  | [i, me, you] => ansK js c i (nmO me) (nmO you)
  | _ => none
def stepC (js : List (List (Fin 8))) (c : Box) (v : Str) (told : List D) : Option Box :=
  if v = "lock" then putC true c told else if v = "tag" then putC false c told
  else if v = "unlock" then (if told.length = 0 then tk true c else none) else if v = "untag" then (if told.length = 0 then tk false c else none)
  else if v = "answer" then ansC js c told else none
def stepB (js : List (List (Fin 8))) (bs : List Box) : D → Option Box
  | .tup (.str v :: .int a :: told) => if 0 ≤ a ∧ a ≤ (bs.length : Int) - 1 then stepC js (bs.getD a.toNat []) v told else none
  | _ => none
theorem le1 (n : Int) (l : List D) : neD (.int (l.length : Nat)) (.int n) = some (.bl (!decide ((l.length : Int) = n))) := rfl
theorem leq (n : Int) (l : List D) : eqD (.int (l.length : Nat)) (.int n) = some (.bl (decide ((l.length : Int) = n))) := rfl
theorem stepB_no {v : D} (h : ∀ xs, v ≠ .tup xs) : stepB js bs v = none := by
  cases v with
  | tup xs => exact absurd rfl (h xs)
  | _ => rfl
theorem cut2 {x y : D} {told : List D} : cutL (x :: y :: told) (some 2) none = told := cut_drop (x :: y :: told) 2
theorem lt2n {x y : D} {told : List D} : ltD (.int ((x :: y :: told).length : Nat)) (.int 2) = some (.bl false) := by
  rw [Ev.ltI, decide_eq_false]
  simp only [List.length_cons]; omega
end
section
variable {is : List (Fin 8)} {b : Box} {js : List (List (Fin 8))} {bs : List Box} {S : Str → Prop}
def runS (js : List (List (Fin 8))) : List Box → List D → Nat → Option Nat × List Box
  | bs, [], _ => (none, bs)
  | bs, s :: ss, p => match stepB js bs s with
    | some c => runS js (bs ++ [c]) ss (p + 1)
    | none => (some p, bs)
theorem stepB_mv {d : D} {c : Box} (h : stepB js bs d = some c) : ∃ m, MvOk js.length bs.length m ∧ mvB js bs m = some c := by
  unfold stepB at h
  split at h
  · rename_i v a told
    split at h
    · rename_i ha
      obtain ⟨a, rfl⟩ := Int.eq_ofNat_of_zero_le ha.1
      have hal : a < bs.length := by omega
      rw [Int.toNat_natCast] at h
      have put : ∀ k, putC k (bs.getD a []) told = some c → ∃ m, MvOk js.length bs.length m ∧ mvB js bs m = some c := fun k h => by
        unfold putC at h
        split at h
        · obtain ⟨n, h1, rfl⟩ := Option.map_eq_some_iff.mp h
          exact ⟨.put k a n, ⟨hal, (nmO_ok h1).2⟩, rfl⟩
        · cases h
      have tak : ∀ k, (if told.length = 0 then tk k (bs.getD a []) else none) = some c → ∃ m, MvOk js.length bs.length m ∧ mvB js bs m = some c := fun k h => by
        split at h
        · exact ⟨.tak k a, hal, h⟩
        · cases h
      unfold stepC at h
      split at h
      · exact put _ h
      split at h
      · exact put _ h
      split at h
      · exact tak _ h
      split at h
      · exact tak _ h
      split at h
      · unfold ansC at h
        split at h
        · unfold ansK at h
          split at h
          · rename_i h1 h2
            split at h
            · rename_i hk
              obtain ⟨k, rfl⟩ := Int.eq_ofNat_of_zero_le hk.1
              rw [Int.toNat_natCast] at h
              exact ⟨.ans a k _ _, ⟨hal, by omega, (nmO_ok h1).2, (nmO_ok h2).2⟩, h⟩
            · cases h
          · cases h
        · cases h
      · cases h
    · cases h
  · cases h
theorem ledA_tg {t u s : D} {k : Nat} {S2 s3 s4 s5 : Sl} (h3 : s3.isB = false) (h4 : s4.isB = false) : (bSeq 2 (bCons (bName 3) (bCons (bName 4) bNil))) (.tup [.int (k : Nat), s]) [.im t, .im u, S2, s3, s4, s5] = some [.im t, .im u, S2, .im (.int (k : Nat)), .im s, s5] := by
  simp! only [h3, h4]
end
section
variable {is : List (Fin 8)} {b : Box} {js : List (List (Fin 8))} {bs : List Box}
theorem kd_len (k : Bool) : (kd k).length ≤ 10000 := by cases k <;> decide
theorem unT_len (k : Bool) : (unT k).length ≤ 10000 := by cases k <;> decide
end
section
variable {is : List (Fin 8)} {b : Box} {js : List (List (Fin 8))} {bs : List Box}
end
section
variable {is : List (Fin 8)} {b : Box} {js : List (List (Fin 8))} {bs : List Box}
end
section
variable {is : List (Fin 8)} {b : Box} {js : List (List (Fin 8))} {bs : List Box}
end
section
variable {is : List (Fin 8)} {b : Box} {js : List (List (Fin 8))} {bs : List Box}
end
section
variable {is : List (Fin 8)} {b : Box} {js : List (List (Fin 8))} {bs : List Box}
end
section
variable {is : List (Fin 8)} {b : Box} {js : List (List (Fin 8))} {bs : List Box}
end
section
variable {is : List (Fin 8)} {b : Box} {js : List (List (Fin 8))} {bs : List Box}
end
section
variable {is : List (Fin 8)} {b : Box} {js : List (List (Fin 8))} {bs : List Box}
end
section
variable {is : List (Fin 8)} {b : Box} {js : List (List (Fin 8))} {bs : List Box}
end
section
variable {is : List (Fin 8)} {b : Box} {js : List (List (Fin 8))} {bs : List Box}
end
section
theorem rp_app (a y : Str) : Txt.removeprefix (a ++ y) a = y := by
  have s := PySem.W.KT.starts_app a y
  unfold Txt.startswith at s
  rw [StrLaws.removeprefix_eq, s, if_pos rfl, PySem.W.KT.app_list]
  have la : a.cps.toList.length = a.length := Array.length_toList
  have ly : y.cps.toList.length = y.length := Array.length_toList
  rw [← la, List.drop_left, PySem.Str.length_append, ← la, Nat.add_sub_cancel_left, ← ly, List.take_length]
theorem sw_at (a y : Str) : swD (.str (a ++ y)) (.str a) = some (.bl true) := by
  show some (D.bl _) = _
  rw [PySem.W.KT.starts_app]
theorem rp_at {a y : Str} (h : (a ++ y).length ≤ 16777216) : rpD (.str (a ++ y)) (.str a) = some (.str y) := by
  show (if _ then _ else _) = _
  rw [if_pos (by rw [sizeLine_eq]; omega), rp_app]
theorem row_nl (is : List (Fin 8)) : 10 ∉ TL.tl (rowT is) := by
  unfold rowT
  rw [TL.join_eq, TL.tl_join]
  have all : ∀ l : List (Fin 8), 10 ∉ TL.joinL (TL.tl "; ") ((l.map dT).map TL.tl) := by
    intro l
    have hd : ∀ i : Fin 8, 10 ∉ TL.tl (dT i) := by decide +kernel
    have hs : 10 ∉ TL.tl (Str.ofString "; ") := by decide +kernel
    induction l with
    | nil => simp [TL.joinL]
    | cons i l ih =>
      cases l with
      | nil => simpa [TL.joinL] using hd i
      | cons j l =>
        have e : TL.joinL (TL.tl (Str.ofString "; ")) (((i :: j :: l).map dT).map TL.tl) = TL.tl (dT i) ++ TL.tl (Str.ofString "; ") ++ TL.joinL (TL.tl (Str.ofString "; ")) (((j :: l).map dT).map TL.tl) := by simp [TL.joinL]
        rw [e]
        simp only [List.mem_append, not_or]
        exact ⟨⟨hd i, hs⟩, ih⟩
  exact all is
theorem split_book {is : List (Fin 8)} {js : List (List (Fin 8))} (hl : (bookT is js).length ≤ 370) : splitD (.str (bookT is js)) (.str "\n") = some (.lst (sm (("first " ++ rowT is) :: js.map ans_))) := by
  have h := TL.split_join (y := "\n") (s := 10) (S := []) (by decide +kernel) (by decide +kernel) (parts := ("first " ++ rowT is) :: js.map ans_) (by simp) fun p hp => by
    rcases List.mem_cons.mp hp with rfl | hp
    · rw [TL.tl_append, List.mem_append, not_or]
      exact ⟨by decide +kernel, row_nl is⟩
    · obtain ⟨j, hj, rfl⟩ := List.mem_map.mp hp
      unfold ans_
      rw [TL.tl_append, List.mem_append, not_or]
      exact ⟨by decide +kernel, row_nl j⟩
  rw [TL.join_eq] at h
  show (if _ then _ else _) = _
  rw [if_pos ⟨by decide +kernel, by rw [sizeLine_eq]; omega⟩]
  show some (D.lst ((Txt.split (Str.join "\n" (("first " ++ rowT is) :: js.map ans_)) "\n").map D.str)) = _
  rw [h]; rfl
variable {is : List (Fin 8)} {b : Box} {js : List (List (Fin 8))}
theorem parts_ev (B : BookOk is b js) : parts_of_F [.str (bookT is js)] = .ok (.tup [.str (rowT is), .tup (rows js)]) none := by
  have hl := B.ans.1
  have ht := text_ok B
  have e1 := split_book (is := is) (js := js) ht.2
  rw [show sm (("first " ++ rowT is) :: js.map ans_) = .str ("first " ++ rowT is) :: sm (js.map ans_) from rfl] at e1
  have e2 := sw_at "first " (rowT is)
  have e3 := rp_at (a := "first ") (y := rowT is) (by have := fst_len B.n6; omega)
  have e4 := box_begun_ev B.n0 B.n6
  rw [B.run, rs_some] at e4
  have sl : (sm (js.map ans_)).length = js.length := by rw [sm_length, List.length_map]
  have hz : js.length ≤ 16000 := by omega
  have g4 : gtD (.int (js.length : Nat)) (.int 4) = some (.bl false) := by rw [Ev.gtI, decide_eq_false (by omega)]
  have hcp := cmp_gen (vs := [4]) (b := bName 4) (tt := parts_of_x3) (elt := parts_of_x2) (a := fun j => D.str (ans_ j)) (c := fun j => D.str (rowT j)) (P := fun _ => true) (Γ := [.im (.str (bookT is js)), .im (.str ("first " ++ rowT is)), .im (.lst (sm (js.map ans_))), .no, .no, .no]) rfl js [] (by simp; omega) fun j hj => by
    have f1 := sw_at "answer " (rowT j)
    have f2 := rp_at (a := "answer ") (y := rowT j) (by have := ans_len (B.ans.2 j hj).2; unfold ans_ at this; omega)
    refine ⟨[.im (.str (bookT is js)), .im (.str ("first " ++ rowT is)), .im (.lst (sm (js.map ans_))), .no, .im (.str (ans_ j)), .no], by simp! only [], ?_, ?_, rfl⟩
    · unfold ans_
      simp! only [parts_of_x3, c_ANSWER, f1]
    · unfold ans_
      simp! only [parts_of_x2, c_ANSWER, f2]
  rw [List.nil_append, List.filter_eq_self.mpr (fun _ _ => rfl), show js.map (fun j => D.str (rowT j)) = rows js from rfl] at hcp
  have hv := comp_at (it := anyI (vE 2)) (ds := js.map fun j => D.str (ans_ j)) (Γ := [.im (.str (bookT is js)), .im (.str ("first " ++ rowT is)), .im (.lst (sm (js.map ans_))), .no, .no, .no]) (by
    simp! only []
    unfold sm; rw [List.map_map]; rfl) rfl hcp
  have tr : tupD (.lst (rows js)) = some (.tup (rows js)) := rfl
  have lt : ltD (.int (js.length : Nat)) (.int (js.length : Nat)) = some (.bl false) := by rw [Ev.ltI, decide_eq_false (by omega)]
  have hcq := cmp_maps (vs := [5]) (b := bName 5) (elt := parts_of_x1) (a := fun j => D.str (rowT j)) (c := fun _ => D.bl true) (xs := js) (Γ := [.im (.str (bookT is js)), .im (.str ("first " ++ rowT is)), .im (.lst (sm (js.map ans_))), .im (.tup (rows js)), .no, .no]) rfl (by omega) fun j hj => by
    have e := is_row_ev (B.ans.2 j hj).1 (by have := (B.ans.2 j hj).2; omega)
    rw [decide_eq_true (B.ans.2 j hj).2] at e
    refine ⟨[.im (.str (bookT is js)), .im (.str ("first " ++ rowT is)), .im (.lst (sm (js.map ans_))), .im (.tup (rows js)), .no, .im (.str (rowT j))], by simp! only [], ?_, rfl⟩
    simp! only [parts_of_x1, e]
  have hw := comp_at (it := anyI (vE 3)) (ds := js.map fun j => D.str (rowT j)) (Γ := [.im (.str (bookT is js)), .im (.str ("first " ++ rowT is)), .im (.lst (sm (js.map ans_))), .im (.tup (rows js)), .no, .no]) (by simp! only []; rfl) rfl hcq
  have al : allD (.lst (js.map fun _ => D.bl true)) = some (.bl true) := by
    have := all_map (fun _ : List (Fin 8) => true) js
    rw [List.all_eq_true.mpr (fun _ _ => rfl)] at this
    exact this
  have n1 : ∀ xs, isND (.tup xs) .non = some (.bl false) := fun _ => rfl
  have is1 : isB "str" (.str (bookT is js)) = some true := rfl
  unfold parts_of_F parts_of_b
  simp! only [c_FIRST, c_MOST_ANSWERS, Ev.bHr, e1, if_pos hz, is1, e2, e3, e4, n1, sl, g4, hv, tr, rows_len, lt, hw, al]
end
section
variable {is : List (Fin 8)} {b : Box} {js : List (List (Fin 8))} {bs : List Box}
theorem cs3_book : ((([Str.ofString "Book", Str.ofString "Mail", Str.ofString "Rule"]).contains (Str.ofString "Book")) = true) = True := by simp only [eq_iff_iff, iff_true]; decide +kernel
theorem isSW (x : Str) : isB "str" (.str x) = some true := rfl
theorem isTW (xs : List D) : isB "tuple" (.tup xs) = some true := rfl
theorem check_book_evW {ns : List Str} {fs : List D} : check_book_3_F [.ins "Book" ns fs] = .ok .non none := by
  unfold check_book_3_F check_book_3_b
  simp! only [cs3_book]
theorem mail_init_evW : Mail___init___3_F [.ins "Mail" [] [], .ins "Book" bookN (bookV is b js)] = .ok .non (some (.i "Mail" mailN [.ins "Book" bookN (bookV is b js), .tup [.tup (bx b)]])) := by
  have e1 : check_book_3_F [.ins "Book" bookN (bookV is b js)] = _ := check_book_evW
  have e2 : Book_begun_F [.ins "Book" bookN (bookV is b js)] = _ := begun_ev (is := is) (b := b) (js := js)
  have n0 := nsl 0 (by decide)
  have n1 := nsl 1 (by decide)
  unfold Mail___init___3_F Mail___init___3_b
  simp! only [e1, e2, pm1, pm2, n0, n1]
theorem joined_evW (hl : bs.length ≤ 1000) (c : Box) : Mail_joined_3_F [.ins "Mail" mailN [.ins "Book" bookN (bookV is b js), .tup (bxs bs)], .tup (bx c)] = .nw (.i "Mail" mailN [.ins "Book" bookN (bookV is b js), .tup (bxs (bs ++ [c]))]) none := by
  have e1 := mail_init_evW (is := is) (b := b) (js := js)
  have n2 := nsl 2 (by decide)
  have ml : mailN.length = 2 := rfl
  have hf : ∀ Γ : En, frzs ((bxs bs).map EV.d ++ [.d (.tup (bx c))]) Γ = some (bxs (bs ++ [c]), Γ) := fun Γ => by
    rw [frzs_map, Ev.frzs1, Ev.frzd, Option.bind_some, Ev.frzs0, Option.bind_some, Option.map_some, bxs_app]; rfl
  have hz : (bs ++ [c]).length ≤ sizeLine := by rw [List.length_append]; show _ ≤ 2 ^ 24; simp; omega
  unfold Mail_joined_3_F Mail_joined_3_b
  simp! only [hf, e1, fm1, fm2, pm3, n2, ml, starT, bxs_len, if_pos hz]
def OthW (x : D) : Prop := isB "str" x = some false ∧ (isB "int" x = some false ∨ (isB "int" x = some true ∧ isB "bool" x = some true))
def ElW (x : D) : Prop := (∃ i, x = .int i) ∨ (∃ y : Str, x = .str y ∧ y.length ≤ 10000) ∨ OthW x
theorem int_iZW (i : Int) : isB "int" (.int i) = some true := rfl
theorem int_bZW (i : Int) : isB "bool" (.int i) = some false := rfl
theorem int_sZW (i : Int) : isB "str" (.int i) = some false := rfl
theorem str_iZW (y : Str) : isB "int" (.str y) = some false := rfl
theorem OthW.bt {x : D} (h : OthW x) (l m : Int) : btB l m x = false := by
  cases x with
  | int i => exact absurd h.2 (by rw [int_iZW, int_bZW]; simp)
  | _ => rfl
theorem OthW.nm {x : D} (h : OthW x) : nmO x = none := by
  cases x with
  | str y => exact absurd h.1 (by rw [isSW]; simp)
  | _ => rfl
theorem btZW {x : D} (h : ElW x) (l m : Int) : is_between_F [x, .int l, .int m] = .ok (.bl (btB l m x)) none := by
  rcases h with ⟨i, rfl⟩ | ⟨y, rfl, _⟩ | ho
  · have e : is_integer_F [.int i] = .ok (.bl true) none := by
      unfold is_integer_F is_integer_b
      simp! only [Ev.all5, int_iZW, int_bZW]
    have e1 : leD (.int l) (.int i) = some (.bl (decide (l ≤ i))) := by rw [Ev.leI]
    have e2 : leD (.int i) (.int m) = some (.bl (decide (i ≤ m))) := by rw [Ev.leI]
    show _ = Ro.ok (.bl (decide (l ≤ i) && decide (i ≤ m))) none
    unfold is_between_F is_between_b
    by_cases h : l ≤ i
    · rw [decide_eq_true h] at e1 ⊢
      simp! only [Ev.all5, e, e1, e2]
    · rw [decide_eq_false h] at e1 ⊢
      simp! only [Ev.all5, e, e1, e2, Bool.false_and]
  · have e : is_integer_F [.str y] = .ok (.bl false) none := by
      unfold is_integer_F is_integer_b
      simp! only [Ev.all5, str_iZW]
    unfold is_between_F is_between_b btB
    simp! only [Ev.all5, e]
  · rw [ho.bt]
    have e : is_integer_F [x] = .ok (.bl false) none := by
      unfold is_integer_F is_integer_b
      rcases ho.2 with h1 | ⟨h1, h2⟩
      · simp! only [Ev.all5, h1]
      · simp! only [Ev.all5, h1, h2]
    unfold is_between_F is_between_b
    simp! only [Ev.all5, e]
theorem nmZW {x : D} (h : ElW x) : is_name_F [x] = .ok (.bl (nmO x).isSome) none := by
  rcases h with ⟨i, rfl⟩ | ⟨y, rfl, hy⟩ | ho
  · unfold is_name_F is_name_b
    simp! only [Ev.all5, int_sZW, nmO, Option.isSome_none]
  · have e := is_name_ev y (by omega)
    rw [e]
    show _ = Ro.ok (.bl (if nameB y = true then some y else none : Option Str).isSome) none
    cases h : nameB y with
    | true => rw [if_pos rfl]; rfl
    | false => rw [if_neg (by simp)]; rfl
  · rw [ho.nm]
    unfold is_name_F is_name_b
    simp! only [Ev.all5, ho.1, Option.isSome_none]
theorem answered_anyW (B : BookOk is b js) {told : List D} (ht : ∀ x ∈ told, ElW x) {c : Box} (hc : ∀ p ∈ c, IsName p.2) (hl : c.length ≤ 900) :
    box_answered_F [.ins "Book" bookN (bookV is b js), .tup told, .tup (bx c)] = .ok (rs (ansC js c told)) none := by
  by_cases h3 : told.length = 3
  · match told, h3, ht with
    | [i, me, you], _, ht =>
      have hi := ht i (by simp)
      have hm := ht me (by simp)
      have hy := ht you (by simp)
      have e1 := btZW hi 0 ((js.length : Nat) - 1)
      have e2 := nmZW hm
      have e3 := nmZW hy
      have n3 : neD (.int ((3 : Nat) : Int)) (.int 3) = some (.bl false) := by kernel_rfl
      unfold box_answered_F box_answered_b bookV
      show _ = Ro.ok (rs (ansK js c i (nmO me) (nmO you))) none
      cases hb : btB 0 ((js.length : Nat) - 1) i with
      | false =>
        rw [hb] at e1
        rw [ansK_bt hb]
        simp! only [n3, Ev.all5, e1, fl4, List.length_map, rs]
      | true =>
        rw [hb] at e1
        obtain ⟨k, rfl, k0, k1⟩ : ∃ k, i = .int k ∧ 0 ≤ k ∧ k ≤ (js.length : Int) - 1 := by
          unfold btB at hb
          split at hb
          · obtain ⟨h1, h2⟩ := He.ba hb
            exact ⟨_, rfl, of_decide_eq_true h1, of_decide_eq_true h2⟩
          · cases hb
        cases hme : nmO me with
        | none =>
          rw [hme] at e2
          rw [ansK_n1]
          simp! only [n3, Ev.all5, e1, e2, fl4, List.length_map, rs, Option.isSome_none]
        | some m =>
          rw [hme] at e2
          obtain ⟨rfl, nm⟩ := nmO_ok hme
          cases hyo : nmO you with
          | none =>
            rw [hyo] at e3
            rw [ansK_n2]
            simp! only [n3, Ev.all5, e1, e2, e3, fl4, List.length_map, rs, Option.isSome_none, Option.isSome_some]
          | some y =>
            rw [hyo] at e3
            obtain ⟨rfl, ny⟩ := nmO_ok hyo
            obtain ⟨k, rfl⟩ := Int.eq_ofNat_of_zero_le k0
            have hk : k < js.length := by omega
            have e4 := at_deeds hk
            have hj := B.ans.2 _ (getD_mem hk)
            have e5 := done_ev m y nm.ok ny.ok (js.getD k []) c (by omega) (fun p hp => (hc p hp).ok)
            rw [show ansK js c (.int (k : Nat)) (some m) (some y) = if 0 ≤ ((k : Nat) : Int) ∧ ((k : Nat) : Int) ≤ (js.length : Int) - 1 then runD (js.getD ((k : Nat) : Int).toNat []) m y c else none from rfl, if_pos (And.intro k0 k1), Int.toNat_natCast]
            simp! only [n3, Ev.all5, e1, e2, e3, e4, e5, fl4, List.length_map, Ev.getL, Option.isSome_some]
  · have e0 : neD (.int (told.length : Nat)) (.int 3) = some (.bl true) := by rw [le1, decide_eq_false (by omega)]; rfl
    have : ansC js c told = none := by
      unfold ansC
      split
      · exact absurd rfl h3
      · rfl
    rw [this]
    unfold box_answered_F box_answered_b bookV
    simp! only [Ev.all5, e0, rs]
def OkW (v : D) : Prop := (∃ xs, v = .tup xs ∧ (∀ x ∈ xs, ElW x) ∧ xs.length ≤ 100) ∨ isB "tuple" v = some false
theorem behind_anyW (B : BookOk is b js) (hb : BxOk bs) {v : D} (hv : OkW v) : box_behind_F [.ins "Book" bookN (bookV is b js), .tup (bxs bs), v] = .ok (rs (stepB js bs v)) none := by
  rcases hv with ⟨xs, rfl, hx, hxl⟩ | hv
  · match xs, hx with
    | [], hx =>
      have e1 : ltD (.int ((0 : Nat) : Int)) (.int 2) = some (.bl true) := rfl
      unfold box_behind_F box_behind_b
      simp! only [Ev.all5, isTW, e1, stepB, rs]
    | [x], hx =>
      have e1 : ltD (.int ((1 : Nat) : Int)) (.int 2) = some (.bl true) := rfl
      have : stepB js bs (.tup [x]) = none := by unfold stepB; split <;> first | rfl | (rename_i h; cases h)
      unfold box_behind_F box_behind_b
      simp! only [Ev.all5, isTW, e1, this, rs]
    | x :: y :: told, hx =>
      have hx0 := hx x (by simp)
      have hy0 := hx y (by simp)
      have ht : ∀ t ∈ told, ElW t := fun t h => hx t (by simp [h])
      have lt := lt2n (x := x) (y := y) (told := told)
      have ll : lenD (.tup (x :: y :: told)) = some (.int ((x :: y :: told).length : Nat)) := rfl
      have g0 : FL.getD (.tup (x :: y :: told)) (.int 0) = some x := by rw [Ev.getT, Ev.atI0]; rfl
      have g1 : FL.getD (.tup (x :: y :: told)) (.int 1) = some y := by rw [Ev.getT, Ev.atI1]; rfl
      have g2 : cutD (some 2) none (.tup (x :: y :: told)) = some (.tup told) := by rw [Ev.cutT, cut2]
      have lt' : lenD (.tup told) = some (.int (told.length : Nat)) := rfl
      generalize ((x :: y :: told).length : Int) = n at lt ll
      have bt := btZW hy0 0 ((bs.length : Nat) - 1)
      rcases hx0 with ⟨i, rfl⟩ | ⟨w, rfl, hw⟩ | ho
      · have : stepB js bs (.tup (.int i :: y :: told)) = none := rfl
        rw [this]
        unfold box_behind_F box_behind_b
        simp! only [↓g0, ↓ll, Ev.all5, isTW, lt, int_sZW, rs]
      · cases hb2 : btB 0 ((bs.length : Nat) - 1) y with
        | false =>
          rw [hb2] at bt
          have : stepB js bs (.tup (.str w :: y :: told)) = none := by
            unfold stepB
            split
            · rename_i h
              cases h
              rw [if_neg]
              intro z
              unfold btB at hb2
              simp only [decide_eq_true z.1, decide_eq_true z.2] at hb2
              cases hb2
            · rfl
          rw [this]
          unfold box_behind_F box_behind_b
          simp! only [↓g0, ↓g1, ↓ll, Ev.all5, isTW, isSW, lt, bt, bxs_len, rs]
        | true =>
          rw [hb2] at bt
          obtain ⟨a, rfl, a0, a1⟩ : ∃ a, y = .int a ∧ 0 ≤ a ∧ a ≤ (bs.length : Int) - 1 := by
            unfold btB at hb2
            split at hb2
            · obtain ⟨h1, h2⟩ := He.ba hb2
              exact ⟨_, rfl, of_decide_eq_true h1, of_decide_eq_true h2⟩
            · cases hb2
          have es : stepB js bs (.tup (.str w :: .int a :: told)) = stepC js (bs.getD a.toNat []) w told := by
            show (if 0 ≤ a ∧ a ≤ (bs.length : Int) - 1 then _ else _) = _
            rw [if_pos ⟨a0, a1⟩]
          rw [es]
          obtain ⟨a, rfl⟩ := Int.eq_ofNat_of_zero_le a0
          have ha : a < bs.length := by omega
          rw [Int.toNat_natCast]
          have e2 := at_bxs ha
          obtain ⟨hc, hcl⟩ := hb.at ha
          have hz : (bx (bs.getD a [])).length + 1 ≤ sizeLine := by rw [bx_length]; show _ ≤ 2 ^ 24; omega
          generalize bs.getD a [] = c at e2 hc hcl hz
          have hok := fun p hp => (hc p hp).ok
          have eo := fun k => box_opened_ev k c hok
          have ea := answered_anyW B ht hc hcl
          have t1 : inD (.str w) (.tup [.str "lock", .str "tag"]) = some (.bl (decide (w = "lock") || decide (w = "tag"))) := inT2
          have t2 : inD (.str w) (.tup [.str "unlock", .str "untag"]) = some (.bl (decide (w = "unlock") || decide (w = "untag"))) := inT2
          have t3 : eqD (.str w) (.str "answer") = some (.bl (decide (w = "answer"))) := Ev.eqS
          have l1 := leq 1 told
          have l0 := leq 0 told
          have isp : ∀ (k : Bool) (s : Str), (k, s) = (k, s) := fun _ _ => rfl
          have put : ∀ k : Bool, w = kd k → (decide (w = "lock") || decide (w = "tag")) = true → box_behind_F [.ins "Book" bookN (bookV is b js), .tup (bxs bs), .tup (.str w :: .int (a : Nat) :: told)] = .ok (rs (putC k c told)) none := fun k hk hd => by
            rw [hd] at t1
            by_cases h1 : told.length = 1
            · match told, h1, ht, g0, g1, g2, ll, lt' with
              | [t], _, ht, g0, g1, g2, ll, lt' =>
                have h11 : eqD (.int ((1 : Nat) : Int)) (.int 1) = some (.bl true) := rfl
                have en := nmZW (ht t (by simp))
                show _ = Ro.ok (rs ((nmO t).map fun n => (k, n) :: c)) none
                unfold box_behind_F box_behind_b
                cases hn : nmO t with
                | none =>
                  rw [hn] at en
                  simp! only [↓g0, ↓g1, ↓g2, ↓ll, Ev.all5, isTW, isSW, lt, bt, bxs_len, rs, t1, h11, en, e2, Ev.getT, Ev.atI0, Option.isSome_none]
                | some m =>
                  rw [hn] at en
                  obtain ⟨rfl, _⟩ := nmO_ok hn
                  subst hk
                  simp! only [↓g0, ↓g1, ↓g2, ↓ll, Ev.all5, isTW, isSW, lt, bt, bxs_len, rs, t1, h11, en, e2, Ev.getT, Ev.atI0, Option.isSome_some, starT, if_pos hz, bx_cons]
            · have : putC k c told = none := by
                unfold putC
                split
                · exact absurd rfl h1
                · rfl
              rw [this]
              rw [decide_eq_false (by omega)] at l1
              unfold box_behind_F box_behind_b
              simp! only [↓g0, ↓g1, ↓g2, ↓ll, ↓lt', Ev.all5, isTW, isSW, lt, bt, bxs_len, rs, t1, l1, e2, Ev.getT]
          have tak : ∀ k : Bool, w = unT k → (decide (w = "lock") || decide (w = "tag")) = false → (decide (w = "unlock") || decide (w = "untag")) = true → box_behind_F [.ins "Book" bookN (bookV is b js), .tup (bxs bs), .tup (.str w :: .int (a : Nat) :: told)] = .ok (rs (if told.length = 0 then tk k c else none)) none := fun k hk hd1 hd2 => by
            rw [hd1] at t1
            rw [hd2] at t2
            have eo := eo k
            rw [← hk] at eo
            unfold box_behind_F box_behind_b
            by_cases h0 : told.length = 0
            · rw [if_pos h0]
              rw [decide_eq_true (by omega)] at l0
              simp! only [↓g0, ↓g1, ↓g2, ↓ll, ↓lt', Ev.all5, isTW, isSW, lt, bt, bxs_len, t1, t2, l0, e2, eo, Ev.getT]
            · rw [if_neg h0]
              rw [decide_eq_false (by omega)] at l0
              simp! only [↓g0, ↓g1, ↓g2, ↓ll, ↓lt', Ev.all5, isTW, isSW, lt, bt, bxs_len, rs, t1, t2, l0, e2, Ev.getT]
          unfold stepC
          by_cases h1 : w = "lock"
          · rw [if_pos h1]; exact put true h1 (by rw [decide_eq_true h1]; rfl)
          rw [if_neg h1]
          by_cases h2 : w = "tag"
          · rw [if_pos h2]; exact put false h2 (by rw [decide_eq_true h2, Bool.or_true])
          rw [if_neg h2]
          have d1 : (decide (w = "lock") || decide (w = "tag")) = false := by rw [decide_eq_false h1, decide_eq_false h2]; rfl
          by_cases h3 : w = "unlock"
          · rw [if_pos h3]; exact tak true h3 d1 (by rw [decide_eq_true h3]; rfl)
          rw [if_neg h3]
          by_cases h4 : w = "untag"
          · rw [if_pos h4]; exact tak false h4 d1 (by rw [decide_eq_true h4, Bool.or_true])
          rw [if_neg h4]
          have d2 : (decide (w = "unlock") || decide (w = "untag")) = false := by rw [decide_eq_false h3, decide_eq_false h4]; rfl
          rw [d1] at t1
          rw [d2] at t2
          unfold box_behind_F box_behind_b
          by_cases h5 : w = "answer"
          · rw [if_pos h5]
            rw [decide_eq_true h5] at t3
            simp! only [↓g0, ↓g1, ↓g2, ↓ll, Ev.all5, isTW, isSW, lt, bt, bxs_len, t1, t2, t3, e2, ea, Ev.getT]
          · rw [if_neg h5]
            rw [decide_eq_false h5] at t3
            simp! only [↓g0, ↓g1, ↓g2, ↓ll, Ev.all5, isTW, isSW, lt, bt, bxs_len, t1, t2, t3, e2, rs, Ev.getT]
      · have : stepB js bs (.tup (x :: y :: told)) = none := by
          unfold stepB
          split
          · rename_i h
            cases h
            exact absurd ho.1 (by rw [isSW]; simp)
          · rfl
        rw [this]
        unfold box_behind_F box_behind_b
        simp! only [↓g0, ↓ll, Ev.all5, isTW, lt, ho.1, rs]
  · rw [stepB_no fun xs z => by rw [z, isTW] at hv; cases hv]
    unfold box_behind_F box_behind_b
    simp! only [Ev.all5, hv, rs]
theorem ledA_stepW (B : BookOk is b js) {t u s : D} {k : Nat} {S2 s5 : Sl} {c : Box} (hb : BxI bs) (hs : OkW s) (hc : stepB js bs s = some c) (h2 : S2 = .acc (.i "Mail" mailN [.ins "Book" bookN (bookV is b js), .tup (bxs bs)]) ∨ S2 = .im (.ins "Mail" mailN [.ins "Book" bookN (bookV is b js), .tup (bxs bs)])) (h5 : s5.isB = false) :
    Mail_led_4_x1 [.im t, .im u, S2, .im (.int (k : Nat)), .im s, s5] = .ok .nx [.im t, .im u, .acc (.i "Mail" mailN [.ins "Book" bookN (bookV is b js), .tup (bxs (bs ++ [c]))]), .im (.int (k : Nat)), .im s, .im (.tup (bx c))] := by
  have e1 := behind_anyW B hb.ok hs
  rw [hc, rs_some] at e1
  have e2 := joined_evW (is := is) (b := b) (js := js) (bs := bs) (by have := hb.1; omega) c
  have e3 : isND (.tup (bx c)) .non = some (.bl false) := rfl
  have e4 : mailN.contains "joined" = false := by kernel_rfl
  have e5 := mail_book_ev (is := is) (b := b) (js := js) (bs := bs)
  have e6 := mail_boxes_ev (is := is) (b := b) (js := js) (bs := bs)
  rcases h2 with rfl | rfl
  · simp! only [Mail_led_4_x1, Ev.all5, h5, e1, e2, e3, e4, e5, e6]
  · simp! only [Mail_led_4_x1, Ev.all5, h5, e1, e2, e3, e4, e5, e6]
theorem ledA_stopW (B : BookOk is b js) {t u s : D} {k : Nat} {S2 s5 : Sl} (hb : BxI bs) (hs : OkW s) (hc : stepB js bs s = none) (h2 : S2 = .acc (.i "Mail" mailN [.ins "Book" bookN (bookV is b js), .tup (bxs bs)]) ∨ S2 = .im (.ins "Mail" mailN [.ins "Book" bookN (bookV is b js), .tup (bxs bs)])) (h5 : s5.isB = false) :
    ∃ Γ', Mail_led_4_x1 [.im t, .im u, S2, .im (.int (k : Nat)), .im s, s5] = .exc "InvalidSteps" ["index"] [.int (k : Nat)] Γ' := by
  have e1 := behind_anyW B hb.ok hs
  rw [hc, rs_none] at e1
  have e3 : isND .non .non = some (.bl true) := rfl
  have e5 := mail_book_ev (is := is) (b := b) (js := js) (bs := bs)
  have e6 := mail_boxes_ev (is := is) (b := b) (js := js) (bs := bs)
  refine ⟨[.im t, .im u, .im (.ins "Mail" mailN [.ins "Book" bookN (bookV is b js), .tup (bxs bs)]), .im (.int (k : Nat)), .im s, .im .non], ?_⟩
  rcases h2 with rfl | rfl
  · simp! only [Mail_led_4_x1, Ev.all5, h5, e1, e3, e5, e6]
  · simp! only [Mail_led_4_x1, Ev.all5, h5, e1, e3, e5, e6]
theorem ledA_loopW (B : BookOk is b js) {t u : D} : ∀ (ss : List D) (k : Nat) (bs bs' : List Box) (S2 s3 s4 s5 : Sl), BxI bs → bs.length + ss.length ≤ 30 → (∀ s ∈ ss, OkW s) → runS js bs ss k = (none, bs') → S2 = .acc (.i "Mail" mailN [.ins "Book" bookN (bookV is b js), .tup (bxs bs)]) ∨ S2 = .im (.ins "Mail" mailN [.ins "Book" bookN (bookV is b js), .tup (bxs bs)]) → s3.isB = false → s4.isB = false → s5.isB = false →
    BxI bs' ∧ ∃ S2' s3' s4' s5', loopS (bSeq 2 (bCons (bName 3) (bCons (bName 4) bNil))) Mail_led_4_x1 (enumD k ss) [.im t, .im u, S2, s3, s4, s5] = .ok .nx [.im t, .im u, S2', s3', s4', s5'] ∧ (S2' = .acc (.i "Mail" mailN [.ins "Book" bookN (bookV is b js), .tup (bxs bs')]) ∨ S2' = .im (.ins "Mail" mailN [.ins "Book" bookN (bookV is b js), .tup (bxs bs')]))
  | [], k, bs, bs', S2, s3, s4, s5, hb, _, _, hg, h2, _, _, _ => by
    cases hg
    exact ⟨hb, S2, s3, s4, s5, rfl, h2⟩
  | s :: ss, k, bs, bs', S2, s3, s4, s5, hb, hl, hs, hg, h2, h3, h4, h5 => by
    rw [List.length_cons] at hl
    unfold runS at hg
    split at hg
    · rename_i c hc
      obtain ⟨m, hm, hmc⟩ := stepB_mv hc
      obtain ⟨hb', S2', t3, t4, t5, ih, k2⟩ := ledA_loopW B (t := t) (u := u) ss (k + 1) (bs ++ [c]) bs' (.acc (.i "Mail" mailN [.ins "Book" bookN (bookV is b js), .tup (bxs (bs ++ [c]))])) (.im (.int (k : Nat))) (.im s) (.im (.tup (bx c))) (hb.next B.ans hm hmc (by omega)) (by rw [List.length_append, List.length_singleton]; omega) (fun x hx => hs x (List.mem_cons_of_mem _ hx)) hg (.inl rfl) rfl rfl rfl
      exact ⟨hb', S2', t3, t4, t5, Eq.trans (loop_cons (ledA_tg h3 h4) (ledA_stepW B hb (hs s List.mem_cons_self) hc h2 h5)) ih, k2⟩
    · cases hg
theorem ledA_badW (B : BookOk is b js) {t u : D} {q : Nat} : ∀ (ss : List D) (k : Nat) (bs bs' : List Box) (S2 s3 s4 s5 : Sl), BxI bs → bs.length + ss.length ≤ 30 → (∀ s ∈ ss, OkW s) → runS js bs ss k = (some q, bs') → S2 = .acc (.i "Mail" mailN [.ins "Book" bookN (bookV is b js), .tup (bxs bs)]) ∨ S2 = .im (.ins "Mail" mailN [.ins "Book" bookN (bookV is b js), .tup (bxs bs)]) → s3.isB = false → s4.isB = false → s5.isB = false →
    ∃ Γ', loopS (bSeq 2 (bCons (bName 3) (bCons (bName 4) bNil))) Mail_led_4_x1 (enumD k ss) [.im t, .im u, S2, s3, s4, s5] = .exc "InvalidSteps" ["index"] [.int (q : Nat)] Γ'
  | [], k, bs, bs', S2, s3, s4, s5, hb, _, _, hg, h2, _, _, _ => by cases hg
  | s :: ss, k, bs, bs', S2, s3, s4, s5, hb, hl, hs, hg, h2, h3, h4, h5 => by
    rw [List.length_cons] at hl
    unfold runS at hg
    split at hg
    · rename_i c hc
      obtain ⟨m, hm, hmc⟩ := stepB_mv hc
      obtain ⟨Γ', ih⟩ := ledA_badW B (t := t) (u := u) ss (k + 1) (bs ++ [c]) bs' (.acc (.i "Mail" mailN [.ins "Book" bookN (bookV is b js), .tup (bxs (bs ++ [c]))])) (.im (.int (k : Nat))) (.im s) (.im (.tup (bx c))) (hb.next B.ans hm hmc (by omega)) (by rw [List.length_append, List.length_singleton]; omega) (fun x hx => hs x (List.mem_cons_of_mem _ hx)) hg (.inl rfl) rfl rfl rfl
      exact ⟨Γ', Eq.trans (loop_cons (ledA_tg h3 h4) (ledA_stepW B hb (hs s List.mem_cons_self) hc h2 h5)) ih⟩
    · rename_i hc
      cases hg
      obtain ⟨Γ', e⟩ := ledA_stopW B hb (hs s List.mem_cons_self) hc h2 h5 (t := t) (u := u) (k := q)
      exact ⟨Γ', loop_exc (ledA_tg h3 h4) e⟩
theorem ledA_okW (B : BookOk is b js) {ss : List D} {bs' : List Box} (hb : BxI bs) (hl : bs.length + ss.length ≤ 30) (hs : ∀ s ∈ ss, OkW s) (hg : runS js bs ss 0 = (none, bs')) :
    BxI bs' ∧ (Mail_led_4_F [.ins "Mail" mailN [.ins "Book" bookN (bookV is b js), .tup (bxs bs)], .tup ss] = .ok (.ins "Mail" mailN [.ins "Book" bookN (bookV is b js), .tup (bxs bs')]) none ∨ Mail_led_4_F [.ins "Mail" mailN [.ins "Book" bookN (bookV is b js), .tup (bxs bs)], .tup ss] = .nw (.i "Mail" mailN [.ins "Book" bookN (bookV is b js), .tup (bxs bs')]) none) := by
  obtain ⟨hb', S2', s3, s4, s5, l, h2⟩ := ledA_loopW B (t := .ins "Mail" mailN [.ins "Book" bookN (bookV is b js), .tup (bxs bs)]) (u := .tup ss) ss 0 bs bs' (.im (.ins "Mail" mailN [.ins "Book" bookN (bookV is b js), .tup (bxs bs)])) .no .no .no hb hl hs hg (.inr rfl) rfl rfl rfl
  have hf := for_at (it := enumI (vE 1)) (Γ := [.im (.ins "Mail" mailN [.ins "Book" bookN (bookV is b js), .tup (bxs bs)]), .im (.tup ss), .im (.ins "Mail" mailN [.ins "Book" bookN (bookV is b js), .tup (bxs bs)]), .no, .no, .no]) (by simp -implicitDefEqProofs only [Ev.all, Ev.all2, Ev.all3, EB, Nat.reduceAdd, Nat.reduceSub, reduceIte, Nat.reduceLeDiff, Nat.reduceEqDiff, Int.reduceLT, Int.reduceLE, reduceCtorEq]) l
  refine ⟨hb', ?_⟩
  rcases h2 with rfl | rfl
  · right
    unfold Mail_led_4_F Mail_led_4_b
    simp! only [Ev.all5, isTW, hf]
  · left
    unfold Mail_led_4_F Mail_led_4_b
    simp! only [Ev.all5, isTW, hf]
theorem ledA_noW (B : BookOk is b js) {ss : List D} {bs' : List Box} {q : Nat} (hb : BxI bs) (hl : bs.length + ss.length ≤ 30) (hs : ∀ s ∈ ss, OkW s) (hg : runS js bs ss 0 = (some q, bs')) :
    Mail_led_4_F [.ins "Mail" mailN [.ins "Book" bookN (bookV is b js), .tup (bxs bs)], .tup ss] = .exc "InvalidSteps" ["index"] [.int (q : Nat)] none := by
  obtain ⟨Γ', l⟩ := ledA_badW B (t := .ins "Mail" mailN [.ins "Book" bookN (bookV is b js), .tup (bxs bs)]) (u := .tup ss) ss 0 bs bs' (.im (.ins "Mail" mailN [.ins "Book" bookN (bookV is b js), .tup (bxs bs)])) .no .no .no hb hl hs hg (.inr rfl) rfl rfl rfl
  have hf := for_at (it := enumI (vE 1)) (Γ := [.im (.ins "Mail" mailN [.ins "Book" bookN (bookV is b js), .tup (bxs bs)]), .im (.tup ss), .im (.ins "Mail" mailN [.ins "Book" bookN (bookV is b js), .tup (bxs bs)]), .no, .no, .no]) (by simp -implicitDefEqProofs only [Ev.all, Ev.all2, Ev.all3, EB, Nat.reduceAdd, Nat.reduceSub, reduceIte, Nat.reduceLeDiff, Nat.reduceEqDiff, Int.reduceLT, Int.reduceLE, reduceCtorEq]) l
  unfold Mail_led_4_F Mail_led_4_b
  simp! only [Ev.all5, isTW, hf]
theorem ledA_noneW {v : D} (h : isB "tuple" v = some false) : Mail_led_4_F [.ins "Mail" mailN [.ins "Book" bookN (bookV is b js), .tup (bxs bs)], v] = .exc "InvalidSteps" ["index"] [.non] none := by
  unfold Mail_led_4_F Mail_led_4_b
  simp! only [Ev.all5, h]
theorem read_evW (B : BookOk is b js) : Book_read_3_F [.cls "Book", .str (bookT is js)] = .nw (.i "Book" bookN (bookV is b js)) none := by
  have e1 := parts_ev B
  have e2 := B.initX
  have n1 : ∀ xs, isND (.tup xs) .non = some (.bl false) := fun _ => rfl
  unfold Book_read_3_F Book_read_3_b
  simp! only [Ev.all6, e1, e2, n1]
end
section
def Cup (p : List D) : Prop := ∃ a m c : Int, p = [.int a, .int m, .int c] ∧ 0 ≤ a ∧ 0 ≤ m ∧ m < 2147483477 ∧ 0 ≤ c
theorem sip_ok {p : List D} (h : Cup p) {n : Int} (h1 : 0 < n) (h2 : n < 1073741824) : ∃ (r : Int) (p' : List D), _law_sip_F [.lst p, .int n] = .ok (.int r) (some (.l p')) ∧ 0 ≤ r ∧ r < n ∧ Cup p' := by
  obtain ⟨a, m, c, rfl, ha, hb, hc, hd⟩ := h
  unfold _law_sip_F _law_sip_b
  have e1 : (-(2 ^ 64) < m ∧ m < 2 ^ 64) ∨ (-(2 ^ 64) < (48271 : Int) ∧ (48271 : Int) < 2 ^ 64) := .inl ⟨by omega, by omega⟩
  have e2 : ∀ x : Int, (-(2 ^ 64) < (6089 : Int) ∧ (6089 : Int) < 2 ^ 64) ∨ (-(2 ^ 64) < x ∧ x < 2 ^ 64) := fun x => .inl ⟨by omega, by omega⟩
  have hx : ∀ y : Int, 0 ≤ y % 2147483477 ∧ y % 2147483477 < 2147483477 := fun y => ⟨Int.emod_nonneg _ (by decide), Int.emod_lt_of_pos _ (by decide)⟩
  have q0 : decide ((0 : Int) < 1024) = true := rfl
  by_cases hz : 0 < a
  · simp! [h1, h2, hz, and_self]
    refine ⟨_, _, rfl, Int.emod_nonneg _ (by omega), Int.emod_lt_of_pos _ h1, _, _, _, rfl, Int.ediv_nonneg ha (by omega), hb, hc, by omega⟩
  · simp! [if_pos e1, if_pos (e2 _), h1, h2, hz, and_self]
    refine ⟨_, _, rfl, Int.emod_nonneg _ (by omega), Int.emod_lt_of_pos _ h1, _, _, _, rfl, ha, (hx _).1, (hx _).2, by omega⟩
theorem cut4 (ns : List Int) : (cutL ns none (some 4)).length ≤ 4 := by
  unfold cutL
  rw [List.length_take]
  have : HT.sIx ns.length ns.length (some 4) ≤ 4 := by
    unfold HT.sIx
    simp
    omega
  omega
theorem pow18 : powD (.int 10) (.int 18) = some (.int 1000000000000000000) := rfl
theorem cup_ok (ns : List Int) (k : Nat) (hk : k ≤ 1000) : ∃ p, _law_cup_F [.scr ns, .int k] = .nw (.l p) none ∧ Cup p := by
  obtain ⟨cell, hcell⟩ : ∃ cell : Int, ifE (tstE (op2 ltD (vE 1) (opN (one lenD) (aCons (vE 0) aNil)))) (op2 getD (vE 0) (vE 1)) (op2 addD (vE 1) (cE (.int 2))) [.im (.scr ns), .im (.int k), .no, .no, .no] = .ok (.d (.int cell)) [.im (.scr ns), .im (.int k), .no, .no, .no] := by
    by_cases h : (k : Int) < (ns.length : Int)
    · have hk : k < ns.length := by omega
      refine ⟨ns[k], ?_⟩
      have e : (L2.atI ns (k : Int)).map D.int = some (.int ns[k]) := by rw [Ev.atI, List.getElem?_eq_getElem hk]; rfl
      simp! [h, e]
    · exact ⟨(k : Int) + 2, by simp! [h]⟩
  have hcut := cut4 ns
  have hadd : addD (.lst ((cutL ns none (some 4)).map D.int)) (.lst [.int cell]) = some (.lst ((cutL ns none (some 4)).map D.int ++ [.int cell])) := by
    show (if _ then _ else _) = _
    rw [if_pos (by rw [List.length_map]; show _ + 1 ≤ 2 ^ 24; omega)]
  have hx : ∀ y : Int, 0 ≤ y % 2147483477 ∧ y % 2147483477 < 2147483477 := fun y => ⟨Int.emod_nonneg _ (by decide), Int.emod_lt_of_pos _ (by decide)⟩
  obtain ⟨Γ', l1, _, m, s4, m1, m2, s5, rfl⟩ := for_inv (b := bName 4) (body := _law_cup_x1)
    (I := fun ds Γ => (∀ d ∈ ds, ∃ i : Int, d = .int i) ∧ ∃ (m : Int) (s : Sl), 0 ≤ m ∧ m < 2147483477 ∧ s.isB = false ∧ Γ = [.im (.scr ns), .im (.int k), .im (.int cell), .im (.int m), s])
    ((cutL ns none (some 4)).map D.int ++ [.int cell]) [.im (.scr ns), .im (.int k), .im (.int cell), .im (.int (30011 + 9013 * k)), .no]
    ⟨fun d hd => by
      rcases List.mem_append.mp hd with hd | hd
      · obtain ⟨i, _, rfl⟩ := List.mem_map.mp hd
        exact ⟨i, rfl⟩
      · exact ⟨cell, List.mem_singleton.mp hd⟩, _, _, by omega, by omega, rfl, rfl⟩
    fun d ds Γ ⟨h, m, s, m1, m2, hs, e⟩ => by
      subst e
      obtain ⟨i, rfl⟩ := h d List.mem_cons_self
      have e1 : (-(2 ^ 64) < m ∧ m < 2 ^ 64) ∨ (-(2 ^ 64) < (26021 : Int) ∧ (26021 : Int) < 2 ^ 64) := .inl ⟨by omega, by omega⟩
      have e2 : decide ((0 : Int) < 2147483477) = true := rfl
      refine ⟨[.im (.scr ns), .im (.int k), .im (.int cell), .im (.int m), .im (.int i)], by simp! [hs], _, .inl ?_, fun d hd => h d (List.mem_cons_of_mem _ hd), (m * 26021 + i) % 2147483477, .im (.int i), (hx _).1, (hx _).2, rfl, rfl⟩
      simp! [_law_cup_x1, if_pos e1, e2]
  have hmul : mulD (.int 9013) (.int k) = some (.int (9013 * k)) := by
    rw [Ev.mulI, if_pos (.inl ⟨by decide, by decide⟩)]
  have hit : ∀ Γ, Γ = [Sl.im (.scr ns), .im (.int k), .im (.int cell), .im (.int (30011 + 9013 * k)), .no] → anyI (op2 addD (slE (vE 0) oNo (oSome (cE (.int 4)))) (lstE (aCons (vE 2) aNil))) Γ = .ok ((cutL ns none (some 4)).map D.int ++ [.int cell]) Γ := fun Γ e => by
    subst e
    have hc : cutD none (some 4) (.scr ns) = some (.lst ((cutL ns none (some 4)).map D.int)) := rfl
    simp! [hc, hadd]
  have hfor : forS (anyI (op2 addD (slE (vE 0) oNo (oSome (cE (.int 4)))) (lstE (aCons (vE 2) aNil)))) (bName 4) _law_cup_x1 [.im (.scr ns), .im (.int k), .im (.int cell), .im (.int (30011 + 9013 * k)), .no] = .ok .nx [.im (.scr ns), .im (.int k), .im (.int cell), .im (.int m), s4] := by
    unfold forS
    rw [hit _ rfl]
    exact l1
  have main : ∃ b : Int, 0 ≤ b ∧ _law_cup_F [.scr ns, .int k] = .nw (.l [.int b, .int m, .int 0]) none := by
    unfold _law_cup_F _law_cup_b
    by_cases c1 : cell < 0
    · refine ⟨-cell, by omega, ?_⟩
      rw [Ev.runF]
      simp -implicitDefEqProofs only [Ev.startG0, EB, Nat.reduceAdd, Nat.reduceSub, reduceIte, Nat.reduceLeDiff, Nat.reduceEqDiff, Int.reduceLT, Int.reduceLE, reduceCtorEq, Ev.seqS, Ev.seqK0, Ev.asgV, Ev.ruK1, Ev.vE', Ev.veK1, Ev.stK1, Ev.oK1, hcell, Ev.bindO, Ev.stoVe, Ev.frzd, Ev.isBz, Ev.isBs, Ev.isB0, Ev.isB1, Ev.addV, Ev.op2, Ev.cE, Ev.vE, Ev.fin2, Ev.lookd, hmul, Ev.addV2I, hfor]
      simp! [c1]
    · by_cases c2 : cell ≥ 1000000000000000000
      · refine ⟨cell, by omega, ?_⟩
        rw [Ev.runF]
        simp -implicitDefEqProofs only [Ev.startG0, EB, Nat.reduceAdd, Nat.reduceSub, reduceIte, Nat.reduceLeDiff, Nat.reduceEqDiff, Int.reduceLT, Int.reduceLE, reduceCtorEq, Ev.seqS, Ev.seqK0, Ev.asgV, Ev.ruK1, Ev.vE', Ev.veK1, Ev.stK1, Ev.oK1, hcell, Ev.bindO, Ev.stoVe, Ev.frzd, Ev.isBz, Ev.isBs, Ev.isB0, Ev.isB1, Ev.addV, Ev.op2, Ev.cE, Ev.vE, Ev.fin2, Ev.lookd, hmul, Ev.addV2I, hfor]
        simp! [c1, c2, pow18]
      · refine ⟨0, by omega, ?_⟩
        rw [Ev.runF]
        simp -implicitDefEqProofs only [Ev.startG0, EB, Nat.reduceAdd, Nat.reduceSub, reduceIte, Nat.reduceLeDiff, Nat.reduceEqDiff, Int.reduceLT, Int.reduceLE, reduceCtorEq, Ev.seqS, Ev.seqK0, Ev.asgV, Ev.ruK1, Ev.vE', Ev.veK1, Ev.stK1, Ev.oK1, hcell, Ev.bindO, Ev.stoVe, Ev.frzd, Ev.isBz, Ev.isBs, Ev.isB0, Ev.isB1, Ev.addV, Ev.op2, Ev.cE, Ev.vE, Ev.fin2, Ev.lookd, hmul, Ev.addV2I, hfor]
        simp! [c1, c2, pow18]
  obtain ⟨b, hb, e⟩ := main
  exact ⟨_, e, _, _, _, rfl, hb, m1, m2, Int.le_refl _⟩
theorem paired_map {α : Type} {f : α → D} {P : α → Prop} {ds xs : List D} (h : Paired (fun _ d => ∃ a, P a ∧ d = f a) ds xs) : ∃ as : List α, (∀ a ∈ as, P a) ∧ as.length = ds.length ∧ xs = as.map f := by
  induction h with
  | nil => exact ⟨[], (fun _ h => nomatch h), rfl, rfl⟩
  | cons r t ih =>
    obtain ⟨q, hq, rfl⟩ := r
    obtain ⟨b, h1, h2, rfl⟩ := ih
    exact ⟨q :: b, fun z hz => by
      rcases List.mem_cons.mp hz with rfl | hz
      · exact hq
      · exact h1 z hz, by rw [List.length_cons, List.length_cons, h2], rfl⟩
theorem rng_n {j : Nat} (h : j ≤ 1000000) {Γ Γ1 : En} {e : EF} (he : e Γ = .ok (.d (.int (j : Nat))) Γ1) : rng1 (aCons e aNil) Γ = .ok ((List.range j).map fun i => D.int (0 + (i : Nat))) Γ1 := by
  unfold rng1
  rw [Ev.aCons, he, Ev.bindO]
  show (O.bind (.ok [.d (.int (j : Nat))] Γ1) FL.itR1) = _
  rw [Ev.bindO, Ev.itR1 (by omega) (by omega), Int.toNat_natCast]
theorem rng_1n {j : Nat} (h : j ≤ 1000) {Γ Γ1 : En} {e : EF} (he : e Γ = .ok (.d (.int (j : Nat))) Γ1) : rng1 (aCons (op2 addD (cE (.int 1)) e) aNil) Γ = .ok ((List.range (1 + j)).map fun i => D.int (0 + (i : Nat))) Γ1 := by
  refine rng_n (by omega) ?_
  have : (1 : Int) + (j : Nat) = ((1 + j : Nat) : Int) := by omega
  rw [← this]
  simp! [he]
def PutI (i : Fin 8) : Prop := i = 0 ∨ i = 1 ∨ i = 3 ∨ i = 4
theorem fr_at {r : Int} (h1 : 0 ≤ r) (h2 : r < 5) : ∃ i : Fin 8, PutI i ∧ L2.atI ([.str "lock you", .str "lock you", .str "lock me", .str "tag me", .str "tag you"] : List D) r = some (ddS i) := by
  obtain ⟨i, hi, e⟩ := at_fin (is := [1, 1, 0, 3, 4]) h1 h2
  refine ⟨i, ?_, e⟩
  have : ∀ i ∈ ([1, 1, 0, 3, 4] : List (Fin 8)), i = 0 ∨ i = 1 ∨ i = 3 ∨ i = 4 := by decide
  exact this i hi
theorem firstC_ok {p : List D} (P : Cup p) : ∃ (is : List (Fin 8)) (p' : List D), _law_first_2_F [.lst p] = .nw (.l (is.map ddS)) (some (.l p')) ∧ is ≠ [] ∧ is.length ≤ 3 ∧ (∀ i ∈ is, PutI i) ∧ Cup p' := by
  obtain ⟨n, p1, e1, n1, n2, P1⟩ := sip_ok P (n := 3) (by decide) (by decide)
  obtain ⟨j, rfl⟩ := Int.eq_ofNat_of_zero_le n1
  obtain ⟨xs, Γ', c1, c2, p', P', rfl⟩ := cmp_inv (vs := [2]) (b := bName 2) (tt := trueT) (elt := _law_first_2_x1)
    (I := fun Γ => ∃ p, Cup p ∧ Γ = [.bor (.l p), .acc (.l [.str "lock you", .str "lock you", .str "lock me", .str "tag me", .str "tag you"]), .no]) (R := fun _ d => ∃ i : Fin 8, PutI i ∧ d = ddS i)
    ((List.range (1 + j)).map fun i => D.int (0 + (i : Nat))) [] [.bor (.l p1), .acc (.l [.str "lock you", .str "lock you", .str "lock me", .str "tag me", .str "tag you"]), .no] ⟨p1, P1, rfl⟩ (by rw [List.length_map, List.length_range, List.length_nil]; omega) fun d hd Γ ⟨p, P, e⟩ => by
      subst e
      obtain ⟨r, p2, e2, r1, r2, P2⟩ := sip_ok P (n := 5) (by decide) (by decide)
      obtain ⟨k, hk, ek⟩ := fr_at r1 r2
      refine ⟨[.bor (.l p), .acc (.l [.str "lock you", .str "lock you", .str "lock me", .str "tag me", .str "tag you"]), .im d], _, .d (ddS k), [.bor (.l p2), .acc (.l [.str "lock you", .str "lock you", .str "lock me", .str "tag me", .str "tag you"]), .im d], _, _, rfl, rfl, ?_, rfl, ⟨k, hk, rfl⟩, p2, P2, rfl⟩
      simp! [_law_first_2_x1, e2, ek]
  obtain ⟨is, hp, hl, rfl⟩ := paired_map c2
  rw [List.length_map, List.length_range] at hl
  have hit := rng_1n (j := j) (e := telV (callV (some 0) 2 _law_sip_F [] (aCons (vE 0) (aCons (cE (.int 3)) aNil)))) (Γ := [.bor (.l p), .acc (.l [.str "lock you", .str "lock you", .str "lock me", .str "tag me", .str "tag you"]), .no]) (Γ1 := [.bor (.l p1), .acc (.l [.str "lock you", .str "lock you", .str "lock me", .str "tag me", .str "tag you"]), .no]) (by omega) (by simp! [e1])
  have comp := comp_at hit rfl c1
  refine ⟨is, p', ?_, by intro z; subst z; simp only [List.length_nil] at hl; omega, by omega, hp, P'⟩
  rw [List.nil_append] at comp
  unfold _law_first_2_F _law_first_2_b
  simp! [comp]
theorem ni_at {r : Int} (h1 : 0 ≤ r) (h2 : r < 9) : ∃ i : Fin 8, L2.atI ([.str "lock you", .str "lock you", .str "lock me", .str "untag you", .str "untag me", .str "untag any", .str "tag me", .str "tag you", .str "unlock me"] : List D) r = some (ddS i) := by
  obtain ⟨i, _, e⟩ := at_fin (is := [1, 1, 0, 6, 5, 7, 3, 4, 2]) h1 h2
  exact ⟨i, e⟩
theorem ddS_sm (is : List (Fin 8)) : is.map ddS = sm (is.map dT) := by unfold sm; rw [List.map_map]; rfl
theorem rowC_step {p : List D} (P : Cup p) {is : List (Fin 8)} (hl : is.length ≤ 100) {k : D} {s4 : Sl} (h4 : s4.isB = false) :
    ∃ (i : Fin 8) (p' : List D) (t : Sl), _law_answer_x1 [.bor (.l p), .acc (.l [.str "lock you", .str "lock you", .str "lock me", .str "untag you", .str "untag me", .str "untag any", .str "tag me", .str "tag you", .str "unlock me"]), .acc (.l (is.map ddS)), .im k, s4] = .ok .nx [.bor (.l p'), .acc (.l [.str "lock you", .str "lock you", .str "lock me", .str "untag you", .str "untag me", .str "untag any", .str "tag me", .str "tag you", .str "unlock me"]), .acc (.l ((is ++ [i]).map ddS)), .im k, t] ∧ t.isB = false ∧ Cup p' := by
  obtain ⟨r, p1, e1, r1, r2, P1⟩ := sip_ok P (n := 9) (by decide) (by decide)
  obtain ⟨i, ei⟩ := ni_at r1 r2
  have hz : (is.map ddS).length < sizeLine := by rw [List.length_map]; show _ < 2 ^ 24; omega
  have q1 : eqD (ddS i) (.str "untag any") = some (.bl (decide (dT i = "untag any"))) := Ev.eqS
  have q2 : inD (ddS i) (.lst (is.map ddS)) = some (.bl (decide (dT i ∈ is.map dT))) := by rw [ddS_sm]; exact in_sm _ _
  have d6 : ddS 6 = D.str "untag you" := rfl
  by_cases c1 : dT i = "untag any"
  · rw [decide_eq_true c1] at q1
    by_cases c2 : dT i ∈ is.map dT
    · rw [decide_eq_true c2] at q2
      refine ⟨6, p1, .im (ddS i), ?_, rfl, P1⟩
      rw [List.map_append, List.map_cons, List.map_nil, d6]
      simp! [_law_answer_x1, e1, ei, h4, q1, q2, if_pos hz]
    · rw [decide_eq_false c2] at q2
      refine ⟨i, p1, .im (ddS i), ?_, rfl, P1⟩
      rw [List.map_append, List.map_cons, List.map_nil]
      simp! [_law_answer_x1, e1, ei, h4, q1, q2, if_pos hz]
  · rw [decide_eq_false c1] at q1
    refine ⟨i, p1, .im (ddS i), ?_, rfl, P1⟩
    rw [List.map_append, List.map_cons, List.map_nil]
    simp! [_law_answer_x1, e1, ei, h4, q1, if_pos hz]
theorem answerC_ok {p : List D} (P : Cup p) : ∃ (is : List (Fin 8)) (p' : List D), _law_answer_F [.lst p] = .nw (.l (is.map ddS)) (some (.l p')) ∧ is ≠ [] ∧ is.length ≤ 4 ∧ Cup p' := by
  obtain ⟨n, p1, e1, n1, n2, P1⟩ := sip_ok P (n := 4) (by decide) (by decide)
  obtain ⟨m, p2, e2, m1, m2, P2⟩ := sip_ok P1 (n := 3) (by decide) (by decide)
  obtain ⟨j, rfl⟩ := Int.eq_ofNat_of_zero_le m1
  have loop : ∀ is0 : List (Fin 8), is0.length ≤ 1 → ∃ (is : List (Fin 8)) (p' : List D) (t3 t4 : Sl), loopS (bName 3) _law_answer_x1 ((List.range (1 + j)).map fun i => D.int (0 + (i : Nat))) [.bor (.l p2), .acc (.l [.str "lock you", .str "lock you", .str "lock me", .str "untag you", .str "untag me", .str "untag any", .str "tag me", .str "tag you", .str "unlock me"]), .acc (.l (is0.map ddS)), .no, .no] = .ok .nx [.bor (.l p'), .acc (.l [.str "lock you", .str "lock you", .str "lock me", .str "untag you", .str "untag me", .str "untag any", .str "tag me", .str "tag you", .str "unlock me"]), .acc (.l (is.map ddS)), t3, t4] ∧ is.length = is0.length + (1 + j) ∧ Cup p' := fun is0 h0 => by
    obtain ⟨Γ', l1, p', is, t3, t4, P', hl, _, _, rfl⟩ := for_inv (b := bName 3) (body := _law_answer_x1)
      (I := fun ds Γ => ∃ (p : List D) (is : List (Fin 8)) (t3 t4 : Sl), Cup p ∧ is.length + ds.length = is0.length + (1 + j) ∧ t3.isB = false ∧ t4.isB = false ∧ Γ = [.bor (.l p), .acc (.l [.str "lock you", .str "lock you", .str "lock me", .str "untag you", .str "untag me", .str "untag any", .str "tag me", .str "tag you", .str "unlock me"]), .acc (.l (is.map ddS)), t3, t4])
      ((List.range (1 + j)).map fun i => D.int (0 + (i : Nat))) _ ⟨p2, is0, .no, .no, P2, by rw [List.length_map, List.length_range], rfl, rfl, rfl⟩ fun d ds Γ ⟨p, is, t3, t4, P, hl, h3, h4, e⟩ => by
        subst e
        rw [List.length_cons] at hl
        obtain ⟨i, p', t, e, ht, P'⟩ := rowC_step P (is := is) (by omega) (k := d) h4
        exact ⟨[.bor (.l p), .acc (.l [.str "lock you", .str "lock you", .str "lock me", .str "untag you", .str "untag me", .str "untag any", .str "tag me", .str "tag you", .str "unlock me"]), .acc (.l (is.map ddS)), .im d, t4], by simp! [h3], _, .inl e, p', is ++ [i], .im d, t, P', by rw [List.length_append, List.length_singleton]; omega, rfl, ht, rfl⟩
    exact ⟨is, p', t3, t4, l1, by simpa using hl, P'⟩
  have hit : ∀ is0 : List (Fin 8), rng1 (aCons (op2 addD (cE (.int 1)) (telV (callV (some 0) 2 _law_sip_F [] (aCons (vE 0) (aCons (cE (.int 3)) aNil))))) aNil) [.bor (.l p1), .acc (.l [.str "lock you", .str "lock you", .str "lock me", .str "untag you", .str "untag me", .str "untag any", .str "tag me", .str "tag you", .str "unlock me"]), .acc (.l (is0.map ddS)), .no, .no] = .ok ((List.range (1 + j)).map fun i => D.int (0 + (i : Nat))) [.bor (.l p2), .acc (.l [.str "lock you", .str "lock you", .str "lock me", .str "untag you", .str "untag me", .str "untag any", .str "tag me", .str "tag you", .str "unlock me"]), .acc (.l (is0.map ddS)), .no, .no] := fun is0 =>
    rng_1n (by omega) (by simp! [e2])
  have g0 : gtD (.int n) (.int 0) = some (.bl (decide (n > 0))) := by rw [Ev.gtI]
  by_cases c : n > 0
  · obtain ⟨is, p', t3, t4, l, hl, P'⟩ := loop [2] (by decide)
    have hf := for_at (hit [2]) l
    rw [decide_eq_true c] at g0
    refine ⟨is, p', ?_, by intro z; subst z; simp only [List.length_nil] at hl; omega, by have h0 := hl; simp only [List.length_cons, List.length_nil] at h0; omega, P'⟩
    rw [show ([2] : List (Fin 8)).map ddS = [.str "unlock me"] from rfl] at hf
    unfold _law_answer_F _law_answer_b
    simp! [Ev.ifV, Ev.ifVK1, e1, g0, hf]
  · obtain ⟨is, p', t3, t4, l, hl, P'⟩ := loop [] (by decide)
    have hf := for_at (hit []) l
    rw [decide_eq_false c] at g0
    refine ⟨is, p', ?_, by intro z; subst z; simp only [List.length_nil] at hl; omega, by have h0 := hl; simp only [List.length_cons, List.length_nil] at h0; omega, P'⟩
    rw [show ([] : List (Fin 8)).map ddS = [] from rfl] at hf
    unfold _law_answer_F _law_answer_b
    simp! [Ev.ifV, Ev.ifVK0, e1, g0, hf]
theorem deedC_ev (i : Fin 8) (me you : Str) (b : Box) (hl : b.length ≤ 1000) (hn : ∀ p ∈ b, PyData.strOk p.2 = true) :
    _law_deed_F [.tup (bx b), .str (dT i), .str me, .str you] = .ok (rs (stp i me you b)) none := by
  have he := eq_empty b hn
  have h1 : 1 + (bx b).length ≤ sizeLine := by rw [bx_length]; show _ ≤ 2 ^ 24; omega
  have hs := split_dT i
  unfold _law_deed_F _law_deed_b
  match i, hs with
  | 0, hs => simp! [hs, vb, wm, inL2, eq_self, EFN, if_pos h1]; rfl
  | 1, hs => simp! [hs, vb, wm, inL2, eq_self, EFN, if_pos h1]; rfl
  | 3, hs => simp! [hs, vb, wm, inL2, eq_self, EFN, if_pos h1]; rfl
  | 4, hs => simp! [hs, vb, wm, inL2, eq_self, EFN, if_pos h1]; rfl
  | 2, hs =>
    match b, he with
    | [], he => simp! [hs, vb, wm, inL2, eq_self, EFN, he, List.isEmpty_nil]; rfl
    | (k, o) :: r, he =>
      simp only [bx_cons, List.isEmpty_cons] at he
      cases k with
      | true =>
        simp only [kd1] at he
        by_cases h : o = me
        · subst h; simp! only [hs, vb, wm, inL2, eq_self, EFN, he, bx_cons, kd1, cut1, stp, top1, rs, not_true, not_false_iff, decide_true, decide_false, ne_eq]
        · simp! only [hs, vb, wm, inL2, eq_self, EFN, he, bx_cons, kd1, cut1, h, stp, top1, rs, and_false, not_true, not_false_iff, decide_true, decide_false, ne_eq]
      | false =>
        simp only [kd0] at he
        simp! only [hs, vb, wm, inL2, eq_self, EFN, he, bx_cons, kd0, cut1, stp, top1, rs, false_and, not_true, not_false_iff, decide_true, decide_false, ne_eq]
  | 5, hs =>
    match b, he with
    | [], he => simp! [hs, vb, wm, inL2, eq_self, EFN, he, List.isEmpty_nil]; rfl
    | (k, o) :: r, he =>
      simp only [bx_cons, List.isEmpty_cons] at he
      cases k with
      | false =>
        simp only [kd0] at he
        by_cases h : o = me
        · subst h; simp! only [hs, vb, wm, inL2, eq_self, EFN, he, bx_cons, kd0, cut1, stp, top1, rs, not_true, not_false_iff, decide_true, decide_false, ne_eq]
        · simp! only [hs, vb, wm, inL2, eq_self, EFN, he, bx_cons, kd0, cut1, h, stp, top1, rs, and_false, not_true, not_false_iff, decide_true, decide_false, ne_eq]
      | true =>
        simp only [kd1] at he
        simp! only [hs, vb, wm, inL2, eq_self, EFN, he, bx_cons, kd1, cut1, stp, top1, rs, false_and, not_true, not_false_iff, decide_true, decide_false, ne_eq]
  | 6, hs =>
    match b, he with
    | [], he => simp! [hs, vb, wm, inL2, eq_self, EFN, he, List.isEmpty_nil]; rfl
    | (k, o) :: r, he =>
      simp only [bx_cons, List.isEmpty_cons] at he
      cases k with
      | false =>
        simp only [kd0] at he
        by_cases h : o = you
        · subst h; simp! only [hs, vb, wm, inL2, eq_self, EFN, he, bx_cons, kd0, cut1, stp, top1, rs, not_true, not_false_iff, decide_true, decide_false, ne_eq]
        · simp! only [hs, vb, wm, inL2, eq_self, EFN, he, bx_cons, kd0, cut1, h, stp, top1, rs, and_false, not_true, not_false_iff, decide_true, decide_false, ne_eq]
      | true =>
        simp only [kd1] at he
        simp! only [hs, vb, wm, inL2, eq_self, EFN, he, bx_cons, kd1, cut1, stp, top1, rs, false_and, not_true, not_false_iff, decide_true, decide_false, ne_eq]
  | 7, hs =>
    match b, he with
    | [], he => simp! [hs, vb, wm, inL2, eq_self, EFN, he, List.isEmpty_nil]; rfl
    | (k, o) :: r, he =>
      simp only [bx_cons, List.isEmpty_cons] at he
      cases k with
      | false =>
        simp only [kd0] at he
        simp! only [hs, vb, wm, inL2, eq_self, EFN, he, bx_cons, kd0, cut1, stp, rs, not_true, not_false_iff, decide_true, decide_false, ne_eq]
      | true =>
        simp only [kd1] at he
        simp! only [hs, vb, wm, inL2, eq_self, EFN, he, bx_cons, kd1, cut1, stp, rs, not_true, not_false_iff, decide_true, decide_false, ne_eq]
theorem doneC_loop {L : D} {me you : Str} (hm : PyData.strOk me = true) (hy : PyData.strOk you = true) : ∀ (is : List (Fin 8)) (o : Option Box) (s4 : Sl), (∀ b, o = some b → b.length + is.length ≤ 1000 ∧ BoxOk b) → s4.isB = false →
    ∃ t : Sl, loopS (bName 4) _law_done_2_x1 (is.map ddS) [.im L, .im (.str me), .im (.str you), .im (rs o), s4] = .ok .nx [.im L, .im (.str me), .im (.str you), .im (rs (o.bind (runD is me you))), t] ∧ t.isB = false
  | [], o, s4, _, h4 => ⟨s4, by cases o <;> rfl, h4⟩
  | i :: is, none, s4, ho, h4 => by
    obtain ⟨t, e, ht⟩ := doneC_loop hm hy is none (.im (ddS i)) (fun b h => by cases h) rfl (L := L)
    refine ⟨t, ?_, ht⟩
    rw [List.map_cons]
    refine Eq.trans (loop_cons (Γ1 := [.im L, .im (.str me), .im (.str you), .im .non, .im (ddS i)]) (Γ2 := [.im L, .im (.str me), .im (.str you), .im .non, .im (ddS i)]) (by simp! [h4, rs]) ?_) e
    simp! [_law_done_2_x1]
  | i :: is, some b, s4, ho, h4 => by
    obtain ⟨hl, hb⟩ := ho b rfl
    rw [List.length_cons] at hl
    have e1 := deedC_ev i me you b (by omega) hb
    have n1 : notND (.tup (bx b)) .non = some (.bl true) := rfl
    have er : (some b).bind (runD (i :: is) me you) = (stp i me you b).bind (runD is me you) := rfl
    obtain ⟨t, e, ht⟩ := doneC_loop hm hy is (stp i me you b) (.im (ddS i)) (fun b' h => by
      obtain ⟨h1, h2⟩ := stp_ok h hm hy hb
      exact ⟨by omega, h1⟩) rfl (L := L)
    refine ⟨t, ?_, ht⟩
    rw [List.map_cons, er]
    refine Eq.trans (loop_cons (Γ1 := [.im L, .im (.str me), .im (.str you), .im (.tup (bx b)), .im (ddS i)]) (Γ2 := [.im L, .im (.str me), .im (.str you), .im (rs (stp i me you b)), .im (ddS i)]) (by simp! [h4, rs]) ?_) e
    unfold ddS
    simp! [_law_done_2_x1, n1, e1]
theorem doneC_ev (me you : Str) (hm : PyData.strOk me = true) (hy : PyData.strOk you = true) (is : List (Fin 8)) (b : Box) (hl : b.length + is.length ≤ 1000) (hb : BoxOk b) :
    _law_done_2_F [.lst (is.map ddS), .str me, .str you, .tup (bx b)] = .ok (rs (runD is me you b)) none := by
  obtain ⟨t, e, ht⟩ := doneC_loop hm hy is (some b) .no (fun c h => by cases h; exact ⟨hl, hb⟩) rfl (L := .lst (is.map ddS))
  have hf := for_at (it := anyI (vE 0)) (Γ := [.im (.lst (is.map ddS)), .im (.str me), .im (.str you), .im (rs (some b)), .no]) (Γ1 := [.im (.lst (is.map ddS)), .im (.str me), .im (.str you), .im (rs (some b)), .no]) (ds := is.map ddS) (by simp! []) e
  rw [Option.bind_some] at hf
  unfold _law_done_2_F _law_done_2_b
  simp only [rs] at hf
  rw [Ev.runF]
  simp! [hf]
  cases runD is me you b <;> simp! [rs]
def lsD (j : List (Fin 8)) : D := .lst (j.map ddS)
def skD (is : List (Fin 8)) (js : List (List (Fin 8))) : List D := [lsD is, .lst (js.map lsD)]
def Three (x : Str) : Prop := x = "ann" ∨ x = "bob" ∨ x = "zed"
theorem Three.name {x : Str} (h : Three x) : IsName x := by
  rcases h with rfl | rfl | rfl <;> decide +kernel
structure Sk (m : Nat) (is : List (Fin 8)) (b : Box) (js : List (List (Fin 8))) : Prop where
  bk : BookOk is b js
  few : is.length ≤ 3
  most : js.length ≤ m
  rows : ∀ j ∈ js, j.length ≤ 4
  three : ∀ p ∈ b, Three p.2
  box : b.length ≤ 3
theorem put_run {me you : Str} : ∀ {is : List (Fin 8)} {b : Box}, (∀ i ∈ is, PutI i) → ∃ b', runD is me you b = some b' ∧ b'.length = b.length + is.length
  | [], b, _ => ⟨b, rfl, by simp⟩
  | i :: is, b, h => by
    have hi : ∃ c, stp i me you b = some c ∧ c.length = b.length + 1 := by
      rcases h i List.mem_cons_self with rfl | rfl | rfl | rfl <;> exact ⟨_, rfl, rfl⟩
    obtain ⟨c, hc, hl⟩ := hi
    obtain ⟨b', h1, h2⟩ := put_run (me := me) (you := you) (is := is) (b := c) fun i hi => h i (List.mem_cons_of_mem _ hi)
    refine ⟨b', ?_, by rw [List.length_cons]; omega⟩
    show (stp i me you b).bind _ = _
    rw [hc]; exact h1
theorem volC_ev {m : Nat} {is : List (Fin 8)} {b : Box} {js : List (List (Fin 8))} (S : Sk m is b js) : _law_vol_F [.lst (skD is js)] = .nw (.i "Book" bookN (bookV is b js)) none := by
  have B := S.bk
  have e0 : joinD (.str "; ") (lsD is) = _ := join_row (is := is) (by have := S.few; omega)
  have hcp := cmp_maps (vs := [1]) (b := bName 1) (elt := _law_vol_x1) (a := lsD) (c := fun j => D.str (rowT j)) (xs := js) (Γ := [.im (.lst (skD is js)), .no]) rfl (by have := B.ans.1; omega) fun j hj => by
    have e := join_row (is := j) (by have := S.rows j hj; omega)
    refine ⟨[.im (.lst (skD is js)), .im (lsD j)], by simp! only [], ?_, rfl⟩
    simp! only [_law_vol_x1, lsD, e]
  have hv := comp_at (it := anyI (op2 getD (vE 0) (cE (.int 1)))) (ds := js.map lsD) (Γ := [.im (.lst (skD is js)), .no]) (by simp! only [skD]) rfl hcp
  have tr : tupD (.lst (js.map fun j => D.str (rowT j))) = some (.tup (rows js)) := rfl
  have e2 := B.initX
  unfold _law_vol_F _law_vol_b
  simp only [skD] at hv ⊢
  simp! only [e0, hv, tr, e2]
theorem begunC_ev {m : Nat} {is : List (Fin 8)} {b : Box} {js : List (List (Fin 8))} (S : Sk m is b js) : _law_begun_F [.lst (skD is js)] = .ok (.tup (bx b)) none := by
  have e := doneC_ev "ann" "bob" (by decide +kernel) (by decide +kernel) is [] (by have := S.few; simp; omega) (fun _ h => by cases h)
  rw [S.bk.run, rs_some, show bx [] = [] from rfl] at e
  unfold _law_begun_F _law_begun_b
  simp! only [skD, lsD, e]
variable {is : List (Fin 8)} {b : Box} {js : List (List (Fin 8))} {bs : List Box}
inductive Way where
  | put (k : Bool) (x : Str) | tak (k : Bool) | ans (k : Nat) (me you : Str)
  deriving DecidableEq
def wyL : Way → List D
  | .put k x => [.str (kd k), .str x]
  | .tak k => [.str (unT k)]
  | .ans k me you => [.str "answer", .int (k : Nat), .str me, .str you]
def three : List Str := ["ann", "bob", "zed"]
end
section
variable {is : List (Fin 8)} {b : Box} {js : List (List (Fin 8))} {bs : List Box}
end
section
variable {is : List (Fin 8)} {b : Box} {js : List (List (Fin 8))} {bs : List Box}
def mvW (a : Nat) : Way → Mv
  | .put k x => .put k a x
  | .tak k => .tak k a
  | .ans k me you => .ans a k me you
end
section
variable {is : List (Fin 8)} {b : Box} {js : List (List (Fin 8))} {bs : List Box}
def stD (a : Nat) (w : Way) : D := mvD (mvW a w)
theorem st_head (a : Nat) (w : Way) : ∃ h t, wyL w = h :: t ∧ stD a w = .tup (h :: .int (a : Nat) :: t) ∧ t.length ≤ 3 := by
  cases w with
  | put k x => exact ⟨_, _, rfl, rfl, Nat.le_of_ble_eq_true rfl⟩
  | tak k => exact ⟨_, _, rfl, rfl, Nat.le_of_ble_eq_true rfl⟩
  | ans k me you => exact ⟨_, _, rfl, rfl, Nat.le_of_ble_eq_true rfl⟩
end
section
variable {is : List (Fin 8)} {b : Box} {js : List (List (Fin 8))} {bs : List Box}
def four : List Str := ["ann", "bob", "zed", "Ann"]
def allW : List Way := (four.flatMap fun x => [.put true x, .put false x]) ++ [.tak true, .tak false] ++ (List.range 4).flatMap fun k => three.flatMap fun me => three.map fun you => .ans k me you
theorem shownAll_len : ∀ ps : List PyData, (PyData.shownAll ps).length = ps.length
  | [] => rfl
  | p :: ps => by
    show (_ :: PyData.shownAll ps).length = _
    rw [List.length_cons, List.length_cons, shownAll_len ps]
end
section
variable {is : List (Fin 8)} {b : Box} {js : List (List (Fin 8))} {bs : List Box}
end
section
variable {is : List (Fin 8)} {b : Box} {js : List (List (Fin 8))} {bs : List Box}
def wyF : Way → Bool
  | .put _ x => decide (x ∈ four)
  | .tak _ => true
  | .ans k me you => decide (k < 4) && (decide (me ∈ three) && decide (you ∈ three))
theorem wyF_all : allW.all wyF = true := by decide +kernel
theorem wyF_at {w : Way} (h : w ∈ allW) : wyF w = true := List.all_eq_true.mp wyF_all w h
theorem four_ok : ∀ x ∈ four, PyData.strOk x = true ∧ x.length ≤ 9 := by decide +kernel
theorem three_four {x : Str} (h : x ∈ three) : x ∈ four := by
  have : ∀ x ∈ three, x ∈ four := by decide +kernel
  exact this x h
def MvV (v : D) : Prop := ∃ a w, a < 16 ∧ w ∈ allW ∧ v = stD a w
def StV (v : D) : Prop := MvV v ∨ v = .tup [.str "lock", .bl true, .str "ann"] ∨ v = .tup [.str "answer", .int ((0 : Nat) : Int), .bl true, .str "bob", .str "zed"] ∨ v = .tup [.str "open", .int ((0 : Nat) : Int)] ∨ isB "tuple" v = some false ∨ ∃ ms : List D, (∀ m ∈ ms, MvV m) ∧ ms.length ≤ 50 ∧ v = .tup ms
end
section
variable {is : List (Fin 8)} {b : Box} {js : List (List (Fin 8))} {bs : List Box}
theorem MvV.okW {v : D} (h : MvV v) : OkW v := by
  obtain ⟨a, w, ha, hw, rfl⟩ := h
  have hf := wyF_at hw
  have f9 : ∀ x ∈ four, x.length ≤ 10000 := fun x hx => by have := (four_ok x hx).2; omega
  refine .inl ?_
  cases w with
  | put k x => exact ⟨_, rfl, fun y hy => by
      rcases List.mem_cons.mp hy with rfl | hy
      · exact .inr (.inl ⟨_, rfl, kd_len k⟩)
      rcases List.mem_cons.mp hy with rfl | hy
      · exact .inl ⟨_, rfl⟩
      · rw [List.mem_singleton.mp hy]; exact .inr (.inl ⟨_, rfl, f9 x (of_decide_eq_true hf)⟩), Nat.le_of_ble_eq_true rfl⟩
  | tak k => exact ⟨_, rfl, fun y hy => by
      rcases List.mem_cons.mp hy with rfl | hy
      · exact .inr (.inl ⟨_, rfl, unT_len k⟩)
      · rw [List.mem_singleton.mp hy]; exact .inl ⟨_, rfl⟩, Nat.le_of_ble_eq_true rfl⟩
  | ans k me you =>
    obtain ⟨h1, h2⟩ := He.ba hf
    obtain ⟨h2, h3⟩ := He.ba h2
    exact ⟨_, rfl, fun y hy => by
      rcases List.mem_cons.mp hy with rfl | hy
      · exact .inr (.inl ⟨_, rfl, by decide +kernel⟩)
      rcases List.mem_cons.mp hy with rfl | hy
      · exact .inl ⟨_, rfl⟩
      rcases List.mem_cons.mp hy with rfl | hy
      · exact .inl ⟨_, rfl⟩
      rcases List.mem_cons.mp hy with rfl | hy
      · exact .inr (.inl ⟨_, rfl, f9 _ (three_four (of_decide_eq_true h2))⟩)
      · rw [List.mem_singleton.mp hy]; exact .inr (.inl ⟨_, rfl, f9 _ (three_four (of_decide_eq_true h3))⟩), Nat.le_of_ble_eq_true rfl⟩
theorem StV.okW {v : D} (h : StV v) : OkW v := by
  have bo : ElW (.bl true) := .inr (.inr ⟨rfl, .inr ⟨rfl, rfl⟩⟩)
  have st : ∀ x : Str, x.length ≤ 10000 → ElW (.str x) := fun x hx => .inr (.inl ⟨x, rfl, hx⟩)
  rcases h with h | rfl | rfl | rfl | hv | ⟨ms, hm, hml, rfl⟩
  · exact h.okW
  · exact .inl ⟨_, rfl, fun y hy => by
      rcases List.mem_cons.mp hy with rfl | hy
      · exact st _ (by decide +kernel)
      rcases List.mem_cons.mp hy with rfl | hy
      · exact bo
      · rw [List.mem_singleton.mp hy]; exact st _ (by decide +kernel), Nat.le_of_ble_eq_true rfl⟩
  · exact .inl ⟨_, rfl, fun y hy => by
      rcases List.mem_cons.mp hy with rfl | hy
      · exact st _ (by decide +kernel)
      rcases List.mem_cons.mp hy with rfl | hy
      · exact .inl ⟨_, rfl⟩
      rcases List.mem_cons.mp hy with rfl | hy
      · exact bo
      rcases List.mem_cons.mp hy with rfl | hy
      · exact st _ (by decide +kernel)
      · rw [List.mem_singleton.mp hy]; exact st _ (by decide +kernel), Nat.le_of_ble_eq_true rfl⟩
  · exact .inl ⟨_, rfl, fun y hy => by
      rcases List.mem_cons.mp hy with rfl | hy
      · exact st _ (by decide +kernel)
      · rw [List.mem_singleton.mp hy]; exact .inl ⟨_, rfl⟩, Nat.le_of_ble_eq_true rfl⟩
  · exact .inr hv
  · refine .inl ⟨ms, rfl, fun y hy => ?_, by omega⟩
    obtain ⟨a, w, ha, hw, rfl⟩ := hm y hy
    obtain ⟨h, t, _, q2, _⟩ := st_head a w
    rw [q2]
    exact .inr (.inr ⟨rfl, .inl rfl⟩)
end
section
def layP (p : Bool × Str) : PyData := .tuple [.str (kd p.1), .str p.2]
def bxP (c : Box) : PyData := .tuple (c.map layP)
theorem pys_map {α : Type} {f : α → D} {g : α → PyData} (h : ∀ a, (f a).py = some (g a)) : ∀ xs : List α, D.pys (xs.map f) = some (xs.map g)
  | [] => rfl
  | x :: xs => by
    show ((f x).py).bind (fun p => (D.pys (xs.map f)).map fun ps => p :: ps) = _
    rw [h x, pys_map h xs]; rfl
theorem py_lay (p : Bool × Str) : (lay p).py = some (layP p) := rfl
theorem py_bx (c : Box) : (D.tup (bx c)).py = some (bxP c) := by
  show (D.pys (c.map lay)).map PyData.tuple = _
  rw [pys_map py_lay]; rfl
theorem eqvAll_map {α : Type} [DecidableEq α] {f : α → PyData} (h : ∀ a b, PyData.eqv (f a) (f b) = decide (a = b)) : ∀ xs ys : List α, PyData.eqvAll (xs.map f) (ys.map f) = decide (xs = ys)
  | [], [] => rfl
  | [], y :: ys => rfl
  | x :: xs, [] => rfl
  | x :: xs, y :: ys => by
    rw [List.map_cons, List.map_cons]
    simp only [PyData.eqvAll, eqvAll_map h xs ys, h]
    rw [Bool.eq_iff_iff]
    simp
theorem kd_inj : ∀ a b : Bool, (kd a = kd b) = (a = b) := by
  intro a b
  cases a <;> cases b <;> simp [kd] <;> decide +kernel
theorem eqv_lay (p q : Bool × Str) : PyData.eqv (layP p) (layP q) = decide (p = q) := by
  obtain ⟨a, x⟩ := p
  obtain ⟨b, y⟩ := q
  show PyData.eqv (.tuple [.str (kd a), .str x]) (.tuple [.str (kd b), .str y]) = _
  simp only [PyData.eqv, PyData.eqvAll]
  rw [Bool.eq_iff_iff]
  simp [beq_iff_eq, kd_inj]
theorem eqv_bx (c d : Box) : PyData.eqv (bxP c) (bxP d) = decide (c = d) := by
  show PyData.eqv (.tuple _) (.tuple _) = _
  simp only [PyData.eqv]
  exact eqvAll_map eqv_lay c d
theorem shaped_of {d : D} {p : PyData} {k n : Nat} (h : Sm d k n) (hk : k ≤ 60) (e : d.py = some p) : SeqAt.shaped p = true := by
  obtain ⟨q, h1, h2, _, _, h5, _⟩ := h
  rw [e] at h1
  cases h1
  exact Bool.and_eq_true_iff.mpr ⟨h2, decide_eq_true (by omega)⟩
theorem eq_bx {c d : Box} (hc : ∀ p ∈ c, IsName p.2) (hd : ∀ p ∈ d, IsName p.2) : eqB (.tup (bx c)) (.tup (bx d)) = some (decide (c = d)) := by
  show eqP _ _ = _
  unfold eqP
  rw [py_bx, py_bx]
  simp only [shaped_of (Sm_box hc) (by decide) (py_bx c), shaped_of (Sm_box hd) (by decide) (py_bx d), Bool.and_self, if_true, eqv_bx]
variable {is : List (Fin 8)} {b : Box} {js : List (List (Fin 8))}
end
section
variable {is : List (Fin 8)} {b : Box} {js : List (List (Fin 8))} {bs : List Box}
theorem last_bxs2 (c : Box) : L2.atI (bxs (bs ++ [c])) (-1) = some (.tup (bx c)) := by rw [bxs_snoc]; exact atI_last _ _
end
section
variable {is : List (Fin 8)} {b : Box} {js : List (List (Fin 8))} {bs : List Box}
def SV (v : D) : Prop := (∃ ss : List D, v = .tup ss ∧ (∀ x ∈ ss, StV x) ∧ ss.length ≤ 14) ∨ isB "tuple" v = some false
def judgeB (js : List (List (Fin 8))) (b c : Box) (most : Int) : D → Bool
  | .tup ss => decide ((ss.length : Int) ≤ most) && (match runS js [b] ss 0 with
    | (none, bs') => decide (bs'.getLast? = some c)
    | _ => false)
  | _ => false
theorem judge_tup {c : Box} {most : Int} {ss : List D} : judgeB js b c most (.tup ss) = (decide ((ss.length : Int) ≤ most) && (match runS js [b] ss 0 with
    | (none, bs') => decide (bs'.getLast? = some c)
    | _ => false)) := rfl
theorem judge_no {c : Box} {most : Int} {v : D} (h : isB "tuple" v = some false) : judgeB js b c most v = false := by
  cases v with
  | tup xs => cases h
  | _ => rfl
theorem last_get {bs : List Box} (h : 0 < bs.length) : ∃ x, bs.getLast? = some x ∧ L2.atI (bxs bs) (-1) = some (.tup (bx x)) ∧ x ∈ bs := by
  have hne : bs ≠ [] := by intro z; subst z; cases h
  obtain ⟨st, b0, rfl⟩ : ∃ t c, bs = t ++ [c] := ⟨bs.dropLast, bs.getLast hne, (List.dropLast_concat_getLast hne).symm⟩
  exact ⟨b0, by simp, last_bxs2 b0, by simp⟩
theorem eq_bxD {c d : Box} (hc : ∀ p ∈ c, IsName p.2) (hd : ∀ p ∈ d, IsName p.2) : eqD (.tup (bx c)) (.tup (bx d)) = some (.bl (decide (c = d))) := by
  show (eqB _ _).map D.bl = _
  rw [eq_bx hc hd]; rfl
theorem shows_ev (B : BookOk is b js) {c : Box} (hc : ∀ p ∈ c, IsName p.2) (most : Int) {v : D} (hv : SV v) : shows_got_F [.ins "Book" bookN (bookV is b js), .tup (bx c), .int most, v] = .ok (.bl (judgeB js b c most v)) none := by
  have ng : ∀ Γ : En, negE (cE (.int 1)) Γ = .ok (.d (.int (-1))) Γ := fun _ => rfl
  have hb : BxI [b] := BxI.one B.names.1 B.names.2
  have ei := mail_init_evW (is := is) (b := b) (js := js)
  have e4 : mailN.contains "led" = false := by kernel_rfl
  have e5 : ([] : List Str).contains "led" = false := rfl
  have hb1 : [D.tup (bx b)] = bxs [b] := rfl
  have n0 := nsl 0 (by decide)
  have ml : mailN.length = 2 := rfl
  rw [hb1] at ei
  rcases hv with ⟨ss, rfl, hs, hl⟩ | hv
  · have le : leD (.int (ss.length : Nat)) (.int most) = some (.bl (decide ((ss.length : Int) ≤ most))) := by rw [Ev.leI]
    cases hr : runS js [b] ss 0 with
    | mk o bs' =>
      cases o with
      | some q =>
        have e := ledA_noW B hb (by simp; omega) (fun s h => (hs s h).okW) hr
        have : judgeB js b c most (.tup ss) = false := by rw [judge_tup, hr]; exact Bool.and_false _
        rw [this]
        unfold shows_got_F shows_got_b
        simp! only [shows_got_x1, Ev.all5, Ev.tryO, Ev.trOK1, Ev.trOK2, ei, e4, e5, e]
      | none =>
        obtain ⟨hi, e⟩ := ledA_okW B hb (by simp; omega) (fun s h => (hs s h).okW) hr
        have h0 : 0 < bs'.length := by
          have : ∀ (ss : List D) (bs bs' : List Box) (k : Nat), 0 < bs.length → runS js bs ss k = (none, bs') → 0 < bs'.length := by
            intro ss
            induction ss with
            | nil => intro bs bs' k h e; cases e; exact h
            | cons s ss ih =>
              intro bs bs' k h e
              unfold runS at e
              split at e
              · exact ih _ _ _ (by rw [List.length_append]; omega) e
              · cases e
          exact this ss [b] bs' 0 (by simp) hr
        obtain ⟨x, g1, g2, g3⟩ := last_get h0
        have hj : judgeB js b c most (.tup ss) = (decide ((ss.length : Int) ≤ most) && decide (x = c)) := by
          rw [judge_tup, hr]
          show (_ && decide (bs'.getLast? = some c)) = _
          rw [g1]
          by_cases h : x = c <;> simp [h]
        rw [hj]
        have eq := eq_bxD ((hi.ok x g3).1) hc
        have em := mail_boxes_ev (is := is) (b := b) (js := js) (bs := bs')
        unfold shows_got_F shows_got_b
        by_cases hm : (ss.length : Int) ≤ most
        · rw [decide_eq_true hm] at le ⊢
          rcases e with e | e
          · simp! only [shows_got_x1, Ev.all5, Ev.tryO, Ev.trOK1, ei, e4, e5, e, le, em, ng, g2, eq]
          · simp! only [shows_got_x1, Ev.all5, Ev.tryO, Ev.trOK1, ei, e4, e5, e, le, em, ng, g2, eq]
        · rw [decide_eq_false hm] at le ⊢
          rcases e with e | e
          · simp! only [shows_got_x1, Ev.all5, Ev.tryO, Ev.trOK1, ei, e4, e5, e, le, Bool.false_and]
          · simp! only [shows_got_x1, Ev.all5, Ev.tryO, Ev.trOK1, ei, e4, e5, e, le, Bool.false_and]
  · rw [judge_no hv]
    have e := ledA_noneW (is := is) (b := b) (js := js) (bs := [b]) hv
    unfold shows_got_F shows_got_b
    simp! only [shows_got_x1, Ev.all5, Ev.tryO, Ev.trOK1, Ev.trOK2, ei, e4, e5, e]
end
section
variable {is : List (Fin 8)} {b : Box} {js : List (List (Fin 8))} {bs : List Box}
theorem at3 {x y z w : D} : L2.atI [x, y, z, w] 3 = some w := rfl
theorem in_people {x : Str} (h : Three x) : inD (.str x) c_PEOPLE = some (.bl true) := by
  rcases h with rfl | rfl | rfl <;> kernel_rfl
theorem known_ev {c : Box} (hc : ∀ p ∈ c, Three p.2) (hl : c.length ≤ 12) : is_known_F [.tup (bx c)] = .ok (.bl true) none := by
  have e1 := is_box_ev c (by omega) (fun p hp => by have := (hc p hp).name.2.1; omega)
  rw [decide_eq_true hl, List.all_eq_true.mpr (fun p hp => nameB_iff.mpr (hc p hp).name)] at e1
  have hcp := cmp_maps (vs := [1]) (b := bName 1) (elt := is_known_x1) (a := lay) (c := fun _ => D.bl true) (xs := c) (Γ := [.im (.tup (bx c)), .no]) rfl (by omega) fun p hp => by
    have e := in_people (hc p hp)
    refine ⟨[.im (.tup (bx c)), .im (lay p)], by simp! only [], ?_, rfl⟩
    simp! only [is_known_x1, lay, e]
  have hv := comp_at (it := anyI (vE 0)) (ds := c.map lay) (Γ := [.im (.tup (bx c)), .no]) (by simp! only []; rfl) rfl hcp
  have al : allD (.lst (c.map fun _ => D.bl true)) = some (.bl true) := by
    have := all_map (fun _ : Bool × Str => true) c
    rw [List.all_eq_true.mpr (fun _ _ => rfl)] at this
    exact this
  unfold is_known_F is_known_b
  simp! only [e1, hv, al]
theorem book_of_ev (B : BookOk is b js) : book_of_F [.str (bookT is js)] = .nw (.i "Book" bookN (bookV is b js)) none := by
  have e := read_evW B
  unfold book_of_F book_of_b
  simp! only [book_of_x1, Ev.all5, Ev.all6, Ev.tryO, Ev.trOK1, e]
theorem integer_ev (i : Int) : is_integer_F [.int i] = .ok (.bl true) none := by
  unfold is_integer_F is_integer_b
  simp! only [Ev.all5, int_iZW, int_bZW]
theorem book_in_ev (B : BookOk is b js) {c : Box} (hc : ∀ p ∈ c, Three p.2) (hl : c.length ≤ 12) {most : Int} (hm : 0 ≤ most) : book_in_F [.tup [.str "got", .str (bookT is js), .tup (bx c), .int most]] = .nw (.i "Book" bookN (bookV is b js)) none := by
  have e1 := known_ev hc hl
  have e2 := integer_ev most
  have e3 := book_of_ev B
  have lt : ltD (.int most) (.int 0) = some (.bl false) := by rw [Ev.ltI, decide_eq_false (by omega)]
  have kg : ∀ Γ : En, FL.kgK [.inr "got", .inr "never"] [.int 4, .int 3] (.d (.str "got")) Γ = .ok (.d (.int 4)) Γ := fun Γ => Ev.kgK (by kernel_rfl)
  have q0 : eqD (.int ((4 : Nat) : Int)) (.int 0) = some (.bl false) := rfl
  have q4 : eqD (.int ((4 : Nat) : Int)) (.int 4) = some (.bl true) := rfl
  have n4 : neD (.int 4) (.int ((4 : Nat) : Int)) = some (.bl false) := rfl
  unfold book_in_F book_in_b
  simp! only [Ev.all5, Ev.kgE, ↓kg, isTW, isSW, at3, e1, e2, e3, lt, q0, q4, n4]
end
section
variable {is : List (Fin 8)} {b : Box} {js : List (List (Fin 8))} {bs : List Box}
end
section
variable {is : List (Fin 8)} {b : Box} {js : List (List (Fin 8))} {bs : List Box}
end
section
variable {is : List (Fin 8)} {b : Box} {js : List (List (Fin 8))} {bs : List Box}
end
section
variable {is : List (Fin 8)} {b : Box} {js : List (List (Fin 8))}
end
section
variable {is : List (Fin 8)} {b : Box} {js : List (List (Fin 8))}
end
section
variable {is : List (Fin 8)} {b : Box} {js : List (List (Fin 8))}
end
section
def preB (p w : Str) : Bool := decide (cutS w none (some (p.length : Nat)) = p)
def rest (p w : Str) : Str := cutS w (some (p.length : Nat)) none
theorem pre_app {p w : Str} (h : preB p w = true) : w = p ++ rest p w := by
  have h := of_decide_eq_true h
  refine TL.ext_tl ?_
  unfold rest
  rw [TL.tl_append, tl_cut2]
  have := congrArg TL.tl h
  rw [tl_cut1] at this
  conv => rhs; rw [← this]
  rw [List.take_append_drop]
theorem sw_any (p w : Str) : swD (.str w) (.str p) = some (.bl (preB p w)) := by
  show some (D.bl (Txt.startswith w p)) = _
  have hx : (TL.tl w).length = w.length := (TL.len_tl w).symm
  have hp : (TL.tl p).length = p.length := (TL.len_tl p).symm
  congr 2
  cases h : preB p w with
  | true =>
    rw [pre_app h]
    exact PySem.W.KT.starts_app _ _
  | false =>
    unfold Txt.startswith
    rw [StrLaws.subAt_eq, List.drop_zero]
    have h := of_decide_eq_false h
    have : ((w.cps.toList.take p.length) == p.cps.toList) = false := by
      rw [beq_eq_false_iff_ne]
      intro e
      apply h
      refine TL.ext_tl ?_
      rw [tl_cut1]
      exact e
    rw [this, Bool.and_false]
theorem rp_any {p w : Str} (h : preB p w = true) (hl : w.length ≤ 16777216) : rpD (.str w) (.str p) = some (.str (rest p w)) := by
  have e := pre_app h
  have := rp_at (a := p) (y := rest p w) (by rw [← e]; exact hl)
  rw [← e] at this
  exact this
def S1 (ws : List Str) : Nat := (ws.map (·.length)).sum + ws.length
theorem S1_cons (w : Str) (ws : List Str) : S1 (w :: ws) = w.length + 1 + S1 ws := by
  unfold S1; rw [List.map_cons, List.sum_cons, List.length_cons]; omega
theorem S1_join : ∀ ws : List Str, S1 ws ≤ (Str.join "\x0a" ws).length + 1
  | [] => by simp [S1]
  | [w] => by
    rw [S1_cons, show Str.join "\x0a" [w] = w from rfl]; simp [S1]
  | w :: v :: r => by
    have ih := S1_join (v :: r)
    rw [S1_cons, show Str.join "\x0a" (w :: v :: r) = w ++ "\x0a" ++ Str.join "\x0a" (v :: r) from rfl, len_app, len_app, show (Str.ofString "\x0a").length = 1 by decide +kernel]
    omega
theorem S1_split (x : Str) : S1 (Txt.split x "\x0a") ≤ x.length + 1 := by
  have := S1_join (Txt.split x "\x0a")
  rw [StrLaws.join_split] at this
  exact this
theorem S1_mem : ∀ {ws : List Str} {w : Str}, w ∈ ws → w.length + 1 ≤ S1 ws
  | [], _, h => by cases h
  | v :: ws, w, h => by
    rw [S1_cons]
    rcases List.mem_cons.mp h with rfl | h
    · omega
    · have := S1_mem h; omega
theorem S1_len : ∀ ws : List Str, ws.length ≤ S1 ws := fun ws => by unfold S1; omega
theorem lines_ne (x : Str) : ∃ l ls, Txt.split x "\x0a" = l :: ls := by
  cases h : Txt.split x "\x0a" with
  | nil =>
    exfalso
    have := StrLaws.join_split x "\x0a"
    rw [h] at this
    have hx : x = Str.empty := this.symm
    subst hx
    have e2 : Txt.split Str.empty "\x0a" = [Str.empty] := by kernel_rfl
    rw [e2] at h
    cases h
  | cons l ls => exact ⟨l, ls, rfl⟩
theorem line_len {x l : Str} {ls : List Str} (h : Txt.split x "\x0a" = l :: ls) : (∀ w ∈ l :: ls, w.length ≤ x.length) ∧ ls.length ≤ x.length := by
  have h1 := S1_split x
  rw [h] at h1
  refine ⟨fun w hw => ?_, ?_⟩
  · have := S1_mem hw; omega
  · have := S1_len (l :: ls)
    rw [List.length_cons] at this; omega
theorem cmp_if {α : Type} {vs : List Nat} {b : BF} {tt : TF} {elt : EF} {a c : α → D} {P : α → Bool} {Γ : En} (hw : wipeΓ Γ vs = Γ) : ∀ (xs : List α) (acc : List D), acc.length + xs.length ≤ 16777216 →
    (∀ x ∈ xs, ∃ Γ1, b (a x) Γ = some Γ1 ∧ tt Γ1 = .ok (P x) Γ1 ∧ (P x = true → elt Γ1 = .ok (.d (c x)) Γ1) ∧ wipeΓ Γ1 vs = Γ) → cmpL vs b tt elt (xs.map a) acc Γ = .ok (.n (.l (acc ++ (xs.filter P).map c))) Γ
  | [], acc, _, _ => by simp [cmpL]
  | d :: ds, acc, hl, hs => by
    obtain ⟨Γ1, e1, e2, e3, e4⟩ := hs d List.mem_cons_self
    rw [List.length_cons] at hl
    rw [List.map_cons]
    have hz : acc.length < sizeLine := by show _ < 2 ^ 24; omega
    cases hp : P d with
    | false =>
      rw [hp] at e2
      have ih := cmp_if (a := a) (c := c) (P := P) (elt := elt) (tt := tt) (b := b) hw ds acc (by omega) fun d hd => hs d (List.mem_cons_of_mem _ hd)
      rw [List.filter_cons_of_neg (by rw [hp]; decide), ← ih]
      simp only [cmpL, hw, e1, e2, e4]
    | true =>
      rw [hp] at e2
      have ih := cmp_if (a := a) (c := c) (P := P) (elt := elt) (tt := tt) (b := b) hw ds (acc ++ [c d]) (by rw [List.length_append, List.length_singleton]; omega) fun d hd => hs d (List.mem_cons_of_mem _ hd)
      rw [List.filter_cons_of_pos hp, List.map_cons, List.append_cons, ← ih]
      simp only [cmpL, hw, e1, e2, e3 hp, e4, Ev.frzd, if_pos hz]
def anB (w : Str) : Bool := preB "answer " w
def anT (w : Str) : Str := rest "answer " w
theorem filt_len {α : Type} (P : α → Bool) : ∀ xs : List α, (xs.filter P).length ≤ xs.length ∧ ((xs.filter P).length = xs.length ↔ xs.all P = true)
  | [] => ⟨Nat.le_refl _, by simp⟩
  | x :: xs => by
    obtain ⟨i1, i2⟩ := filt_len P xs
    cases h : P x with
    | true =>
      rw [List.filter_cons_of_pos h, List.all_cons, h, Bool.true_and, List.length_cons, List.length_cons]
      exact ⟨by omega, by rw [← i2]; omega⟩
    | false =>
      rw [List.filter_cons_of_neg (by rw [h]; decide), List.all_cons, h, Bool.false_and, List.length_cons]
      exact ⟨by omega, ⟨fun e => by omega, fun e => by cases e⟩⟩
theorem parts_headW {x l : Str} {ls : List Str} (hl : x.length ≤ 9000) (h : Txt.split x "\x0a" = l :: ls)
    (hb : preB "first " l = false ∨ box_begun_F [.str (rest "first " l)] = .ok .non none ∨ 4 < ls.length) (hr : preB "first " l = true → ∃ z, box_begun_F [.str (rest "first " l)] = .ok z none ∧ isND z .non = some (.bl (match z with | .non => true | _ => false))) : parts_of_F [.str x] = .ok .non none := by
  have hn := line_len h
  have ll := hn.1 l List.mem_cons_self
  have hsp : splitD (.str x) (.str "\x0a") = some (.lst (.str l :: sm ls)) := by
    show (if _ then _ else _) = _
    rw [if_pos ⟨by decide +kernel, by rw [sizeLine_eq]; omega⟩]
    show some (D.lst ((Txt.split x "\x0a").map D.str)) = _
    rw [h]; rfl
  have is1 : isB "str" (.str x) = some true := rfl
  have e2 := sw_any "first " l
  have hz : ls.length ≤ 16000 := by omega
  have sl := sm_length ls
  have n1 : isND .non .non = some (.bl true) := rfl
  unfold parts_of_F parts_of_b
  cases hp : preB "first " l with
  | false =>
    rw [hp] at e2
    simp! only [c_FIRST, c_MOST_ANSWERS, Ev.all5, Ev.bHr, hsp, sl, if_pos hz, is1, e2]
    done
  | true =>
    rw [hp] at e2
    have e3 := rp_any hp (by omega)
    obtain ⟨z, z1, z2⟩ := hr hp
    rcases hb with hb | hb | hb
    · rw [hp] at hb; cases hb
    · simp! only [c_FIRST, c_MOST_ANSWERS, Ev.all5, Ev.bHr, hsp, sl, if_pos hz, is1, e2, e3, hb, n1]
      done
    · have g4 : gtD (.int (ls.length : Nat)) (.int 4) = some (.bl true) := by rw [Ev.gtI, decide_eq_true (by omega)]
      cases hz2 : isND z .non with
      | none => rw [hz2] at z2; cases z2
      | some q =>
        obtain ⟨b, rfl⟩ : ∃ b, q = .bl b := by rw [hz2] at z2; cases z2; exact ⟨_, rfl⟩
        cases b
        · simp! only [c_FIRST, c_MOST_ANSWERS, Ev.all5, Ev.bHr, hsp, sl, if_pos hz, is1, e2, e3, z1, hz2, g4]
          done
        · simp! only [c_FIRST, c_MOST_ANSWERS, Ev.all5, Ev.bHr, hsp, sl, if_pos hz, is1, e2, e3, z1, hz2, g4]
          done
theorem parts_tailW {x l : Str} {ls : List Str} (hl : x.length ≤ 9000) (h : Txt.split x "\x0a" = l :: ls) (hp : preB "first " l = true) {c : Box} (hc : box_begun_F [.str (rest "first " l)] = .ok (.tup (bx c)) none) (h4 : ls.length ≤ 4) (ha : ls.all anB = false) :
    parts_of_F [.str x] = .ok .non none := by
  have hn := line_len h
  have ll := hn.1 l List.mem_cons_self
  have hsp : splitD (.str x) (.str "\x0a") = some (.lst (.str l :: sm ls)) := by
    show (if _ then _ else _) = _
    rw [if_pos ⟨by decide +kernel, by rw [sizeLine_eq]; omega⟩]
    show some (D.lst ((Txt.split x "\x0a").map D.str)) = _
    rw [h]; rfl
  have is1 : isB "str" (.str x) = some true := rfl
  have e2 := sw_any "first " l
  rw [hp] at e2
  have e3 := rp_any hp (by omega)
  have hz : ls.length ≤ 16000 := by omega
  have sl := sm_length ls
  have n1 : ∀ xs, isND (.tup xs) .non = some (.bl false) := fun _ => rfl
  have g4 : gtD (.int (ls.length : Nat)) (.int 4) = some (.bl false) := by rw [Ev.gtI, decide_eq_false (by omega)]
  have hcp := cmp_if (vs := [4]) (b := bName 4) (tt := parts_of_x3) (elt := parts_of_x2) (a := D.str) (c := fun w => D.str (anT w)) (P := anB) (Γ := [.im (.str x), .im (.str l), .im (.lst (sm ls)), .no, .no, .no]) rfl ls [] (by simp; omega) fun w hw => by
    have f1 := sw_any "answer " w
    refine ⟨[.im (.str x), .im (.str l), .im (.lst (sm ls)), .no, .im (.str w), .no], by simp! only [], ?_, fun ha => ?_, rfl⟩
    · simp! only [parts_of_x3, c_ANSWER, Ev.all5, f1, anB]
    · have f2 := rp_any (p := "answer ") ha (by have := hn.1 w (List.mem_cons_of_mem _ hw); omega)
      simp! only [parts_of_x2, c_ANSWER, Ev.all5, f2, anT]
  rw [List.nil_append] at hcp
  have hv := comp_at (it := anyI (vE 2)) (ds := ls.map D.str) (Γ := [.im (.str x), .im (.str l), .im (.lst (sm ls)), .no, .no, .no]) (by simp! only []; rfl) rfl hcp
  obtain ⟨k1, k2⟩ := filt_len anB ls
  have hA : (List.map (fun w => D.str (anT w)) (ls.filter anB)) = ((ls.filter anB).map anT).map D.str := by rw [List.map_map]; rfl
  rw [hA] at hv
  have tr : ∀ xs : List D, tupD (.lst xs) = some (.tup xs) := fun _ => rfl
  have la : (((ls.filter anB).map anT).map D.str).length = (ls.filter anB).length := by rw [List.length_map, List.length_map]
  unfold parts_of_F parts_of_b
  have lt : ltD (.int ((ls.filter anB).length : Nat)) (.int (ls.length : Nat)) = some (.bl true) := by
    rw [Ev.ltI, decide_eq_true]
    have : (ls.filter anB).length ≠ ls.length := fun e => by rw [k2.mp e] at ha; cases ha
    omega
  generalize ((ls.filter anB).map anT).map D.str = zs at hv la
  simp! only [c_FIRST, c_MOST_ANSWERS, Ev.all5, Ev.bHr, hsp, sl, if_pos hz, is1, e2, e3, hc, n1, g4, hv, tr, la, lt, Bool.false_and]
theorem no_textW {x : Str} (hl : x.length ≤ 9000) (hf : ∀ r : Str, x ≠ "first " ++ r) : parts_of_F [.str x] = .ok .non none := by
  obtain ⟨l, ls, h⟩ := lines_ne x
  cases hp : preB "first " l with
  | false => exact parts_headW hl h (.inl hp) (fun e => by rw [hp] at e; cases e)
  | true =>
    exfalso
    have e1 := pre_app hp
    have e2 := StrLaws.join_split x "\x0a"
    rw [h] at e2
    obtain ⟨r, e3⟩ : ∃ r : Str, Str.join "\x0a" (l :: ls) = l ++ r := by
      cases ls with
      | nil => exact ⟨Str.empty, (app_nil l).symm⟩
      | cons m ms => exact ⟨_, app_asc l "\x0a" _⟩
    rw [e3, e1, app_asc] at e2
    exact hf _ e2.symm
theorem acc_none {v c : D} (h : book_in_F [v] = .ok .non none) : accepts_2_F [v, c] = .ok (.bl false) none := by
  have n1 : isND .non .non = some (.bl true) := rfl
  unfold accepts_2_F accepts_2_b
  simp! only [Ev.all5, h, n1]
theorem bi_no {v : D} (h : isB "tuple" v = some false) : book_in_F [v] = .ok .non none := by
  unfold book_in_F book_in_b
  simp! only [Ev.all5, h]
theorem eq_succ (n : Nat) : eqD (.int ((n + 1 : Nat) : Int)) (.int 0) = some (.bl false) := by
  rw [Ev.eqI, decide_eq_false (by omega)]
theorem bi_head {h : D} {r : List D} (hs : isB "str" h = some false) : book_in_F [.tup (h :: r)] = .ok .non none := by
  have q0 := eq_succ r.length
  unfold book_in_F book_in_b
  simp! only [Ev.all5, isTW, List.length_cons, q0, hs]
def szW (x : Str) : D := (atD (.inr x) [.inr "got", .inr "never"] [.int 4, .int 3]).getD .non
theorem szW_at (x : Str) (Γ : En) : FL.kgK [.inr "got", .inr "never"] [.int 4, .int 3] (.d (.str x)) Γ = .ok (.d (szW x)) Γ := Ev.kgK rfl
theorem bi_size {x : Str} {r : List D} (hs : neD (szW x) (.int ((r.length + 1 : Nat) : Int)) = some (.bl true)) : book_in_F [.tup (.str x :: r)] = .ok .non none := by
  have q0 := eq_succ r.length
  have kg := szW_at x
  unfold book_in_F book_in_b
  simp! only [Ev.all5, Ev.kgE, ↓kg, isTW, isSW, List.length_cons, q0, hs]
theorem bi_known {x : Str} {a c : D} {r : List D} (hs : neD (szW x) (.int ((r.length + 1 + 1 + 1 : Nat) : Int)) = some (.bl false)) (hk : is_known_F [c] = .ok (.bl false) none) : book_in_F [.tup (.str x :: a :: c :: r)] = .ok .non none := by
  have q0 := eq_succ (r.length + 1 + 1)
  have kg := szW_at x
  unfold book_in_F book_in_b
  simp! only [Ev.all5, Ev.kgE, ↓kg, isTW, isSW, List.length_cons, q0, hs, hk]
theorem bi_int {a c n : D} (hk : is_known_F [c] = .ok (.bl true) none) (hn : is_integer_F [n] = .ok (.bl false) none ∨ (is_integer_F [n] = .ok (.bl true) none ∧ ltD n (.int 0) = some (.bl true))) : book_in_F [.tup [.str "got", a, c, n]] = .ok .non none := by
  have q0 : eqD (.int ((4 : Nat) : Int)) (.int 0) = some (.bl false) := rfl
  have q4 : eqD (.int ((4 : Nat) : Int)) (.int 4) = some (.bl true) := rfl
  have n4 : neD (.int 4) (.int ((4 : Nat) : Int)) = some (.bl false) := rfl
  have kg : ∀ Γ : En, FL.kgK [.inr "got", .inr "never"] [.int 4, .int 3] (.d (.str "got")) Γ = .ok (.d (.int 4)) Γ := fun Γ => Ev.kgK (by kernel_rfl)
  unfold book_in_F book_in_b
  rcases hn with hn | ⟨hn, hl⟩
  · simp! only [Ev.all5, Ev.kgE, ↓kg, isTW, isSW, at3, q0, q4, n4, hk, hn]
  · simp! only [Ev.all5, Ev.kgE, ↓kg, isTW, isSW, at3, q0, q4, n4, hk, hn, hl]
theorem bi_text {a c : D} {n : Int} (hk : is_known_F [c] = .ok (.bl true) none) (hn : 0 ≤ n) (hb : book_of_F [a] = .ok .non none) : book_in_F [.tup [.str "got", a, c, .int n]] = .ok .non none := by
  have q0 : eqD (.int ((4 : Nat) : Int)) (.int 0) = some (.bl false) := rfl
  have q4 : eqD (.int ((4 : Nat) : Int)) (.int 4) = some (.bl true) := rfl
  have n4 : neD (.int 4) (.int ((4 : Nat) : Int)) = some (.bl false) := rfl
  have e2 := integer_ev n
  have lt : ltD (.int n) (.int 0) = some (.bl false) := by rw [Ev.ltI, decide_eq_false (by omega)]
  have kg : ∀ Γ : En, FL.kgK [.inr "got", .inr "never"] [.int 4, .int 3] (.d (.str "got")) Γ = .ok (.d (.int 4)) Γ := fun Γ => Ev.kgK (by kernel_rfl)
  unfold book_in_F book_in_b
  simp! only [Ev.all5, Ev.kgE, ↓kg, isTW, isSW, at3, q0, q4, n4, hk, e2, lt, hb]
theorem kg_never : ∀ Γ : En, FL.kgK [.inr "got", .inr "never"] [.int 4, .int 3] (.d (.str "never")) Γ = .ok (.d (.int 3)) Γ := fun Γ => Ev.kgK (by kernel_rfl)
theorem bi_textN {a c : D} (hk : is_known_F [c] = .ok (.bl true) none) (hb : book_of_F [a] = .ok .non none) : book_in_F [.tup [.str "never", a, c]] = .ok .non none := by
  have q0 : eqD (.int ((3 : Nat) : Int)) (.int 0) = some (.bl false) := rfl
  have q4 : eqD (.int ((3 : Nat) : Int)) (.int 4) = some (.bl false) := rfl
  have n4 : neD (.int 3) (.int ((3 : Nat) : Int)) = some (.bl false) := rfl
  have kg := kg_never
  unfold book_in_F book_in_b
  simp! only [Ev.all5, Ev.kgE, ↓kg, isTW, isSW, q0, q4, n4, hk, hb]
theorem bi_never {a c : D} {o : OD} (hk : is_known_F [c] = .ok (.bl true) none) (hb : book_of_F [a] = .nw o none) : book_in_F [.tup [.str "never", a, c]] = .nw o none := by
  have q0 : eqD (.int ((3 : Nat) : Int)) (.int 0) = some (.bl false) := rfl
  have q4 : eqD (.int ((3 : Nat) : Int)) (.int 4) = some (.bl false) := rfl
  have n4 : neD (.int 3) (.int ((3 : Nat) : Int)) = some (.bl false) := rfl
  have kg := kg_never
  unfold book_in_F book_in_b
  simp! only [Ev.all5, Ev.kgE, ↓kg, isTW, isSW, q0, q4, n4, hk, hb]
theorem bo_none {d : D} (h : parts_of_F [d] = .ok .non none) : book_of_F [d] = .ok .non none := by
  have n1 : isND .non .non = some (.bl true) := rfl
  have e : Book_read_3_F [.cls "Book", d] = .exc "InvalidText" ["given"] [d] none := by
    unfold Book_read_3_F Book_read_3_b
    simp! only [Ev.all5, Ev.all6, h, n1]
  unfold book_of_F book_of_b
  simp! only [book_of_x1, Ev.all5, Ev.all6, Ev.tryO, Ev.trOK2, e]
theorem bo_value {d : D} (h : isB "str" d = some false) : book_of_F [d] = .ok .non none := by
  refine bo_none ?_
  unfold parts_of_F parts_of_b
  simp! only [Ev.all5, h]
def plC (c : Nat) : Bool := c == 10 || (decide (32 ≤ c) && decide (c < 127) && c != 34 && c != 39 && c != 92)
def Pl (x : Str) : Prop := ∀ c ∈ TL.tl x, plC c = true
def esc (c : Nat) : List Nat := if c = 10 then [92, 110] else [c]
def unesc : List Nat → List Nat
  | 92 :: 110 :: r => 10 :: unesc r
  | c :: r => c :: unesc r
  | [] => []
theorem unesc_ne {c : Nat} {r : List Nat} (h : c ≠ 92) : unesc (c :: r) = c :: unesc r := by
  rw [unesc]
  intro r' e
  exact absurd e h
theorem unesc_esc : ∀ {l : List Nat}, (∀ c ∈ l, plC c = true) → unesc (l.flatMap esc) = l
  | [], _ => rfl
  | c :: l, h => by
    have ih := unesc_esc (l := l) fun d hd => h d (List.mem_cons_of_mem _ hd)
    have hc := h c List.mem_cons_self
    rw [List.flatMap_cons]
    unfold esc
    by_cases e : c = 10
    · subst e
      rw [if_pos rfl]
      show 10 :: unesc (l.flatMap esc) = _
      rw [ih]
    · rw [if_neg e]
      have : c ≠ 92 := by
        intro z; subst z
        revert hc; decide
      show unesc (c :: l.flatMap esc) = _
      rw [unesc_ne this, ih]
theorem rc_pl : ∀ c : Nat, plC c = true → Builtin.Str.reprChar 39 c = esc c := by
  intro c hc
  have hlt : c < 127 := by
    unfold plC at hc
    simp only [Bool.or_eq_true, Bool.and_eq_true, beq_iff_eq, decide_eq_true_eq, bne_iff_ne] at hc
    omega
  have all : ∀ c : Fin 127, plC c.val = true → Builtin.Str.reprChar 39 c.val = esc c.val := by decide +kernel
  exact all ⟨c, hlt⟩ hc
theorem fold_tl (q : Nat) : ∀ (l : List Nat) (acc : Array Nat), (l.foldl (fun out c => out ++ (Builtin.Str.reprChar q c).toArray) acc).toList = acc.toList ++ l.flatMap (Builtin.Str.reprChar q)
  | [], acc => by simp
  | c :: l, acc => by
    rw [List.foldl_cons, fold_tl q l, Array.toList_append, List.flatMap_cons, List.append_assoc]
theorem quote_pl {x : Str} (h : Pl x) : reprQuote x = 39 := by
  have : x.cps.contains 39 = false := by
    rw [Bool.eq_false_iff]
    intro z
    rw [Array.contains_iff_mem] at z
    have := h 39 (Array.mem_toList_iff.mpr z)
    revert this; decide
  unfold reprQuote
  rw [this]
  rfl
theorem rt_tl {x : Str} (h : Pl x) : TL.tl (reprText x) = 39 :: ((TL.tl x).flatMap esc ++ [39]) := by
  have e : (TL.tl x).flatMap (Builtin.Str.reprChar 39) = (TL.tl x).flatMap esc := by
    have : ∀ l : List Nat, (∀ c ∈ l, plC c = true) → l.flatMap (Builtin.Str.reprChar 39) = l.flatMap esc := by
      intro l
      induction l with
      | nil => intro _; rfl
      | cons c l ih =>
        intro h
        rw [List.flatMap_cons, List.flatMap_cons, ih fun d hd => h d (List.mem_cons_of_mem _ hd), rc_pl c (h c List.mem_cons_self)]
    exact this _ h
  show (reprText x).cps.toList = _
  unfold reprText
  rw [quote_pl h, Array.toList_push, ← Array.foldl_toList, fold_tl, ← e]
  rfl
theorem rt_inj {x y : Str} (hx : Pl x) (hy : Pl y) (h : reprText x = reprText y) : x = y := by
  have e := congrArg TL.tl h
  rw [rt_tl hx, rt_tl hy] at e
  have e1 := List.append_cancel_right (List.cons.inj e).2
  have e2 := congrArg unesc e1
  rw [unesc_esc hx, unesc_esc hy] at e2
  exact TL.ext_tl e2
theorem Pl.app {x y : Str} (hx : Pl x) (hy : Pl y) : Pl (x ++ y) := fun c hc => by
  rw [TL.tl_append] at hc
  exact (List.mem_append.mp hc).elim (hx c) (hy c)
theorem Pl.of {x : Str} (h : ((TL.tl x).all plC) = true) : Pl x := fun c hc => List.all_eq_true.mp h c hc
theorem Pl.join {s : Str} (hs : Pl s) : ∀ {ts : List Str}, (∀ t ∈ ts, Pl t) → Pl (Str.join s ts)
  | [], _ => Pl.of rfl
  | [t], h => h t List.mem_cons_self
  | t :: u :: r, h => ((h t List.mem_cons_self).app hs).app (Pl.join hs (ts := u :: r) fun v hv => h v (List.mem_cons_of_mem _ hv))
theorem Pl_row (j : List (Fin 8)) : Pl (rowT j) := by
  unfold rowT
  rw [TL.join_eq]
  refine Pl.join (s := "; ") (Pl.of (x := "; ") (by decide +kernel)) fun t ht => ?_
  obtain ⟨i, _, rfl⟩ := List.mem_map.mp ht
  have : ∀ i : Fin 8, ((TL.tl (dT i)).all plC) = true := by decide +kernel
  exact Pl.of (this i)
theorem Pl_book (is : List (Fin 8)) (js : List (List (Fin 8))) : Pl (bookT is js) := by
  unfold bookT
  refine Pl.join (s := "\n") (Pl.of (x := "\n") (by decide +kernel)) fun t ht => ?_
  rcases List.mem_cons.mp ht with rfl | ht
  · exact (Pl.of (x := "first ") (by decide +kernel)).app (Pl_row is)
  · obtain ⟨j, _, rfl⟩ := List.mem_map.mp ht
    exact (Pl.of (x := "answer ") (by decide +kernel)).app (Pl_row j)
theorem tt1 (a : Str) : TL.tl (tupleText [a]) = 40 :: (TL.tl a ++ [44, 41]) := by
  show TL.tl (("(" : Str) ++ a ++ ",)") = _
  rw [TL.tl_append, TL.tl_append]
  rfl
theorem tt2 (a b : Str) : TL.tl (tupleText [a, b]) = 40 :: (TL.tl a ++ ([44, 32] ++ (TL.tl b ++ [41]))) := by
  show TL.tl (("(" : Str) ++ (a ++ ", " ++ b) ++ ")") = _
  rw [TL.tl_append, TL.tl_append, TL.tl_append, TL.tl_append]
  show ([40] ++ (TL.tl a ++ [44, 32] ++ TL.tl b)) ++ [41] = _
  simp
theorem tt3 (a b c : Str) : TL.tl (tupleText [a, b, c]) = 40 :: (TL.tl a ++ ([44, 32] ++ (TL.tl b ++ ([44, 32] ++ (TL.tl c ++ [41]))))) := by
  show TL.tl (("(" : Str) ++ (a ++ ", " ++ (b ++ ", " ++ c)) ++ ")") = _
  simp only [TL.tl_append]
  show ([40] ++ (TL.tl a ++ [44, 32] ++ (TL.tl b ++ [44, 32] ++ TL.tl c))) ++ [41] = _
  simp
theorem tt2_l {a b c : Str} (h : tupleText [a, c] = tupleText [b, c]) : a = b := by
  have e := congrArg TL.tl h
  rw [tt2, tt2] at e
  exact TL.ext_tl (List.append_cancel_right (List.cons.inj e).2)
theorem tt2_r {a b c : Str} (h : tupleText [c, a] = tupleText [c, b]) : a = b := by
  have e := congrArg TL.tl h
  rw [tt2, tt2] at e
  exact TL.ext_tl (List.append_cancel_right (List.append_cancel_left (List.append_cancel_left (List.cons.inj e).2)))
theorem tt3_1 {a b c d : Str} (h : tupleText [a, c, d] = tupleText [b, c, d]) : a = b := by
  have e := congrArg TL.tl h
  rw [tt3, tt3] at e
  exact TL.ext_tl (List.append_cancel_right (List.cons.inj e).2)
theorem tt3_2 {a b c d : Str} (h : tupleText [c, a, d] = tupleText [c, b, d]) : a = b := by
  have e := congrArg TL.tl h
  rw [tt3, tt3] at e
  exact TL.ext_tl (List.append_cancel_right (List.append_cancel_left (List.append_cancel_left (List.cons.inj e).2)))
theorem tt3_3 {a b c d : Str} (h : tupleText [c, d, a] = tupleText [c, d, b]) : a = b := by
  have e := congrArg TL.tl h
  rw [tt3, tt3] at e
  exact TL.ext_tl (List.append_cancel_right (List.append_cancel_left (List.append_cancel_left (List.append_cancel_left (List.append_cancel_left (List.cons.inj e).2)))))
theorem tl_placed (x : Str) (f : Nat → List Nat) : TL.tl ⟨placed x fun _ c => f c⟩ = (TL.tl x).flatMap f := by
  show (placed x fun _ c => f c).toList = x.cps.toList.flatMap f
  unfold placed
  have : (x.cps.mapIdx fun _ c => (f c).toArray) = x.cps.map fun c => (f c).toArray := by
    apply Array.ext
    · simp
    · intro i h1 h2; simp
  rw [this]
  simp [Array.toList_flatten, List.flatMap, List.map_map, Function.comp_def]
def upC (c : Nat) : Nat := if 97 ≤ c ∧ c ≤ 122 then c - 32 else c
theorem up_at : ∀ c : Nat, plC c = true → Unicode.upperOf c = [upC c] ∧ plC (upC c) = true := by
  intro c hc
  have hlt : c < 127 := by
    unfold plC at hc
    simp only [Bool.or_eq_true, Bool.and_eq_true, beq_iff_eq, decide_eq_true_eq, bne_iff_ne] at hc
    omega
  have all : ∀ c : Fin 127, plC c.val = true → Unicode.upperOf c.val = [upC c.val] ∧ plC (upC c.val) = true := by decide +kernel
  exact all ⟨c, hlt⟩ hc
theorem tl_upper {x : Str} (h : Pl x) : TL.tl (Txt.upper x) = (TL.tl x).map upC := by
  show TL.tl ⟨placed x fun _ c => Unicode.upperOf c⟩ = _
  rw [tl_placed]
  have : ∀ l : List Nat, (∀ c ∈ l, plC c = true) → l.flatMap Unicode.upperOf = l.map upC := by
    intro l
    induction l with
    | nil => intro _; rfl
    | cons c l ih =>
      intro h
      rw [List.flatMap_cons, List.map_cons, ih fun d hd => h d (List.mem_cons_of_mem _ hd), (up_at c (h c List.mem_cons_self)).1]
      rfl
  exact this _ h
theorem Pl_upper {x : Str} (h : Pl x) : Pl (Txt.upper x) := fun c hc => by
  rw [tl_upper h] at hc
  obtain ⟨d, hd, rfl⟩ := List.mem_map.mp hc
  exact (up_at d (h d hd)).2
theorem Pl.ok {x : Str} (h : Pl x) : PyData.strOk x = true := strOk_iff.mpr fun c hc => by
  have := h c hc
  unfold plC at this
  simp only [Bool.or_eq_true, Bool.and_eq_true, beq_iff_eq, decide_eq_true_eq, bne_iff_ne] at this
  omega
def zOf (d : D) : Str := match d.py with
  | some p => p.shown
  | none => (match d.rp with
    | some p => p.shown
    | none => "")
def Sa (d : D) : Prop := Sm d 5 20000
theorem Sa.str {x : Str} (h : Pl x) (hl : x.length ≤ 1000) : Sa (.str x) := (Sm.str h.ok hl).mono (by decide) (by decide)
theorem pys_z : ∀ {ds : List D} {ps : List PyData}, D.pys ds = some ps → PyData.shownAll ps = ds.map zOf
  | [], _, e => by cases e; rfl
  | d :: ds, _, e => by
    obtain ⟨p, e1, e2⟩ := Option.bind_eq_some_iff.mp (show (D.py d).bind (fun p => (D.pys ds).map fun ps => p :: ps) = some _ from e)
    obtain ⟨ps, e3, rfl⟩ := Option.map_eq_some_iff.mp e2
    show p.shown :: PyData.shownAll ps = _
    rw [pys_z e3, List.map_cons]
    congr 1
    unfold zOf
    rw [e1]
theorem reprD_tup {ds : List D} (h : ∀ d ∈ ds, Sa d) (hl : ds.length ≤ 8) : reprD (.tup ds) = some (.str (tupleText (ds.map zOf))) := by
  have S : Sm (.tup ds) (5 + 1) _ := Sm.tup h
  obtain ⟨p, a, _, c, e, f, g⟩ := S
  obtain ⟨ps, e1, rfl⟩ := Option.map_eq_some_iff.mp (show (D.pys ds).map PyData.tuple = some p from a)
  have ez : (PyData.tuple ps).shown = tupleText (ds.map zOf) := by
    show tupleText (PyData.shownAll ps) = _
    rw [pys_z e1]
  unfold reprD
  rw [a]
  show (reprP _).map D.str = _
  unfold reprP
  rw [if_pos ⟨c, e, by omega, by
    have : ds.length * (20000 + 2) ≤ 8 * 20002 := Nat.mul_le_mul_right _ hl
    show _ ≤ 2 ^ 24
    omega⟩, ← ez]
  rfl
theorem reprR_of {d r : D} (h : reprD d = some r) : reprR d = some r := by unfold reprR; rw [h]
theorem reprR_tup {ds : List D} (h : ∀ d ∈ ds, Sa d) (hl : ds.length ≤ 8) : reprR (.tup ds) = some (.str (tupleText (ds.map zOf))) := reprR_of (reprD_tup h hl)
def Sg (d : D) (p : PyData) : Prop := D.rp d = some p ∧ p.showable = true ∧ p.depth ≤ 5 ∧ p.shown.length ≤ 20000 ∧ p.shown = zOf d
theorem Sg.str {x : Str} (h : Pl x) (hl : x.length ≤ 1000) : Sg (.str x) (.str x) := by
  obtain ⟨p, a, _, c, e, f, g⟩ := Sa.str h hl
  cases a
  exact ⟨rfl, c, f, g, rfl⟩
theorem Sg.dk : Sg (.dk [] []) (.dict []) := ⟨rfl, rfl, by decide +kernel, by decide +kernel, rfl⟩
theorem rps_bx : ∀ b : Box, D.rps (bx b) = D.pys (bx b)
  | [] => rfl
  | p :: b => by
    have ih := rps_bx b
    show (D.rp (lay p)).bind (fun q => (D.rps (bx b)).map fun ps => q :: ps) = (D.py (lay p)).bind fun q => (D.pys (bx b)).map fun ps => q :: ps
    rw [ih]
    rfl
theorem Sa.box {b : Box} (h : ∀ p ∈ b, IsName p.2) (hl : b.length ≤ 100) : Sa (.tup (bx b)) := (Sm_box h).mono (by decide) (by omega)
theorem Sg.box {b : Box} (h : ∀ p ∈ b, IsName p.2) (hl : b.length ≤ 100) : ∃ p, Sg (.tup (bx b)) p := by
  obtain ⟨p, a, _, c, e, f, g⟩ := Sa.box h hl
  refine ⟨p, ?_, c, f, g, ?_⟩
  · show (D.rps (bx b)).map PyData.tuple = _
    rw [rps_bx]; exact a
  · unfold zOf; rw [a]
theorem reprR_g {ds : List D} {ps : List PyData} (hp : Paired Sg ds ps) (hn : reprD (.tup ds) = none) (hl : ds.length ≤ 8) : reprR (.tup ds) = some (.str (tupleText (ds.map zOf))) := by
  have main : D.rps ds = some ps ∧ PyData.showableAll ps = true ∧ PyData.depthAll ps ≤ 5 ∧ (∀ t ∈ PyData.shownAll ps, t.length ≤ 20000) ∧ PyData.shownAll ps = ds.map zOf := by
    clear hn hl
    induction hp with
    | nil => exact ⟨rfl, rfl, Nat.zero_le _, (fun t h => by cases h), rfl⟩
    | @cons d p ds ps r t ih =>
      obtain ⟨a, b, c, e, f⟩ := r
      obtain ⟨a', b', c', e', f'⟩ := ih
      refine ⟨?_, by simp only [PyData.showableAll, b, b', Bool.and_self], by simp only [PyData.depthAll]; omega, fun t ht => ?_, by rw [List.map_cons, ← f, ← f']; rfl⟩
      · show (D.rp d).bind (fun q => (D.rps ds).map fun qs => q :: qs) = _
        rw [a, a']; rfl
      · rcases List.mem_cons.mp (show t ∈ p.shown :: PyData.shownAll ps from ht) with rfl | ht
        · exact e
        · exact e' t ht
  obtain ⟨a, b, c, e, f⟩ := main
  have e0 : (D.tup ds).rp = some (.tuple ps) := by
    show (D.rps ds).map PyData.tuple = _
    rw [a]; rfl
  unfold reprR
  rw [hn]
  show reprG _ = _
  unfold reprG
  rw [show refK (.tup ds) = true from rfl, if_pos rfl, e0]
  show (reprQ (.tuple ps)).map D.str = _
  have hz : (PyData.tuple ps).shown.length ≤ sizeLine := by
    show (tupleText (PyData.shownAll ps)).length ≤ _
    have l := shownAll_len ps
    have hl2 : ps.length = ds.length := (Paired.length hp).symm
    unfold tupleText
    rw [str_len_app, str_len_app]
    have h1 := join_le (Str.ofString ", ") e
    have h2 : (Str.ofString ", ").length = 2 := by decide +kernel
    have h3 : (Str.ofString "(").length = 1 := by decide +kernel
    have h4 : (Str.ofString (if (PyData.shownAll ps).length == 1 then ",)" else ")")).length ≤ 2 := by split <;> decide +kernel
    rw [h2, l, hl2] at h1
    have : ds.length * (20000 + 2) ≤ 8 * 20002 := Nat.mul_le_mul_right _ hl
    show _ ≤ 2 ^ 24
    omega
  unfold reprQ
  rw [if_pos ⟨b, by show PyData.depthAll ps + 1 ≤ 60; omega, hz⟩]
  show some (D.str (tupleText (PyData.shownAll ps))) = _
  rw [f]
variable {is : List (Fin 8)} {b : Box} {js : List (List (Fin 8))}
def thC : List D := [.non, .bl true, .bl false, .int 0, .int (-1), .int 3, .int 1000000000000000000000000000000, .str "", .str "got", .str "never", .str "Got", .tup [.tup [.str "lock", .str "eve"]],
  .lst [(D.tup [.str "tag", .str "ann"])], .tup (List.replicate 13 (D.tup [.str "tag", .str "ann"])), .dk [] [], .str "first lock you", .tup [], .tup [(D.tup [.str "tag", .str "ann"]), .non], (D.tup [.str "tag", .str "ann"])]
def thL (pg : Str) (b : Box) : List D := [.non, .bl true, .bl false, .int 0, .int (-1), .int 3, .int 1000000000000000000000000000000, .str "", .str "got", .str "never", .str "Got", .tup [.tup [.str "lock", .str "eve"]],
  .lst [(D.tup [.str "tag", .str "ann"])], .tup (List.replicate 13 (D.tup [.str "tag", .str "ann"])), .dk [] [], .str pg, .str "first lock you", .str (pg ++ "\n"), .str (" " ++ pg), .str (Txt.upper pg), .tup [], .tup (bx b), .tup [(D.tup [.str "tag", .str "ann"]), .non], (D.tup [.str "tag", .str "ann"])]
theorem th_split {pg : Str} {b : Box} {x : D} (h : x ∈ thL pg b) : x ∈ thC ∨ x = .str pg ∨ x = .str (pg ++ "\n") ∨ x = .str (" " ++ pg) ∨ x = .str (Txt.upper pg) ∨ x = .tup (bx b) := by
  unfold thL at h
  unfold thC
  simp only [List.mem_cons, List.not_mem_nil, or_false] at h ⊢
  rcases h with rfl | rfl | rfl | rfl | rfl | rfl | rfl | rfl | rfl | rfl | rfl | rfl | rfl | rfl | rfl | rfl | rfl | rfl | rfl | rfl | rfl | rfl | rfl | rfl <;> simp
def SaB (d : D) : Bool := match d.py with
  | some p => p.canLay0 && p.showable && !p.hasDict && decide (p.depth ≤ 5) && decide (p.shown.length ≤ 20000)
  | none => false
theorem Sa.of {d : D} (h : SaB d = true) : Sa d := by
  unfold SaB at h
  split at h
  · rename_i p e
    simp only [Bool.and_eq_true, Bool.not_eq_true', decide_eq_true_eq] at h
    exact ⟨p, e, h.1.1.1.1, h.1.1.1.2, h.1.1.2, h.1.2, h.2⟩
  · cases h
theorem thC_sa : ∀ x ∈ thC, x = .dk [] [] ∨ Sa x := by
  intro x hx
  have : (thC.all fun x => SaB x || (match x with | .dk [] [] => true | _ => false)) = true := by decide +kernel
  have h := List.all_eq_true.mp this x hx
  rw [Bool.or_eq_true] at h
  rcases h with h | h
  · exact .inr (Sa.of h)
  · left
    split at h
    · rfl
    · cases h
def okB (r : Ro) (k : Bool) : Bool := match r with
  | .ok (.bl c) none => c == k
  | _ => false
theorem okB_ok {r : Ro} {k : Bool} (h : okB r k = true) : r = .ok (.bl k) none := by
  unfold okB at h
  split at h
  · rw [eq_of_beq h]
  · cases h
def okN (r : Ro) : Bool := match r with
  | .ok .non none => true
  | _ => false
theorem okN_ok {r : Ro} (h : okN r = true) : r = .ok .non none := by
  unfold okN at h
  split at h
  · rfl
  · cases h
def knT (x : D) : Bool := match x with
  | .tup [] => true
  | _ => false
theorem thC_kn : ∀ x ∈ thC, is_known_F [x] = .ok (.bl (knT x)) none := by
  intro x hx
  have : (thC.all fun x => okB (is_known_F [x]) (knT x)) = true := by decide +kernel
  exact okB_ok (List.all_eq_true.mp this x hx)
theorem known_text1 (x : Str) : is_known_F [.str x] = .ok (.bl false) none := by
  have e : is_box_F [.str x] = .ok (.bl false) none := by
    have q : isB "tuple" (.str x) = some false := rfl
    unfold is_box_F is_box_b
    simp! only [Ev.all5, q]
  unfold is_known_F is_known_b
  simp! only [Ev.all5, e]
theorem thC_bo : ∀ x ∈ thC, x = .str "first lock you" ∨ book_of_F [x] = .ok .non none := by
  intro x hx
  have : (thC.all fun x => okN (book_of_F [x]) || (match x with | .str y => decide (y = "first lock you") | _ => false)) = true := by decide +kernel
  have h := List.all_eq_true.mp this x hx
  rw [Bool.or_eq_true] at h
  rcases h with h | h
  · exact .inr (okN_ok h)
  · left
    split at h
    · rw [of_decide_eq_true h]
    · cases h
theorem pg_first {r : Str} (h : bookT is js = r) : ∃ s, r = "first " ++ s := by
  subst h
  unfold bookT
  cases js with
  | nil => exact ⟨rowT is, rfl⟩
  | cons j js =>
    refine ⟨rowT is ++ ("\n" ++ Str.join "\n" ((j :: js).map fun j => "answer " ++ rowT j)), ?_⟩
    show "first " ++ rowT is ++ "\n" ++ Str.join "\n" ((j :: js).map fun j => "answer " ++ rowT j) = _
    rw [app_asc ("first " ++ rowT is), app_asc "first "]
theorem tl_first (s : Str) : TL.tl ("first " ++ s) = 102 :: (TL.tl ("irst " : Str) ++ TL.tl s) := by rw [TL.tl_append]; rfl
theorem tl_pg : ∃ r, TL.tl (bookT is js) = 102 :: r := by
  obtain ⟨s, e⟩ := pg_first (is := is) (js := js) rfl
  rw [e, tl_first]
  exact ⟨_, rfl⟩
theorem no_sp (hl : (bookT is js).length ≤ 370) : book_of_F [.str (" " ++ bookT is js)] = .ok .non none := by
  refine bo_none (no_textW (by rw [str_len_app]; show 1 + _ ≤ _; omega) fun r e => ?_)
  have := congrArg TL.tl e
  rw [tl_first, TL.tl_append] at this
  exact absurd (List.cons.inj (show 32 :: _ = 102 :: _ from this)).1 (by decide)
theorem up_len {x : Str} (h : Pl x) : (Txt.upper x).length = x.length := by
  have e := congrArg List.length (tl_upper h)
  rw [List.length_map] at e
  have h1 := TL.len_tl (Txt.upper x)
  have h2 := TL.len_tl x
  omega
theorem no_up (hl : (bookT is js).length ≤ 370) : book_of_F [.str (Txt.upper (bookT is js))] = .ok .non none := by
  have P := Pl_book is js
  refine bo_none (no_textW (by rw [up_len P]; omega) fun r e => ?_)
  have := congrArg TL.tl e
  obtain ⟨t, ht⟩ := tl_pg (is := is) (js := js)
  rw [tl_first, tl_upper P, ht] at this
  exact absurd (List.cons.inj (show 70 :: _ = 102 :: _ from this)).1 (by decide)
theorem join_snoc (s : Str) : ∀ (t : Str) (ts : List Str), Str.join s (t :: ts) ++ s = Str.join s (t :: ts ++ [("" : Str)])
  | t, [] => by
    show t ++ s = t ++ s ++ Str.empty
    rw [app_nil]
  | t, u :: ts => by
    have ih := join_snoc s u ts
    show t ++ s ++ Str.join s (u :: ts) ++ s = t ++ s ++ Str.join s (u :: ts ++ [("" : Str)])
    rw [← ih, ← app_asc]
theorem no_nl (B : BookOk is b js) (h3 : js.length ≤ 3) : book_of_F [.str (bookT is js ++ "\n")] = .ok .non none := by
  have hl := (text_ok B).2
  have hs : Txt.split (bookT is js ++ "\n") "\x0a" = ("first " ++ rowT is) :: (js.map ans_ ++ [("" : Str)]) := by
    have h := TL.split_join (y := "\n") (s := 10) (S := []) (by decide +kernel) (by decide +kernel) (parts := ("first " ++ rowT is) :: (js.map ans_ ++ [("" : Str)])) (by simp) fun p hp => by
      rcases List.mem_cons.mp hp with rfl | hp
      · rw [TL.tl_append, List.mem_append, not_or]
        exact ⟨by decide +kernel, row_nl is⟩
      · rcases List.mem_append.mp hp with hp | hp
        · obtain ⟨j, hj, rfl⟩ := List.mem_map.mp hp
          unfold ans_
          rw [TL.tl_append, List.mem_append, not_or]
          exact ⟨by decide +kernel, row_nl j⟩
        · rw [List.mem_singleton.mp hp]; decide +kernel
    rw [TL.join_eq] at h
    rw [← h]
    congr 1
    exact join_snoc "\n" _ _
  have e2 : preB "first " ("first " ++ rowT is) = true := by
    have a := sw_any "first " ("first " ++ rowT is)
    rw [sw_at] at a
    exact (D.bl.inj (Option.some.inj a)).symm
  have er : rest "first " ("first " ++ rowT is) = rowT is := app_can (x := "first ") (pre_app e2).symm
  have e4 := box_begun_ev B.n0 B.n6
  rw [B.run, rs_some, ← er] at e4
  refine bo_none (parts_tailW (by rw [str_len_app]; show _ + 1 ≤ _; omega) hs e2 e4 (by simp; omega) ?_)
  rw [List.all_append]
  have : [("" : Str)].all anB = false := by decide +kernel
  rw [this, Bool.and_false]
end
section
variable {is : List (Fin 8)} {b : Box} {js : List (List (Fin 8))}
theorem neNI (n : Nat) : neD .non (.int (n : Nat)) = some (.bl true) := by
  have : PyData.eqv .none (.int (n : Nat)) = false := rfl
  show (eqB _ _).map _ = _
  rfl
theorem neII (m n : Nat) : neD (.int (m : Nat)) (.int (n : Nat)) = some (.bl (!decide (m = n))) := by
  rw [Ev.neI]
  congr 2
  by_cases h : m = n
  · subst h; simp
  · have : ¬ ((m : Int) = (n : Int)) := by omega
    simp [h, this]
theorem szW_got : szW "got" = .int (4 : Nat) := by kernel_rfl
theorem szW_never : szW "never" = .int (3 : Nat) := by kernel_rfl
theorem szW_non {y : Str} (h1 : y ≠ "got") (h2 : y ≠ "never") : szW y = .non := by
  unfold szW atD
  rw [if_neg fun e => h1 (Sum.inr.inj e).symm]
  unfold atD
  rw [if_neg fun e => h2 (Sum.inr.inj e).symm]
  rfl
theorem bi_str {y : Str} {r : List D} (h1 : y = "got" → r.length + 1 ≠ 4) (h2 : y = "never" → r.length + 1 ≠ 3) : book_in_F [.tup (.str y :: r)] = .ok .non none := by
  refine bi_size ?_
  by_cases e1 : y = "got"
  · subst e1
    rw [szW_got, neII, decide_eq_false (fun e => h1 rfl e.symm)]
    rfl
  · by_cases e2 : y = "never"
    · subst e2
      rw [szW_never, neII, decide_eq_false (fun e => h2 rfl e.symm)]
      rfl
    · rw [szW_non e1 e2]; exact neNI _
theorem bi_hd {x : D} {r : List D} (hx : x ∈ thL (bookT is js) b) (h1 : x = .str "got" → r.length + 1 ≠ 4) (h2 : x = .str "never" → r.length + 1 ≠ 3) : book_in_F [.tup (x :: r)] = .ok .non none := by
  have : (∃ y, x = .str y) ∨ isB "str" x = some false := by
    rcases th_split hx with h | rfl | rfl | rfl | rfl | rfl
    · have a : (thC.all fun x => (match x with | .str _ => true | _ => false) || decide (isB "str" x = some false)) = true := by decide +kernel
      have h := List.all_eq_true.mp a x h
      rw [Bool.or_eq_true] at h
      rcases h with h | h
      · left
        split at h
        · exact ⟨_, rfl⟩
        · cases h
      · exact .inr (of_decide_eq_true h)
    · exact .inl ⟨_, rfl⟩
    · exact .inl ⟨_, rfl⟩
    · exact .inl ⟨_, rfl⟩
    · exact .inl ⟨_, rfl⟩
    · exact .inr rfl
  rcases this with ⟨y, rfl⟩ | h
  · exact bi_str (fun e => h1 (congrArg D.str e)) fun e => h2 (congrArg D.str e)
  · exact bi_head h
def FtG (is : List (Fin 8)) (b : Box) (js : List (List (Fin 8))) (v : D) : Prop := ∃ r, accepts_2_F [v, .tup []] = .ok (.bl r) none ∧ _law_got_right_F [(D.str (bookT is js)), (D.tup (bx b)), v] = .ok (.bl r) none
theorem gr_no {p g v : D} (h : isB "tuple" v = some false) : _law_got_right_F [p, g, v] = .ok (.bl false) none := by
  unfold _law_got_right_F _law_got_right_b
  simp! only [Ev.all5, h]
theorem gr_len {p g : D} {xs : List D} (h : xs.length ≠ 4) : _law_got_right_F [p, g, .tup xs] = .ok (.bl false) none := by
  have q := neII xs.length 4
  rw [decide_eq_false h] at q
  have q : neD (.int (xs.length : Nat)) (.int 4) = some (.bl true) := q
  unfold _law_got_right_F _law_got_right_b
  simp! only [Ev.all5, isTW, q]
def zG (is : List (Fin 8)) (b : Box) (js : List (List (Fin 8))) : Str := tupleText [zOf (.str "got"), zOf (D.str (bookT is js)), zOf (D.tup (bx b))]
structure Gd (is : List (Fin 8)) (b : Box) (js : List (List (Fin 8))) : Prop where
  S : Sk 3 is b js
  ne : b ≠ []
theorem Gd.sa (G : Gd is b js) : Sa (D.str (bookT is js)) ∧ Sa (D.tup (bx b)) := ⟨Sa.str (Pl_book is js) (by have := (text_ok G.S.bk).2; omega), Sa.box (fun p hp => (G.S.three p hp).name) (by have := G.S.box; omega)⟩
theorem Sa_got : Sa (.str "got") := Sa.of (by decide +kernel)
theorem Gd.z (G : Gd is b js) : reprD (.tup [.str "got", (D.str (bookT is js)), (D.tup (bx b))]) = some (.str (zG is b js)) := reprD_tup (fun d hd => by
  rcases List.mem_cons.mp hd with rfl | hd
  · exact Sa_got
  rcases List.mem_cons.mp hd with rfl | hd
  · exact G.sa.1
  · rw [List.mem_singleton.mp hd]; exact G.sa.2) (Nat.le_of_ble_eq_true rfl)
theorem gr_ne (G : Gd is b js) {x y c n : D} {z : Str} (h : reprR (.tup [x, y, c]) = some (.str z)) (hz : z ≠ zG is b js) : _law_got_right_F [(D.str (bookT is js)), (D.tup (bx b)), .tup [x, y, c, n]] = .ok (.bl false) none := by
  have q : neD (.int ((4 : Nat) : Int)) (.int 4) = some (.bl false) := rfl
  have e := G.z
  have c3 : cutD none (some 3) (.tup [x, y, c, n]) = some (.tup [x, y, c]) := rfl
  have q2 : neD (.str z) (.str (zG is b js)) = some (.bl true) := by rw [Ev.neS]; simp [hz]
  unfold _law_got_right_F _law_got_right_b
  simp! only [Ev.all5, isTW, q, ↓c3, h, e, q2]
theorem gr_eq (G : Gd is b js) {n : D} {r : Bool} (hr : (∃ q, isB "int" n = some false ∧ q = r ∧ r = false) ∨ (isB "int" n = some true ∧ isB "bool" n = some true ∧ r = false) ∨ (isB "int" n = some true ∧ isB "bool" n = some false ∧ geD n (.int 0) = some (.bl r))) : _law_got_right_F [(D.str (bookT is js)), (D.tup (bx b)), .tup [.str "got", (D.str (bookT is js)), (D.tup (bx b)), n]] = .ok (.bl r) none := by
  have q : neD (.int ((4 : Nat) : Int)) (.int 4) = some (.bl false) := rfl
  have e := G.z
  have e' := reprR_of e
  have c3 : cutD none (some 3) (.tup [.str "got", (D.str (bookT is js)), (D.tup (bx b)), n]) = some (.tup [.str "got", (D.str (bookT is js)), (D.tup (bx b))]) := rfl
  have q2 : neD (.str (zG is b js)) (.str (zG is b js)) = some (.bl false) := by rw [Ev.neS]; simp
  have g3 : FL.getD (.tup [.str "got", (D.str (bookT is js)), (D.tup (bx b)), n]) (.int 3) = some n := rfl
  unfold _law_got_right_F _law_got_right_b
  rcases hr with ⟨_, h1, rfl, rfl⟩ | ⟨h1, h2, rfl⟩ | ⟨h1, h2, h3⟩
  · simp! only [Ev.all5, isTW, q, ↓c3, ↓g3, e', e, q2, h1]
  · simp! only [Ev.all5, isTW, q, ↓c3, ↓g3, e', e, q2, h1, h2]
  · simp! only [Ev.all5, isTW, q, ↓c3, ↓g3, e', e, q2, h1, h2, h3]
theorem known_bg (G : Gd is b js) : is_known_F [(D.tup (bx b))] = .ok (.bl true) none := known_ev G.S.three (by have := G.S.box; omega)
theorem acc_got (G : Gd is b js) {c : Box} (hc : ∀ p ∈ c, Three p.2) (hl : c.length ≤ 12) {n : Int} (hn : 0 ≤ n) : accepts_2_F [.tup [.str "got", (D.str (bookT is js)), .tup (bx c), .int n], .tup []] = .ok (.bl (decide (b = c))) none := by
  have e1 := book_in_ev G.S.bk hc hl hn
  have e2 := shows_ev G.S.bk (c := c) (fun p hp => (hc p hp).name) n (v := .tup []) (.inl ⟨[], rfl, (fun x h => by cases h), by decide⟩)
  have ej : judgeB js b c n (.tup []) = decide (b = c) := by
    rw [judge_tup]
    show (decide ((0 : Int) ≤ n) && decide (some b = some c)) = _
    rw [decide_eq_true hn, Bool.true_and]
    by_cases h : b = c <;> simp [h]
  rw [ej] at e2
  have n0 : ∀ ns fs, isND (.ins "Book" ns fs) .non = some (.bl false) := fun _ _ => rfl
  have q : eqD (.str "got") (.str "got") = some (.bl true) := by rw [Ev.eqS]; rfl
  unfold accepts_2_F accepts_2_b
  simp! only [Ev.all5, at3, e1, e2, n0, q]
end
section
variable {is : List (Fin 8)} {b : Box} {js : List (List (Fin 8))}
theorem zO_pg : zOf (D.str (bookT is js)) = reprText (bookT is js) := rfl
theorem tl_zpg : ∃ r, TL.tl (zOf (D.str (bookT is js))) = 39 :: 102 :: r := by
  obtain ⟨t, ht⟩ := tl_pg (is := is) (js := js)
  rw [zO_pg, rt_tl (Pl_book is js), ht]
  exact ⟨_, rfl⟩
theorem zO_bg (G : Gd is b js) : ∃ r, TL.tl (zOf (D.tup (bx b))) = 40 :: r := by
  obtain ⟨p, a, _⟩ := G.sa.2
  obtain ⟨ps, e1, rfl⟩ := Option.map_eq_some_iff.mp (show (D.pys (bx b)).map PyData.tuple = some p from a)
  unfold zOf
  rw [a]
  show ∃ r, TL.tl (tupleText _) = _
  unfold tupleText
  rw [TL.tl_append, TL.tl_append]
  exact ⟨_, rfl⟩
theorem app_nl_ne (x : Str) : x ++ "\n" ≠ x := fun e => by
  have := congrArg List.length (congrArg TL.tl e)
  rw [TL.tl_append, List.length_append] at this
  have h1 : (TL.tl (Str.ofString "\n")).length = 1 := by decide +kernel
  omega
theorem sp_ne : " " ++ bookT is js ≠ bookT is js := fun e => by
  have := congrArg TL.tl e
  obtain ⟨t, ht⟩ := tl_pg (is := is) (js := js)
  rw [TL.tl_append, ht] at this
  exact absurd (List.cons.inj (show 32 :: _ = 102 :: _ from this)).1 (by decide)
theorem up_ne : Txt.upper (bookT is js) ≠ bookT is js := fun e => by
  have := congrArg TL.tl e
  obtain ⟨t, ht⟩ := tl_pg (is := is) (js := js)
  rw [tl_upper (Pl_book is js), ht] at this
  exact absurd (List.cons.inj (show 70 :: _ = 102 :: _ from this)).1 (by decide)
theorem Pl_nl : Pl (bookT is js ++ "\n") := (Pl_book is js).app (Pl.of (x := "\n") (by decide +kernel))
theorem Pl_sp : Pl (" " ++ bookT is js) := (Pl.of (x := " ") (by decide +kernel)).app (Pl_book is js)
theorem Pl_up : Pl (Txt.upper (bookT is js)) := Pl_upper (Pl_book is js)
theorem th_sa (G : Gd is b js) {x : D} (hx : x ∈ thL (bookT is js) b) : x = .dk [] [] ∨ Sa x := by
  have hl := (text_ok G.S.bk).2
  rcases th_split hx with h | rfl | rfl | rfl | rfl | rfl
  · exact thC_sa x h
  · exact .inr G.sa.1
  · exact .inr (Sa.str Pl_nl (by rw [str_len_app]; show _ + 1 ≤ _; omega))
  · exact .inr (Sa.str Pl_sp (by rw [str_len_app]; show 1 + _ ≤ _; omega))
  · exact .inr (Sa.str Pl_up (by rw [up_len (Pl_book is js)]; omega))
  · exact .inr G.sa.2
theorem th_zt (G : Gd is b js) {x : D} (hx : x ∈ thL (bookT is js) b) : x ∈ thC ∨ x = (D.tup (bx b)) ∨ ∃ y, x = .str y ∧ Pl y ∧ (y = bookT is js ∨ (y ≠ bookT is js ∧ book_of_F [x] = .ok .non none)) ∧ (∃ c r, TL.tl y = c :: r ∧ (c = 102 ∨ c = 32 ∨ c = 70)) := by
  have hl := (text_ok G.S.bk).2
  obtain ⟨t, ht⟩ := tl_pg (is := is) (js := js)
  rcases th_split hx with h | rfl | rfl | rfl | rfl | rfl
  · exact .inl h
  · exact .inr (.inr ⟨_, rfl, Pl_book is js, .inl rfl, _, _, ht, .inl rfl⟩)
  · exact .inr (.inr ⟨_, rfl, Pl_nl, .inr ⟨app_nl_ne _, no_nl G.S.bk G.S.most⟩, 102, _, by rw [TL.tl_append, ht]; rfl, .inl rfl⟩)
  · exact .inr (.inr ⟨_, rfl, Pl_sp, .inr ⟨sp_ne, no_sp hl⟩, 32, _, by rw [TL.tl_append]; rfl, .inr (.inl rfl)⟩)
  · exact .inr (.inr ⟨_, rfl, Pl_up, .inr ⟨up_ne, no_up hl⟩, 70, _, by rw [tl_upper (Pl_book is js), ht]; rfl, .inr (.inr rfl)⟩)
  · exact .inr (.inl rfl)
theorem rep3 {x y z : D} (hx : x = .dk [] [] ∨ Sa x) (sy : Sa y) (sz : Sa z) (gy : ∃ p, Sg y p) (gz : ∃ p, Sg z p) : reprR (.tup [x, y, z]) = some (.str (tupleText [zOf x, zOf y, zOf z])) ∧ reprR (.tup [y, x, z]) = some (.str (tupleText [zOf y, zOf x, zOf z])) ∧ reprR (.tup [y, z, x]) = some (.str (tupleText [zOf y, zOf z, zOf x])) := by
  have l3 : ∀ a c d : D, [a, c, d].length ≤ 8 := fun _ _ _ => Nat.le_of_ble_eq_true rfl
  rcases hx with rfl | sx
  · obtain ⟨py, hy⟩ := gy
    obtain ⟨pz, hz⟩ := gz
    obtain ⟨qy, ey, _⟩ := sy
    obtain ⟨qz, ez, _⟩ := sz
    refine ⟨reprR_g (.cons Sg.dk (.cons hy (.cons hz .nil))) rfl (l3 _ _ _), reprR_g (.cons hy (.cons Sg.dk (.cons hz .nil))) ?_ (l3 _ _ _), reprR_g (.cons hy (.cons hz (.cons Sg.dk .nil))) ?_ (l3 _ _ _)⟩
    · show ((D.pys [y, .dk [] [], z]).map PyData.tuple).bind _ = none
      have : D.pys [y, .dk [] [], z] = none := by
        show (D.py y).bind _ = _
        rw [ey]; rfl
      rw [this]; rfl
    · show ((D.pys [y, z, .dk [] []]).map PyData.tuple).bind _ = none
      have : D.pys [y, z, .dk [] []] = none := by
        show (D.py y).bind (fun p => ((D.py z).bind _).map _) = _
        rw [ey, ez]; rfl
      rw [this]; rfl
  · refine ⟨reprR_tup (fun d hd => ?_) (l3 _ _ _), reprR_tup (fun d hd => ?_) (l3 _ _ _), reprR_tup (fun d hd => ?_) (l3 _ _ _)⟩ <;>
      (simp only [List.mem_cons, List.not_mem_nil, or_false] at hd; rcases hd with rfl | rfl | rfl <;> assumption)
theorem Sg_got : Sg (.str "got") (.str "got") := Sg.str (Pl.of (by decide +kernel)) (by decide +kernel)
theorem Gd.sg (G : Gd is b js) : (∃ p, Sg (D.str (bookT is js)) p) ∧ ∃ p, Sg (D.tup (bx b)) p := ⟨⟨_, Sg.str (Pl_book is js) (by have := (text_ok G.S.bk).2; omega)⟩, Sg.box (fun p hp => (G.S.three p hp).name) (by have := G.S.box; omega)⟩
theorem thC_z : ∀ x ∈ thC, (x = .str "got" ∨ zOf x ≠ zOf (.str "got")) ∧ (x = .str "first lock you" ∨ (TL.tl (zOf x)).take 2 ≠ [39, 102]) := by
  intro x hx
  have : (thC.all fun x => ((match x with | .str y => decide (y = "got") | _ => false) || !decide (zOf x = zOf (.str "got"))) && ((match x with | .str y => decide (y = "first lock you") | _ => false) || !decide ((TL.tl (zOf x)).take 2 = [39, 102]))) = true := by decide +kernel
  have h := List.all_eq_true.mp this x hx
  rw [Bool.and_eq_true, Bool.or_eq_true, Bool.or_eq_true] at h
  obtain ⟨h1, h2⟩ := h
  refine ⟨h1.imp (fun h => ?_) fun h => by simpa using h, h2.imp (fun h => ?_) fun h => by simpa using h⟩
  · split at h
    · rw [of_decide_eq_true h]
    · cases h
  · split at h
    · rw [of_decide_eq_true h]
    · cases h
theorem fg0 (G : Gd is b js) {x : D} (hx : x ∈ thL (bookT is js) b) : FtG is b js (.tup [x, (D.str (bookT is js)), (D.tup (bx b)), .int 0]) := by
  by_cases e : x = .str "got"
  · subst e
    have a := acc_got G G.S.three (by have := G.S.box; omega) (n := 0) (by decide)
    rw [decide_eq_true rfl] at a
    exact ⟨true, a, gr_eq G (.inr (.inr ⟨rfl, rfl, rfl⟩))⟩
  · refine ⟨false, acc_none (bi_hd hx (fun z => absurd z e) (fun _ => (by decide : (4 : Nat) ≠ 3))), gr_ne G (rep3 (th_sa G hx) G.sa.1 G.sa.2 G.sg.1 G.sg.2).1 fun z => ?_⟩
    have z := tt3_1 z
    rcases th_zt G hx with h | rfl | ⟨y, rfl, P, _, c, r, hc, h⟩
    · exact (thC_z x h).1.elim e fun n => n z
    · obtain ⟨r, hr⟩ := zO_bg G
      rw [z] at hr
      exact absurd hr (by show TL.tl (reprText "got") ≠ _; rw [rt_tl (Pl.of (by decide +kernel))]; intro q; exact absurd (List.cons.inj q).1 (by decide))
    · have := rt_inj P (Pl.of (by decide +kernel)) (show reprText y = reprText "got" from z)
      exact e (congrArg D.str this)
theorem fg1 (G : Gd is b js) {x : D} (hx : x ∈ thL (bookT is js) b) (hn : x ≠ .str "first lock you") : FtG is b js (.tup [.str "got", x, (D.tup (bx b)), .int 0]) := by
  have kb := known_bg G
  by_cases e : x = (D.str (bookT is js))
  · subst e
    have a := acc_got G G.S.three (by have := G.S.box; omega) (n := 0) (by decide)
    rw [decide_eq_true rfl] at a
    exact ⟨true, a, gr_eq G (.inr (.inr ⟨rfl, rfl, rfl⟩))⟩
  · have hb : book_of_F [x] = .ok .non none := by
      rcases th_zt G hx with h | rfl | ⟨y, rfl, P, h, _⟩
      · exact (thC_bo x h).elim (fun z => absurd z hn) id
      · exact bo_value rfl
      · rcases h with rfl | h
        · exact absurd rfl e
        · exact h.2
    refine ⟨false, acc_none (bi_text kb (by decide) hb), gr_ne G (rep3 (th_sa G hx) Sa_got G.sa.2 ⟨_, Sg_got⟩ G.sg.2).2.1 fun z => ?_⟩
    have z := tt3_2 z
    obtain ⟨t, ht⟩ := tl_zpg (is := is) (js := js)
    rcases th_zt G hx with h | rfl | ⟨y, rfl, P, h, _⟩
    · refine (thC_z x h).2.elim hn fun n => n ?_
      rw [z, ht]; rfl
    · obtain ⟨r, hr⟩ := zO_bg G
      rw [z, ht] at hr
      exact absurd (List.cons.inj hr).1 (by decide)
    · have := rt_inj P (Pl_book is js) (show reprText y = reprText (bookT is js) from z)
      exact e (congrArg D.str this)
end
section
variable {is : List (Fin 8)} {b : Box} {js : List (List (Fin 8))}
def lay6 : List (Bool × Str) := [(true, "ann"), (true, "bob"), (true, "zed"), (false, "ann"), (false, "bob"), (false, "zed")]
def boxes : List Box := (lay6.map fun a => [a]) ++ (lay6.flatMap fun a => lay6.map fun c => [a, c]) ++ lay6.flatMap fun a => lay6.flatMap fun c => lay6.map fun d => [a, c, d]
theorem mem6 {p : Bool × Str} (h : Three p.2) : p ∈ lay6 := by
  obtain ⟨k, x⟩ := p
  unfold lay6
  simp only [List.mem_cons, List.not_mem_nil, or_false, Prod.mk.injEq]
  cases k <;> rcases h with h | h | h <;> simp_all
theorem mem_boxes (G : Gd is b js) : b ∈ boxes := by
  have h3 := G.S.three
  have hl := G.S.box
  have ne := G.ne
  unfold boxes
  match b, h3, hl, ne with
  | [], _, _, ne => exact absurd rfl ne
  | [p], h3, _, _ => exact List.mem_append_left _ (List.mem_append_left _ (List.mem_map.mpr ⟨p, mem6 (h3 p (by simp)), rfl⟩))
  | [p, q], h3, _, _ => exact List.mem_append_left _ (List.mem_append_right _ (List.mem_flatMap.mpr ⟨p, mem6 (h3 p (by simp)), List.mem_map.mpr ⟨q, mem6 (h3 q (by simp)), rfl⟩⟩))
  | [p, q, r], h3, _, _ => exact List.mem_append_right _ (List.mem_flatMap.mpr ⟨p, mem6 (h3 p (by simp)), List.mem_flatMap.mpr ⟨q, mem6 (h3 q (by simp)), List.mem_map.mpr ⟨r, mem6 (h3 r (by simp)), rfl⟩⟩⟩)
  | _ :: _ :: _ :: _ :: _, _, hl, _ => simp only [List.length_cons] at hl; omega
theorem all_cut {α : Type} {l : List α} {p : α → Bool} (n : Nat) (a : (l.take n).all p = true) (b : (l.drop n).all p = true) : l.all p = true := by
  have e := List.take_append_drop n l
  rw [← e, List.all_append, a, b]
  rfl
def noBx (b : Box) : Bool := thC.all fun x => !decide (zOf x = zOf (.tup (bx b)))
theorem nb0 : (boxes.take 65).all noBx = true := by decide +kernel
theorem nb1 : ((boxes.drop 65).take 65).all noBx = true := by decide +kernel
theorem nb2 : (((boxes.drop 65).drop 65).take 65).all noBx = true := by decide +kernel
theorem nb3 : (((boxes.drop 65).drop 65).drop 65).all noBx = true := by decide +kernel
theorem thC_bx : ∀ b ∈ boxes, ∀ x ∈ thC, zOf x ≠ zOf (.tup (bx b)) := by
  intro b hb x hx
  have : boxes.all noBx = true := all_cut 65 nb0 (all_cut 65 nb1 (all_cut 65 nb2 nb3))
  have h := List.all_eq_true.mp (List.all_eq_true.mp this b hb) x hx
  simpa using h
theorem fg2 (G : Gd is b js) {x : D} (hx : x ∈ thL (bookT is js) b) : FtG is b js (.tup [.str "got", (D.str (bookT is js)), x, .int 0]) := by
  by_cases e : x = (D.tup (bx b))
  · subst e
    have a := acc_got G G.S.three (by have := G.S.box; omega) (n := 0) (by decide)
    rw [decide_eq_true rfl] at a
    exact ⟨true, a, gr_eq G (.inr (.inr ⟨rfl, rfl, rfl⟩))⟩
  · have ha : accepts_2_F [.tup [.str "got", (D.str (bookT is js)), x, .int 0], .tup []] = .ok (.bl false) none := by
      rcases th_zt G hx with h | rfl | ⟨y, rfl, P, h, _⟩
      · have k := thC_kn x h
        cases hk : knT x with
        | false => rw [hk] at k; exact acc_none (bi_known (r := [.int 0]) (by rw [szW_got]; rfl) k)
        | true =>
          have : x = .tup (bx []) := by
            unfold knT at hk
            split at hk
            · rfl
            · cases hk
          subst this
          have a := acc_got G (c := []) (fun _ h => by cases h) (by decide) (n := 0) (by decide)
          rw [decide_eq_false G.ne] at a
          exact a
      · exact absurd rfl e
      · exact acc_none (bi_known (r := [.int 0]) (by rw [szW_got]; rfl) (known_text1 y))
    refine ⟨false, ha, gr_ne G (rep3 (th_sa G hx) Sa_got G.sa.1 ⟨_, Sg_got⟩ G.sg.1).2.2 fun z => ?_⟩
    have z := tt3_3 z
    rcases th_zt G hx with h | rfl | ⟨y, rfl, P, h, _⟩
    · exact thC_bx b (mem_boxes G) x h z
    · exact e rfl
    · obtain ⟨r, hr⟩ := zO_bg G
      rw [← z, show zOf (.str y) = reprText y from rfl, rt_tl P] at hr
      exact absurd (List.cons.inj hr).1 (by decide)
theorem int_text (y : Str) : is_integer_F [.str y] = .ok (.bl false) none := by
  have q : isB "int" (.str y) = some false := rfl
  unfold is_integer_F is_integer_b
  simp! only [Ev.all5, q]
theorem int_tup (xs : List D) : is_integer_F [.tup xs] = .ok (.bl false) none := by
  have q : isB "int" (.tup xs) = some false := rfl
  unfold is_integer_F is_integer_b
  simp! only [Ev.all5, q]
theorem thC_int : ∀ x ∈ thC, (∃ i, x = .int i) ∨ (is_integer_F [x] = .ok (.bl false) none ∧ (isB "int" x = some false ∨ (isB "int" x = some true ∧ isB "bool" x = some true))) := by
  intro x hx
  have : (thC.all fun x => (match x with | .int _ => true | _ => false) || (okB (is_integer_F [x]) false && (decide (isB "int" x = some false) || (decide (isB "int" x = some true) && decide (isB "bool" x = some true))))) = true := by decide +kernel
  have h := List.all_eq_true.mp this x hx
  rw [Bool.or_eq_true, Bool.and_eq_true, Bool.or_eq_true, Bool.and_eq_true] at h
  rcases h with h | ⟨h1, h2⟩
  · left
    split at h
    · exact ⟨_, rfl⟩
    · cases h
  · exact .inr ⟨okB_ok h1, h2.imp of_decide_eq_true fun h => ⟨of_decide_eq_true h.1, of_decide_eq_true h.2⟩⟩
theorem fg3 (G : Gd is b js) {x : D} (hx : x ∈ thL (bookT is js) b) : FtG is b js (.tup [.str "got", (D.str (bookT is js)), (D.tup (bx b)), x]) := by
  have kb := known_bg G
  rcases th_zt G hx with h | rfl | ⟨y, rfl, P, h, _⟩
  · rcases thC_int x h with ⟨i, rfl⟩ | ⟨h1, h2⟩
    · by_cases hi : 0 ≤ i
      · have a := acc_got G G.S.three (by have := G.S.box; omega) (n := i) hi
        rw [decide_eq_true rfl] at a
        exact ⟨true, a, gr_eq G (.inr (.inr ⟨rfl, rfl, by rw [Ev.geI, decide_eq_true hi]⟩))⟩
      · refine ⟨false, acc_none (bi_int kb (.inr ⟨integer_ev i, by rw [Ev.ltI, decide_eq_true (by omega)]⟩)), gr_eq G (.inr (.inr ⟨rfl, rfl, by rw [Ev.geI, decide_eq_false hi]⟩))⟩
    · refine ⟨false, acc_none (bi_int kb (.inl h1)), gr_eq G ?_⟩
      rcases h2 with h2 | ⟨h2, h3⟩
      · exact .inl ⟨false, h2, rfl, rfl⟩
      · exact .inr (.inl ⟨h2, h3, rfl⟩)
  · exact ⟨false, acc_none (bi_int kb (.inl (int_tup _))), gr_eq G (.inl ⟨false, rfl, rfl, rfl⟩)⟩
  · exact ⟨false, acc_none (bi_int kb (.inl (int_text y))), gr_eq G (.inl ⟨false, rfl, rfl, rfl⟩)⟩
theorem fg_len (G : Gd is b js) {xs : List D} (h : xs.length ≠ 4) (hb : book_in_F [.tup xs] = .ok .non none) : FtG is b js (.tup xs) := ⟨false, acc_none hb, gr_len h⟩
theorem fg_no (G : Gd is b js) {v : D} (h : isB "tuple" v = some false) : FtG is b js v := ⟨false, acc_none (bi_no h), gr_no h⟩
theorem fg_out (G : Gd is b js) : FtG is b js (.tup [(D.str (bookT is js)), (D.tup (bx b)), .int 0]) ∧ FtG is b js (.tup [.str "got", (D.tup (bx b)), .int 0]) ∧ FtG is b js (.tup [.str "got", (D.str (bookT is js)), .int 0]) ∧ FtG is b js (.tup [.str "got", (D.str (bookT is js)), (D.tup (bx b))]) := by
  have n3 : (3 : Nat) ≠ 4 := by decide
  have ng : bookT is js ≠ "never" := fun e => by
    obtain ⟨t, ht⟩ := tl_pg (is := is) (js := js)
    rw [e] at ht
    exact absurd (List.cons.inj (show 110 :: _ = 102 :: _ from ht)).1 (by decide)
  exact ⟨fg_len G n3 (bi_str (fun _ => n3) fun e => absurd e ng), fg_len G n3 (bi_str (fun _ => n3) fun e => absurd e (by decide +kernel)), fg_len G n3 (bi_str (fun _ => n3) fun e => absurd e (by decide +kernel)), fg_len G n3 (bi_str (fun _ => n3) fun e => absurd e (by decide +kernel))⟩
theorem fg_in (G : Gd is b js) {x : D} (hx : x ∈ thL (bookT is js) b) : FtG is b js (.tup [x, .str "got", (D.str (bookT is js)), (D.tup (bx b)), .int 0]) ∧ FtG is b js (.tup [.str "got", x, (D.str (bookT is js)), (D.tup (bx b)), .int 0]) ∧ FtG is b js (.tup [.str "got", (D.str (bookT is js)), x, (D.tup (bx b)), .int 0]) ∧ FtG is b js (.tup [.str "got", (D.str (bookT is js)), (D.tup (bx b)), x, .int 0]) := by
  have n5 : (5 : Nat) ≠ 4 := by decide
  have m5 : (5 : Nat) ≠ 3 := by decide
  exact ⟨fg_len G n5 (bi_hd hx (fun _ => n5) fun _ => m5), fg_len G n5 (bi_str (fun _ => n5) fun _ => m5), fg_len G n5 (bi_str (fun _ => n5) fun _ => m5), fg_len G n5 (bi_str (fun _ => n5) fun _ => m5)⟩
end
section
variable {is : List (Fin 8)} {b : Box} {js : List (List (Fin 8))}
def mvN : D := .tup [.tup [.int 1, .int 2, .int 1, .int 1, .int 1, .int 1], .tup (List.replicate 6 (.int 1)), .tup (List.replicate 6 (.int 2))]
def ppN : D := .tup [mvN, .tup [.int 2]]
def FtN (v : D) : Prop := ∃ r, accepts_2_F [v, ppN] = .ok (.bl r) none ∧ _law_never_right_F [(D.str "first lock you"), v] = .ok (.bl r) none
def sameB (r1 r2 : Ro) : Bool := match r1, r2 with
  | .ok (.bl a) none, .ok (.bl c) none => a == c
  | _, _ => false
theorem sameB_ok {v : D} (h : sameB (accepts_2_F [v, ppN]) (_law_never_right_F [(D.str "first lock you"), v]) = true) : FtN v := by
  unfold sameB at h
  split at h
  · rename_i a c e1 e2
    have := eq_of_beq h
    subst this
    exact ⟨_, e1, e2⟩
  · cases h
def neV (x : D) : List D := [.tup [x, (D.str "first lock you"), .tup []], .tup [.str "never", x, .tup []], .tup [.str "never", (D.str "first lock you"), x], .tup [x, .str "never", (D.str "first lock you"), .tup []], .tup [.str "never", x, (D.str "first lock you"), .tup []], .tup [.str "never", (D.str "first lock you"), x, .tup []], .tup [.str "never", (D.str "first lock you"), .tup [], x]]
def sameN (x : D) : Bool := (neV x).all fun v => sameB (accepts_2_F [v, ppN]) (_law_never_right_F [(D.str "first lock you"), v])
theorem fc0 : (thC.take 5).all sameN = true := by decide +kernel
theorem fc1 : ((thC.drop 5).take 5).all sameN = true := by decide +kernel
theorem fc2 : (((thC.drop 5).drop 5).take 5).all sameN = true := by decide +kernel
theorem fc3 : (((thC.drop 5).drop 5).drop 5).all sameN = true := by decide +kernel
theorem fn_closed : ∀ x ∈ thC, ∀ v ∈ neV x, FtN v := by
  intro x hx v hv
  have : thC.all sameN = true := all_cut 5 fc0 (all_cut 5 fc1 (all_cut 5 fc2 fc3))
  exact sameB_ok (List.all_eq_true.mp (List.all_eq_true.mp this x hx) v hv)
theorem fn_out : ∀ v ∈ ([.tup [(D.str "first lock you"), .tup []], .tup [.str "never", .tup []], .tup [.str "never", (D.str "first lock you")], .lst [.str "never", (D.str "first lock you"), .tup []]] : List D), FtN v := by
  intro v hv
  have : (([.tup [(D.str "first lock you"), .tup []], .tup [.str "never", .tup []], .tup [.str "never", (D.str "first lock you")], .lst [.str "never", (D.str "first lock you"), .tup []]] : List D).all fun v => sameB (accepts_2_F [v, ppN]) (_law_never_right_F [(D.str "first lock you"), v])) = true := by decide +kernel
  exact sameB_ok (List.all_eq_true.mp this v hv)
end
section
variable {is : List (Fin 8)} {b : Box} {js : List (List (Fin 8))}
def lastBob (b : Box) : Bool := decide (b.getLast? = some (true, ("bob" : Str)))
def okI (r : Ro) (k : Int) : Bool := match r with
  | .ok (.int c) none => c == k
  | _ => false
theorem okI_ok {r : Ro} {k : Int} (h : okI r k = true) : r = .ok (.int k) none := by
  unfold okI at h
  split at h
  · rw [eq_of_beq h]
  · cases h
theorem nr_box : ∀ b ∈ boxes, _law_never_right_F [(D.str "first lock you"), .tup [.str "never", (D.str "first lock you"), .tup (bx b)]] = .ok (.bl (!lastBob b)) none := by
  intro b hb
  have : (boxes.all fun b => okB (_law_never_right_F [(D.str "first lock you"), .tup [.str "never", (D.str "first lock you"), .tup (bx b)]]) (!lastBob b)) = true := by decide +kernel
  exact okB_ok (List.all_eq_true.mp this b hb)
theorem sb_box : ∀ b ∈ boxes, state_behind_F [mvN, .int 0, .tup (bx b)] = .ok (.int (if lastBob b then 2 else 1)) none := by
  intro b hb
  have : (boxes.all fun b => okI (state_behind_F [mvN, .int 0, .tup (bx b)]) (if lastBob b then 2 else 1)) = true := by decide +kernel
  exact okI_ok (List.all_eq_true.mp this b hb)
theorem lk_book : book_of_F [(D.str "first lock you")] = .nw (.i "Book" bookN (bookV [1] [(true, ("bob" : Str))] [])) none := by kernel_rfl
theorem tab_ok : is_table_F [mvN, .tup [.int 2]] = .ok (.bl true) none := by kernel_rfl
theorem lk_begun : Book_begun_F [(D.ins "Book" bookN (bookV [1] [(true, ("bob" : Str))] []))] = .ok (.tup [.tup [.str "lock", .str "bob"]]) none := by kernel_rfl
theorem never_box (G : Gd is b js) : FtN (.tup [.str "never", (D.str "first lock you"), (D.tup (bx b))]) := by
  have hb := mem_boxes G
  refine ⟨!lastBob b, ?_, nr_box b hb⟩
  have e0 := bi_never (known_bg G) lk_book
  have s1 := sb_box b hb
  have s0 : state_behind_F [mvN, .int 0, .tup [.tup [.str "lock", .str "bob"]]] = .ok (.int 2) none := by kernel_rfl
  have hs : shows_never_F [(D.ins "Book" bookN (bookV [1] [(true, ("bob" : Str))] [])), (D.tup (bx b)), ppN] = .ok (.bl (!lastBob b)) none := by
    have q2 : neD (.int ((2 : Nat) : Int)) (.int 2) = some (.bl false) := rfl
    have tp : isB "tuple" ppN = some true := rfl
    have lp : lenD ppN = some (.int ((2 : Nat) : Int)) := rfl
    have un : bSeq 2 (bCons (bName 3) (bCons (bName 4) bNil)) ppN [.im (D.ins "Book" bookN (bookV [1] [(true, ("bob" : Str))] [])), .im (D.tup (bx b)), .im ppN, .no, .no, .no] = some [.im (D.ins "Book" bookN (bookV [1] [(true, ("bob" : Str))] [])), .im (D.tup (bx b)), .im ppN, .im mvN, .im (.tup [.int 2]), .no] := rfl
    have n2 : ninD (.int 2) (.tup [.int 2]) = some (.bl false) := by kernel_rfl
    have i1 : inD (.int 1) (.tup [.int 2]) = some (.bl false) := by kernel_rfl
    have i2 : inD (.int 2) (.tup [.int 2]) = some (.bl true) := by kernel_rfl
    have hv : telV (compV [5] (anyI (telV (callV none 1 rules_of_F [] (aCons (vE 0) aNil)))) (bName 5) trueT shows_never_x1) [.im (D.ins "Book" bookN (bookV [1] [(true, ("bob" : Str))] [])), .im (D.tup (bx b)), .im ppN, .im mvN, .im (.tup [.int 2]), .no] = .ok (.d (.lst [.bl true, .bl true, .bl true, .bl true, .bl true, .bl true, .bl true, .bl true, .bl true, .bl true])) [.im (D.ins "Book" bookN (bookV [1] [(true, ("bob" : Str))] [])), .im (D.tup (bx b)), .im ppN, .im mvN, .im (.tup [.int 2]), .no] := by kernel_rfl
    have al : allD (.lst [.bl true, .bl true, .bl true, .bl true, .bl true, .bl true, .bl true, .bl true, .bl true, .bl true]) = some (.bl true) := by kernel_rfl
    have lb := lk_begun
    unfold shows_never_F shows_never_b
    generalize ppN = pp at *
    generalize bookV [1] [(true, ("bob" : Str))] [] = fs at *
    cases hl : lastBob b with
    | true =>
      rw [hl] at s1
      have s1 : state_behind_F [mvN, .int 0, (D.tup (bx b))] = .ok (.int 2) none := s1
      simp! only [Ev.all5, tp, lp, q2, ↓un, tab_ok, lb, s0, s1, n2, i2]
    | false =>
      rw [hl] at s1
      have s1 : state_behind_F [mvN, .int 0, (D.tup (bx b))] = .ok (.int 1) none := s1
      simp! only [Ev.all5, tp, lp, q2, ↓un, tab_ok, lb, s0, s1, n2, i1, ↓hv, al]
  have n0 : ∀ ns fs, isND (.ins "Book" ns fs) .non = some (.bl false) := fun _ _ => rfl
  have q : eqD (.str "never") (.str "got") = some (.bl false) := by rw [Ev.eqS]; rfl
  unfold accepts_2_F accepts_2_b
  generalize ppN = pp at *
  generalize bookV [1] [(true, ("bob" : Str))] [] = fs at *
  simp! only [Ev.all5, e0, hs, n0, q]
def zN : Str := tupleText [zOf (.str "never"), zOf (D.str "first lock you")]
theorem Sa_lk : Sa (D.str "first lock you") := Sa.of (by decide +kernel)
theorem Sa_never : Sa (.str "never") := Sa.of (by decide +kernel)
theorem rep_zN : reprD (.tup [.str "never", (D.str "first lock you")]) = some (.str zN) := reprD_tup (fun d hd => by
  rcases List.mem_cons.mp hd with rfl | hd
  · exact Sa_never
  · rw [List.mem_singleton.mp hd]; exact Sa_lk) (Nat.le_of_ble_eq_true rfl)
theorem nr_len {p : D} {xs : List D} (h : xs.length ≠ 3) : _law_never_right_F [p, .tup xs] = .ok (.bl false) none := by
  have q := neII xs.length 3
  rw [decide_eq_false h] at q
  have q : neD (.int (xs.length : Nat)) (.int 3) = some (.bl true) := q
  unfold _law_never_right_F _law_never_right_b
  simp! only [Ev.all5, isTW, q]
theorem nr_ne {x y c : D} {z : Str} (h : reprR (.tup [x, y]) = some (.str z)) (hz : z ≠ zN) : _law_never_right_F [(D.str "first lock you"), .tup [x, y, c]] = .ok (.bl false) none := by
  have q : neD (.int ((3 : Nat) : Int)) (.int 3) = some (.bl false) := rfl
  have e := rep_zN
  have c3 : cutD none (some 2) (.tup [x, y, c]) = some (.tup [x, y]) := rfl
  have q2 : neD (.str z) (.str zN) = some (.bl true) := by rw [Ev.neS]; simp [hz]
  unfold _law_never_right_F _law_never_right_b
  simp! only [Ev.all5, isTW, q, ↓c3, h, e, q2]
theorem nr_text (y : Str) : _law_never_right_F [(D.str "first lock you"), .tup [.str "never", (D.str "first lock you"), .str y]] = .ok (.bl false) none := by
  have q : neD (.int ((3 : Nat) : Int)) (.int 3) = some (.bl false) := rfl
  have e := rep_zN
  have e' := reprR_of e
  have c3 : cutD none (some 2) (.tup [.str "never", (D.str "first lock you"), .str y]) = some (.tup [.str "never", (D.str "first lock you")]) := rfl
  have q2 : neD (.str zN) (.str zN) = some (.bl false) := by rw [Ev.neS]; simp
  have g2 : FL.getD (.tup [.str "never", (D.str "first lock you"), .str y]) (.int 2) = some (.str y) := rfl
  have qt : isB "tuple" (.str y) = some false := rfl
  have ek : _law_is_known_F [.str y] = .ok (.bl false) none := by
    unfold _law_is_known_F _law_is_known_b
    simp! only [Ev.all5, qt]
  unfold _law_never_right_F _law_never_right_b
  simp! only [Ev.all5, isTW, q, ↓c3, ↓g2, e', e, q2, ek]
theorem rep2 {x y : D} (sx : Sa x) (sy : Sa y) : reprR (.tup [x, y]) = some (.str (tupleText [zOf x, zOf y])) := reprR_tup (fun d hd => by
  rcases List.mem_cons.mp hd with rfl | hd
  · exact sx
  · rw [List.mem_singleton.mp hd]; exact sy) (Nat.le_of_ble_eq_true rfl)
theorem fn0 (G : Gd is b js) {x : D} (hx : x ∈ thL (bookT is js) b) : FtN (.tup [x, (D.str "first lock you"), .tup []]) := by
  rcases th_zt G hx with h | rfl | ⟨y, rfl, P, _, c, r, hc, h⟩
  · exact fn_closed x h _ List.mem_cons_self
  · refine ⟨false, acc_none (bi_head rfl), nr_ne (rep2 G.sa.2 Sa_lk) fun z => ?_⟩
    obtain ⟨r, hr⟩ := zO_bg G
    rw [tt2_l z] at hr
    exact absurd hr (by show TL.tl (reprText "never") ≠ _; rw [rt_tl (Pl.of (by decide +kernel))]; intro q; exact absurd (List.cons.inj q).1 (by decide))
  · have yn : y ≠ "never" := fun e => by
      rw [e] at hc
      have := (List.cons.inj (show 110 :: _ = c :: r from hc)).1
      omega
    have sy : Sa (.str y) := (th_sa G hx).elim (fun z => by cases z) id
    refine ⟨false, acc_none (bi_str (fun _ => (by decide : (3 : Nat) ≠ 4)) fun e => absurd e yn), nr_ne (rep2 sy Sa_lk) fun z => ?_⟩
    exact yn (rt_inj P (Pl.of (by decide +kernel)) (show reprText y = reprText "never" from tt2_l z))
theorem fn1 (G : Gd is b js) {x : D} (hx : x ∈ thL (bookT is js) b) (hn : x ≠ (D.str (bookT is js))) : FtN (.tup [.str "never", x, .tup []]) := by
  have k0 : is_known_F [.tup []] = .ok (.bl true) none := by kernel_rfl
  rcases th_zt G hx with h | rfl | ⟨y, rfl, P, h, c, r, hc, _⟩
  · exact fn_closed x h _ (List.mem_cons_of_mem _ List.mem_cons_self)
  · refine ⟨false, acc_none (bi_textN k0 (bo_value rfl)), nr_ne (rep2 Sa_never G.sa.2) fun z => ?_⟩
    obtain ⟨r, hr⟩ := zO_bg G
    rw [tt2_r z] at hr
    exact absurd hr (by show TL.tl (reprText "first lock you") ≠ _; rw [rt_tl (Pl.of (by decide +kernel))]; intro q; exact absurd (List.cons.inj q).1 (by decide))
  · rcases h with rfl | ⟨_, h⟩
    · exact absurd rfl hn
    · have sy : Sa (.str y) := (th_sa G hx).elim (fun z => by cases z) id
      refine ⟨false, acc_none (bi_textN k0 h), nr_ne (rep2 Sa_never sy) fun z => ?_⟩
      have e : y = "first lock you" := rt_inj P (Pl.of (by decide +kernel)) (show reprText y = reprText "first lock you" from tt2_r z)
      rw [e, lk_book] at h
      cases h
theorem fn2 (G : Gd is b js) {x : D} (hx : x ∈ thL (bookT is js) b) : FtN (.tup [.str "never", (D.str "first lock you"), x]) := by
  rcases th_zt G hx with h | rfl | ⟨y, rfl, P, h, c, r, hc, _⟩
  · exact fn_closed x h _ (List.mem_cons_of_mem _ (List.mem_cons_of_mem _ List.mem_cons_self))
  · exact never_box G
  · exact ⟨false, acc_none (bi_known (r := []) (by rw [szW_never]; rfl) (known_text1 y)), nr_text y⟩
theorem fn_in (G : Gd is b js) {x : D} (hx : x ∈ thL (bookT is js) b) : FtN (.tup [x, .str "never", (D.str "first lock you"), .tup []]) ∧ FtN (.tup [.str "never", x, (D.str "first lock you"), .tup []]) ∧ FtN (.tup [.str "never", (D.str "first lock you"), x, .tup []]) ∧ FtN (.tup [.str "never", (D.str "first lock you"), .tup [], x]) := by
  rcases th_zt G hx with h | rfl | ⟨y, rfl, P, h, c, r, hc, hh⟩
  · refine ⟨fn_closed x h _ ?_, fn_closed x h _ ?_, fn_closed x h _ ?_, fn_closed x h _ ?_⟩ <;> simp [neV]
  · have n4 : (4 : Nat) ≠ 3 := by decide
    have ng : ("never" : Str) ≠ "got" := by decide +kernel
    exact ⟨⟨false, acc_none (bi_head rfl), nr_len n4⟩, ⟨false, acc_none (bi_str (fun e => absurd e ng) fun _ => n4), nr_len n4⟩, ⟨false, acc_none (bi_str (fun e => absurd e ng) fun _ => n4), nr_len n4⟩, ⟨false, acc_none (bi_str (fun e => absurd e ng) fun _ => n4), nr_len n4⟩⟩
  · have n4 : (4 : Nat) ≠ 3 := by decide
    have ng : ("never" : Str) ≠ "got" := by decide +kernel
    have yg : y ≠ "got" := fun e => by
      rw [e] at hc
      have := (List.cons.inj (show 103 :: _ = c :: r from hc)).1
      omega
    exact ⟨⟨false, acc_none (bi_str (fun e => absurd e yg) fun _ => n4), nr_len n4⟩, ⟨false, acc_none (bi_str (fun e => absurd e ng) fun _ => n4), nr_len n4⟩, ⟨false, acc_none (bi_str (fun e => absurd e ng) fun _ => n4), nr_len n4⟩, ⟨false, acc_none (bi_str (fun e => absurd e ng) fun _ => n4), nr_len n4⟩⟩
end
section
variable {is : List (Fin 8)} {b : Box} {js : List (List (Fin 8))} {bs : List Box}
theorem shows_evO (B : BookOk is b js) {c : Box} (hc : ∀ p ∈ c, IsName p.2) (most : Int) {v : D} (hv : (∃ ss : List D, v = .tup ss ∧ (∀ x ∈ ss, OkW x) ∧ ss.length ≤ 14) ∨ isB "tuple" v = some false) : shows_got_F [.ins "Book" bookN (bookV is b js), .tup (bx c), .int most, v] = .ok (.bl (judgeB js b c most v)) none := by
  have ng : ∀ Γ : En, negE (cE (.int 1)) Γ = .ok (.d (.int (-1))) Γ := fun _ => rfl
  have hb : BxI [b] := BxI.one B.names.1 B.names.2
  have ei := mail_init_evW (is := is) (b := b) (js := js)
  have e4 : mailN.contains "led" = false := by kernel_rfl
  have e5 : ([] : List Str).contains "led" = false := rfl
  have hb1 : [D.tup (bx b)] = bxs [b] := rfl
  have n0 := nsl 0 (by decide)
  have ml : mailN.length = 2 := rfl
  rw [hb1] at ei
  rcases hv with ⟨ss, rfl, hs, hl⟩ | hv
  · have le : leD (.int (ss.length : Nat)) (.int most) = some (.bl (decide ((ss.length : Int) ≤ most))) := by rw [Ev.leI]
    cases hr : runS js [b] ss 0 with
    | mk o bs' =>
      cases o with
      | some q =>
        have e := ledA_noW B hb (by simp; omega) hs hr
        have : judgeB js b c most (.tup ss) = false := by rw [judge_tup, hr]; exact Bool.and_false _
        rw [this]
        unfold shows_got_F shows_got_b
        simp! only [shows_got_x1, Ev.all5, Ev.tryO, Ev.trOK1, Ev.trOK2, ei, e4, e5, e]
      | none =>
        obtain ⟨hi, e⟩ := ledA_okW B hb (by simp; omega) hs hr
        have h0 : 0 < bs'.length := by
          have : ∀ (ss : List D) (bs bs' : List Box) (k : Nat), 0 < bs.length → runS js bs ss k = (none, bs') → 0 < bs'.length := by
            intro ss
            induction ss with
            | nil => intro bs bs' k h e; cases e; exact h
            | cons s ss ih =>
              intro bs bs' k h e
              unfold runS at e
              split at e
              · exact ih _ _ _ (by rw [List.length_append]; omega) e
              · cases e
          exact this ss [b] bs' 0 (by simp) hr
        obtain ⟨x, g1, g2, g3⟩ := last_get h0
        have hj : judgeB js b c most (.tup ss) = (decide ((ss.length : Int) ≤ most) && decide (x = c)) := by
          rw [judge_tup, hr]
          show (_ && decide (bs'.getLast? = some c)) = _
          rw [g1]
          by_cases h : x = c <;> simp [h]
        rw [hj]
        have eq := eq_bxD ((hi.ok x g3).1) hc
        have em := mail_boxes_ev (is := is) (b := b) (js := js) (bs := bs')
        unfold shows_got_F shows_got_b
        by_cases hm : (ss.length : Int) ≤ most
        · rw [decide_eq_true hm] at le ⊢
          rcases e with e | e
          · simp! only [shows_got_x1, Ev.all5, Ev.tryO, Ev.trOK1, ei, e4, e5, e, le, em, ng, g2, eq]
          · simp! only [shows_got_x1, Ev.all5, Ev.tryO, Ev.trOK1, ei, e4, e5, e, le, em, ng, g2, eq]
        · rw [decide_eq_false hm] at le ⊢
          rcases e with e | e
          · simp! only [shows_got_x1, Ev.all5, Ev.tryO, Ev.trOK1, ei, e4, e5, e, le, Bool.false_and]
          · simp! only [shows_got_x1, Ev.all5, Ev.tryO, Ev.trOK1, ei, e4, e5, e, le, Bool.false_and]
  · rw [judge_no hv]
    have e := ledA_noneW (is := is) (b := b) (js := js) (bs := [b]) hv
    unfold shows_got_F shows_got_b
    simp! only [shows_got_x1, Ev.all5, Ev.tryO, Ev.trOK1, Ev.trOK2, ei, e4, e5, e]
def OdV (v : D) : Prop := (∃ ss : List D, v = .tup ss ∧ ss ≠ [] ∧ (∀ x ∈ ss, OkW x) ∧ ss.length ≤ 14) ∨ isB "tuple" v = some false
theorem acc_gotO (G : Gd is b js) {v : D} (hv : OdV v) : accepts_2_F [(D.tup [.str "got", .str (bookT is js), .tup (bx b), .int 0]), v] = .ok (.bl false) none := by
  have e1 := book_in_ev G.S.bk G.S.three (by have := G.S.box; omega) (most := 0) (by decide)
  have e2 := shows_evO G.S.bk (c := b) (fun p hp => (G.S.three p hp).name) 0 (v := v) (hv.imp (fun ⟨ss, h1, _, h2, h3⟩ => ⟨ss, h1, h2, h3⟩) id)
  have ej : judgeB js b b 0 v = false := by
    rcases hv with ⟨ss, rfl, h0, _, _⟩ | hv
    · rw [judge_tup]
      have : ¬ ((ss.length : Int) ≤ 0) := by
        have := List.length_pos_iff.mpr h0
        omega
      rw [decide_eq_false this, Bool.false_and]
    · exact judge_no hv
  rw [ej] at e2
  have n0 : ∀ ns fs, isND (.ins "Book" ns fs) .non = some (.bl false) := fun _ _ => rfl
  have q : eqD (.str "got") (.str "got") = some (.bl true) := by rw [Ev.eqS]; rfl
  unfold accepts_2_F accepts_2_b
  simp! only [Ev.all5, at3, e1, e2, n0, q]
def odL (pg : Str) : List D := [.non, .bl true, .str "", .str "0", .dk [] [], .tup [.tup []], .tup [.non], .tup [.str "a", .str "b"], .int (-1), .int 1000000000000000000000000000000, .str pg, .lst [.tup []], .int 0, .lst [ppN], .tup [ppN]]
theorem od_split {pg : Str} {x : D} (h : x ∈ odL pg) : x ∈ odL "" ∨ x = .str pg := by
  unfold odL at h ⊢
  simp only [List.mem_cons, List.not_mem_nil, or_false] at h ⊢
  rcases h with rfl | rfl | rfl | rfl | rfl | rfl | rfl | rfl | rfl | rfl | rfl | rfl | rfl | rfl | rfl <;> simp
theorem od_odv {pg : Str} : ∀ x ∈ odL pg, OdV x := by
  intro x h
  unfold odL at h
  simp only [List.mem_cons, List.not_mem_nil, or_false] at h
  have one : ∀ y : D, OkW y → OdV (.tup [y]) := fun y hy => .inl ⟨_, rfl, by simp, fun z hz => by rw [List.mem_singleton.mp hz]; exact hy, Nat.le_of_ble_eq_true rfl⟩
  rcases h with rfl | rfl | rfl | rfl | rfl | rfl | rfl | rfl | rfl | rfl | rfl | rfl | rfl | rfl | rfl
  · exact .inr rfl
  · exact .inr rfl
  · exact .inr rfl
  · exact .inr rfl
  · exact .inr rfl
  · exact one _ (.inl ⟨[], rfl, (fun _ h => by cases h), by decide⟩)
  · exact one _ (.inr rfl)
  · refine .inl ⟨_, rfl, by simp, fun z hz => ?_, Nat.le_of_ble_eq_true rfl⟩
    rcases List.mem_cons.mp hz with rfl | hz
    · exact .inr rfl
    · rw [List.mem_singleton.mp hz]; exact .inr rfl
  · exact .inr rfl
  · exact .inr rfl
  · exact .inr rfl
  · exact .inr rfl
  · exact .inr rfl
  · exact .inr rfl
  · refine one _ (.inl ⟨_, rfl, fun z hz => ?_, Nat.le_of_ble_eq_true rfl⟩)
    rcases List.mem_cons.mp hz with rfl | hz
    · exact .inr (.inr ⟨rfl, .inl rfl⟩)
    · rw [List.mem_singleton.mp hz]; exact .inr (.inr ⟨rfl, .inl rfl⟩)
theorem acc_neverO {x : D} (h : x ∈ odL (bookT is js)) : accepts_2_F [(D.tup [.str "never", .str "first lock you", .tup []]), x] = .ok (.bl false) none := by
  rcases od_split h with h | rfl
  · have : ((odL "").all fun x => okB (accepts_2_F [(D.tup [.str "never", .str "first lock you", .tup []]), x]) false) = true := by decide +kernel
    exact okB_ok (List.all_eq_true.mp this x h)
  · kernel_rfl
theorem od_none {x : D} (h : x ∈ odL (bookT is js)) (c : D) : accepts_2_F [x, c] = .ok (.bl false) none := by
  refine acc_none ?_
  rcases od_split h with h | rfl
  · have : ((odL "").all fun x => okN (book_in_F [x])) = true := by decide +kernel
    exact okN_ok (List.all_eq_true.mp this x h)
  · exact bi_no rfl
end
section
variable {is : List (Fin 8)} {b : Box} {js : List (List (Fin 8))}
inductive Bt (ss ths : List D) : D → Prop where
  | put {a : Nat} {x : D} (ha : a < ss.length) (hx : x ∈ ths) : Bt ss ths (.tup (ss.take a ++ [x] ++ ss.drop (a + 1)))
  | out {a : Nat} (ha : a < ss.length) : Bt ss ths (.tup (ss.take a ++ ss.drop (a + 1)))
  | ins {a : Nat} {x : D} (ha : a < ss.length) (hx : x ∈ ths) : Bt ss ths (.tup (ss.take a ++ [x] ++ ss.drop a))
  | lst : Bt ss ths (.lst ss)
theorem bent3_ok {p : List D} (P : Cup p) {ss ths : List D} (h0 : ss ≠ []) (h4 : ss.length ≤ 4) (t0 : ths ≠ []) (t4 : ths.length ≤ 100) : ∃ (v : D) (p' : List D), _law_bent_3_F [.lst p, .tup ss, .lst ths] = .ok v (some (.l p')) ∧ Bt ss ths v ∧ Cup p' := by
  have l0 := List.length_pos_iff.mpr h0
  have m0 := List.length_pos_iff.mpr t0
  obtain ⟨a, p1, e1, a0, a1, P1⟩ := sip_ok P (n := (ss.length : Int)) (by omega) (by omega)
  obtain ⟨a, rfl⟩ := Int.eq_ofNat_of_zero_le a0
  obtain ⟨k, p2, e2, k0, k1, P2⟩ := sip_ok P1 (n := 8) (by decide) (by decide)
  obtain ⟨r, p3, e3, r0, r1, P3⟩ := sip_ok P2 (n := (ths.length : Int)) (by omega) (by omega)
  obtain ⟨x, hx, ex⟩ := at_in (xs := ths) r0 r1
  have ha : a < ss.length := by omega
  have tk : cutL ss none (some ((a : Nat) : Int)) = ss.take a := cut_take ss a
  have dr : ∀ n : Nat, cutL ss (some (n : Int)) none = ss.drop n := fun n => cut_drop ss n
  have d0 := dr a
  have d1 : cutL ss (some (((a : Nat) : Int) + 1)) none = ss.drop (a + 1) := by exact_mod_cast dr (a + 1)
  have hts : (ss.take a).length ≤ 4 := by rw [List.length_take]; omega
  have hds : ∀ n, (ss.drop n).length ≤ 4 := fun n => by rw [List.length_drop]; omega
  have z1 : (ss.take a).length + 1 ≤ sizeLine := by show _ ≤ 2 ^ 24; omega
  have z2 : ∀ n, (ss.take a ++ [x]).length + (ss.drop n).length ≤ sizeLine := fun n => by rw [List.length_append, List.length_singleton]; have := hds n; show _ ≤ 2 ^ 24; omega
  have z3 : (ss.take a).length + (ss.drop (a + 1)).length ≤ sizeLine := by have := hds (a + 1); show _ ≤ 2 ^ 24; omega
  by_cases c1 : k < 5
  · have q : ltD (.int k) (.int 5) = some (.bl true) := by rw [Ev.ltI, decide_eq_true c1]
    refine ⟨_, p3, ?_, .put ha hx, P3⟩
    unfold _law_bent_3_F _law_bent_3_b
    simp! only [e1, e2, e3, ex, q, tk, d1, if_pos z1, if_pos (z2 _)]
  · have q : ltD (.int k) (.int 5) = some (.bl false) := by rw [Ev.ltI, decide_eq_false c1]
    by_cases c2 : k = 5
    · subst c2
      have q2 : eqD (.int 5) (.int 5) = some (.bl true) := rfl
      refine ⟨_, p3, ?_, .out ha, P3⟩
      unfold _law_bent_3_F _law_bent_3_b
      simp! only [e1, e2, e3, ex, q, q2, tk, d1, if_pos z3]
    · have q2 : eqD (.int k) (.int 5) = some (.bl false) := by rw [Ev.eqI, decide_eq_false c2]
      by_cases c3 : k = 6
      · subst c3
        have q3 : eqD (.int 6) (.int 6) = some (.bl true) := rfl
        refine ⟨_, p3, ?_, .ins ha hx, P3⟩
        unfold _law_bent_3_F _law_bent_3_b
        simp! only [e1, e2, e3, ex, q, q2, q3, tk, d0, if_pos z1, if_pos (z2 _)]
      · have q3 : eqD (.int k) (.int 6) = some (.bl false) := by rw [Ev.eqI, decide_eq_false c3]
        have hln : ∀ Γ : En, listN [.d (.tup ss)] Γ = .ok (.n (.l ss)) Γ := fun _ => rfl
        refine ⟨_, p3, ?_, .lst, P3⟩
        unfold _law_bent_3_F _law_bent_3_b
        simp! only [e1, e2, e3, ex, q, q2, q3, hln, OD.d]
def Cut (v : D) (z : Str) : Prop := ∃ w, cutD (some 1) (some 2) v = some w ∧ reprR w = some (.str z)
theorem rep1 {x : D} (h : x = .dk [] [] ∨ Sa x) : reprR (.tup [x]) = some (.str (tupleText [zOf x])) := by
  rcases h with rfl | h
  · exact reprR_g (.cons Sg.dk .nil) rfl (Nat.le_of_ble_eq_true rfl)
  · exact reprR_tup (fun d hd => by rw [List.mem_singleton.mp hd]; exact h) (Nat.le_of_ble_eq_true rfl)
theorem cut_tup {x y : D} {r : List D} (h : y = .dk [] [] ∨ Sa y) : Cut (.tup (x :: y :: r)) (tupleText [zOf y]) := ⟨.tup [y], rfl, rep1 h⟩
theorem cut_lst {x y : D} {r : List D} (h : Sa y) : ∃ z, Cut (.lst (x :: y :: r)) z := by
  have S : Sm (.lst [y]) (5 + 1) (1 * (20000 + 2) + 3) := Sm.lst fun d hd => by rw [List.mem_singleton.mp hd]; exact h
  obtain ⟨z, hz⟩ := S.shows (by decide) (by decide)
  exact ⟨z, .lst [y], rfl, reprR_of hz⟩
def zL : Str := tupleText [zOf (D.str "first lock you")]
def zP (is : List (Fin 8)) (js : List (List (Fin 8))) : Str := tupleText [zOf (D.str (bookT is js))]
theorem got_bent (G : Gd is b js) {v : D} (h : Bt [.str "got", (D.str (bookT is js)), (D.tup (bx b)), .int 0] (thL (bookT is js) b) v) : ∃ z, Cut v z ∧ ((z = zL ∧ ∃ r, _law_got_right_F [(D.str (bookT is js)), (D.tup (bx b)), v] = .ok (.bl r) none) ∨ FtG is b js v) := by
  have sp := G.sa.1
  have sb := G.sa.2
  have s0 : Sa (.int 0) := Sa.of (by decide +kernel)
  cases h with
  | @put a x ha hx =>
    have sx := th_sa G hx
    match a, ha with
    | 0, _ => exact ⟨_, cut_tup (.inr sp), .inr (fg0 G hx)⟩
    | 1, _ =>
      by_cases e : x = (D.str "first lock you")
      · subst e
        refine ⟨_, cut_tup sx, .inl ⟨rfl, ?_⟩⟩
        by_cases hp : bookT is js = "first lock you"
        · refine ⟨true, ?_⟩
          show _law_got_right_F [(D.str (bookT is js)), (D.tup (bx b)), .tup [.str "got", (D.str "first lock you"), (D.tup (bx b)), .int 0]] = _
          rw [show (D.str "first lock you") = (D.str (bookT is js)) from congrArg D.str hp.symm]
          exact gr_eq G (.inr (.inr ⟨rfl, rfl, rfl⟩))
        · refine ⟨false, gr_ne G (rep3 sx Sa_got sb ⟨_, Sg_got⟩ G.sg.2).2.1 fun z => ?_⟩
          exact hp (rt_inj (Pl_book is js) (Pl.of (by decide +kernel)) (show reprText (bookT is js) = reprText "first lock you" from (tt3_2 z).symm))
      · exact ⟨_, cut_tup sx, .inr (fg1 G hx e)⟩
    | 2, _ => exact ⟨_, cut_tup (.inr sp), .inr (fg2 G hx)⟩
    | 3, _ => exact ⟨_, cut_tup (.inr sp), .inr (fg3 G hx)⟩
    | n + 4, ha => exact absurd ha (by simp only [List.length_cons, List.length_nil]; omega)
  | @out a ha =>
    obtain ⟨f0, f1, f2, f3⟩ := fg_out G
    match a, ha with
    | 0, _ => exact ⟨_, cut_tup (.inr sb), .inr f0⟩
    | 1, _ => exact ⟨_, cut_tup (.inr sb), .inr f1⟩
    | 2, _ => exact ⟨_, cut_tup (.inr sp), .inr f2⟩
    | 3, _ => exact ⟨_, cut_tup (.inr sp), .inr f3⟩
    | n + 4, ha => exact absurd ha (by simp only [List.length_cons, List.length_nil]; omega)
  | @ins a x ha hx =>
    have sx := th_sa G hx
    obtain ⟨f0, f1, f2, f3⟩ := fg_in G hx
    match a, ha with
    | 0, _ => exact ⟨_, cut_tup (.inr Sa_got), .inr f0⟩
    | 1, _ => exact ⟨_, cut_tup sx, .inr f1⟩
    | 2, _ => exact ⟨_, cut_tup (.inr sp), .inr f2⟩
    | 3, _ => exact ⟨_, cut_tup (.inr sp), .inr f3⟩
    | n + 4, ha => exact absurd ha (by simp only [List.length_cons, List.length_nil]; omega)
  | lst =>
    obtain ⟨z, hz⟩ := cut_lst (x := .str "got") (r := [(D.tup (bx b)), .int 0]) sp
    exact ⟨z, hz, .inr (fg_no G rfl)⟩
theorem never_bent (G : Gd is b js) {v : D} (h : Bt [.str "never", (D.str "first lock you"), .tup []] (thL (bookT is js) b) v) : ∃ z, Cut v z ∧ ((z = zP is js ∧ ∃ r, _law_never_right_F [(D.str "first lock you"), v] = .ok (.bl r) none) ∨ FtN v) := by
  have s0 : Sa (.tup []) := Sa.of (by decide +kernel)
  cases h with
  | @put a x ha hx =>
    have sx := th_sa G hx
    match a, ha with
    | 0, _ => exact ⟨_, cut_tup (.inr Sa_lk), .inr (fn0 G hx)⟩
    | 1, _ =>
      by_cases e : x = (D.str (bookT is js))
      · subst e
        refine ⟨_, cut_tup sx, ?_⟩
        by_cases hp : bookT is js = "first lock you"
        · right
          show FtN (.tup [.str "never", (D.str (bookT is js)), .tup []])
          rw [hp]
          exact fn_closed (D.str "first lock you") (by simp [thC]) _ (List.mem_cons_of_mem _ List.mem_cons_self)
        · refine .inl ⟨rfl, false, nr_ne (rep2 Sa_never G.sa.1) fun z => ?_⟩
          exact hp (rt_inj (Pl_book is js) (Pl.of (by decide +kernel)) (show reprText (bookT is js) = reprText "first lock you" from tt2_r z))
      · exact ⟨_, cut_tup sx, .inr (fn1 G hx e)⟩
    | 2, _ => exact ⟨_, cut_tup (.inr Sa_lk), .inr (fn2 G hx)⟩
    | n + 3, ha => exact absurd ha (by simp only [List.length_cons, List.length_nil]; omega)
  | @out a ha =>
    match a, ha with
    | 0, _ => exact ⟨_, cut_tup (.inr s0), .inr (fn_out _ (by simp))⟩
    | 1, _ => exact ⟨_, cut_tup (.inr s0), .inr (fn_out _ (by simp))⟩
    | 2, _ => exact ⟨_, cut_tup (.inr Sa_lk), .inr (fn_out _ (by simp))⟩
    | n + 3, ha => exact absurd ha (by simp only [List.length_cons, List.length_nil]; omega)
  | @ins a x ha hx =>
    have sx := th_sa G hx
    obtain ⟨f0, f1, f2, f3⟩ := fn_in G hx
    match a, ha with
    | 0, _ => exact ⟨_, cut_tup (.inr Sa_never), .inr f0⟩
    | 1, _ => exact ⟨_, cut_tup sx, .inr f1⟩
    | 2, _ => exact ⟨_, cut_tup (.inr Sa_lk), .inr f2⟩
    | n + 3, ha => exact absurd ha (by simp only [List.length_cons, List.length_nil]; omega)
  | lst =>
    obtain ⟨z, hz⟩ := cut_lst (x := .str "never") (r := [.tup []]) Sa_lk
    exact ⟨z, hz, .inr (fn_out _ (by simp))⟩
end
section
variable {is : List (Fin 8)} {b : Box} {js : List (List (Fin 8))}
theorem k65_x4 (G : Gd is b js) {p : List D} (P : Cup p) {s1 S8 s9 s10 s11 s12 : Sl} (h8 : S8 = .acc (.l (thL (bookT is js) b)) ∨ S8 = .im (.lst (thL (bookT is js) b))) (h10 : s10.isB = false) (h11 : s11.isB = false) (h12 : s12.isB = false) :
    ∃ (p' : List D) (t10 t11 t12 : Sl), _law_right_29_x4 [.bor (.l p), s1, .im (D.str (bookT is js)), .im (D.tup (bx b)), .im (D.str "first lock you"), .im mvN, .im ppN, .im (D.tup [.str "tag", .str "ann"]), S8, s9, s10, s11, s12, .no, .no, .no] = .ok .nx [.bor (.l p'), s1, .im (D.str (bookT is js)), .im (D.tup (bx b)), .im (D.str "first lock you"), .im mvN, .im ppN, .im (D.tup [.str "tag", .str "ann"]), .im (.lst (thL (bookT is js) b)), s9, t10, t11, t12, .no, .no, .no] ∧ Cup p' ∧ t10.isB = false ∧ t11.isB = false ∧ t12.isB = false := by
  have t0 : thL (bookT is js) b ≠ [] := by unfold thL; simp
  have t4 : (thL (bookT is js) b).length ≤ 100 := by unfold thL; simp
  obtain ⟨v, p1, e1, B1, P1⟩ := bent3_ok P (ss := [.str "got", (D.str (bookT is js)), (D.tup (bx b)), .int 0]) (by simp) (by simp) t0 t4
  obtain ⟨u, p2, e2, B2, P2⟩ := bent3_ok P1 (ss := [.str "never", (D.str "first lock you"), .tup []]) (by simp) (by simp) t0 t4
  generalize hth : thL (bookT is js) b = ths at *
  obtain ⟨z, ⟨w, c1, c2⟩, f1⟩ := got_bent G (by rw [hth]; exact B1)
  obtain ⟨y, ⟨x, d1, d2⟩, f2⟩ := never_bent G (by rw [hth]; exact B2)
  have rL : reprD (.tup [(D.str "first lock you")]) = some (.str zL) := reprD_tup (fun d hd => by rw [List.mem_singleton.mp hd]; exact Sa_lk) (Nat.le_of_ble_eq_true rfl)
  have rP : reprD (.tup [(D.str (bookT is js))]) = some (.str (zP is js)) := reprD_tup (fun d hd => by rw [List.mem_singleton.mp hd]; exact G.sa.1) (Nat.le_of_ble_eq_true rfl)
  have r1 : reprD (.bl true) = some (.str "True") := by kernel_rfl
  have r0 : reprD (.bl false) = some (.str "False") := by kernel_rfl
  have n : ∀ x : Str, neD (.str x) (.str x) = some (.bl false) := fun x => by rw [Ev.neS]; simp
  have rb : ∀ r : Bool, ∃ q : Str, reprD (.bl r) = some (.str q) := fun r => by cases r <;> exact ⟨_, by assumption⟩
  have eL : eqD (.str z) (.str zL) = some (.bl (decide (z = zL))) := Ev.eqS
  have eP : eqD (.str y) (.str (zP is js)) = some (.bl (decide (y = zP is js))) := Ev.eqS
  refine ⟨p2, .im u, ?_⟩
  rcases f1 with ⟨hz, r, g1⟩ | ⟨r, g1, g2⟩
  · rw [decide_eq_true hz] at eL
    rcases f2 with ⟨hy, q, k1⟩ | ⟨q, k1, k2⟩
    · rw [decide_eq_true hy] at eP
      refine ⟨.im (.bl q), .im (.bl true), ?_, P2, rfl, rfl, rfl⟩
      rcases h8 with rfl | rfl <;> simp! only [_law_right_29_x4, h10, h11, h12, e1, e2, ↓c1, ↓d1, c2, d2, rL, rP, eL, eP, g1, k1, OD.d]
    · obtain ⟨qz, hq⟩ := rb q
      by_cases hy : y = zP is js
      · rw [decide_eq_true hy] at eP
        refine ⟨.im (.bl q), .im (.bl true), ?_, P2, rfl, rfl, rfl⟩
        rcases h8 with rfl | rfl <;> simp! only [_law_right_29_x4, h10, h11, h12, e1, e2, ↓c1, ↓d1, c2, d2, rL, rP, eL, eP, g1, k1, k2, hq, n, OD.d]
      · rw [decide_eq_false hy] at eP
        refine ⟨.im (.bl q), .im (.bl false), ?_, P2, rfl, rfl, rfl⟩
        rcases h8 with rfl | rfl <;> simp! only [_law_right_29_x4, h10, h11, h12, e1, e2, ↓c1, ↓d1, c2, d2, rL, rP, eL, eP, g1, k1, k2, hq, n, OD.d]
  · obtain ⟨rz, hr⟩ := rb r
    generalize decide (z = zL) = dz at eL
    rcases f2 with ⟨hy, q, k1⟩ | ⟨q, k1, k2⟩
    · rw [decide_eq_true hy] at eP
      refine ⟨.im (.bl q), .im (.bl true), ?_, P2, rfl, rfl, rfl⟩
      cases dz <;> rcases h8 with rfl | rfl <;> simp! only [_law_right_29_x4, h10, h11, h12, e1, e2, ↓c1, ↓d1, c2, d2, rL, rP, eL, eP, g1, g2, k1, hr, n, OD.d]
    · obtain ⟨qz, hq⟩ := rb q
      generalize decide (y = zP is js) = dy at eP
      refine ⟨.im (.bl q), .im (.bl dy), ?_, P2, rfl, rfl, rfl⟩
      cases dz <;> cases dy <;> rcases h8 with rfl | rfl <;> simp! only [_law_right_29_x4, h10, h11, h12, e1, e2, ↓c1, ↓d1, c2, d2, rL, rP, eL, eP, g1, g2, k1, k2, hr, hq, n, OD.d]
end
section
theorem sketch_ok2 {p : List D} (P : Cup p) {m : Nat} (hm : m ≤ 4) : ∃ (is : List (Fin 8)) (b : Box) (js : List (List (Fin 8))) (p' : List D), _law_sketch_F [.lst p, .int m] = .nw (.l (skD is js)) (some (.l p')) ∧ Sk m is b js ∧ b ≠ [] ∧ Cup p' := by
  obtain ⟨is, p1, e1, n0, n3, hp, P1⟩ := firstC_ok P
  obtain ⟨b, hb, hbl⟩ := put_run (me := "ann") (you := "bob") (b := []) hp
  obtain ⟨n, p2, e2, n1, n2, P2⟩ := sip_ok P1 (n := (m : Int) + 1) (by omega) (by omega)
  obtain ⟨j, rfl⟩ := Int.eq_ofNat_of_zero_le n1
  obtain ⟨xs, Γ', c1, c2, p', P', rfl⟩ := cmp_inv (vs := [2]) (b := bName 2) (tt := trueT) (elt := _law_sketch_x1)
    (I := fun Γ => ∃ p, Cup p ∧ Γ = [.bor (.l p), .im (.int m), .no]) (R := fun _ d => ∃ j : List (Fin 8), (j ≠ [] ∧ j.length ≤ 4) ∧ d = lsD j)
    ((List.range j).map fun i => D.int (0 + (i : Nat))) [] [.bor (.l p2), .im (.int m), .no] ⟨p2, P2, rfl⟩ (by rw [List.length_map, List.length_range, List.length_nil]; omega) fun d hd Γ ⟨p, P, e⟩ => by
      subst e
      obtain ⟨i, p3, e3, h1, h2, P3⟩ := answerC_ok P
      refine ⟨[.bor (.l p), .im (.int m), .im d], _, .d (lsD i), [.bor (.l p3), .im (.int m), .im d], _, _, rfl, rfl, ?_, rfl, ⟨i, ⟨h1, h2⟩, rfl⟩, p3, P3, rfl⟩
      simp! [_law_sketch_x1, e3, lsD, OD.d]
  obtain ⟨js, hjs, hl, rfl⟩ := paired_map c2
  rw [List.length_map, List.length_range] at hl
  rw [List.nil_append] at c1
  have hit := rng_n (j := j) (e := telV (callV (some 0) 2 _law_sip_F [] (aCons (vE 0) (aCons (op2 addD (vE 1) (cE (.int 1))) aNil)))) (Γ := [.bor (.l p1), .im (.int m), .no]) (Γ1 := [.bor (.l p2), .im (.int m), .no]) (by omega) (by simp! [e2])
  have comp := comp_at hit rfl c1
  obtain ⟨h1, h2⟩ := runD_all (P := Three) (.inl rfl) (.inr (.inl rfl)) hb (fun _ h => by cases h)
  refine ⟨is, b, js, p', ?_, ⟨⟨n0, by omega, hb, by omega, fun j hj => ⟨(hjs j hj).1, by have := (hjs j hj).2; omega⟩⟩, n3, by omega, fun j hj => (hjs j hj).2, h1, by rw [hbl]; simp; omega⟩, (fun e => by rw [e] at hbl; have := List.length_pos_iff.mpr n0; simp at hbl; omega), P'⟩
  unfold _law_sketch_F _law_sketch_b
  simp! [e1, comp, skD, lsD, OD.d]
variable {is : List (Fin 8)} {b : Box} {js : List (List (Fin 8))}
theorem no_claim {x : D} (h : x ∈ odL (bookT is js)) (G : Gd is b js) {S0 s1 S8 s9 s10 s11 s12 S13 S14 : Sl} (h10 : s10.isB = false) (h13 : S13 = .acc (.l [(D.tup [.str "got", .str (bookT is js), .tup (bx b), .int 0]), (D.tup [.str "never", .str "first lock you", .tup []])]) ∨ S13 = .im (.lst [(D.tup [.str "got", .str (bookT is js), .tup (bx b), .int 0]), (D.tup [.str "never", .str "first lock you", .tup []])])) :
    _law_right_29_x3 [S0, s1, .im (D.str (bookT is js)), .im (D.tup (bx b)), .im (D.str "first lock you"), .im mvN, .im ppN, .im (D.tup [.str "tag", .str "ann"]), S8, s9, s10, s11, s12, S13, S14, .im x] = .ok .nx [S0, s1, .im (D.str (bookT is js)), .im (D.tup (bx b)), .im (D.str "first lock you"), .im mvN, .im ppN, .im (D.tup [.str "tag", .str "ann"]), S8, s9, .no, s11, s12, .im (.lst [(D.tup [.str "got", .str (bookT is js), .tup (bx b), .int 0]), (D.tup [.str "never", .str "first lock you", .tup []])]), S14, .im x] := by
  have a1 := acc_gotO G (od_odv x h)
  have a2 := acc_neverO (js := js) h
  have a3 := od_none (js := js) h (.tup [])
  have a4 := od_none (js := js) h x
  have a5 := od_none (js := js) h ppN
  have nf : notBD (.bl false) (.bl false) = some (.bl false) := rfl
  have hw : wipeΓ [S0, s1, .im (D.str (bookT is js)), .im (D.tup (bx b)), .im (D.str "first lock you"), .im mvN, .im ppN, .im (D.tup [.str "tag", .str "ann"]), S8, s9, Sl.no, s11, s12, .im (.lst [(D.tup [.str "got", .str (bookT is js), .tup (bx b), .int 0]), (D.tup [.str "never", .str "first lock you", .tup []])]), S14, .im x] [10] = [S0, s1, .im (D.str (bookT is js)), .im (D.tup (bx b)), .im (D.str "first lock you"), .im mvN, .im ppN, .im (D.tup [.str "tag", .str "ann"]), S8, s9, Sl.no, s11, s12, .im (.lst [(D.tup [.str "got", .str (bookT is js), .tup (bx b), .int 0]), (D.tup [.str "never", .str "first lock you", .tup []])]), S14, .im x] := rfl
  have hcp := cmp_if (vs := [10]) (b := bName 10) (tt := _law_right_29_x2) (elt := _law_right_29_x1) (a := id) (c := id) (P := fun _ => false) hw [(D.tup [.str "got", .str (bookT is js), .tup (bx b), .int 0]), (D.tup [.str "never", .str "first lock you", .tup []])] [] (by simp) fun d hd => by
    refine ⟨[S0, s1, .im (D.str (bookT is js)), .im (D.tup (bx b)), .im (D.str "first lock you"), .im mvN, .im ppN, .im (D.tup [.str "tag", .str "ann"]), S8, s9, .im d, s11, s12, .im (.lst [(D.tup [.str "got", .str (bookT is js), .tup (bx b), .int 0]), (D.tup [.str "never", .str "first lock you", .tup []])]), S14, .im x], rfl, ?_, (fun z => by cases z), rfl⟩
    simp only [List.mem_cons, List.not_mem_nil, or_false] at hd
    rcases hd with rfl | rfl
    · simp! only [_law_right_29_x2, id, Ev.all5, a1, nf]
    · simp! only [_law_right_29_x2, id, Ev.all5, a2, nf]
  have hc : compV [10] (anyI (vE 13)) (bName 10) _law_right_29_x2 _law_right_29_x1 [S0, s1, .im (D.str (bookT is js)), .im (D.tup (bx b)), .im (D.str "first lock you"), .im mvN, .im ppN, .im (D.tup [.str "tag", .str "ann"]), S8, s9, s10, s11, s12, S13, S14, .im x] = .ok (.n (.l [])) [S0, s1, .im (D.str (bookT is js)), .im (D.tup (bx b)), .im (D.str "first lock you"), .im mvN, .im ppN, .im (D.tup [.str "tag", .str "ann"]), S8, s9, .no, s11, s12, .im (.lst [(D.tup [.str "got", .str (bookT is js), .tup (bx b), .int 0]), (D.tup [.str "never", .str "first lock you", .tup []])]), S14, .im x] := by
    have hit : anyI (vE 13) [S0, s1, .im (D.str (bookT is js)), .im (D.tup (bx b)), .im (D.str "first lock you"), .im mvN, .im ppN, .im (D.tup [.str "tag", .str "ann"]), S8, s9, s10, s11, s12, S13, S14, .im x] = .ok [(D.tup [.str "got", .str (bookT is js), .tup (bx b), .int 0]), (D.tup [.str "never", .str "first lock you", .tup []])] [S0, s1, .im (D.str (bookT is js)), .im (D.tup (bx b)), .im (D.str "first lock you"), .im mvN, .im ppN, .im (D.tup [.str "tag", .str "ann"]), S8, s9, s10, s11, s12, .im (.lst [(D.tup [.str "got", .str (bookT is js), .tup (bx b), .int 0]), (D.tup [.str "never", .str "first lock you", .tup []])]), S14, .im x] := by
      rcases h13 with rfl | rfl <;> rfl
    have nb : noBor [S0, s1, .im (D.str (bookT is js)), .im (D.tup (bx b)), .im (D.str "first lock you"), .im mvN, .im ppN, .im (D.tup [.str "tag", .str "ann"]), S8, s9, s10, s11, s12, .im (.lst [(D.tup [.str "got", .str (bookT is js), .tup (bx b), .int 0]), (D.tup [.str "never", .str "first lock you", .tup []])]), S14, .im x] [10] = true := by
      cases s10 with
      | bor o => cases h10
      | _ => rfl
    unfold compV
    rw [hit]
    show (if noBor _ _ = true then _ else _) = _
    rw [if_pos nb]
    exact Eq.trans (show cmpL [10] (bName 10) _law_right_29_x2 _law_right_29_x1 [(D.tup [.str "got", .str (bookT is js), .tup (bx b), .int 0]), (D.tup [.str "never", .str "first lock you", .tup []])] [] [S0, s1, .im (D.str (bookT is js)), .im (D.tup (bx b)), .im (D.str "first lock you"), .im mvN, .im ppN, .im (D.tup [.str "tag", .str "ann"]), S8, s9, s10, s11, s12, .im (.lst [(D.tup [.str "got", .str (bookT is js), .tup (bx b), .int 0]), (D.tup [.str "never", .str "first lock you", .tup []])]), S14, .im x] = cmpL [10] (bName 10) _law_right_29_x2 _law_right_29_x1 [(D.tup [.str "got", .str (bookT is js), .tup (bx b), .int 0]), (D.tup [.str "never", .str "first lock you", .tup []])] [] [S0, s1, .im (D.str (bookT is js)), .im (D.tup (bx b)), .im (D.str "first lock you"), .im mvN, .im ppN, .im (D.tup [.str "tag", .str "ann"]), S8, s9, Sl.no, s11, s12, .im (.lst [(D.tup [.str "got", .str (bookT is js), .tup (bx b), .int 0]), (D.tup [.str "never", .str "first lock you", .tup []])]), S14, .im x] from rfl) hcp
  have ne : neD (.lst []) (.lst []) = some (.bl false) := rfl
  unfold _law_right_29_x3
  simp! only [Ev.all5, ↓hc, OD.d, ne, a3, a4, a5, nf]
theorem right_k65 {p : List D} (P : Cup p) : ∃ o, _law_right_29_F [.lst p] = .ok (.bl true) (some (.l o)) := by
  obtain ⟨is, b, js, p1, e1, S, ne, P1⟩ := sketch_ok2 P (m := 3) (by decide)
  have G : Gd is b js := ⟨S, ne⟩
  have e2 := volC_ev S
  have e3 : Book___str___F [.ins "Book" bookN (bookV is b js)] = .ok (.str (bookT is js)) none := book_str_ev S.bk
  have e4 := begunC_ev S
  have e5 : Book___init___2_F [.ins "Book" [] [], .str "lock you", .tup []] = .ok .non (some (.i "Book" bookN (bookV [1] [(true, ("bob" : Str))] []))) := by kernel_rfl
  have e6 : Book___str___F [.ins "Book" bookN (bookV [1] [(true, ("bob" : Str))] [])] = .ok (.str "first lock you") none := by kernel_rfl
  have a1 := acc_got G S.three (by have := S.box; omega) (n := 0) (by decide)
  rw [decide_eq_true rfl] at a1
  have a2 : accepts_2_F [(D.tup [.str "never", .str "first lock you", .tup []]), (D.tup [D.tup [D.tup [.int 1, .int 2, .int 1, .int 1, .int 1, .int 1], D.tup [.int 1, .int 1, .int 1, .int 1, .int 1, .int 1], D.tup [.int 2, .int 2, .int 2, .int 2, .int 2, .int 2]], .tup [.int 2]])] = .ok (.bl true) none := by kernel_rfl
  have m1 : mulD (.tup [.int 1]) (.int 6) = some (.tup [.int 1, .int 1, .int 1, .int 1, .int 1, .int 1]) := by kernel_rfl
  have m2 : mulD (.tup [.int 2]) (.int 6) = some (.tup [.int 2, .int 2, .int 2, .int 2, .int 2, .int 2]) := by kernel_rfl
  have m3 : mulD (.tup [(D.tup [.str "tag", .str "ann"])]) (.int 13) = some (D.tup [(D.tup [.str "tag", .str "ann"]), (D.tup [.str "tag", .str "ann"]), (D.tup [.str "tag", .str "ann"]), (D.tup [.str "tag", .str "ann"]), (D.tup [.str "tag", .str "ann"]), (D.tup [.str "tag", .str "ann"]), (D.tup [.str "tag", .str "ann"]), (D.tup [.str "tag", .str "ann"]), (D.tup [.str "tag", .str "ann"]), (D.tup [.str "tag", .str "ann"]), (D.tup [.str "tag", .str "ann"]), (D.tup [.str "tag", .str "ann"]), (D.tup [.str "tag", .str "ann"])]) := by kernel_rfl
  have m4 : powD (.int 10) (.int 30) = some (.int 1000000000000000000000000000000) := by kernel_rfl
  have ng : ∀ Γ : En, negE (cE (.int 1)) Γ = .ok (.d (.int (-1))) Γ := fun _ => rfl
  have nt : notBD (.bl true) (.bl true) = some (.bl false) := rfl
  have tl := (text_ok S.bk).2
  have d1 : addD (.str (bookT is js)) (.str "\n") = some (.str (bookT is js ++ "\n")) := by
    show (if _ then _ else _) = _
    rw [if_pos (by show _ + 1 ≤ 2 ^ 24; omega)]
  have d2 : addD (.str " ") (.str (bookT is js)) = some (.str (" " ++ bookT is js)) := by
    show (if _ then _ else _) = _
    rw [if_pos (by show 1 + _ ≤ 2 ^ 24; omega)]
  have hu : (bookT is js).length ≤ 5592405 := by omega
  -- the twelve
  obtain ⟨Γ', l, p2, S8, s9, s10, s11, s12, P2, h8, h9, h10, h11, h12, rfl⟩ := for_inv (b := bName 9) (body := _law_right_29_x4)
    (I := fun ds Γ => ∃ (p : List D) (S8 s9 s10 s11 s12 : Sl), Cup p ∧ (S8 = .acc (.l (thL (bookT is js) b)) ∨ S8 = .im (.lst (thL (bookT is js) b))) ∧ s9.isB = false ∧ s10.isB = false ∧ s11.isB = false ∧ s12.isB = false ∧ Γ = [.bor (.l p), .im (.lst (skD is js)), .im (D.str (bookT is js)), .im (D.tup (bx b)), .im (D.str "first lock you"), .im mvN, .im ppN, .im (D.tup [.str "tag", .str "ann"]), S8, s9, s10, s11, s12, .no, .no, .no])
    ((List.range 12).map fun i => D.int (0 + (i : Nat))) [.bor (.l p1), .im (.lst (skD is js)), .im (D.str (bookT is js)), .im (D.tup (bx b)), .im (D.str "first lock you"), .im mvN, .im ppN, .im (D.tup [.str "tag", .str "ann"]), .acc (.l (thL (bookT is js) b)), .no, .no, .no, .no, .no, .no, .no] ⟨p1, _, .no, .no, .no, .no, P1, .inl rfl, rfl, rfl, rfl, rfl, rfl⟩
    fun d ds Γ ⟨p, S8, s9, s10, s11, s12, P, h8, h9, h10, h11, h12, e⟩ => by
      subst e
      obtain ⟨p', t10, t11, t12, e, P', g10, g11, g12⟩ := k65_x4 G P (s1 := .im (.lst (skD is js))) (s9 := .im d) h8 h10 h11 h12
      refine ⟨[.bor (.l p), .im (.lst (skD is js)), .im (D.str (bookT is js)), .im (D.tup (bx b)), .im (D.str "first lock you"), .im mvN, .im ppN, .im (D.tup [.str "tag", .str "ann"]), S8, .im d, s10, s11, s12, .no, .no, .no], ?_, _, .inl e, p', _, .im d, t10, t11, t12, P', .inr rfl, rfl, g10, g11, g12, rfl⟩
      simp! only [h9]
  have hf0 := for_at (it := rng1 (aCons (cE (.int 12)) aNil)) (rng_n (j := 12) (by decide) rfl) l
  have hf : forS (rng1 (aCons (cE (.int 12)) aNil)) (bName 9) _law_right_29_x4 [.bor (.l p1), .im (.lst (skD is js)), .im (D.str (bookT is js)), .im (D.tup (bx b)), .im (D.str "first lock you"), .im (D.tup [D.tup [.int 1, .int 2, .int 1, .int 1, .int 1, .int 1], D.tup [.int 1, .int 1, .int 1, .int 1, .int 1, .int 1], D.tup [.int 2, .int 2, .int 2, .int 2, .int 2, .int 2]]), .im (D.tup [D.tup [D.tup [.int 1, .int 2, .int 1, .int 1, .int 1, .int 1], D.tup [.int 1, .int 1, .int 1, .int 1, .int 1, .int 1], D.tup [.int 2, .int 2, .int 2, .int 2, .int 2, .int 2]], .tup [.int 2]]), .im (D.tup [.str "tag", .str "ann"]), .acc (.l [.non, .bl true, .bl false, .int 0, .int (-1), .int 3, .int 1000000000000000000000000000000, .str "", .str "got", .str "never", .str "Got", .tup [.tup [.str "lock", .str "eve"]], .lst [(D.tup [.str "tag", .str "ann"])], (D.tup [(D.tup [.str "tag", .str "ann"]), (D.tup [.str "tag", .str "ann"]), (D.tup [.str "tag", .str "ann"]), (D.tup [.str "tag", .str "ann"]), (D.tup [.str "tag", .str "ann"]), (D.tup [.str "tag", .str "ann"]), (D.tup [.str "tag", .str "ann"]), (D.tup [.str "tag", .str "ann"]), (D.tup [.str "tag", .str "ann"]), (D.tup [.str "tag", .str "ann"]), (D.tup [.str "tag", .str "ann"]), (D.tup [.str "tag", .str "ann"]), (D.tup [.str "tag", .str "ann"])]), .dk [] [], (D.str (bookT is js)), (D.str "first lock you"), .str (bookT is js ++ "\n"), .str (" " ++ bookT is js), .str (Txt.upper (bookT is js)), .tup [], (D.tup (bx b)), .tup [(D.tup [.str "tag", .str "ann"]), .non], (D.tup [.str "tag", .str "ann"])]), .no, .no, .no, .no, .no, .no, .no] = .ok .nx [.bor (.l p2), .im (.lst (skD is js)), .im (D.str (bookT is js)), .im (D.tup (bx b)), .im (D.str "first lock you"), .im (D.tup [D.tup [.int 1, .int 2, .int 1, .int 1, .int 1, .int 1], D.tup [.int 1, .int 1, .int 1, .int 1, .int 1, .int 1], D.tup [.int 2, .int 2, .int 2, .int 2, .int 2, .int 2]]), .im (D.tup [D.tup [D.tup [.int 1, .int 2, .int 1, .int 1, .int 1, .int 1], D.tup [.int 1, .int 1, .int 1, .int 1, .int 1, .int 1], D.tup [.int 2, .int 2, .int 2, .int 2, .int 2, .int 2]], .tup [.int 2]]), .im (D.tup [.str "tag", .str "ann"]), S8, s9, s10, s11, s12, .no, .no, .no] := hf0
  clear hf0 l
  -- the odd ones
  have S14 : Sl := .no
  have odd : ∀ (ds : List D), (∀ d ∈ ds, d ∈ odL (bookT is js)) → ∀ (t10 S13 t15 S14 : Sl), t10.isB = false → t15.isB = false → (S13 = .acc (.l [(D.tup [.str "got", .str (bookT is js), .tup (bx b), .int 0]), (D.tup [.str "never", .str "first lock you", .tup []])]) ∨ S13 = .im (.lst [(D.tup [.str "got", .str (bookT is js), .tup (bx b), .int 0]), (D.tup [.str "never", .str "first lock you", .tup []])])) →
      ∃ u10 u13 u15 : Sl, loopS (bName 15) _law_right_29_x3 ds [.bor (.l p2), .im (.lst (skD is js)), .im (D.str (bookT is js)), .im (D.tup (bx b)), .im (D.str "first lock you"), .im mvN, .im ppN, .im (D.tup [.str "tag", .str "ann"]), S8, s9, t10, s11, s12, S13, S14, t15] = .ok .nx [.bor (.l p2), .im (.lst (skD is js)), .im (D.str (bookT is js)), .im (D.tup (bx b)), .im (D.str "first lock you"), .im mvN, .im ppN, .im (D.tup [.str "tag", .str "ann"]), S8, s9, u10, s11, s12, u13, S14, u15] ∧ (u13 = .acc (.l [(D.tup [.str "got", .str (bookT is js), .tup (bx b), .int 0]), (D.tup [.str "never", .str "first lock you", .tup []])]) ∨ u13 = .im (.lst [(D.tup [.str "got", .str (bookT is js), .tup (bx b), .int 0]), (D.tup [.str "never", .str "first lock you", .tup []])])) := by
    intro ds
    induction ds with
    | nil => exact fun _ t10 S13 t15 S14 _ _ h => ⟨t10, S13, t15, rfl, h⟩
    | cons d ds ih =>
      intro hd t10 S13 t15 S14 h10 h15 h13
      obtain ⟨u10, u13, u15, e, hu⟩ := ih (fun x hx => hd x (List.mem_cons_of_mem _ hx)) .no (.im (.lst [(D.tup [.str "got", .str (bookT is js), .tup (bx b), .int 0]), (D.tup [.str "never", .str "first lock you", .tup []])])) (.im d) S14 rfl rfl (.inr rfl)
      refine ⟨u10, u13, u15, ?_, hu⟩
      exact Eq.trans (loop_cons (Γ1 := [.bor (.l p2), .im (.lst (skD is js)), .im (D.str (bookT is js)), .im (D.tup (bx b)), .im (D.str "first lock you"), .im mvN, .im ppN, .im (D.tup [.str "tag", .str "ann"]), S8, s9, t10, s11, s12, S13, S14, .im d]) (by simp! only [h15]) (no_claim (hd d List.mem_cons_self) G h10 h13)) e
  have oh : ∀ d ∈ ([.non, .bl true, .str "", .str "0", .dk [] [], .tup [.tup []], .tup [.non], .tup [.str "a", .str "b"], .int (-1), .int 1000000000000000000000000000000, (D.str (bookT is js)), .lst [.tup []], .int 0, .lst [(D.tup [D.tup [D.tup [.int 1, .int 2, .int 1, .int 1, .int 1, .int 1], D.tup [.int 1, .int 1, .int 1, .int 1, .int 1, .int 1], D.tup [.int 2, .int 2, .int 2, .int 2, .int 2, .int 2]], .tup [.int 2]])], .tup [(D.tup [D.tup [D.tup [.int 1, .int 2, .int 1, .int 1, .int 1, .int 1], D.tup [.int 1, .int 1, .int 1, .int 1, .int 1, .int 1], D.tup [.int 2, .int 2, .int 2, .int 2, .int 2, .int 2]], .tup [.int 2]])]] : List D), d ∈ odL (bookT is js) := fun d hd => hd
  obtain ⟨u10, u13, u15, l2, hu13⟩ := odd [.non, .bl true, .str "", .str "0", .dk [] [], .tup [.tup []], .tup [.non], .tup [.str "a", .str "b"], .int (-1), .int 1000000000000000000000000000000, (D.str (bookT is js)), .lst [.tup []], .int 0, .lst [(D.tup [D.tup [D.tup [.int 1, .int 2, .int 1, .int 1, .int 1, .int 1], D.tup [.int 1, .int 1, .int 1, .int 1, .int 1, .int 1], D.tup [.int 2, .int 2, .int 2, .int 2, .int 2, .int 2]], .tup [.int 2]])], .tup [(D.tup [D.tup [D.tup [.int 1, .int 2, .int 1, .int 1, .int 1, .int 1], D.tup [.int 1, .int 1, .int 1, .int 1, .int 1, .int 1], D.tup [.int 2, .int 2, .int 2, .int 2, .int 2, .int 2]], .tup [.int 2]])]] oh s10 (.acc (.l [(D.tup [.str "got", .str (bookT is js), .tup (bx b), .int 0]), (D.tup [.str "never", .str "first lock you", .tup []])])) .no (.acc (.l [.non, .bl true, .str "", .str "0", .dk [] [], .tup [.tup []], .tup [.non], .tup [.str "a", .str "b"], .int (-1), .int 1000000000000000000000000000000, (D.str (bookT is js)), .lst [.tup []], .int 0])) h10 rfl (.inl rfl)
  have ho : loopS (bName 15) _law_right_29_x3 [.non, .bl true, .str "", .str "0", .dk [] [], .tup [.tup []], .tup [.non], .tup [.str "a", .str "b"], .int (-1), .int 1000000000000000000000000000000, (D.str (bookT is js)), .lst [.tup []], .int 0, .lst [(D.tup [D.tup [D.tup [.int 1, .int 2, .int 1, .int 1, .int 1, .int 1], D.tup [.int 1, .int 1, .int 1, .int 1, .int 1, .int 1], D.tup [.int 2, .int 2, .int 2, .int 2, .int 2, .int 2]], .tup [.int 2]])], .tup [(D.tup [D.tup [D.tup [.int 1, .int 2, .int 1, .int 1, .int 1, .int 1], D.tup [.int 1, .int 1, .int 1, .int 1, .int 1, .int 1], D.tup [.int 2, .int 2, .int 2, .int 2, .int 2, .int 2]], .tup [.int 2]])]] [.bor (.l p2), .im (.lst (skD is js)), .im (D.str (bookT is js)), .im (D.tup (bx b)), .im (D.str "first lock you"), .im (D.tup [D.tup [.int 1, .int 2, .int 1, .int 1, .int 1, .int 1], D.tup [.int 1, .int 1, .int 1, .int 1, .int 1, .int 1], D.tup [.int 2, .int 2, .int 2, .int 2, .int 2, .int 2]]), .im (D.tup [D.tup [D.tup [.int 1, .int 2, .int 1, .int 1, .int 1, .int 1], D.tup [.int 1, .int 1, .int 1, .int 1, .int 1, .int 1], D.tup [.int 2, .int 2, .int 2, .int 2, .int 2, .int 2]], .tup [.int 2]]), .im (D.tup [.str "tag", .str "ann"]), S8, s9, s10, s11, s12, .acc (.l [(D.tup [.str "got", .str (bookT is js), .tup (bx b), .int 0]), (D.tup [.str "never", .str "first lock you", .tup []])]), .acc (.l [.non, .bl true, .str "", .str "0", .dk [] [], .tup [.tup []], .tup [.non], .tup [.str "a", .str "b"], .int (-1), .int 1000000000000000000000000000000, (D.str (bookT is js)), .lst [.tup []], .int 0]), .no] = .ok .nx [.bor (.l p2), .im (.lst (skD is js)), .im (D.str (bookT is js)), .im (D.tup (bx b)), .im (D.str "first lock you"), .im (D.tup [D.tup [.int 1, .int 2, .int 1, .int 1, .int 1, .int 1], D.tup [.int 1, .int 1, .int 1, .int 1, .int 1, .int 1], D.tup [.int 2, .int 2, .int 2, .int 2, .int 2, .int 2]]), .im (D.tup [D.tup [D.tup [.int 1, .int 2, .int 1, .int 1, .int 1, .int 1], D.tup [.int 1, .int 1, .int 1, .int 1, .int 1, .int 1], D.tup [.int 2, .int 2, .int 2, .int 2, .int 2, .int 2]], .tup [.int 2]]), .im (D.tup [.str "tag", .str "ann"]), S8, s9, u10, s11, s12, u13, .acc (.l [.non, .bl true, .str "", .str "0", .dk [] [], .tup [.tup []], .tup [.non], .tup [.str "a", .str "b"], .int (-1), .int 1000000000000000000000000000000, (D.str (bookT is js)), .lst [.tup []], .int 0]), u15] := l2
  clear l2 odd
  have hfo := for_at (it := anyI (op2 addD (vE 14) (lstE (aCons (lstE (aCons (vE 6) aNil)) (aCons (tupE (aCons (vE 6) aNil)) aNil))))) (Γ := [.bor (.l p2), .im (.lst (skD is js)), .im (D.str (bookT is js)), .im (D.tup (bx b)), .im (D.str "first lock you"), .im (D.tup [D.tup [.int 1, .int 2, .int 1, .int 1, .int 1, .int 1], D.tup [.int 1, .int 1, .int 1, .int 1, .int 1, .int 1], D.tup [.int 2, .int 2, .int 2, .int 2, .int 2, .int 2]]), .im (D.tup [D.tup [D.tup [.int 1, .int 2, .int 1, .int 1, .int 1, .int 1], D.tup [.int 1, .int 1, .int 1, .int 1, .int 1, .int 1], D.tup [.int 2, .int 2, .int 2, .int 2, .int 2, .int 2]], .tup [.int 2]]), .im (D.tup [.str "tag", .str "ann"]), S8, s9, s10, s11, s12, .acc (.l [(D.tup [.str "got", .str (bookT is js), .tup (bx b), .int 0]), (D.tup [.str "never", .str "first lock you", .tup []])]), .acc (.l [.non, .bl true, .str "", .str "0", .dk [] [], .tup [.tup []], .tup [.non], .tup [.str "a", .str "b"], .int (-1), .int 1000000000000000000000000000000, (D.str (bookT is js)), .lst [.tup []], .int 0]), .no]) (by rfl) ho
  have z1 : accepts_2_F [(D.tup [.str "got", .str (bookT is js), .tup (bx b), .int 0]), .lst []] = .ok (.bl false) none := acc_gotO G (.inr rfl)
  have z2 : accepts_2_F [(D.tup [.str "never", .str "first lock you", .tup []]), .lst [(D.tup [D.tup [.int 1, .int 2, .int 1, .int 1, .int 1, .int 1], D.tup [.int 1, .int 1, .int 1, .int 1, .int 1, .int 1], D.tup [.int 2, .int 2, .int 2, .int 2, .int 2, .int 2]]), .tup [.int 2]]] = .ok (.bl false) none := by kernel_rfl
  have ib : isBD (.bl false) (.bl false) = some (.bl true) := rfl
  have e1 : _law_sketch_F [.lst p, .int 3] = _ := e1
  have hln : ∀ (xs : List D) (Γ : En), listN [.d (.tup xs)] Γ = .ok (.n (.l xs)) Γ := fun _ _ => rfl
  unfold _law_right_29_F _law_right_29_b
  refine ⟨p2, ?_⟩
  rcases hu13 with rfl | rfl <;> simp! only [e1, e2, e3, e4, e5, e6, a1, a2, m1, m2, m3, m4, ng, nt, d1, d2, Ev.upE, Ev.upK, Ev.upO hu, ↓hf, ↓hfo, h9, h10, z1, z2, ib, hln, OD.d]
theorem K65_law (ns : List Int) : law_29_F [.scr ns] = .ok (.bl true) none := by
  obtain ⟨xs, h1, h2⟩ := tail_ok (ns := ns) (vi := 1) (cap := 4) (f := law_29_x1) (Γ := [.im (.scr ns), .no]) rfl rfl (by decide) (by decide) fun k hk => by
    obtain ⟨p, e1, P⟩ := cup_ok ns k hk
    obtain ⟨o, e2⟩ := right_k65 P
    simp! [law_29_x1, e1, e2]
  unfold law_29_F law_29_b
  simp! [h1, h2]
end
set_option maxHeartbeats 0
end PL
open PySem PySem.W PySem.Calls PyProof.Rows
theorem PySem.Challenge.cw_boxthieves_k65_values_that_are_none_holds : PySem.Challenge.rw_boxthieves_k65_values_that_are_none.Holds := by
  w_on; o_law
  refine HandSHeadRun.head_any (r := OpenLaw.row PySem.Challenge.rw_boxthieves_k65_values_that_are_none) (q := view (OpenLaw.row PySem.Challenge.rw_boxthieves_k65_values_that_are_none).prog [79]) (H := K65.hk) (ob := K65.ob) (M := 12000) (loose := K65.loose) (d := HandSHeadRun.topDef (OpenLaw.row PySem.Challenge.rw_boxthieves_k65_values_that_are_none).prog 79) (kwd := []) K65.ob_eq
    (by kernel_rfl) (fun s => by kernel_rfl) K65.run (by kernel_rfl) (by kernel_rfl) (by kernel_rfl) (by rfl) (by first | assumption | decide +kernel) (by decide +kernel) ⟨rfl, rfl, rfl, rfl, rfl, by decide +kernel⟩ ?hw ?hc
  case hw => w_witness2
  case hc =>
    refine FL.end_law (l := PySem.Challenge.rw_boxthieves_k65_values_that_are_none) (n := 63) (k := 11) (x := "_law_cells") rfl (by decide) (by kernel_rfl) ⟨rfl, by decide, by decide⟩ ?F
    intro w mg fa h Y G hmg0
    letI : FL.Wrl := ⟨(PySem.Challenge.rw_boxthieves_k65_values_that_are_none).prog, w⟩
    obtain ⟨K, KX, uu, c, e, sx, rr, bb, tt⟩ := Y
    have hmg : mg ("law" : PySem.Str) = some (.ref fa) := by
      have e : (HandSHeadRun.topDef (OpenLaw.row PySem.Challenge.rw_boxthieves_k65_values_that_are_none).prog 79).name = ("law" : PySem.Str) := by kernel_rfl
      rw [← e]
      exact hmg0
    have ty := FL.Ty.mk' ⟨h, KX, G⟩ c e sx
    have T : K65.TX w K mg := ⟨ty, ⟨ty, rr, bb⟩, uu⟩
    have ea := hmg.symm.trans T.g_law
    cases ea
    refine ⟨K, FL.fdOf K (He.ga K "law"), FL.spL K ["_law_cells"] none PF.law_29_F, KX, FL.tabsOk_of KX bb tt, fun s v => ?_, fun H a ns hl hO hS => FL.law_sp (fun ns => PL.K65_law ns) H a ns hO hS, fun base _ _ hB => T.w_law ⟨⟨hB, by first | rfl | decide +kernel | kernel_rfl, by first | rfl | decide +kernel | kernel_rfl⟩, rfl, rfl⟩⟩
    exact L2.FunD.bindsA (ps := ["_law_cells"]) T.f_law (fun _ _ _ _ _ _ us hl => match us, hl with | [_], _ => rfl) s [v] rfl
